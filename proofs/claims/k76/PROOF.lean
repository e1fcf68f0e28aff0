import PyProof.Rows.All
import Wide.All
import OpenK.AllK
import Wide.FinOn
import KE.KSuper
import HandS.ForExc
import HandS.ExcSuper
import HandS.ExcInit
import HandS.ExcField
import HandS.TryMany
import KE.GoesEnum
import HandS.ForMost
import HandS.Zip
import HandS.Conv
import KE.KDictKeyed
import KE.KItemsList
import HandS.DictComp
import KE.KDictCopyH
import HandS.SortInts
import HandS.SortRule
import PyProof.InstEq
import HandS.OwnEq
import HandS.Sort
import HandS.IsInst
import HandS.Defaults
import HandS.HeadHook2
import HandS.Codes
import HandS.TupAny
import HandS.TupSets
import HandS.TupLen
import HandS.HotCalls
import KE.KStateDown
import Lean
import HandS.Base
import HandS.Call
import HandS.Ends
import HandS.More
import HandS.Words
import HandS.WordsExc
import HandS.Head0
import HandS.Head1
import HandS.Head2
import HandS.HeadEnd
import HandS.HeadHook1
import PySem.Challenge.RW_heldoroff_k76_whole_bodies_made_from_way
set_option Elab.async false
set_option linter.all false
set_option maxRecDepth 100000
set_option maxHeartbeats 4000000
/-! HKErr: errors of the shape  class X(B): def __init__(self, f): super().__init__(e); self.f = f  with class B(Exception): pass. -/
namespace PySem
namespace HKErr
open PySem.W PySem.Calls PyProof.Rows
/-- the mro of such a class behind the class itself -/
abbrev tl (B : Addr) : List Value := .ref B :: ESX.exTail
/-- the texts -/
abbrev iB (f : Str) (e : Expr) (q1 q2 q3 q4 q5 q6 q7 q8 q9 : Pos) : List Stmt :=
  [.Expr (.Call (.Attribute (.Call (.Name "super" q1) [] [] q2) "__init__" q3) [e] [] q4) q5, .Assign [.Attribute (.Name "self" q6) f q7] (.Name f q8) q9]
abbrev iA (f : Str) (p1 p2 : Pos) : Arguments := { posonlyargs := [], args := [{ arg := "self", annotation := none, pos := p1 }, { arg := f, annotation := none, pos := p2 }], vararg := none, kwonlyargs := [], kw_defaults := [], kwarg := none, defaults := [] }
/-- what the written part says of the class at C (its base at B), its __init__ at fI -/
structure Txt (P : Program) (K : Frag) (mg : Str → Option Value) (C B fI : Addr) (f : Str) : Prop where
  cls : ∃ nm q N bs sn sub ab col dd k0 k1 k2 k3 k5, K.lookup C = some (excClassObj nm q C N bs (tl B) true sn sub ab col dd k0 k1 k2 k3 k5 "Exception.__new__")
  sa : findIn K (.ref C) "__setattr__" = some (some (.builtin "object.__setattr__"))
  noF : findIn K (.ref C) f = some none
  iC : findIn K (.ref C) "__init__" = some (some (.ref fI))
  tC : typeIn K (.ref fI) = some (.type "function")
  al : alongIn K "__init__" (tl B) = some (some (.builtin "Exception.__init__"))
  op : nsIn K cStatics "thirdparty.any" = some none
  su : nsIn K mainGlobals "super" = some none
  kC : keepIn K (.ref C) = true
  exC : subIn K (.ref C) (.type "BaseException") = some true
  tyC : typeIn K (.ref C) = some (.type "type")
  top : (P.main.scope.names.lookup ("super" : Str)).isSome = false

theorem hasB {B : Addr} {C : Addr} (X : String) : (Value.ref C :: tl B).contains (.type X) = ESX.exTail.contains (.type X) := by
  simp [List.contains_cons]
theorem tlB {B : Addr} (X : String) : (tl B).contains (.type X) = ESX.exTail.contains (.type X) := by
  simp [List.contains_cons]

theorem pass {B C : Addr} (self : Value) : refuseLoop self "__setattr__" (.ref C :: tl B) = pure () := by
  rw [refuseLoop_ref, refuseLoop_ref]
  exact F.store_Exception.passes _
section
open Builtin Builtin.ObjectAttr
variable {prog : Program} {w : World} {A : Around} {E : Value → Shared → Prop} {R : Result → Shared → Prop} {hp : Heap} {g : Array GenState} {d : Drawn} {t : Nat} {os : OsState}
theorem mro_has {K : W.Frag} {C B : Addr} {cd : ClassData} (hcd : W.clsIn K C = some cd) (hm : cd.mro = .ref C :: tl B) {b : Value} (hb : (Value.ref C :: tl B).contains b = true) : W.mroIn K C b = some true := by
  unfold W.mroIn
  rw [hcd, Option.bind_some, hm, if_neg (show ¬ (List.isEmpty (Value.ref C :: tl B) = true) from Bool.false_ne_true), hb]
theorem osa_exc {K : W.Frag} {name : Str} {tk : Tok} {v : Value} {x C B : Addr} {ox : Obj} {od : Option Obj} {cd : ClassData}
    (X : K.In hp) (I : W.InstAt hp x ox C od) (hcd : W.clsIn K C = some cd) (hm : cd.mro = .ref C :: tl B) (ha : W.findIn K (.ref C) name = some none)
    (hq : wpAny (model prog w) A.in1 (storeInOwnDict (.ref x) (.ref C) (.str name tk) name v false)
      (fun fin s' => match fin with | .done f => R (.ok f) s' | .again c' => c'.quiet = true ∧ codeAny (model prog w) A c' R s') (fun e s' => R (.error e) s') ⟨hp, g, d, t, os⟩) :
    codeAny (model prog w) A (.call (.builtin "object.__setattr__") ⟨[.ref x, .str name tk, v], []⟩) R ⟨hp, g, d, t, os⟩ := by
  have SF := F.store_object
  have sub : W.Looks (model prog w) hp (isInstance (.ref x) (.type "object")) true := I.type.andThen (W.looks_mroIn X (mro_has hcd hm ((hasB "object").trans (by decide +kernel))))
  refine codeAny_call_builtin SF.slot.plain SF.entry (@W.check_slot (model prog w) _ _ ⟨hp, g, d, t, os⟩ "object.__setattr__" "object" "__setattr__" (.ref x) [.str name tk, v] [] _ SF.kind SF.split sub (SF.args (.ref x) (.str name tk) v) ?_)
  have hmr : W.Looks (model prog w) hp (mroOf (.ref C)) cd.mro := (W.looks_clsIn X hcd).andThen .now
  have L3 : W.Looks (model prog w) hp (storeTaker? none) none := .now
  have hpass : refuseLoop (.ref x) "__setattr__" cd.mro = pure () := by
    rw [hm]
    exact pass _
  rw [W.osa_eq, refuse_eq]
  refine wpAny_bind (wpAny_bind (I.type.at (wpAny_bind (hmr.at ?_))))
  rw [hpass]
  refine wpAny_pure (wpAny_bind (I.type.at (wpAny_bind ((W.looks_findIn X ha).at (wpAny_bind (L3.at ?_))))))
  exact hq
theorem osa_new {K : W.Frag} {name : Str} {tk : Tok} {v : Value} {x C B : Addr} {fv : Array Value} {cd : ClassData}
    (X : K.In hp) (hx : hp.get? x = some { cls := .ref C, data := .fields fv }) (hcd : W.clsIn K C = some cd) (hm : cd.mro = .ref C :: tl B) (hh : cd.hasDict = true) (ha : W.findIn K (.ref C) name = some none)
    (hq : ∀ h' tk' dx, (∀ b o, b ≠ x → hp.get? b = some o → h'.get? b = some o) → hp.objs.size ≤ dx → dx ≠ x → h'.get? x = some { cls := .ref C, dict := some dx, data := .fields fv } →
      h'.Ns1 dx (fun y => if y = name then some v else none) → R (.ok (.ret .none)) ⟨h', g, d, tk', os⟩) :
    codeAny (model prog w) A (.call (.builtin "object.__setattr__") ⟨[.ref x, .str name tk, v], []⟩) R ⟨hp, g, d, t, os⟩ := by
  have I : W.InstAt hp x { cls := .ref C, data := .fields fv } C none := ⟨hx, rfl, rfl, trivial⟩
  have hxs : x ≠ hp.objs.size := Nat.ne_of_lt (Heap.lt_size hx)
  refine osa_exc X I hcd hm ha ?_
  have hcls : W.Looks (model prog w) hp (classData C) cd := W.looks_clsIn X hcd
  obtain ⟨nm, bs, mro, ns, qn, hd, sn, sb, ab, col, del⟩ := cd
  dsimp only at hh
  subst hh
  unfold storeInOwnDict ownDictForStores
  repeat (first | with_reducible refine HandSPX.store_in_new ?_ ?_ | with_reducible refine wpAny_loadPart_at hx ?_ | with_reducible refine hcls.at ?_ | wp_step)
  · exact ⟨_, #[], _, (Heap.get?_update_ne _ _ _ _ hxs.symm).trans (Heap.get?_push_at rfl rfl), rfl, fun e he => absurd he (by simp), fun _ => rfl⟩
  · intro h' tk' hn' hs
    have hx₁ : (hp.push { cls := .type "dict", data := .dict #[] }).get? x = some { cls := .ref C, data := .fields fv } := Heap.get?_push_of_some _ hx
    refine hq h' tk' hp.objs.size (fun b o hb ho => ?_) (Nat.le_refl _) hxs.symm ?_ hn'
    · exact (hs.2 b (Nat.ne_of_lt (Heap.lt_size ho))).trans ((Heap.get?_update_ne _ _ _ _ hb).trans (Heap.get?_push_of_some _ ho))
    · exact (hs.2 x hxs).trans (Heap.get?_update_self _ hx₁ rfl)
end
/-- what the text of __init__ must be (all by rfl, decide) -/
structure Side (f : Str) (e : Expr) (q1 q2 q3 q4 q5 q6 q7 q8 q9 p1 p2 : Pos) (scope : Scope) (qual : Str) : Prop where
  hcell : ∀ x ∈ scope.names, x.2 ≠ .cell
  hks : scope.names.lookup ("super" : Str) = some .globalImplicit
  hkc : scope.names.lookup ("__class__" : Str) = some .free
  hka : scope.names.lookup ("self" : Str) = some .local
  hkf : scope.names.lookup f = some .local
  hk : scope.kind = .function
  hco : scope.isCoroutine = false
  hgen : scope.isGenerator = false
  hfs : f ≠ "self"
  hfd : (f == ("__debug__" : Str)) = false
  hw : ∀ (L a cc : Addr) (cd : Value) (q : Str), swapsWith (.Call (.Attribute (.Call (.Name "super" q1) [] [] q2) "__init__" q3) [e] [] q4) none q5.line (ksEnv q scope L a cd cc) = pure false
  hin : ∀ (L a cc : Addr) (cd : Value) (q : Str), interactive (ksEnv q scope L a cd cc) = false
  hse : ∀ (L a cc : Addr) (cd : Value) (q : Str), starEach [e] (ksEnv q scope L a cd cc) = (false, eval e (ksEnv q scope L a cd cc)) :: starEach [] (ksEnv q scope L a cd cc)
  hec : ∀ (L a cc : Addr) (cd : Value) (q : Str), ∃ pl, eval (.Call (.Attribute (.Call (.Name "super" q1) [] [] q2) "__init__" q3) [e] [] q4) (ksEnv q scope L a cd cc) = (do
      let ov ← attributeBase (.Call (.Name "super" q1) [] [] q2) "__init__" (ksEnv q scope L a cd cc) (eval (.Call (.Name "super" q1) [] [] q2) (ksEnv q scope L a cd cc))
      standAt q3.atName
      let (f, first) ← holding [ov] (getMethod ov "__init__" pl)
      callWith q4 f first (backTo q4 (starEach [e] (ksEnv q scope L a cd cc))) [])
  hbd : ∀ (kV doc pm : Value) (an : Option Addr) (cda : Addr) (ct : Value) (cc : Addr) (a b : Value), bindArgs (ksFn "__init__" qual (iA f p1 p2) (iB f e q1 q2 q3 q4 q5 q6 q7 q8 q9) scope .none kV doc pm an (.ref cda) ct cc) ⟨[a, b], []⟩ = pure [(("self" : Str), a), (f, b)]
/-- the def __init__ as it stands: its text, its cell -/
structure Ini (P : Program) (K : Frag) (C fI : Addr) (qual : Str) (params : Arguments) (body : List Stmt) (scope : Scope) : Prop where
  fn : ∃ (oc : Value) (od : Option Addr) (kV doc pm : Value) (an : Option Addr) (cda : Addr) (ct : Value) (cc : Addr) (osl : Array (Option Value)),
    K.lookup fI = some ⟨oc, od, .func (ksFn "__init__" qual params body scope .none kV doc pm an (.ref cda) ct cc), osl⟩ ∧ codeIn K (.ref cda) qual = true ∧
    (∃ (ccl : Value) (cdd : Option Addr) (vs : Array Value) (ccs : Array (Option Value)) (file : Str) (tf : Tok), K.lookup cda = some ⟨ccl, cdd, .fields vs, ccs⟩ ∧ vs[2]? = some (.str file tf) ∧ ((P.main.file : Str) == file) = true) ∧
    (∃ (cl : Value) (cld : Option Addr) (csl : Array (Option Value)), K.lookup cc = some ⟨cl, cld, .cell (some (.ref C)), csl⟩)
/-- what __init__ leaves of a fresh exception at x -/
structure InitEnd (h h' : Heap) (x C dx t1 : Addr) (f : Str) (v : Value) : Prop where
  keep : ∀ b o, b ≠ x → h.get? b = some o → h'.get? b = some o
  obj : h'.get? x = some { cls := .ref C, dict := some dx, data := .fields #[.ref t1, .none, .none, .none, .bool false, .none] }
  dbig : h.objs.size ≤ dx
  dne : dx ≠ x
  ns : h'.Ns1 dx (fun y => if y = f then some v else none)
/-- a made error -/
structure Made (h h' : Heap) (e C d : Addr) (f : Str) (v : Value) : Prop where
  keep : ∀ b o, h.get? b = some o → h'.get? b = some o
  new : h.objs.size ≤ e
  obj : ∃ oe vs, h'.get? e = some oe ∧ oe.cls = .ref C ∧ oe.dict = some d ∧ oe.data = .fields vs ∧ vs[1]? = some .none
  dbig : h.objs.size ≤ d
  dne : d ≠ e
  ns : h'.Ns1 d (fun y => if y = f then some v else none)
theorem one_size (v : Value) : [v].length ≤ sizeLine := by
  rw [sizeLine_eq]
  exact (by decide : 1 ≤ 16777216)
section
variable {prog : Program} {w : World} {A : Around} {E : Value → Shared → Prop} {R : Result → Shared → Prop} {s : Shared} {K : Frag} {mg mb : Str → Option Value} {C B fI : Addr} {f : Str} {e : Expr} {q1 q2 q3 q4 q5 q6 q7 q8 q9 p1 p2 : Pos} {scope : Scope} {qual : Str}
/-- the argument of super().__init__ is some value, the heap stays -/
def ArgOk (prog : Program) (w : World) (mg : Str → Option Value) (scope : Scope) (e : Expr) (f : Str) (v : Value) : Prop :=
  ∀ (L a cc : Addr) (cd : Value) (q : Str) (A : Around) (s : Shared) (Q : Value → Shared → Prop) (E : Value → Shared → Prop) (m : Str → Option Value), s.heap.Ns L m → m f = some v → s.heap.Ns mainGlobals mg →
    (∃ mb, s.heap.Ns builtinsNs mb ∧ ∀ x : Str, x ≠ "__name__" → mb x = bootBuiltins x) → (∀ u tk, Q u { s with toks := tk }) → wpAny (model prog w) A (eval e (ksEnv q scope L a cd cc)) Q E s
theorem arg_const {x : Str} {k : Nat} {pos : Pos} {v : Value} : ArgOk prog w mg scope (.Constant (.str x) k pos) f v := fun _ _ _ _ _ _ _ _ _ _ _ _ _ _ q => wpAny_Constant_str (q _ _)
theorem init_ok (T : Txt prog K mg C B fI f) (Y : Ini prog K C fI qual (iA f p1 p2) (iB f e q1 q2 q3 q4 q5 q6 q7 q8 q9) scope) {x t0 : Addr} {v : Value} (X : K.In s.heap) (G : s.heap.Ns mainGlobals mg)
    (Bl : ∃ mb, s.heap.Ns builtinsNs mb ∧ ∀ x : Str, x ≠ "__name__" → mb x = bootBuiltins x) (hlim : s.heap.NoLimit) (hx : s.heap.get? x = some (HandSPX.excO C t0)) (hnx : K.lookup x = none) (hroom : A.depth < recursionLimit)
    (ha : ArgOk prog w mg scope e f v)
    (Sd : Side f e q1 q2 q3 q4 q5 q6 q7 q8 q9 p1 p2 scope qual)
    (hq : ∀ h' tk dx t1, InitEnd s.heap h' x C dx t1 f v → R (.ok (.ret .none)) { s with heap := h', toks := tk }) :
    codeAny (model prog w) A (.call (.ref fI) ⟨[.ref x, v], []⟩) R s := by
  obtain ⟨hcell, hks, hkc, hka, hkf, hk, hco, hgen, hfs, hfd, hw, hin, hse, hec, hbd⟩ := Sd
  obtain ⟨oc, od, kV, doc, pm, an, cda, ct, cc, osl, ho, hcd, ⟨ccl, cdd, vs, ccs, file, tf, hcode, hvs, hfile⟩, cl, cld, csl, hcellC⟩ := Y.fn
  obtain ⟨nm, q, N, bs, sn, sub, ab, col, dd, k0, k1, k2, k3, k5, hC⟩ := T.cls
  have hcl : clsIn K C = some { name := nm, bases := bs, mro := .ref C :: tl B, ns := N, qualname := q, hasDict := true, slotNames := sn, subclasses := sub, abstract := ab, collection := col, hasDel := false } := by unfold clsIn; rw [hC] <;> rfl
  refine ks_codeAny_call_defAt (fd := ksFn "__init__" qual (iA f p1 p2) (iB f e q1 q2 q3 q4 q5 q6 q7 q8 q9) scope .none kV doc pm an (.ref cda) ct cc) (body := iB f e q1 q2 q3 q4 q5 q6 q7 q8 q9) (binds := [("self", .ref x), (f, v)]) hroom (X _ _ ho) rfl hlim (codeRec_of X hcd) rfl
    (BindsTo.of_eq (hbd _ _ _ _ _ _ _ _ _)) hcell (by intro y hy; rcases List.mem_cons.mp hy with rfl | hy; exact hka; rcases List.mem_cons.mp hy with rfl | hy; exact hkf; cases hy) (fun h₁ hns k => ?_) hco hgen hk
  show _root_.PySem.wpAt (model prog w) (A.deeper (ksEnv qual scope s.heap.objs.size fI (.ref cda) cc)) (.func (iB f e q1 q2 q3 q4 q5 q6 q7 q8 q9) (ksEnv qual scope s.heap.objs.size fI (.ref cda) cc)) (execs (iB f e q1 q2 q3 q4 q5 q6 q7 q8 q9) (ksEnv qual scope s.heap.objs.size fI (.ref cda) cc)) _ _ _
  generalize hL : s.heap.objs.size = L at hns ⊢
  have mS : ([("self", Value.ref x), (f, v)] : List (Str × Value)).reverse.lookup ("self" : Str) = some (Value.ref x) := by
    show List.lookup ("self" : Str) [(f, v), (("self" : Str), Value.ref x)] = _
    have z : (("self" : Str) == f) = false := by simp [Ne.symm hfs]
    simp [List.lookup, z]
  have mF : ([("self", Value.ref x), (f, v)] : List (Str × Value)).reverse.lookup f = some v := by
    show List.lookup f [(f, v), (("self" : Str), Value.ref x)] = _
    simp [List.lookup]
  have X₁ : K.In h₁ := X.keeps k
  have G₁ : h₁.Ns mainGlobals mg := G.keeps k
  obtain ⟨mb, hb, hbe⟩ := Bl
  have B₁ : h₁.Ns builtinsNs mb := hb.keeps k
  have hx₁ : h₁.get? x = some (HandSPX.excO C t0) := k _ _ hx
  have hxL : x < L := by rw [← hL]; exact Heap.lt_size hx
  have hLs : L < h₁.objs.size := hns.lt
  have hC₁ := X₁ _ _ hC
  have hsupN : mg "super" = none := mg_none_of X₁ G₁ T.su
  obtain ⟨pl, hev⟩ := hec L fI cc (.ref cda) qual
  refine ks_wpAt_execs_cons (ks_wpAt_Expr_any (ks_wpAt_MethodCall (pl := pl) ?_ hev) (hin _ _ _ _ _) (hw _ _ _ _ _))
  refine ks_wpAt_super_base (env := ksEnv qual scope L fI (.ref cda) cc) hks hkc (by decide) rfl (X₁ _ _ ho) rfl (ar := { arg := "self", annotation := none, pos := p1 }) rfl rfl (X₁ _ _ hcode) rfl hvs hfile T.top ?_
  refine ks_loadName_global hk hks (loadGlobal_builtin (env := ksEnv qual scope L fI (.ref cda) cc) G₁ hsupN B₁ ((hbe _ (by decide +kernel)).trans (show bootBuiltins "super" = some (.type "super") by decide +kernel)) ⟨rfl, ?_⟩)
  refine wpAny_loadName_free hk hkc rfl ⟨_, X₁ _ _ hcellC, rfl⟩ ?_
  refine wpAny_loadName_local hk hka hns mS ?_
  refine ks_wpAny_isType_cls hC₁ rfl ⟨rfl, ?_⟩
  have hself : (Value.ref C :: tl B).contains (.ref C) = true := by simp
  refine ks_wpAny_call_super hC₁ rfl hx₁ rfl (fun c z => by cases z) (looks_mroIn X₁ (mro_has hcl rfl hself)) (fun h₂ eso k₂ => ?_)
  have X₂ := X₁.keeps k₂
  have hx₂ := k₂ _ _ hx₁
  have hxC : x ≠ C := fun z => by
    rw [z, hC₁] at hx₁
    cases hx₁
  have I₂ : W.InstAt h₂ x (HandSPX.excO C t0) C none := ⟨hx₂, rfl, rfl, trivial⟩
  have isE : W.Looks (model prog w) h₂ (isInstance (.ref x) (.type "Exception")) true := I₂.type.andThen (W.looks_mroIn X₂ (mro_has hcl rfl ((hasB "Exception").trans (by decide +kernel))))
  refine ESX.getMethod_super (l := tl B) (x := x) eso (looks_opaque X₂ T.op) (l₀ := .ref C :: tl B) ?_ ?_ X₂ T.al hxC (by decide +kernel) isE ?_
  · exact fun A Q E s k q => wpAny_bind ((looks_clsIn X₂ hcl) A _ E s k (wpAny_pure q))
  · simp [List.dropWhile_cons]
  have kb : ∀ b o, h₂.get? b = some o → (h₂.push (ESX.bw x)).get? b = some o := fun b o z => Heap.get?_push_of_some _ z
  have hbw : (h₂.push (ESX.bw x)).get? h₂.objs.size = some (ESX.bw x) := Heap.get?_push_at rfl rfl
  refine ESX.callWith_bound (x := x) ?_ (hse _ _ _ _ _) (by rfl)
  have hn2 : h₂.Ns L _ := hns.keeps k₂
  refine spliced_more (ha L fI cc (.ref cda) qual _ _ _ _ _ (hn2.keeps kb) mF ((G₁.keeps k₂).keeps kb) ⟨mb, (B₁.keeps k₂).keeps kb, hbe⟩ fun u tk => spliced_none ⟨hbw, ?_⟩) (hse _ _ _ _ _)
  refine ESX.call_bw (kb _ _ (k₂ _ _ hC₁)) (kb _ _ hx₂) hbw (one_size u) fun h₃ t1 k₃ hx₃ => ?_
  -- self.f = v
  have kLx : L ≠ x := Nat.ne_of_gt hxL
  have kk : ∀ b o, b ≠ x → h₁.get? b = some o → h₃.get? b = some o := fun b o nb z => k₃ b o nb (kb _ _ (k₂ _ _ z))
  let mm : Str → Option Value := fun y => ([("self", Value.ref x), (f, v)] : List (Str × Value)).reverse.lookup y
  have hn3 : h₃.Ns L mm := by
    obtain ⟨oL, es, ep, e1, e2⟩ := hns
    exact ⟨oL, es, ep, kk _ _ kLx e1, e2⟩
  have X₃ : K.In h₃ := fun b o z => by
    have z1 : b ≠ x := fun q => by
      rw [q, hnx] at z
      cases z
    exact kk b o z1 (X₁ _ _ z)
  refine ks_wpAt_execs_cons (ks_wpAt_Assign_Attr ?_ (by rfl))
  refine wpAt_of_wpAny ?_
  refine wpAny_Name ?_ hfd
  refine wpAny_loadName_local (m := mm) (env := ksEnv qual scope L fI (.ref cda) cc) hk hkf hn3 mF ?_
  refine wpAny_Name ?_ (by decide)
  refine wpAny_loadName_local (m := mm) (env := ksEnv qual scope L fI (.ref cda) cc) hk hka hn3 mS ?_
  refine W.set_plain X₃ (ox := HandSPX.excO C t1) (od := none) ⟨hx₃, rfl, rfl, trivial⟩ T.sa ?_
  refine osa_new X₃ hx₃ hcl rfl rfl T.noF (fun h₄ tk₄ dx k₄ dn dne hx₄ hn₄ => ?_)
  refine wpAt_of_wpAny (wpAny_execs_nil ?_)
  refine hq h₄ _ dx t1 ⟨fun b o nb z => k₄ b o nb (kk b o nb (k b o z)), hx₄, ?_, dne, hn₄⟩
  have z : h₃.objs.size ≤ dx := dn
  have z2 : L < h₃.objs.size := hn3.lt
  rw [hL]
  exact Nat.le_of_lt (Nat.lt_of_lt_of_le z2 z)
theorem made_ok (T : Txt prog K mg C B fI f) (Y : Ini prog K C fI qual (iA f p1 p2) (iB f e q1 q2 q3 q4 q5 q6 q7 q8 q9) scope) (Sd : Side f e q1 q2 q3 q4 q5 q6 q7 q8 q9 p1 p2 scope qual) {v : Value} (X : K.In s.heap) (G : s.heap.Ns mainGlobals mg)
    (Bl : ∃ mb, s.heap.Ns builtinsNs mb ∧ ∀ x : Str, x ≠ "__name__" → mb x = bootBuiltins x) (hlim : s.heap.NoLimit) (hroom : A.depth + 1 < recursionLimit)
    (ha : ArgOk prog w mg scope e f v)
    (hq : ∀ h' tk e d, Made s.heap h' e C d f v → R (.ok (.ret (.ref e))) { s with heap := h', toks := tk }) :
    codeAny (model prog w) A (.call (.ref C) ⟨[v], []⟩) R s := by
  obtain ⟨nm, q, N, bs, sn, sub, ab, col, dd, k0, k1, k2, k3, k5, hC⟩ := T.cls
  obtain ⟨hp, g, dr, tk, os⟩ := s
  obtain ⟨mb, hb, hbe⟩ := Bl
  have k : ∀ b o, hp.get? b = some o → ((hp.push (kdv_tup [v])).push (HandSPX.excO C hp.objs.size)).get? b = some o := fun b o e => Heap.get?_push_of_some _ (Heap.get?_push_of_some _ e)
  have hget : ((hp.push (kdv_tup [v])).push (HandSPX.excO C hp.objs.size)).get? (hp.objs.size + 1) = some (HandSPX.excO C hp.objs.size) := by heap_get
  have hnx : K.lookup (hp.objs.size + 1) = none := by
    cases e : K.lookup (hp.objs.size + 1) with
    | none => rfl
    | some o =>
      have z : hp.get? (hp.objs.size + 1) = some o := X _ _ e
      exact absurd (Nat.lt_of_succ_lt (Heap.lt_size z)) (Nat.lt_irrefl _)
  refine HandSPX.call_own F.excBase_Exception (fun X => tlB X) (X _ _ hC) (looks_findIn X T.iC) (fun self => bind_fn X self T.tC) (one_size v) ?_
  refine init_ok (s := ⟨(hp.push (kdv_tup [v])).push (HandSPX.excO C hp.objs.size), g, dr, tk, os⟩) T Y (X.keeps k) (G.keeps k) ⟨mb, hb.keeps k, hbe⟩ (hlim.keeps k) hget hnx ?_ ha Sd fun h' tk' dx t1 ⟨k', hx, dn, dne, hns⟩ => ?_
  · show A.depth + 1 < recursionLimit
    exact hroom
  · have old : ∀ b o, hp.get? b = some o → h'.get? b = some o := fun b o e => k' b o (Nat.ne_of_lt (Nat.lt_succ_of_lt (Heap.lt_size e))) (k b o e)
    have z : hp.objs.size + 1 + 1 ≤ dx := by
      first
        | (simpa only [Heap.size_push] using dn)
        | exact dn
        | (have q := dn; rw [Heap.size_push, Heap.size_push] at q; exact q)
    exact ⟨rfl, hq h' tk' (hp.objs.size + 1) dx ⟨old, Nat.le_succ _, ⟨_, _, hx, rfl, rfl, rfl, rfl⟩, Nat.le_trans (Nat.le_trans (Nat.le_succ _) (Nat.le_succ _)) z, dne, hns⟩⟩
end
end HKErr
end PySem
namespace L2
open PySem PySem.Spec PyProof.Rows
theorem relO_one {f : Str} {v : V} {v' : Value} (r : RelV v v') (y : Str) : RelO (List.lookup y [(f, v)]) (if y = f then some v' else none) := by
  by_cases hw : y = f
  · subst hw
    rw [if_pos rfl]
    have q : List.lookup y [(y, v)] = some v := by simp [List.lookup]
    rw [q]
    exact r
  · rw [if_neg hw]
    have qw : (y == f) = false := by simpa using hw
    have q2 : List.lookup y [(f, v)] = none := by simp [List.lookup, qw]
    rw [q2]
    trivial
section
variable {X : Cx} {C B fI : Addr} {f : Str} {e : Expr} {q1 q2 q3 q4 q5 q6 q7 q8 q9 p1 p2 : Pos} {scope : Scope} {qual : Str}
/-- X(e): a new error, its field f holding e -/
def tMkE (C : Addr) (f : Str) (ok : V → Prop) (ta : TA) : St → Hp → XK → Prop := fun σ H Q => ta σ H fun vs H1 => ∃ v, vs = [v] ∧ ok v ∧ ∀ d, H1 d = none → Q (.ref C) (some d) (upd H1 d (.xd [(f, v)]))
theorem pmk_err {x : Str} {ok : V → Prop} {a : Expr} {ta : TA} {p pos : Pos} {k : Nat} (T : PySem.HKErr.Txt X.prog X.K X.mg C B fI f) (Y : PySem.HKErr.Ini X.prog X.K C fI qual (PySem.HKErr.iA f p1 p2) (PySem.HKErr.iB f e q1 q2 q3 q4 q5 q6 q7 q8 q9) scope)
    (Sd : PySem.HKErr.Side f e q1 q2 q3 q4 q5 q6 q7 q8 q9 p1 p2 scope qual) (hok : ∀ v u, ok v → RelV v u → PySem.HKErr.ArgOk X.prog X.w X.mg scope e f u) (hm : X.mg x = some (.ref C)) (hr : Room k X.A) (ha : PA X [a] ta) (hg : Gl X x := by rfl) (hdb : (x == ("__debug__" : Str)) = false := by decide)
    (he : starEach (a :: []) X.env = (false, eval a X.env) :: starEach [] X.env := by rfl) (hpl : (backTo pos (starEach [] X.env)).any (·.1) = false := by rfl) :
    PMk X (.Call (.Name x p) [a] [] pos) (tMkE C f ok ta) := by
  intro pins s σ H Q I h
  refine wpAny_Call_Name_kw (ld_glob I hg hm ?_ hdb)
  refine PySem.W.callWith_K (h₀ := X.base) I.ok.mod.kin T.kC (thn (ha.run pos pins s σ H _ I h) fun us s1 hh => ?_) he hpl
  obtain ⟨vs, H1, I1, r1, v, ev, okv, q1⟩ := hh
  subst ev
  refine ⟨I1.kIn, ?_⟩
  cases r1 with
  | cons rv rn =>
    rename_i v' us'
    cases rn
    show wpAny _ _ (call (.ref C) [v']) _ _ _
    have hlim := I1.nolimit
    have hG : s1.heap.Ns mainGlobals X.mg := I1.ok.mod.glob.keeps I1.bk
    obtain ⟨mb, hb, hbe⟩ := I1.ok.mod.blt
    have hB := hb.keeps I1.bk
    obtain ⟨hp, g, dr, tk, os⟩ := s1
    refine wpAny_call (PySem.HKErr.made_ok T Y Sd I1.kIn hG ⟨mb, hB, hbe⟩ hlim (by have := hr.dp; omega) (hok v v' okv rv) fun h' tk' e d M => ?_)
    show MkP X pins σ Q (.ref e) ⟨h', g, dr, tk', os⟩
    obtain ⟨oe, fv, hoe, hc, hd, hdat, h1⟩ := M.obj
    have hns := M.ns
    obtain ⟨G', g1, g2⟩ := restrict h' fun b => decide (b ≠ e)
    have gk : ∀ b, b ≠ e → G'.get? b = h'.get? b := fun b hb => g1 b (decide_eq_true hb)
    have ge : G'.get? e = none := g2 e (by simp)
    have old : ∀ b o, hp.get? b = some o → G'.get? b = some o := fun b o q => (gk b (Nat.ne_of_lt (Nat.lt_of_lt_of_le (Heap.lt_size q) M.new))).trans (M.keep b o q)
    have ob : ObjOk X.prog X.w (upd H1 d (.xd [(f, v)])) G' d (.xd [(f, v)]) :=
      ⟨_, hns.at (fun o q => (gk d M.dne).trans q), fun y => relO_one rv y⟩
    have J : Inv X pins σ (upd H1 d (.xd [(f, v)])) ⟨G', g, dr, tk', os⟩ := I1.laid (t' := tk') old M.dbig ob
    refine ⟨e, oe, fv, ⟨G', g, dr, tk', os⟩, _, .ref C, some d, rfl, J, fun b o q => ?_, ge, hoe, ⟨hc, hd⟩, hdat, h1, ?_, rfl, I1.bare, raises_own T.exC T.tyC, q1 d (I1.hok.fresh M.dbig)⟩
    · by_cases hb : b = e
      · have q' : G'.get? b = some o := q
        rw [hb, ge] at q'; cases q'
      · exact (gk b hb).symm.trans q
    · rw [upd_ne (Ne.symm M.dne)]
      exact I1.hok.fresh M.new
end
end L2
set_option Elab.async false
set_option linter.all false
set_option maxRecDepth 100000
set_option maxHeartbeats 4000000
/-! HKTry: try .. with several clauses  except X as n: suite. -/
namespace L2
open PySem PySem.Spec PyProof.Rows
/-- behind a suite the name is unbound -/
def unEnds (i : Nat) (D : Ends) : Ends := { nx := fun σ' H' => D.nx (σ'.set i none) H', rt := D.rt, bk := fun σ' H' => D.bk (σ'.set i none) H', ct := fun σ' H' => D.ct (σ'.set i none) H' }
/-- what the clauses 'except c as (slot i)' wish of an exception of the body, one after the other -/
def wManyA (K : PySem.W.Frag) (Wout : WX) (D : Ends) : List (Value × Nat × (Addr → Value → Option Addr → TS)) → WX
  | [] => Wout
  | (c, i, ts) :: r => fun cls d σ H => ∃ b, PySem.W.exmOne K cls c = some b ∧ (b = true → ∀ a, H a = none → ts a cls d (unEnds i D) (σ.set i (some (.ref a))) H) ∧ (b = false → wManyA K Wout D r cls d σ H)
inductive HdsA (X : Cx) : List ExceptHandler → List (Value × Nat × (Addr → Value → Option Addr → TS)) → Prop
  | nil : HdsA X [] []
  | cons {x n : Str} {c : Value} {i : Nat} {ts : Addr → Value → Option Addr → TS} {b₀ : Stmt} {suite : List Stmt} {np pos' : Pos} {hds : List ExceptHandler} {l : List (Value × Nat × (Addr → Value → Option Addr → TS))} (hi : X.N[i]? = some n) (hln : X.env.kindOf n = some .local) (hc : Names X x c)
      (hsu : ∀ (a : Addr) (oe : Obj) (cls : Value) (d : Option Addr) (pn : List (Addr × Obj)), Zc cls d oe → (∃ vs, oe.data = .fields vs) → PSs (X.suite a ((a, oe) :: pn)) (b₀ :: suite) (ts a cls d)) (r : HdsA X hds l) :
      HdsA X (.ExceptHandler (some (.Name x np)) (some n) (b₀ :: suite) pos' :: hds) ((c, i, ts) :: l)
section
variable {X : Cx} {body : List Stmt} {h₀ : ExceptHandler} {hds : List ExceptHandler} {l : List (Value × Nat × (Addr → Value → Option Addr → TS))} {pos : Pos} {tb : WX → TS} {Wout : WX}
theorem ps_try_manyA (hs : X.stack = X.env :: X.outer) (hf : X.env.frame = some X.env.locals) (hN : X.N.Nodup) (tk : Takes X Wout)
    (hb : ∀ (W : WX) (pn : List (Addr × Obj)) (xe : Value → Shared → Prop), Takes (X.tr pn xe) W → PassesOwn (model X.prog X.w) X.A X.env xe → PSs (X.tr pn xe) body (tb W))
    (hh : HdsA X (h₀ :: hds) l) : PS X (.Try body (h₀ :: hds) [] [] pos) (fun D σ H => tb (wManyA X.K Wout D l) D σ H) := by
  refine ⟨fun pins s σ H D I h => ?_⟩
  have ok := I.ok
  have hfr : X.A.frames = some (X.env :: X.outer) := by rw [ok.frames, hs]
  refine wpAny_Try_except ?_
  refine wpAny_mono ((hb (wManyA X.K Wout D l) (X.pn ++ pins) (fun e s₁ => wpAny (model X.prog X.w) X.A (noteFrame e X.env) (fun _ s₂ => wpAny (model X.prog X.w) X.A (setFlight e none) (fun _ s₃ =>
    wpAny (model X.prog X.w) X.A (handleBy e X.env (h₀ :: hds)) (SP X pins D) X.xe s₃) X.xe s₂) X.xe s₁) (fun u s' xx => ?_) PassesOwn.looking).run [] s σ H D (I.toTry _) h) (fun f s1 hsp => ?_) (fun e s1 he => he)
  · obtain ⟨a, B, sI, pins', σ', H', cls, d, rfl, J', nb, up, sky, na, os, ag, w⟩ := xx
    have J : Inv X pins σ' H' sI := J'.ofTry ok
    have sky' : Sky B (X.env :: X.outer) a (Zc cls d) X.env.locals s'.heap := by rw [← hs]; exact sky
    show wpAny (model X.prog X.w) X.A (noteFrame (.ref a) X.env) _ _ _
    refine Sky.land Zc.steady hfr hf sky' fun h3 fl3 up3 => ?_
    have J3 : Inv X pins σ' H' { s' with heap := h3 } := J.landed nb fl3.1 (up.trans up3) os ag
    obtain ⟨oe3, vs3, he3, hz3, hd3⟩ := fl3.there
    have notFr : ∀ {h : Heap} {o : Obj} {vs : Array Value}, h.FunFrames B (X.env :: X.outer) → h.get? a = some o → o.data = .fields vs → a ∉ frs (X.env :: X.outer) := fun {h o vs} ff e dd hm => by
      obtain ⟨_, o', e', hnf⟩ := ff.mem hm
      rw [e] at e'; cases e'
      exact hnf _ dd
    have nfr := notFr fl3.2.2.1 he3 hd3
    have nL : a ≠ X.env.locals := fun z => nfr (List.mem_filterMap.mpr ⟨X.env, List.mem_cons_self, by rw [hf, z]⟩)
    have nF : a ∉ X.fs := fun hm => by
      obtain ⟨e, he, q⟩ := List.mem_filterMap.mp hm
      exact nfr (List.mem_filterMap.mpr ⟨e, List.mem_cons_of_mem _ he, q⟩)
    have S3 := J3.suite he3 hd3 na nL nF
    have go : ∀ {hds' : List ExceptHandler} {l' : List (Value × Nat × (Addr → Value → Option Addr → TS))}, HdsA X hds' l' → wManyA X.K Wout D l' cls d σ' H' →
        wpAny (model X.prog X.w) X.A (handleBy (.ref a) X.env hds') (SP X pins D) X.xe { s' with heap := h3 } := by
      intro hds' l' hk
      induction hk with
      | nil =>
        intro w
        refine wpAny_handleBy_nil ?_
        obtain ⟨k1, k2, k3, oe, vs, T, oT, ts', he, hz, hd, h1, hr⟩ := id fl3
        unfold PySem.passOn
        refine wpAny_bind (wpAny_field he hd h1 ?_)
        rw [if_neg (show ¬ ((Value.ref T == Value.none) = true) from by simp)]
        have fin : wpAny (model X.prog X.w) X.A (setFlight (.ref a) X.env.frame) (fun _ s4 => wpAny (model X.prog X.w) X.A (throw (.ref a) : Sem Flow) (SP X pins D) X.xe s4) X.xe { s' with heap := h3 } := by
          rw [hf]
          refine HandSPX.setFlight_upZ fl3 fun h4 hh4 up4 => wpAny_throw (tk _ _ ?_)
          exact ⟨a, B, sI, pins, σ', H', cls, d, rfl, J, nb, (up.trans up3).trans up4, .inr (.inr (by rw [hs]; exact hh4)), na, os, ag, w⟩
        first
          | exact wpAny_bind (wpAny_pure (wpAny_bind fin))
          | exact wpAny_bind fin
      | @cons x n c i ts b₀ suite np pos' hds2 l2 hi hln hc hsu r ih =>
        intro w
        have hloc : Loc X.env.scope n := .inl hln
        obtain ⟨b, hb1, hyes, hno⟩ := w
        refine wpAny_handleBy_cons (codeAny_handlers_test ?_) (by intro q; cases q)
        have LT : PySem.W.Looks (model X.prog X.w) h3 (typeOf (.ref a)) cls := fun A Q E s k q => wpAny_typeOf_ref (k _ _ he3) (by rw [hz3.1]; exact q)
        have LM := PySem.W.exm_one (M := model X.prog X.w) (J3.kIn) LT hb1
        have test : ∀ {Q : Value → Shared → Prop} {E : Value → Shared → Prop}, Q c { s' with heap := h3 } → wpAny (model X.prog X.w) (X.A.mark (some (.ref a))) (eval (.Name x np) X.env) Q E { s' with heap := h3 } := fun {Q E} q => by
          obtain ⟨hg, hdbg, hm | ⟨hm, hv, hnn⟩⟩ := hc
          · exact ld_glob (X := X.suite a ((a, oe3) :: (X.pn ++ pins))) S3 hg hm q hdbg
          · exact ld_blt (X := X.suite a ((a, oe3) :: (X.pn ++ pins))) S3 hg hm hv q hnn hdbg
        refine test (LM.here ?_)
        cases b with
        | true =>
          refine codeAny_handlers_suite_as ?_
          refine HandSPX.lands_againZ fl3 fun h4 fl4 up4 => ?_
          have J4 : Inv X pins σ' H' { s' with heap := h4 } := J.landed nb fl4.1 ((up.trans up3).trans up4) os ag
          obtain ⟨oe4, vs4, he4, hz4, hd4⟩ := fl4.there
          have S4 := J4.suite he4 hd4 na nL nF
          refine store_ok (X := X.suite a ((a, oe4) :: (X.pn ++ pins))) (v := .ref a) S4 hN hi hloc rfl (fun s5 S5 => ?_) (.inr hln)
          refine wpAny_mono ((hsu a oe4 cls d (X.pn ++ pins) hz4 ⟨_, hd4⟩).run [] s5 _ H' _ S5 (hyes rfl a na)) (fun f s6 hsp => ?_) (fun _ _ z => False.elim z)
          have end_ : ∀ {σ6 : St} {H6 : Hp} {Q : Shared → Prop}, Inv (X.suite a ((a, oe4) :: (X.pn ++ pins))) [] σ6 H6 s6 → (∀ s7, Inv X pins (σ6.set i none) H6 s7 → Q s7) →
              wpAny (model X.prog X.w) X.A (do bindName X.env n .none; unbindBehindTheSuite X.env n pos') (fun _ s7 => Q s7) X.xe s6 := fun {σ6 H6 Q} S6 hq => gone_ok (S6.unsuite ok) hN hi hln hq
          cases f with
          | next =>
            obtain ⟨σ6, H6, S6, q6⟩ := hsp
            exact end_ S6 fun s7 J7 => ⟨_, _, J7, q6⟩
          | brk =>
            obtain ⟨σ6, H6, S6, q6⟩ := hsp
            exact end_ S6 fun s7 J7 => ⟨_, _, J7, q6⟩
          | cont =>
            obtain ⟨σ6, H6, S6, q6⟩ := hsp
            exact end_ S6 fun s7 J7 => ⟨_, _, J7, q6⟩
          | ret u =>
            obtain ⟨v6, σ6, H6, S6, r6, q6⟩ := hsp
            exact end_ S6 fun s7 J7 => ⟨_, _, _, J7, r6, q6⟩
        | false =>
          show wpAny _ X.A (handleBy (.ref a) X.env hds2) _ _ _
          exact ih (hno rfl)
    exact go hh w
  · cases f with
    | next =>
      obtain ⟨σ', H', J', q⟩ := hsp
      exact wpAny_execs_nil ⟨σ', H', J'.ofTry ok, q⟩
    | brk =>
      obtain ⟨σ', H', J', q⟩ := hsp
      exact ⟨σ', H', J'.ofTry ok, q⟩
    | cont =>
      obtain ⟨σ', H', J', q⟩ := hsp
      exact ⟨σ', H', J'.ofTry ok, q⟩
    | ret u =>
      obtain ⟨v, σ', H', J', r, q⟩ := hsp
      exact ⟨v, σ', H', J'.ofTry ok, r, q⟩
end
end L2
set_option Elab.async false
set_option linter.all false
set_option maxRecDepth 100000
set_option maxHeartbeats 4000000
/-! HKIter: loops and comprehensions over what is a list or a tuple; enumerate of such. -/
namespace L2
open PySem PySem.Spec PyProof.Rows
/-- a list or a tuple -/
def SqA (K : PySem.W.Frag) (H : Hp) (a : Addr) (xs : List V) : Prop := SqL K H a xs ∨ SqT K H a xs
/-- xs by its items while Z stands -/
def ItS (xs : List V) (Z : Hp → Prop) : It := ⟨fun i H => Z H ∧ i < xs.length, fun i H x H' => H' = H ∧ xs[i]? = some x, fun i H => Z H ∧ xs.length ≤ i⟩
/-- (i, x) in a new pair each turn -/
def ItE (xs : List V) (Z : Hp → Prop) : It :=
  ⟨fun i H => Z H ∧ i < xs.length, fun i H v H' => ∃ T x, v = .ref T ∧ H T = none ∧ H' = upd H T (.tup [.int (i : Nat), x]) ∧ xs[i]? = some x, fun i H => Z H ∧ xs.length ≤ i⟩
theorem Turn.imp {P : Program} {w : World} {K : PySem.W.Frag} {tg : Expr} {J J' : It} {fp : List Addr} {it : Addr} {tn : Nat → Heap → Prop} (T : Turn P w K tg J fp it tn) (hg : ∀ i H, J'.go i H → J.go i H) (hs : ∀ i H, J'.stop i H → J.stop i H)
    (hy : ∀ i H x H', J'.go i H → J.yld i H x H' → J'.yld i H x H') : Turn P w K tg J' fp it tn where
  mem := T.mem
  obj := T.obj
  keep := T.keep
  item := fun X hP hw hK hc i pins s σ H E I hf st hgo => by
    refine wpAny_mono (T.item X hP hw hK hc i pins s σ H E I hf st (hg i H hgo)) (fun r s1 h1 => ?_) (fun _ _ z => z)
    obtain ⟨u, hr, h⟩ := h1
    refine ⟨u, hr, wpAny_mono h (fun _ s2 h2 => ?_) (fun _ _ z => z)⟩
    obtain ⟨x, H', I', rx, y, t, f⟩ := h2
    exact ⟨x, H', I', rx, hy i H x H' hgo y, t, f⟩
  done := fun X hP hw hK hc i pins s σ H E I hf st hst => T.done X hP hw hK hc i pins s σ H E I hf st (hs i H hst)
  self := T.self
/-- for x in e, e a list or a tuple -/
def iSeq (K : PySem.W.Frag) (tl : TE) : TI := fun σ H R => tl σ H fun x H1 => ∃ a xs, x = .ref a ∧ ((SqL K H1 a xs ∧ R (ItS xs fun H => SqL K H a xs) H1) ∨ (SqT K H1 a xs ∧ R (ItS xs fun H => SqT K H a xs) H1))
theorem getI {α : Type} {xs : List α} {i : Nat} (h : i < xs.length) : ∃ x, xs[i]? = some x := ⟨xs[i], List.getElem?_eq_getElem h⟩
section
variable {X : Cx} {tg : Expr}
theorem pi_seq {l : Expr} {tl : TE} (hl : PE X l tl) : PI X tg l (iSeq X.K tl) := by
  refine ⟨fun pins s σ H R I h => ?_⟩
  refine thn (hl.run pins s σ H _ I h) fun v s1 ⟨x, H1, I1, r1, q1⟩ => ?_
  obtain ⟨a, xs, e, hq⟩ := q1
  subst e
  cases r1
  have fp : ∀ b ∈ [s1.heap.objs.size], FpOk X pins H1 b := fun b hb => by
    have e : b = s1.heap.objs.size := by simpa using hb
    subst e
    exact I1.fpOk (Nat.le_refl _) (I1.hok.fresh (Nat.le_refl _))
  rcases hq with ⟨hq, q⟩ | ⟨hq, q⟩
  · obtain ⟨its, rv, p, hz⟩ := I1.list hq
    refine wpAny_pyIter_list p.isList ?_
    refine ⟨s1.heap.objs.size, [s1.heap.objs.size], _, _, H1, rfl, I1.kept (t' := s1.toks) fun b o e => Heap.get?_push_of_some _ e, (turn_list a _).imp (fun i H z => ?_) (fun i H z => ?_) (fun i H x H' z y => ?_), ⟨_, Heap.get?_push_size _ rfl, rfl, rfl⟩, fp, q⟩
    · obtain ⟨y, e⟩ := getI z.2
      exact ⟨xs, y, z.1, e⟩
    · exact ⟨xs, z.1, z.2⟩
    · exact ⟨y.1, y.2 xs z.1⟩
  · obtain ⟨its, rv, p, hz⟩ := I1.tuple hq
    refine wpAny_pyIter_tuple (show s1.heap.IsTuple a its.toArray from p) ?_
    refine ⟨s1.heap.objs.size, [s1.heap.objs.size], _, _, H1, rfl, I1.kept (t' := s1.toks) fun b o e => Heap.get?_push_of_some _ e, (turn_tuple a _).imp (fun i H z => ?_) (fun i H z => ?_) (fun i H x H' z y => ?_), ⟨_, Heap.get?_push_size _ rfl, rfl, rfl⟩, fp, q⟩
    · obtain ⟨y, e⟩ := getI z.2
      exact ⟨xs, y, z.1, e⟩
    · exact ⟨xs, z.1, z.2⟩
    · exact ⟨y.1, y.2 xs z.1⟩
end
/-! ### enumerate of a tuple -/
set_option maxHeartbeats 1000000 in
theorem meets_enum1 {v : Value} {o : Obj} {H : Heap → Prop} (B : Begins v o H) :
    Meets (Builtin.«enumerate.__new__» ⟨[.type "enumerate", v], []⟩) (fun _ R s => H s.heap ∧
      R (.ok (.ret (.ref (s.heap.push o).objs.size))) { s with heap := (s.heap.push o).push { cls := .type "enumerate", data := .fields #[.none, .bool false, .ref s.heap.objs.size, rawInt 0, .none, .none] } }) :=
  .of_wp fun prog w A R s h => by
    obtain ⟨hp, g, d, tk, os⟩ := s; obtain ⟨h1, h⟩ := h
    have hsub := sub_enumerate
    have q1 : ∀ {A' : Around} {E : Value → Shared → Prop} {Q : Value → Shared → Prop}, Q (.ref hp.objs.size) ⟨hp.push o, g, d, tk, os⟩ → wpAny (model prog w) A' (pyIter v) Q E ⟨hp, g, d, tk, os⟩ :=
      fun q => B.iter prog w _ _ ⟨hp, g, d, tk, os⟩ _ h1 q
    wp_walk using q1
    refine wpAny_stack_any fun st => wpAny_pure ?_
    split
    · rename_i c _ _ _ _ _
      cases (c == Value.type "enumerate")
      · wp_walk using q1
        exact ⟨_, rfl, h⟩
      · wp_walk using q1
        exact ⟨_, rfl, h⟩
    · wp_walk using q1
      exact ⟨_, rfl, h⟩
section
variable {prog : Program} {w : World} {A : Around} {E : Value → Shared → Prop} {s : Shared}
theorem enum1 {v : Value} {o : Obj} {H : Heap → Prop} {Q : Value → Shared → Prop} (B : Begins v o H) (h1 : H s.heap)
    (h : ∀ h', IsEnum h' (s.heap.objs.size + 1) s.heap.objs.size 0 .none → h'.get? s.heap.objs.size = some o → h'.objs.size = s.heap.objs.size + 2 →
      (∀ b o, s.heap.get? b = some o → h'.get? b = some o) → Q (.ref (s.heap.objs.size + 1)) { s with heap := h' }) :
    wpAny (model prog w) A (call (.type "enumerate") [v]) Q E s := by
  refine callType_new F.called_enumerate (by decide) (F.typeCall_enumerate_1 _) (F.newCall_enumerate_1 _) (fun obj => F.args_object_init_2 obj _) F.entry_enumerate_new
    (meets_enum1 B) ⟨h1, ?_⟩
  have hz : (s.heap.push o).objs.size = s.heap.objs.size + 1 := Heap.size_push ..
  show _ ∧ _
  rw [hz]
  have he : IsEnum ((s.heap.push o).push { cls := .type "enumerate", data := .fields #[.none, .bool false, .ref s.heap.objs.size, rawInt 0, .none, .none] }) (s.heap.objs.size + 1) s.heap.objs.size 0 .none := by
    have := Heap.get?_push_size (s.heap.push o) (o := { cls := .type "enumerate", data := .fields #[.none, .bool false, .ref s.heap.objs.size, rawInt 0, .none, .none] }) rfl
    rw [hz] at this; exact this
  refine ⟨⟨_, he, rfl⟩, h _ he (Heap.get?_push_of_some _ (Heap.get?_push_size _ B.free)) (by rw [Heap.size_push, hz]) fun b o x => Heap.get?_push_of_some _ (Heap.get?_push_of_some _ x)⟩
end
theorem turn_enumT {P : Program} {w : World} {K : PySem.W.Frag} {elts : List Expr} {kk : Nat} {tpos : Pos} (a e it : Addr) (xs : List V) :
    Turn P w K (.Tuple elts kk tpos) (ItE xs fun H => SqT K H a xs) [e, it] e (fun i h => (∃ old, IsEnum h e it ((i : Nat) : Int) old) ∧ h.IsTupleIter it a i ∧ e ≠ it) where
  mem := by simp
  obj := fun i h st b hb => by
    obtain ⟨⟨old, he⟩, ⟨o, ho, hc, hd⟩, _⟩ := st
    have e' : b = e ∨ b = it := by simpa using hb
    rcases e' with z | z
    · rw [z]; exact ⟨_, he, fun v q => nomatch q⟩
    · rw [z]; exact ⟨o, ho, fun v q => by rw [hd] at q; cases q⟩
  keep := fun i h h' st k => let ⟨⟨old, he⟩, hi, hne⟩ := st; ⟨⟨old, k e (by simp) _ he⟩, hi.at fun o q => k it (by simp) o q, hne⟩
  item := by
    intro X hP hw hK hc i pins s σ H E I hf st hg
    subst hP hw hK
    obtain ⟨⟨old, he⟩, hit, hne⟩ := st
    obtain ⟨hq, hi⟩ := hg
    obtain ⟨x, hx⟩ := getI hi
    obtain ⟨its, rv, p, hz⟩ := I.tuple hq
    obtain ⟨u, hu, ru⟩ := rv.get hx
    have hel : e < s.heap.objs.size := Heap.lt_size he
    have hil : it < s.heap.objs.size := by obtain ⟨_, q, _⟩ := hit; exact Heap.lt_size q
    have pT : s.heap.IsTuple a its.toArray := p
    have hai : a ≠ it := fun z => by
      obtain ⟨o1, e1, c1, _⟩ := hit
      obtain ⟨o2, e2, c2, _⟩ := pT
      rw [z, e1] at e2
      cases e2
      have q := c1.symm.trans c2
      injection q with q
      exact absurd q (by decide)
    have hae : e ≠ a := fun z => by
      obtain ⟨o2, e2, c2, _⟩ := pT
      have e1 : s.heap.get? e = _ := he
      rw [z, e2] at e1
      have q := congrArg Obj.cls (Option.some.inj e1)
      rw [c2] at q
      injection q with q
      exact absurd q (by decide)
    have D := Draws.tuple (prog := X.prog) (w := X.w) (A := X.A.in1) (I.ok.hd hc) it a hai its.toArray
    have hlt : i < its.toArray.size := by
      have := (List.getElem?_eq_some_iff.mp hu).1
      simpa using this
    refine wpAny_pyNext_enum_itemD D he ⟨hit, pT⟩ hlt hne (by intro z; rcases List.mem_cons.mp z with z | z; exact hne z; rcases List.mem_cons.mp z with z | z; exact hae z; cases z) fun x' h' tk hx' ho st' hT hsz hk => ?_
    have ex : x' = u := by
      have h2 : its.toArray[i]? = some u := by simpa using hu
      rw [h2] at hx'
      exact (Option.some.inj hx').symm
    subst ex
    refine ⟨_, rfl, wpAny_letOwnedTupleGo_enum (s := { s with heap := h', toks := tk + 1 }) ho fun h'' he' sb => ?_⟩
    have hT2 : h''.get? s.heap.objs.size = some { cls := .type "tuple", data := .seq #[.int i tk, x'] } := (sb.2 _ (Nat.ne_of_gt hel)).trans hT
    have new : ObjOk X.prog X.w (upd H s.heap.objs.size (.tup [.int (i : Nat), x])) h'' s.heap.objs.size (.tup [.int (i : Nat), x]) :=
      ⟨by show 2 ≤ sizeLine; decide, [.int i tk, x'], .cons ⟨_, rfl⟩ (.cons ru .nil), ⟨_, hT2, rfl, _, rfl⟩⟩
    have I1 : Inv X pins σ (upd H s.heap.objs.size (.tup [.int (i : Nat), x])) { s with heap := h'', toks := tk + 1 } :=
      I.turnedNew (ch := [e, it]) (fun b ob hb q => (sb.2 b (fun z => hb (by simp [z]))).trans (hk b ob (fun z => hb (by simp [z])) (fun z => hb (by simp [z])) q)) hf (Nat.le_refl _) new
    refine ⟨.ref s.heap.objs.size, _, I1, rfl, ⟨_, x, rfl, I.hok.fresh (Nat.le_refl _), rfl, hx⟩, ⟨⟨x', ?_⟩, st'.1.at fun o q => (sb.2 it (Ne.symm hne)).trans q, hne⟩, fun b hb => ?_⟩
    · have e1 : ((i + 1 : Nat) : Int) = (i : Int) + 1 := by omega
      rw [e1]; exact he'
    · have hb' : b < s.heap.objs.size := by
        have e' : b = e ∨ b = it := by simpa using hb
        rcases e' with z | z
        · rw [z]; exact hel
        · rw [z]; exact hil
      rw [upd_ne (Nat.ne_of_lt hb')]
      exact (hf b hb).1
  done := by
    intro X hP hw hK hc i pins s σ H E I hf st hg
    subst hP hw hK
    obtain ⟨⟨old, he⟩, hit, hne⟩ := st
    obtain ⟨hq, hx⟩ := hg
    obtain ⟨its, rv, p, hz⟩ := I.tuple hq
    obtain ⟨f0, f1, f2, f3, f4, f5⟩ := hf it (by simp)
    have hl := rv.length
    have pT : s.heap.IsTuple a its.toArray := p
    have hh := I.ok.hd hc
    have hT : s.TypeIs (.ref e) "enumerate" := ⟨_, he, rfl⟩
    unfold pyNext
    refine wpAny_bind (wpAny_attempt (wpAny_callSpecial?_slot (name := Str.ofString "__next__") hT F.slot_enumerate_next
      (wpAny_call_entry F.slot_enumerate_next hT F.entry_enumerate_next ?_ (F.args_enumerate_next_1 _))))
    show wpAny _ _ (field (.ref e) 2 >>= _) _ _ _
    refine wpAny_bind (wpAny_field he rfl (x := .ref it) rfl ?_)
    refine wpAny_bind (wpAny_nextOf_tuple_end hh hit pT (by simp; omega) fun h' x he' hx' => ?_)
    obtain ⟨o, ho, hc'⟩ := hx'
    refine wpAny_bind (wpAny_isInstance (T := "StopIteration") (b := true) ⟨o, ho, hc'⟩ isSubtype_stop ?_)
    exact wpAny_pure ⟨rfl, I.turned (t' := s.toks) (fun b o hb q => he' b o hb q) f0 f1 f3 f4 f5⟩
  self := fun A i s Q E st h => let ⟨⟨_, he⟩, _⟩ := st; wpAny_pyIter_enum he h
/-- for i, x in enumerate(e), e a list or a tuple -/
def iEnS (K : PySem.W.Frag) (ta : TA) : TI := fun σ H R => ta σ H fun vs H1 => ∃ a xs, vs = [.ref a] ∧ ((SqL K H1 a xs ∧ R (ItE xs fun H => SqL K H a xs) H1) ∨ (SqT K H1 a xs ∧ R (ItE xs fun H => SqT K H a xs) H1))
theorem pi_enS {X : Cx} {e : Expr} {ta : TA} {p pos tpos : Pos} {elts : List Expr} {kk : Nat} (hm : X.mg "enumerate" = none) (ha : PA X [e] ta) (hg : Gl X "enumerate" := by rfl) (hs : starEach [e] X.env = [(false, eval e X.env)] := by rfl) :
    PI X (.Tuple elts kk tpos) (.Call (.Name "enumerate" p) [e] [] pos) (iEnS X.K ta) := by
  refine ⟨fun pins s σ H R I h => ?_⟩
  refine Call_ (ld_blt I hg hm boot_enumerate (PyProof.Rows.callWith_type1 (thn (ha.run pos pins s σ H _ I h) fun us s1 ⟨vs, H1, I1, r1, q1⟩ => ?_) hs rfl))
  obtain ⟨a, xs, ex, hq⟩ := q1
  subst ex
  cases r1 with
  | cons r rr =>
    cases rr
    cases r
    have fp : ∀ b ∈ [s1.heap.objs.size + 1, s1.heap.objs.size], FpOk X pins H1 b := fun b hb => by
      have e' : b = s1.heap.objs.size + 1 ∨ b = s1.heap.objs.size := by simpa using hb
      have hle : s1.heap.objs.size ≤ b := by
        rcases e' with z | z
        · rw [z]; exact Nat.le_add_right _ _
        · rw [z]; exact Nat.le_refl _
      exact I1.fpOk hle (I1.hok.fresh hle)
    rcases hq with ⟨hq, q⟩ | ⟨hq, q⟩
    · obtain ⟨its, rv, p', hz⟩ := I1.list hq
      refine call_enumerate_list p'.isList fun h' he hit hsz hk => wpAny_pyIter_enum he ?_
      have I2 : Inv X pins σ H1 { s1 with heap := h' } := I1.kept (t' := s1.toks) hk
      refine ⟨s1.heap.objs.size + 1, [s1.heap.objs.size + 1, s1.heap.objs.size], _, _, H1, rfl, I2, (turn_enum a (s1.heap.objs.size + 1) s1.heap.objs.size).imp (fun i H z => ?_) (fun i H z => ?_) (fun i H x H' z y => ?_), ⟨⟨.none, he⟩, hit, Nat.succ_ne_self _⟩, fp, q⟩
      · obtain ⟨y, e⟩ := getI z.2
        exact ⟨xs, y, z.1, e⟩
      · exact ⟨xs, z.1, z.2⟩
      · obtain ⟨T, x1, e1, e2, e3, e4⟩ := y
        exact ⟨T, x1, e1, e2, e3, e4 xs z.1⟩
    · obtain ⟨its, rv, p', hz⟩ := I1.tuple hq
      have pT : s1.heap.IsTuple a its.toArray := p'
      refine enum1 (begins_tuple a its.toArray) pT fun h' he hit hsz hk => wpAny_pyIter_enum he ?_
      have I2 : Inv X pins σ H1 { s1 with heap := h' } := I1.kept (t' := s1.toks) hk
      exact ⟨s1.heap.objs.size + 1, [s1.heap.objs.size + 1, s1.heap.objs.size], _, _, H1, rfl, I2, turn_enumT a (s1.heap.objs.size + 1) s1.heap.objs.size xs, ⟨⟨.none, he⟩, ⟨_, hit, rfl, rfl⟩, Nat.succ_ne_self _⟩, fp, q⟩
/-! ### loops by what holds ahead of the i-th turn -/
theorem for_S {xs : List V} {Z : Hp → Prop} {g : TG} {tb : TS} {D : Ends} {σ : St} {H : Hp} (Pv : Nat → St → Hp → Prop) (h0 : Pv 0 σ H) (hl : ∀ i σ H, i ≤ xs.length → Pv i σ H → Z H)
    (hs : ∀ i x σ H, xs[i]? = some x → Pv i σ H → g x σ H fun σ2 H2 => tb { D with nx := Pv (i + 1), ct := Pv (i + 1), bk := D.nx } σ2 H2) (hd : ∀ σ H, Pv xs.length σ H → D.nx σ H) :
    ∃ W : Nat → Nat → St → Hp → Prop, (∃ m, W 0 m σ H) ∧ ∀ i m σ H, W i m σ H →
      ((ItS xs Z).stop i H ∧ D.nx σ H) ∨ ((ItS xs Z).go i H ∧ ∃ N : St → Hp → Prop, (∀ σ' H', N σ' H' → ∃ m', m' < m ∧ W (i + 1) m' σ' H') ∧ ∀ x H', (ItS xs Z).yld i H x H' → g x σ H' fun σ2 H2 => tb { D with nx := N, ct := N, bk := D.nx } σ2 H2) := by
  refine ⟨fun i m σ H => m = xs.length - i ∧ i ≤ xs.length ∧ Pv i σ H, ⟨xs.length, by simp, Nat.zero_le _, h0⟩, ?_⟩
  rintro i m σ H ⟨rfl, hi, p⟩
  have q := hl i σ H hi p
  by_cases hlt : i < xs.length
  · refine .inr ⟨⟨q, hlt⟩, Pv (i + 1), fun σ' H' p' => ⟨xs.length - (i + 1), by omega, rfl, hlt, p'⟩, fun x H' y => ?_⟩
    obtain ⟨e, y⟩ := y
    subst e
    exact hs i x σ _ y p
  · have e : i = xs.length := by omega
    subst e
    exact .inl ⟨⟨q, Nat.le_refl _⟩, hd σ H p⟩
theorem for_E {xs : List V} {Z : Hp → Prop} {g : TG} {tb : TS} {D : Ends} {σ : St} {H : Hp} (Pv : Nat → St → Hp → Prop) (h0 : Pv 0 σ H) (hl : ∀ i σ H, i ≤ xs.length → Pv i σ H → Z H)
    (hs : ∀ i x σ H T, xs[i]? = some x → Pv i σ H → H T = none → g (.ref T) σ (upd H T (.tup [.int (i : Nat), x])) fun σ2 H2 => tb { D with nx := Pv (i + 1), ct := Pv (i + 1), bk := D.nx } σ2 H2) (hd : ∀ σ H, Pv xs.length σ H → D.nx σ H) :
    ∃ W : Nat → Nat → St → Hp → Prop, (∃ m, W 0 m σ H) ∧ ∀ i m σ H, W i m σ H →
      ((ItE xs Z).stop i H ∧ D.nx σ H) ∨ ((ItE xs Z).go i H ∧ ∃ N : St → Hp → Prop, (∀ σ' H', N σ' H' → ∃ m', m' < m ∧ W (i + 1) m' σ' H') ∧ ∀ x H', (ItE xs Z).yld i H x H' → g x σ H' fun σ2 H2 => tb { D with nx := N, ct := N, bk := D.nx } σ2 H2) := by
  refine ⟨fun i m σ H => m = xs.length - i ∧ i ≤ xs.length ∧ Pv i σ H, ⟨xs.length, by simp, Nat.zero_le _, h0⟩, ?_⟩
  rintro i m σ H ⟨rfl, hi, p⟩
  have q := hl i σ H hi p
  by_cases hlt : i < xs.length
  · refine .inr ⟨⟨q, hlt⟩, Pv (i + 1), fun σ' H' p' => ⟨xs.length - (i + 1), by omega, rfl, hlt, p'⟩, fun x H' y => ?_⟩
    obtain ⟨T, x1, e1, e2, e3, e4⟩ := y
    subst e1
    subst e3
    exact hs i x1 σ _ T e4 p e2
  · have e : i = xs.length := by omega
    subst e
    exact .inl ⟨⟨q, Nat.le_refl _⟩, hd σ H p⟩
/-- a list comprehension over such -/
theorem lc_S {xs : List V} {Z : Hp → Prop} {g : TG} {tt : TT} {te : TE} {vs : List Nat} {σ : St} {H1 : Hp} {D : Addr} {Qd : Hp → Prop} (Pv : Nat → Hp → Prop) (h0 : Pv 0 (upd H1 D (.lst []))) (hl : ∀ i H, i ≤ xs.length → Pv i H → Z H)
    (hs : ∀ i x H, xs[i]? = some x → Pv i H → g x (wipe σ vs) H fun σ2 H2 => wipe σ2 vs = wipe σ vs ∧ tt σ2 H2 fun b H3 =>
      if b = true then te σ2 H3 fun y H4 => ∃ acc, H4 D = some (.lst acc) ∧ acc.length < sizeLine ∧ Pv (i + 1) (upd H4 D (.lst (acc ++ [y]))) else Pv (i + 1) H3) (hd : ∀ H, Pv xs.length H → Qd H) :
    ∃ W : Nat → Nat → Hp → Prop, (∃ m, W 0 m (upd H1 D (.lst []))) ∧ ∀ i m H, W i m H →
      ((ItS xs Z).stop i H ∧ Qd H) ∨ ((ItS xs Z).go i H ∧ ∃ Nx : Hp → Prop, (∀ H', Nx H' → ∃ m', m' < m ∧ W (i + 1) m' H') ∧ ∀ x H', (ItS xs Z).yld i H x H' → g x (wipe σ vs) H' fun σ2 H2 => wipe σ2 vs = wipe σ vs ∧ tt σ2 H2 fun b H3 =>
        if b = true then te σ2 H3 fun y H4 => ∃ acc, H4 D = some (.lst acc) ∧ acc.length < sizeLine ∧ Nx (upd H4 D (.lst (acc ++ [y]))) else Nx H3) := by
  refine ⟨fun i m H => m = xs.length - i ∧ i ≤ xs.length ∧ Pv i H, ⟨xs.length, by simp, Nat.zero_le _, h0⟩, ?_⟩
  rintro i m H ⟨rfl, hi, p⟩
  have q := hl i H hi p
  by_cases hlt : i < xs.length
  · refine .inr ⟨⟨q, hlt⟩, Pv (i + 1), fun H' p' => ⟨xs.length - (i + 1), by omega, rfl, hlt, p'⟩, fun x H' y => ?_⟩
    obtain ⟨e, y⟩ := y
    subst e
    exact hs i x _ y p
  · have e : i = xs.length := by omega
    subst e
    exact .inl ⟨⟨q, Nat.le_refl _⟩, hd H p⟩
end L2
set_option Elab.async false
set_option linter.all false
set_option maxRecDepth 100000
set_option maxHeartbeats 4000000
/-! HKDict: dict comprehensions whose keys are tuples; d.update(d2); list(d.values()). -/
namespace L2
open PySem PySem.Spec PyProof.Rows
theorem d_dictSetT {X : Cx} {pins : List (Addr × Obj)} {σ : St} {H : Hp} {s : Shared} {E : Value → Shared → Prop} {D b : Addr} {kvs : List (List Key × V)} {k : List Key} {v : V} {u r : Value} {Q : Unit → Shared → Prop} (hu : X.A.units + 1 < cLine) (I : Inv X pins σ H s) (hD : H D = some (.dT kvs)) (hz : kvs.length < sizeLine)
    (eb : H b = some (.tup (k.map kV))) (ry : RelV (.ref b) u) (rv : RelV v r) (h : ∀ s', Inv X pins σ (upd H D (.dT (putK kvs k v))) s' → Q () s') : wpAny (model X.prog X.w) X.A (dictSet D u r) Q E s := by
  cases (show u = Value.ref b from ry)
  obtain ⟨z, hd, xs, rel, dd⟩ := dt_of I.hok hD
  have hzv : xs.length ≤ sizeLine := by rw [← Paired.length rel]; exact z
  have hl : (putK kvs k v).length ≤ sizeLine := by have := length_putK kvs k v; omega
  refine wpAny_dictSet_heap (hsz := hzv) (show X.A.units < cLine by omega) (key_of I.hok eb) dd fun h' dd' hs => h _ ?_
  obtain ⟨q, es, ep, hq, h2, h3, h4, _, h5⟩ := dd'
  refine d_write I (by rw [hD]; exact True.intro) hs ⟨q, hq⟩ ⟨hl, hd, _, (rel.put k eb rv).keeps fun c ys ec => ?_, q, es, ep, hq, h2, h3, h4, h5⟩
  rw [upd_ne (ne_of ec hD (fun z => nomatch z))]
  exact ec
section
variable {X : Cx}
def tDcT (wi : TI) (g : TG) (tt : TT) (tk tv : TE) (vs : List Nat) : TE := fun σ H Q => wi σ H fun J H1 => ∀ D, H1 D = none → ∃ W : Nat → Nat → Hp → Prop, (∃ m, W 0 m (upd H1 D (.dT []))) ∧ ∀ i m H, W i m H →
  (J.stop i H ∧ Q (.ref D) H) ∨ (J.go i H ∧ ∃ Nx : Hp → Prop, (∀ H', Nx H' → ∃ m', m' < m ∧ W (i + 1) m' H') ∧ ∀ x H', J.yld i H x H' → g x (wipe σ vs) H' fun σ2 H2 => wipe σ2 vs = wipe σ vs ∧ tt σ2 H2 fun b H3 =>
    if b = true then tk σ2 H3 fun y H4 => tv σ2 H4 fun z H5 => ∃ (kvs : List (List Key × V)) (k : List Key) (b : Addr), y = .ref b ∧ H5 b = some (.tup (k.map kV)) ∧ H5 D = some (.dT kvs) ∧ kvs.length < sizeLine ∧ Nx (upd H5 D (.dT (putK kvs k z))) else Nx H3)
theorem dcT_core {pins : List (Addr × Obj)} {s : Shared} {σ : St} {H : Hp} {Q : VK} {kx vx tg iter : Expr} {ifs : List Expr} {scope : Scope} {own : List (Str × Nat)} {pos pos' : Pos} {wi : TI} {g : TG} {tt : TT} {tk tv : TE} {use : Option (Value → Sem Unit)} {Qf : Value → Shared → Prop}
    (hu : X.A.units + 1 < cLine) (hc : X.calm = true) (hN : X.N.Nodup) (I : Inv X pins σ H s) (hi : PI X tg iter wi) (ok : BlkOk X.N X.env.scope scope own)
    (hg : ∀ (s : Shared) (H : Hp) (C : Addr) (cl : List (Str × Addr)) (fp : List Addr), PG (X.blk s H scope (compEnvC scope cl C X.env) fp) tg g) (ht : ∀ (s : Shared) (H : Hp) (C : Addr) (cl : List (Str × Addr)) (fp : List Addr), PTs (X.blk s H scope (compEnvC scope cl C X.env) fp) ifs tt)
    (hk : ∀ (s : Shared) (H : Hp) (C : Addr) (cl : List (Str × Addr)) (fp : List Addr), PE (X.blk s H scope (compEnvC scope cl C X.env) fp) kx tk)
    (he : ∀ (s : Shared) (H : Hp) (C : Addr) (cl : List (Str × Addr)) (fp : List Addr), PE (X.blk s H scope (compEnvC scope cl C X.env) fp) vx tv) (hs : ∀ x, foldedSetIterable iter X.env x = pure x)
    (h : tDcT wi g tt tk tv (own.map (·.2)) σ H Q)
    (hRR : ∀ D C s' m H', Inv X pins σ H' s' → Q (.ref D) H' → s'.heap.Ns C m → FpOk X pins H' C → compPost (model X.prog X.w) X.A X.xe use Qf (.ref D) C (.ok .next) s') :
    wpAny (model X.prog X.w) X.A (comprehension (.DictComp kx vx [⟨tg, iter, ifs, 0⟩] scope pos) scope X.env pos' newDict false (eval iter X.env) use) Qf X.xe s := by
  have hfree : ∀ y ∈ scope.names, y.2 = .free → ∃ c, X.env.cells.lookup y.1 = some c := fun y hy e => by
    rcases ok.free y hy e with k | k
    · exact I.ok.has _ (.inl k)
    · exact I.ok.has _ (.inr k)
  refine wpAny_comprehension_free (use := use) rfl hs (closure_ok hfree) ok.kind (fun y hy e => by rw [ok.uniq y hy, e])
    (thn (hi.run pins s σ H _ I h) fun xv s1 hx => thn hx fun itv s2 h2 => ?_)
  obtain ⟨it, fp, tn, J, H2, e, I2, T, st2, f2, q⟩ := h2
  subst e
  refine wpAny_newObj_type (newEnv_comp ?_)
  generalize hD : s2.heap.objs.size = D
  have hDn : H2 D = none := I2.hok.fresh (Nat.le_of_eq hD)
  obtain ⟨W, ⟨m0, w0⟩, turn⟩ := q D hDn
  -- the new list
  generalize hs3 : ({ s2 with heap := s2.heap.push { cls := .type "dict", data := .dict #[] } } : Shared) = s3
  have I3 : Inv X pins σ (upd H2 D (.dT [])) s3 := by
    rw [← hs3]
    refine I2.laid (t' := s2.toks) (fun b o e => Heap.get?_push_of_some _ e) (Nat.le_of_eq hD) ?_
    rw [← hD]
    exact dt_empty s2.heap I2.big
  have h3 : s3.heap = s2.heap.push { cls := .type "dict", data := .dict #[] } := by rw [← hs3]
  have sz : ∀ b ∈ fp, b < s2.heap.objs.size := fun b hb => by
    obtain ⟨o, e, _⟩ := T.obj _ _ st2 b hb
    exact Heap.lt_size e
  have f3 : ∀ b ∈ fp, FpOk X pins (upd H2 D (.dT [])) b ∧ b < s3.heap.objs.size := fun b hb => by
    have hlt := sz b hb
    refine ⟨⟨?_, (f2 b hb).2⟩, by rw [h3, Heap.size_push]; exact Nat.lt_succ_of_lt hlt⟩
    rw [upd_ne (by rw [← hD]; exact Nat.ne_of_lt hlt)]
    exact (f2 b hb).1
  have st3 : tn 0 s3.heap := T.keep _ _ _ st2 fun b _ o e => by rw [h3]; exact Heap.get?_push_of_some _ e
  have I4 := block_start I3 ok hN f3
  have pg := hg s3 (upd H2 D (.dT [])) s3.heap.objs.size (cellsFrom (s3.heap.objs.size + 1) scope.names (cloFrom X.env.cells scope.names [])) fp
  have pt := ht s3 (upd H2 D (.dT [])) s3.heap.objs.size (cellsFrom (s3.heap.objs.size + 1) scope.names (cloFrom X.env.cells scope.names [])) fp
  have pk := hk s3 (upd H2 D (.dT [])) s3.heap.objs.size (cellsFrom (s3.heap.objs.size + 1) scope.names (cloFrom X.env.cells scope.names [])) fp
  have pe := he s3 (upd H2 D (.dT [])) s3.heap.objs.size (cellsFrom (s3.heap.objs.size + 1) scope.names (cloFrom X.env.cells scope.names [])) fp
  show codeAny _ _ (.compStart (.DictComp kx vx [⟨tg, iter, ifs, 0⟩] scope pos) 0 (.ref it) (.ref D) (compEnvC scope (cellsFrom (s3.heap.objs.size + 1) scope.names (cloFrom X.env.cells scope.names [])) s3.heap.objs.size X.env)) (compPost (model X.prog X.w) X.A X.xe use Qf (.ref D) s3.heap.objs.size) { s3 with heap := pushCells (s3.heap.push { cls := .type "dict", data := .dict #[] }) scope.names }
  have nfp : ∀ b ∈ fp, (upd H2 D (.dT [])) b = none := fun b hb => (f3 b hb).1.1
  generalize hce : compEnvC scope (cellsFrom (s3.heap.objs.size + 1) scope.names (cloFrom X.env.cells scope.names [])) s3.heap.objs.size X.env = ce at I4 pg pt pk pe ⊢
  have cL : ce.locals = s3.heap.objs.size := by subst hce; rfl
  generalize hH3 : upd H2 D (.dT []) = H3 at I3 I4 pg pt pk pe w0 nfp f3
  generalize hs4 : ({ s3 with heap := pushCells (s3.heap.push { cls := .type "dict", data := .dict #[] }) scope.names } : Shared) = s4 at I4 ⊢
  have st4 : tn 0 s4.heap := T.keep _ _ _ st3 fun b _ o e => by rw [← hs4]; exact pushCells_keeps _ _ _ _ (Heap.get?_push_of_some _ e)
  have stat : ∀ {σ' : St} {H' : Hp} {s' : Shared}, Inv (X.blk s3 H3 scope ce fp) [] σ' H' s' → (∀ b ∈ fp, H' b = none) → ∀ b ∈ fp, FpOk (X.blk s3 H3 scope ce fp) [] H' b := fun {σ' H' s'} I' hn b hb =>
    ⟨hn b hb, (I'.ok.exf b hb).1, I'.ok.exfs b hb, .inl hb, fun x c e => (I'.ok.exf b hb).2 x c e, fun p hp => absurd (show p ∈ ([] : List (Addr × Obj)) ++ [] from hp) (by simp)⟩
  have loop : codeAny (model X.prog X.w) X.A (.compLoop (.DictComp kx vx [⟨tg, iter, ifs, 0⟩] scope pos) 0 (.ref it) (.ref D) ce) (compPost (model X.prog X.w) X.A X.xe use Qf (.ref D) s3.heap.objs.size) s4 := by
    refine compLoop_anyD (fun n s' => ∃ i H', Inv (X.blk s3 H3 scope ce fp) [] (wipe σ (own.map (·.2))) H' s' ∧ tn i s'.heap ∧ (∀ b ∈ fp, H' b = none) ∧ W i n H') ?_ m0 ⟨0, H3, I4, st4, nfp, w0⟩
    rintro n s5 ⟨i, H5, I5, st5, n5, w5⟩
    rcases turn i n H5 w5 with ⟨stop, qq⟩ | ⟨go, Nx, hNx, step⟩
    · have td := T.done (X.blk s3 H3 scope ce fp) rfl rfl rfl hc i [] s5 _ H5 (fun _ _ => False) I5 (stat I5 n5) st5 stop
      refine thnF td fun r s6 ⟨hr, I6⟩ => ?_
      subst hr
      -- back in the def's context
      have I7 : Inv X pins σ H5 s6 := I3.call' (ch := fp) I6.os I6.base I6.hok I6.bare fun b hb => ⟨(f3 b hb).1.2.2.2.1, (f3 b hb).1.2.1, (f3 b hb).1.2.2.2.2.1, (f3 b hb).1.2.2.2.2.2⟩
      have nC : H5 s3.heap.objs.size = none := by
        have z : H5 ce.locals = none := I6.free
        rw [cL] at z
        exact z
      obtain ⟨m, hn, _⟩ := I6.loc
      have hn : s6.heap.Ns ce.locals m := hn
      rw [cL] at hn
      exact hRR D s3.heap.objs.size s6 m H5 I7 qq hn (I3.fpOk (Nat.le_refl _) nC)
    · have ti := T.item (X.blk s3 H3 scope ce fp) rfl rfl rfl hc i [] s5 _ H5 (fun _ _ => False) I5 (stat I5 n5) st5 go
      refine thnF ti fun r s6 ⟨u, hr, h6⟩ => ?_
      subst hr
      refine thnF h6 fun _ s7 ⟨x, H7, I7, r7, y7, st7, n7⟩ => ?_
      have I7' := I7.pinned (stat I7 n7) (T.obj _ _ st7)
      refine thnF (pg.run _ s7 _ H7 x u _ I7' r7 (step x H7 y7)) fun _ s8 ⟨σ8, H8, I8, hw8, q8⟩ => ?_
      refine thnF (pt.run _ s8 σ8 H8 _ I8 q8) fun b s9 ⟨H9, I9, q9⟩ => ?_
      -- the turn's end
      have fin : ∀ {s' : Shared} {H' : Hp}, Inv (X.blk s3 H3 scope ce fp) ([] ++ pinsAt fp s7.heap) σ8 H' s' → Nx H' → ∃ m, m < n ∧ ∃ i H', Inv (X.blk s3 H3 scope ce fp) [] (wipe σ (own.map (·.2))) H' s' ∧ tn i s'.heap ∧ (∀ b ∈ fp, H' b = none) ∧ W i m H' := fun {s' H'} I' nx => by
        obtain ⟨m', hm, w'⟩ := hNx H' nx
        have pin' : ∀ b ∈ fp, ∀ o, s7.heap.get? b = some o → s'.heap.get? b = some o ∧ H' b = none := fun b hb o e =>
          let z := I'.pin (b, o) (List.mem_append_right _ (List.mem_append_right _ (mem_pinsAt hb e)))
          ⟨z.1, z.2.1⟩
        have hl : (wipe σ (own.map (·.2))).length = σ8.length := by rw [← hw8, wipe_length]
        refine ⟨m', hm, i + 1, H', (I'.unpinned (pins := [])).weak hl (fun j v e => ?_), T.keep _ _ _ st7 fun b hb o e => (pin' b hb o e).1, fun b hb => ?_, w'⟩
        · rw [← hw8] at e
          exact (wipe_some e).1
        · obtain ⟨o, e, _⟩ := T.obj _ _ st7 b hb
          exact (pin' b hb o e).2
      cases b with
      | false =>
        simp only [Bool.false_eq_true, if_false] at q9 ⊢
        exact fin I9 q9
      | true =>
        simp only [if_true] at q9 ⊢
        refine thnF (pk.run _ s9 σ8 H9 _ I9 q9) fun z s10 ⟨yk, H10, I10, r10, q10⟩ => ?_
        refine thnF (pe.run _ s10 σ8 H10 _ I10 q10) fun z2 s11 ⟨yv, H11, I11, r11, kvs, k, kb, ek, hkb, hD11, hz11, nx⟩ => ?_
        subst ek
        exact d_dictSetT (X := X.blk s3 H3 scope ce fp) hu I11 hD11 hz11 hkb r10 r11 fun s12 I12 => fin I12 nx
  exact codeAny_compStart_dict loop (T.self X.A 0 _ _ _ st4 loop)
/-- as a value -/
theorem pe_dcT {kx vx tg iter : Expr} {ifs : List Expr} {scope : Scope} {own : List (Str × Nat)} {pos : Pos} {wi : TI} {g : TG} {tt : TT} {tk tv : TE} (hu : X.A.units + 1 < cLine) (hc : X.calm = true) (hN : X.N.Nodup) (hi : PI X tg iter wi) (ok : BlkOk X.N X.env.scope scope own)
    (hg : ∀ (s : Shared) (H : Hp) (C : Addr) (cl : List (Str × Addr)) (fp : List Addr), PG (X.blk s H scope (compEnvC scope cl C X.env) fp) tg g) (ht : ∀ (s : Shared) (H : Hp) (C : Addr) (cl : List (Str × Addr)) (fp : List Addr), PTs (X.blk s H scope (compEnvC scope cl C X.env) fp) ifs tt)
    (hk : ∀ (s : Shared) (H : Hp) (C : Addr) (cl : List (Str × Addr)) (fp : List Addr), PE (X.blk s H scope (compEnvC scope cl C X.env) fp) kx tk)
    (he : ∀ (s : Shared) (H : Hp) (C : Addr) (cl : List (Str × Addr)) (fp : List Addr), PE (X.blk s H scope (compEnvC scope cl C X.env) fp) vx tv) (hs : ∀ x, foldedSetIterable iter X.env x = pure x := by intro _; rfl) :
    PE X (.DictComp kx vx [⟨tg, iter, ifs, 0⟩] scope pos) (tDcT wi g tt tk tv (own.map (·.2))) := by
  refine ⟨fun pins s σ H Q I h => ?_⟩
  rw [arm_eval_DictComp]
  refine dcT_core hu hc hN I hi ok hg ht hk he hs h fun D C s' m H' I' q hn f => ⟨m, hn, fun h'' sb => ?_⟩
  obtain ⟨f0, f1, f2, f3, f4, f5⟩ := f
  exact ⟨.ref D, H', I'.turned (t' := s'.toks) (fun b o hb e => (sb.2 b hb).trans e) f0 f1 f3 f4 f5, rfl, q⟩
end

/-! ### d.update(d2) -/
def mergeT (kvs more : List (List Key × V)) : List (List Key × V) := more.foldl (fun acc kv => putK acc kv.1 kv.2) kvs
theorem length_mergeT : ∀ (more kvs : List (List Key × V)), (mergeT kvs more).length ≤ kvs.length + more.length
  | [], kvs => Nat.le_refl _
  | p :: r, kvs => by
    have h1 := length_mergeT r (putK kvs p.1 p.2)
    have h2 := length_putK kvs p.1 p.2
    show (mergeT (putK kvs p.1 p.2) r).length ≤ kvs.length + (r.length + 1)
    omega
theorem KT.merge {H : Hp} : ∀ {more : List (List Key × V)} {rs : List (List Key × Addr × Value)} {kvs : List (List Key × V)} {vs : List (List Key × Addr × Value)}, KT H more rs → KT H kvs vs → KT H (mergeT kvs more) (storedAllH vs rs) := by
  intro more rs kvs vs r
  unfold KT at r
  induction r generalizing kvs vs with
  | nil => intro q; exact q
  | @cons p q ps qs h t ih =>
    intro z
    obtain ⟨h1, h2, h3⟩ := h
    show KT H (mergeT (putK kvs p.1 p.2) ps) (storedAllH (storedH vs q.1 q.2.1 q.2.2) qs)
    rw [← h1]
    exact ih (z.put p.1 h2 h3)
theorem KT.hash {H : Hp} {f : List Key → Int} {kvs : List (List Key × V)} {xs : List (List Key × Addr × Value)} (r : KT H kvs xs) : (xs.map fun x => f x.1) = kvs.map fun p => f p.1 := by
  unfold KT at r
  induction r with
  | nil => rfl
  | @cons p q ps qs h t ih => rw [List.map_cons, List.map_cons, ih, h.1]
theorem KT.tups {H : Hp} {kvs : List (List Key × V)} {xs : List (List Key × Addr × Value)} (r : KT H kvs xs) : ∀ x ∈ xs, ∃ ys, H x.2.1 = some (.tup ys) := by
  unfold KT at r
  induction r with
  | nil => intro x hx; cases hx
  | @cons p q ps qs h t ih =>
    intro x hx
    rcases List.mem_cons.mp hx with e | hx
    · rw [e]
      exact ⟨_, h.2.1⟩
    · exact ih x hx
def rUpdT (P : Program) (w : World) : V → List V → Hp → VK → Prop := fun x xs H Q => ∃ (a o : Addr) (kvs more : List (List Key × V)), x = .ref a ∧ xs = [.ref o] ∧ H a = some (.dT kvs) ∧ H o = some (.dT more) ∧ a ≠ o ∧
  (kvs ≠ [] ∨ (more.map fun p => tupleKeyHash (mixKind P w) p.1).Nodup) ∧ kvs.length + more.length ≤ sizeLine ∧ Q .non (upd H a (.dT (mergeT kvs more)))
def rUpdK : V → List V → Hp → VK → Prop := fun x xs H Q => ∃ (a o : Addr) (kvs more : List (Key × V)), x = .ref a ∧ xs = [.ref o] ∧ H a = some (.dK kvs) ∧ H o = some (.dK more) ∧ a ≠ o ∧ kvs.length + more.length ≤ sizeLine ∧ Q .non (upd H a (.dK (mergeK kvs more)))
section
variable {X : Cx}
theorem mt_updT (hu : X.A.units + 1 < cLine) : MtR X "dict.update" (rUpdT X.prog X.w) := by
  intro pins s σ H x xs v us Q I rx rxs h
  obtain ⟨a, o, kvs, more, rfl, rfl, ha, ho, hne, hap, hsz, q⟩ := h
  cases rx
  obtain ⟨u1, rfl, r1⟩ := Vals.one rxs
  cases r1
  obtain ⟨z, hd, x1, rel, dd⟩ := dt_of I.hok ha
  obtain ⟨z2, hd2, x2, rel2, dd2⟩ := dt_of I.hok ho
  have l1 : kvs.length = x1.length := Paired.length rel
  have l2 : more.length = x2.length := Paired.length rel2
  have hap' : x1 ≠ [] ∨ ((∀ x ∈ x2, s.TypeIs (.ref x.2.1) "tuple") ∧ (x2.map fun x => (tupleKind (mixKind X.prog X.w)).hash x.1).Nodup) := by
    rcases hap with h | h
    · refine .inl fun e => h ?_
      rw [e] at l1
      exact List.length_eq_zero_iff.mp l1
    · refine .inr ⟨fun x hx => ?_, ?_⟩
      · obtain ⟨ys, hy⟩ := rel2.tups x hx
        obtain ⟨_, its, r, ob, h1, h2, _⟩ := (show ObjOk X.prog X.w H s.heap x.2.1 (.tup ys) from I.hok _ _ hy)
        exact ⟨ob, h1, h2⟩
      · have e : (x2.map fun x => (tupleKind (mixKind X.prog X.w)).hash x.1) = more.map fun p => tupleKeyHash (mixKind X.prog X.w) p.1 := rel2.hash (f := fun k => tupleKeyHash (mixKind X.prog X.w) k)
        rw [e]
        exact h
  refine call_update_dictH (knd := tupleKind (mixKind X.prog X.w)) (tupleKind_room_in1 hu) hne hd2 dd dd2 hap' (by omega) fun h' dd' _ hs => ?_
  obtain ⟨ob, es, ep, hq, h2, h3, h4, _, h5⟩ := dd'
  have I2 : Inv X pins σ (upd H a (.dT (mergeT kvs more))) { s with heap := h', toks := s.toks } :=
    d_write I (by rw [ha]; exact True.intro) hs ⟨ob, hq⟩ ⟨Nat.le_trans (length_mergeT more kvs) hsz, hd, _, (rel2.merge rel).keeps (fun c ys ec => (by rw [upd_ne (ne_of ec ha (fun z => nomatch z))]; exact ec)), ob, es, ep, hq, h2, h3, h4, h5⟩
  exact ⟨.non, _, I2, rfl, q⟩
theorem mt_updK : MtR X "dict.update" rUpdK := by
  intro pins s σ H x xs v us Q I rx rxs h
  obtain ⟨a, o, kvs, more, rfl, rfl, ha, ho, hne, hsz, q⟩ := h
  cases rx
  obtain ⟨u1, rfl, r1⟩ := Vals.one rxs
  cases r1
  obtain ⟨z, hd, x1, rel, dd⟩ := dk_of I.hok ha
  obtain ⟨z2, hd2, x2, rel2, dd2⟩ := dk_of I.hok ho
  have l1 : kvs.length = x1.length := Paired.length rel
  have l2 : more.length = x2.length := Paired.length rel2
  refine call_meetsIn PySem.F.slot_dict_update dd.typeIs PySem.F.entry_dict_update (PySem.F.args_dict_update_2 _ _) (meets_dict_update (mixKind X.prog X.w) a o hne hd2) ⟨x1, x2, dd, dd2, by omega, fun h' dd' _ hs => ?_⟩
  have he : ∃ qq, h'.get? a = some qq := let ⟨qq, _, _, hq, _⟩ := dd'; ⟨qq, hq⟩
  have I2 : Inv X pins σ (upd H a (.dK (mergeK kvs more))) { s with heap := h', toks := s.toks } :=
    d_write I (by rw [ha]; exact True.intro) hs he (dk_new (Nat.le_trans (length_mergeK more kvs) hsz) hd (rel2.merge rel) dd')
  exact ⟨.non, _, I2, rfl, q⟩
end
end L2
set_option Elab.async false
set_option linter.all false
set_option maxRecDepth 100000
set_option maxHeartbeats 4000000
/-! HKSeq: sorted of a list or a tuple of ints; list(d.values()) of a dict whose keys are tuples. -/
namespace SrtO
open PySem PySem.Spec PyProof.Rows L2
section
variable {prog : Program} {w : World} {A : Around} {E : Value → Shared → Prop} {s : Shared}
theorem collect_tup {l : Addr} {vs : List Value} {Q : List Value → Shared → Prop} (hl : s.heap.IsTuple l vs.toArray)
    (h : Q vs { s with heap := (s.heap.push (seqObj "list" #[] 0)).update s.heap.objs.size (Obj.mapSeq (· ++ vs.toArray)) }) (hsz : vs.length ≤ sizeLine) :
    wpAny (model prog w) A (collect (.ref l)) Q E s := by
  obtain ⟨o, ho, hc, n, hd⟩ := id hl
  unfold collect
  refine wpAny_bind (wpAny_runValue (codeAny_builtin entry_proto_collect' ?_))
  show wpAny _ _ (do again (.builtin "list.__iadd__" ⟨[← newList [], .ref l], []⟩)) _ _ s
  refine wpAny_bind (wpAny_newList (wpAny_pure ⟨Code.quiet_builtin _ (by decide +kernel), codeAny_builtin entry_list_iadd' ?_⟩))
  show wpAny _ _ (Builtin.List.listExtendWith (.ref s.heap.objs.size) (.ref l) (.ref s.heap.objs.size)) _ _ { s with heap := s.heap.push (seqObj "list" #[] 0) }
  unfold Builtin.List.listExtendWith
  have ho' : (s.heap.push (seqObj "list" #[] 0)).get? l = some o := Heap.get?_push_of_some _ ho
  refine wpAny_bind (wpAny_typeOf (T := "tuple") ⟨o, ho', hc⟩ ?_)
  have ht : (Value.type "tuple" == Value.type "tuple") = true := by rfl
  rw [if_pos (by rw [ht]; simp)]
  refine wpAny_bind (listItems_at ho' hd ?_)
  refine wpAny_bind (listItems_at (xs := #[]) (n := 0) (Heap.get?_push_size _ rfl) rfl ?_)
  rw [if_neg (by simp)]
  refine wpAny_bind (listUpdate_at (xs := #[]) (n := 0) (Heap.get?_push_size _ rfl) rfl ?_ (Nat.zero_le _) (by show (#[] ++ vs.toArray).size ≤ sizeLine + 1; simp only [Array.size_append, List.size_toArray, List.length_nil]; omega))
  refine wpAny_pure ?_
  show wpAny (model prog w) A (do
      let o ← load s.heap.objs.size
      match o.data with
      | .seq xs _ => pure xs.toList
      | _ => unsupported "internal:collect") Q E { s with heap := (s.heap.push (seqObj "list" #[] 0)).update s.heap.objs.size (Obj.mapSeq (· ++ vs.toArray)) }
  refine wpAny_bind (wpAny_load (get?_update_seq (Heap.get?_push_size _ rfl) _) ?_)
  show wpAny _ _ (pure ((#[] : Array Value) ++ vs.toArray).toList) Q E _
  rw [show ((#[] : Array Value) ++ vs.toArray).toList = vs by simp]
  exact wpAny_pure h
theorem sorted_ordT {l : Addr} {vs : List Value} {ltv : Value → Value → Bool} {Q : Value → Shared → Prop} (O : Swo ltv) (hl : s.heap.IsTuple l vs.toArray) (hz : vs.length ≤ sizeLine)
    (hS : 2 ≤ vs.length → ∀ (h₁ : Heap) (a : Addr), h₁.get? a = some (seqObj "list" vs.toArray 0) → (∀ b o, s.heap.get? b = some o → b ≠ a ∧ h₁.get? b = some o) → SortableO prog w A.in1.in1 { s with heap := h₁ } a vs ltv)
    (h : ∀ out : List Value, Srtd ltv out → Stb ltv out vs → Q (.ref (s.heap.objs.size + 1)) { s with heap := sortedAll s.heap vs out.toArray }) :
    wpAny (model prog w) A (call (.builtin "sorted") [.ref l]) Q E s := by
  refine Calls.call_function_entry kind_sorted plain_sorted entry_sorted (args_sorted1 _) ?_
  unfold Builtin.«sorted»
  refine wpAny_bind (m := checkCount "sorted" 1 1 _) (wpAny_pure ?_)
  refine wpAny_bind (collect_tup hl ?_ hz)
  refine wpAny_bind (wpAny_newList ?_ hz)
  have hsz : ((s.heap.push (seqObj "list" #[] 0)).update s.heap.objs.size (Obj.mapSeq (· ++ vs.toArray))).objs.size = s.heap.objs.size + 1 := by
    rw [Heap.size_update, size_push']
  have hoL : (((s.heap.push (seqObj "list" #[] 0)).update s.heap.objs.size (Obj.mapSeq (· ++ vs.toArray))).push (seqObj "list" vs.toArray 0)).get? (s.heap.objs.size + 1) = some (seqObj "list" vs.toArray 0) := by
    rw [← hsz]; exact Heap.get?_push_size _ rfl
  have keep : ∀ b o, s.heap.get? b = some o → b ≠ s.heap.objs.size + 1 ∧ (((s.heap.push (seqObj "list" #[] 0)).update s.heap.objs.size (Obj.mapSeq (· ++ vs.toArray))).push (seqObj "list" vs.toArray 0)).get? b = some o := fun b o q => by
    have hlt : b < s.heap.objs.size := Heap.lt_size q
    refine ⟨Nat.ne_of_lt (Nat.lt_succ_of_lt hlt), Heap.get?_push_of_some _ ?_⟩
    rw [Heap.get?_update_ne _ _ _ _ (Nat.ne_of_lt hlt)]
    exact Heap.get?_push_of_some _ q
  show wpAny _ _ _ _ _ { s with heap := ((s.heap.push (seqObj "list" #[] 0)).update s.heap.objs.size (Obj.mapSeq (· ++ vs.toArray))).push (seqObj "list" vs.toArray 0) }
  rw [hsz]
  refine wpAny_bind (wpAny_holding (wpAny_call_entry slot_list_sort ⟨_, hoL, rfl⟩ entry_list_sort (list_sort_ord O hoL hz (fun h2 => hS h2 _ _ hoL keep) fun out hs hb => ⟨_, rfl, ?_⟩) (args_list_sort _)))
  exact wpAny_pure ⟨_, rfl, h out hs hb⟩
end
end SrtO
namespace L2
open PySem PySem.Spec PyProof.Rows
/-- sorted(xs), xs a list or a tuple of ints -/
def rSortedA (K : PySem.W.Frag) : List V → Hp → VK → Prop := fun vs H Q => ∃ (a : Addr) (ns : List Int), vs = [V.ref a] ∧ SqA K H a (ns.map V.int) ∧ ∀ (ns' : List Int) (p : Addr), ns'.Perm ns → ns'.Pairwise (· ≤ ·) → H p = none → Q (.ref p) (upd H p (.lst (ns'.map V.int)))
/-- list(d.values()) -/
def tListVals (te : TE) : TE := fun σ H Q => te σ H fun x H1 => ∃ (d : Addr) (kvs : List (List Key × V)), x = .ref d ∧ H1 d = some (.dT kvs) ∧ ∀ p, H1 p = none → Q (.ref p) (upd H1 p (.lst (kvs.map (·.2))))
section
variable {X : Cx}
theorem cr_sortedA : CallR X (.builtin "sorted") (rSortedA X.K) := by
  intro pins s σ H vs us Q I r h
  obtain ⟨a, ns, rfl, hs, q⟩ := h
  rcases hs with hs | hs
  · exact cr_sortedI pins s σ H _ us Q I r ⟨a, ns, rfl, hs, q⟩
  · obtain ⟨its, rv, hl, hz⟩ := I.tuple hs
    rw [Vals.ref1 r]
    have hi := rv.ints
    refine SrtO.sorted_ordT SrtO.swo_int (show s.heap.IsTuple a its.toArray from hl) (by rw [← rv.length]; exact hz) (fun h2 h₁ a' _ _ => SrtO.ints_sortable hi h2) fun out h1 h2 => ?_
    obtain ⟨k1, k2, k3⟩ := SrtO.ints_out hi h1 h2
    obtain ⟨ep, he'⟩ := PyProof.Rows.sortedAll_at s.heap its out.toArray
    have hlen : ((out.map SrtO.iv).map V.int).length ≤ sizeLine := by
      rw [List.length_map, k2.length_eq]
      rw [List.length_map] at hz
      exact hz
    exact ⟨.ref _, upd H (s.heap.objs.size + 1) (.lst ((out.map SrtO.iv).map V.int)), I.laid (t' := s.toks) (fun _ _ => PyProof.Rows.sortedAll_old) (Nat.le_succ _) ⟨hlen, out, ep, vals_of_ints k1, he'⟩, rfl, q _ _ k2 k3 (I.hok.fresh (Nat.le_succ _))⟩
theorem KT.vals {H : Hp} {knd : Nat} : ∀ {kvs : List (List Key × V)} {xs : List (List Key × Addr × Value)}, KT H kvs xs → Vals (kvs.map (·.2)) (xs.map (·.2.2)) := by
  intro kvs xs r
  unfold KT at r
  induction r with
  | nil => exact .nil
  | @cons p q ps qs h t ih => exact .cons h.2.2 ih
theorem pe_listVals {e : Expr} {te : TE} {p apos cpos pos : Pos} (hc : X.calm = true) (he : PE X e te) (hm : X.mg "list" = none) (hg : Gl X "list" := by rfl) (hv : bootBuiltins "list" = some (.type "list") := by decide +kernel) (hbase : attributeBase e "values" X.env (eval e X.env) = eval e X.env := by rfl) (hline : (apos.endLine == cpos.line) = true := by rfl)
    (hs : starEach [.Call (.Attribute e "values" apos) [] [] cpos] X.env = (false, eval (.Call (.Attribute e "values" apos) [] [] cpos) X.env) :: starEach [] X.env := by rfl) :
    PE X (.Call (.Name "list" p) [.Call (.Attribute e "values" apos) [] [] cpos] [] pos) (tListVals te) := by
  refine ⟨fun pins s σ H Q I hq => ?_⟩
  refine wpAny_Call_Name_kw (ld_blt I hg hm hv ?_)
  refine PyProof.Rows.callWith_type1 ?_ hs rfl
  rw [hs]
  show wpAny _ _ (spliced ((false, eval (.Call (.Attribute e "values" apos) [] [] cpos) X.env) :: backTo pos (starEach [] X.env))) _ _ s
  refine Calls.spliced_cons ?_
  refine wpAny_Call_method (T := "dict") (id := "dict.values") hbase rfl hline F.plainAttrs_dict F.slot_dict_values F.type_dict_values (thn (he.run pins s σ H _ I hq) fun u s1 ⟨x, H1, I1, rx, d, kvs, ex, hd, q⟩ => ?_)
  subst ex
  obtain rfl : u = Value.ref d := rx
  obtain ⟨hz, hs0, xs, kv, o, es, ep, h1, h2, h3, h4, h5⟩ := I1.hok d _ hd
  have raw : s1.heap.DictRaw d es ep := ⟨o, h1, h2, h3⟩
  have hlen : kvs.length = xs.length := Paired.length kv
  have hes : es.size = xs.length := by
    have z := congrArg List.length h4
    simpa using z
  have I2 : Inv X pins σ H1 { s1 with heap := s1.heap.push { cls := .type "dict_values", data := .fields #[.ref d] } } := I1.kept (t' := s1.toks) fun b ob q => Heap.get?_push_of_some _ q
  refine ⟨raw.typeIs, fun b eb => by cases eb; exact ⟨o, h1, by first | exact h2.2.1 | exact h2.2.2 | exact h2.2⟩, ?_⟩
  show wpAny _ _ (callWith cpos (.builtin "dict.values") [.ref d] [] []) _ X.xe s1
  refine method_meetsIn F.slot_dict_values F.entry_dict_values rfl (PySem.evalArgs_none ⟨rfl, raw.typeIs, F.args_dict_values_1 _, _, meets_dict_values_raw (prog := X.prog) (w := X.w) d hs0, ⟨es, ep, raw⟩, ?_⟩)
  refine Calls.spliced_nil ?_
  refine PySem.W.kdl_call (KdlSrc.rawValues (prog := X.prog) (w := X.w) (r := s1.heap.objs.size) (d := d) (es := es) (ep := ep)) (I1.ok.hd hc) ⟨⟨_, Heap.get?_push_size _ rfl, rfl, rfl⟩, raw.push _⟩ (by omega) fun h' tk acc c hk hS hacc => ?_
  have ev : acc.toList = xs.map (·.2.2) := by
    apply List.ext_getElem?
    intro i
    by_cases hi : i < es.size
    · have ha : i < acc.size := by rw [hacc.1]; exact hi
      obtain ⟨hi2, e2⟩ := hacc.2 i acc[i] (by simp [ha])
      have hx : i < xs.length := by omega
      have e3 : es.toList[i]? = (xs.map (entryOfKey (tupleKind (mixKind X.prog X.w))))[i]? := by rw [h4]
      rw [List.getElem?_map, List.getElem?_eq_getElem hx] at e3
      have e4 : es[i] = entryOfKey (tupleKind (mixKind X.prog X.w)) xs[i] := by
        have z : es.toList[i]? = some es[i] := by simp [hi]
        rw [z] at e3
        exact Option.some.inj e3
      rw [List.getElem?_map, List.getElem?_eq_getElem hx]
      have z : acc.toList[i]? = some acc[i] := by simp [ha]
      rw [z, e2, e4]
      rfl
    · have ha : acc.toList[i]? = none := by
        apply List.getElem?_eq_none
        have z := hacc.1
        simp
        omega
      rw [ha, List.getElem?_map, List.getElem?_eq_none (by omega)]
      rfl
  have new : ObjOk X.prog X.w (upd H1 (s1.heap.push { cls := .type "dict_values", data := .fields #[.ref d] }).objs.size (.lst (kvs.map (·.2)))) h' (s1.heap.push { cls := .type "dict_values", data := .fields #[.ref d] }).objs.size (.lst (kvs.map (·.2))) := by
    refine ⟨by rw [List.length_map]; exact hz, acc.toList, c, ?_, ?_⟩
    · rw [ev]
      exact KT.vals (knd := 0) (H := H1) kv
    · rw [Array.toArray_toList]
      exact hS
  exact ⟨.ref _, _, I2.laid (t' := tk) hk (Nat.le_refl _) new, rfl, q _ (I2.hok.fresh (Nat.le_refl _))⟩
end
end L2
set_option Elab.async false
set_option linter.all false
set_option maxRecDepth 100000
set_option maxHeartbeats 4000000
/-! HKEq: == and != of instances of a class with its own __eq__, both answers. -/
namespace L2
open PySem PySem.Spec PyProof.Rows
/-- the class's own __eq__ at f; no __ne__ of its own -/
structure EqC (K : PySem.W.Frag) (C f : Addr) : Prop where
  eq : PySem.W.findIn K (.ref C) "__eq__" = some (some (.ref f))
  ne : PySem.W.findIn K (.ref C) "__ne__" = some (some (.builtin "object.__ne__"))
  fn : PySem.W.isFn K (.ref f) = true
  ob : PySem.W.mroIn K C (.type "object") = some true
def rEqI (C : Addr) (sp : Sp) (g : Bool → Bool) : R2 := fun x y H Q => ∃ a b dx dy fs gs, x = .ref a ∧ y = .ref b ∧ H a = some (.ins C dx fs) ∧ H b = some (.ins C dy gs) ∧ sp [.ref a, .ref b] H (fun v H' => ∃ r, v = .bl r ∧ Q (.bl (g r)) H') (fun _ _ _ => False)
theorem ne_slot : Slot "object" "__ne__" "object.__ne__" := .of (owner := "object") (n := "__ne__") (by rw [typeLookup_type, builtinLookup_eq_fast]; kernel_rfl) (by decide +kernel) (by decide +kernel) (by decide +kernel)
    (by first | exact .inl (by decide +kernel) | exact .inr (by decide +kernel)) (by rw [isSubtype_type]; kernel_rfl)
section
variable {X : Cx} {CX : CXT} {C f : Addr} {fd : FuncData} {ps : List Str} {n : Nat} {sp : Sp}
theorem eqI_call (F : FnOk X.prog X.w X.K X.mg X.base CX n f fd ps sp) (hb : Binds X.K fd ps []) (hx : Passes CX X (fun _ _ _ => False)) {A : Around} {pins : List (Addr × Obj)} {σ : St} {H : Hp} {s : Shared} {a b : Addr} {Q : VK} (hA : A.frames = X.A.frames) (hr : Room n A) (I : Inv X pins σ H s)
    (q : sp [.ref a, .ref b] H Q (fun _ _ _ => False)) : wpAny (model X.prog X.w) A (call (.ref f) [.ref a, .ref b]) (EP X pins σ Q) X.xe s := by
  have e0 : Env0 X.prog X.w X.K X.mg X.base A X.stack s H := by
    have e := I.env0
    exact ⟨by rw [hA]; exact e.frames, e.mod, e.bs, e.bsz, e.funs, e.frf, e.hok, e.bare⟩
  have hl := F.len _ _ _ _ q
  have r2 : Vals [V.ref a, V.ref b] [Value.ref a, Value.ref b] := .cons rfl (.cons rfl .nil)
  refine wpAny_call (codeAny_mono (F.run A X.stack s H ⟨[.ref a, .ref b], []⟩ [.ref a, .ref b] [.ref a, .ref b] _ (fun _ _ _ => False) hr e0 (by
    have := hb s [.ref a, .ref b] I.kIn (by simpa using hl)
    simpa using this) r2 q) fun r s' hq => ?_)
  cases r with
  | error e => exact hx pins σ H s e s' I hq
  | ok fl =>
    cases fl with
    | ret w => exact I.after hq
    | next => exact False.elim hq
    | brk => exact False.elim hq
    | cont => exact False.elim hq
theorem op_eqI (E : EqC X.K C f) (F : FnOk X.prog X.w X.K X.mg X.base CX n f fd ps sp) (hb : Binds X.K fd ps []) (hx : Passes CX X (fun _ _ _ => False)) (hr : Room n X.A) : OpR X (compareOp .Eq) (rEqI C sp id) := by
  intro pins s σ H x y v u Q I rx ry hq
  obtain ⟨a, b, dx, dy, fs, gs, rfl, rfl, ha, hb', q⟩ := hq
  cases rx
  cases ry
  show wpAny (model X.prog X.w) X.A (richCompare .Eq (.ref a) (.ref b)) (EP X pins σ Q) X.xe s
  obtain ⟨mA, J, _⟩ := ins_get I.hok ha
  obtain ⟨mB, J', _⟩ := ins_get I.hok hb'
  obtain ⟨od, J, _⟩ := J.look
  obtain ⟨od', J', _⟩ := J'.look
  obtain ⟨m, hF⟩ := I.fr
  refine PySem.W.cmp_K (op := .Eq) (tb := .ref C) hr.units0 hF I.ok.mod.kin J J'.type (by simp [PySem.W.notFirst]) E.eq E.fn ?_
  refine wpAny_mono (eqI_call F hb hx rfl hr I q) (fun w s' z => ?_) fun _ _ x => x
  obtain ⟨v, H', I', rv, r, ev, q'⟩ := z
  subst ev
  cases rv
  exact ⟨.bl r, H', I', rfl, q'⟩
theorem op_neI (E : EqC X.K C f) (F : FnOk X.prog X.w X.K X.mg X.base CX n f fd ps sp) (hb : Binds X.K fd ps []) (hx : Passes CX X (fun _ _ _ => False)) (hr : Room (n + 2) X.A) : OpR X (compareOp .NotEq) (rEqI C sp fun r => !r) := by
  intro pins s σ H x y v u Q I rx ry hq
  obtain ⟨a, b, dx, dy, fs, gs, rfl, rfl, ha, hb', q⟩ := hq
  cases rx
  cases ry
  show wpAny (model X.prog X.w) X.A (richCompare .NotEq (.ref a) (.ref b)) (EP X pins σ Q) X.xe s
  obtain ⟨mA, J, _⟩ := ins_get I.hok ha
  obtain ⟨mB, J', _⟩ := ins_get I.hok hb'
  obtain ⟨od, J, _⟩ := J.look
  obtain ⟨od', J', _⟩ := J'.look
  have XK : X.K.In s.heap := I.kIn
  have hu0 : X.A.units + 64 < cLine := hr.units
  have inner : wpAny (model X.prog X.w) X.A.in1 (Builtin.«object.__ne__» ⟨[.ref a, .ref b], []⟩) (fun fin s' => ∃ r : Bool, fin = .done (.ret (.bool r)) ∧ EP X pins σ Q (.bool r) s') X.xe s := by
    unfold Builtin.«object.__ne__»
    show wpAny _ _ (cRoomFor "comparison" [.ref a, .ref b] >>= _) _ _ _
    refine wpAny_bind (wpAny_cRoomFor (by show X.A.units + 1 < cLine; omega) ?_)
    refine wpAny_bind (PySem.W.ifBound_K XK J E.eq E.fn (wpAny_mono (eqI_call F hb hx (by rfl) (hr.mono (by omega : n + 1 ≤ n + 2)).in1 I q) (fun w s' z => ?_) fun _ _ x => x))
    obtain ⟨v, H', I', rv, r, ev, q'⟩ := z
    subst ev
    cases rv
    show wpAny _ _ (do let t ← truthy (.bool r); ret (.bool (!t))) _ _ _
    refine wpAny_bind (wpAny_pure ?_)
    exact wpAny_pure ⟨!r, rfl, .bl (!r), H', I', rfl, q'⟩
  have isO : PySem.W.Looks (model X.prog X.w) s.heap (isInstance (.ref a) (.type "object")) true := J.type.andThen (PySem.W.looks_mroIn XK E.ob)
  have one : wpAny (model X.prog X.w) X.A (tryCompare (.ref a) "__ne__" (.ref b)) (fun r s' => ∃ c : Bool, r = some (.bool c) ∧ EP X pins σ Q (.bool c) s') X.xe s := by
    unfold tryCompare
    refine wpAny_bind ?_
    simp only [callSpecialIfBound?, bindSpecialIfBound?]
    refine wpAny_holding (wpAny_bind (wpAny_bind (wpAny_bind (J.type.here ((PySem.W.looks_findIn XK E.ne).here ?_)))))
    refine wpAny_bind (wpAny_askSetting (wpAny_ite ?_))
    have fin : wpAny (model X.prog X.w) X.A (call (.builtin "object.__ne__") ([.ref a] ++ [.ref b]) >>= fun v => pure (some v)) (fun r s' => ∃ c : Bool, r = some (.bool c) ∧ EP X pins σ Q (.bool c) s') X.xe s := by
      refine wpAny_bind (wpAny_call (codeAny_call_builtin ne_slot.plain PySem.F.cmpEntry_ne (PySem.W.check_slot PySem.F.cmpKind_ne PySem.F.cmpSplit_ne isO (PySem.F.cmpArgs_ne _ _) (wpAny_mono inner (fun fi s' z => ?_) fun _ _ x => x))))
      obtain ⟨c, rfl, z⟩ := z
      exact wpAny_pure ⟨c, rfl, z⟩
    have step : ∀ {Q' : Option Value → Shared → Prop}, (∀ (c : Bool) s', EP X pins σ Q (.bool c) s' → Q' (some (.bool c)) s') → wpAny (model X.prog X.w) X.A (call (.builtin "object.__ne__") ([.ref a] ++ [.ref b]) >>= fun v => pure (some v)) Q' X.xe s := fun {Q'} hz =>
      wpAny_mono fin (fun r s' z => by
        obtain ⟨c, rfl, z⟩ := z
        exact hz c s' z) fun _ _ x => x
    split
    · refine wpAny_bind (wpAny_of_eq (ne_slot.bind _) (wpAny_pure ?_))
      exact step fun c s' z => wpAny_pure ⟨c, rfl, z⟩
    · refine wpAny_tryCatch (wpAny_bind (wpAny_of_eq (ne_slot.bind _) (wpAny_pure ?_)))
      exact step fun c s' z => wpAny_pure ⟨c, rfl, z⟩
  unfold richCompare
  simp only [oneThing_ref]
  refine wpAny_holding (wpAny_bind (wpAny_cRoomFor hr.units0 ?_))
  refine wpAny_bind (J.type.here (wpAny_bind (J'.type.here ?_)))
  split
  · rename_i q
    simp at q
  · refine wpAny_bind (wpAny_pure ?_)
    simp only [Bool.false_eq_true, if_false]
    refine wpAny_bind (wpAny_mono one (fun r s' z => ?_) fun _ _ e => e)
    obtain ⟨c, rfl, hq⟩ := z
    exact wpAny_pure hq
end
end L2
set_option Elab.async false
set_option linter.all false
set_option maxRecDepth 100000
set_option maxHeartbeats 4000000
/-! HKBase: where facts come from (Src), what a def is worth to its callers (Callee), short rules. -/
namespace HK
open PySem PySem.Spec PyProof.Rows L2 He
/-! ### what the head tells -/
/-- an error class's __init__: name, base, field -/
structure ErD where
  cls : Str
  fld : Str
  params : Arguments
  body : List Stmt
  scope : Scope
abbrev ErV : Type := Option (Str × Str × Arguments × FuncBody × Scope × Addr × Addr)
def erObs (K : PySem.W.Frag) (e : ErD) : ErV := match K.lookup (ma K (ga K e.cls) "__init__") with
  | some ⟨_, _, .func fd, _⟩ => some (fd.name, fd.qualname, fd.params, fd.body, fd.scope, fd.globals, fd.builtins)
  | _ => none
def ErD.qual (e : ErD) : Str := e.cls ++ ".__init__"
def ErD.val (e : ErD) : ErV := some ("__init__", e.qual, e.params, .stmts e.body, e.scope, mainGlobals, builtinsNs)
/-- the class at C: over BodyError, the made kind -/
def excB (K : PySem.W.Frag) (C B : Addr) : Bool := match K.lookup C with
  | some ⟨.type "type", _, .cls cd, sl⟩ => (match cd.mro, sl.toList with
    | .ref C' :: .ref B' :: t, [_, _, _, _, some (.builtin n), _] => C' == C && B' == B && n == "Exception.__new__" && !cd.hasDel && cd.hasDict && t == PySem.ESX.exTail
    | _, _ => false)
  | _ => false
def iniB (P : Program) (K : PySem.W.Frag) (C fI : Addr) (q : Str) : Bool := match K.lookup fI with
  | some ⟨_, _, .func fd, _⟩ => (match fd.code, fd.closure, fd.defaults with
    | .ref cda, [p], .none => decide (p.1 = ("__class__" : Str)) && PySem.W.codeIn K (.ref cda) q && (match K.lookup cda with
      | some ⟨_, _, .fields vs, _⟩ => (match vs[2]? with
        | some (Value.str file _) => (P.main.file : Str) == file
        | _ => false)
      | _ => false) && (match K.lookup p.2 with
      | some ⟨_, _, .cell (some (.ref D)), _⟩ => D == C
      | _ => false)
    | _, _, _ => false)
  | _ => false
def erB (P : Program) (K : PySem.W.Frag) (e : ErD) : Bool :=
  let C := ga K e.cls
  let B := ga K "BodyError"
  let fI := ma K C "__init__"
  excB K C B && eqO (PySem.W.findIn K (.ref C) "__setattr__") (some (some (.builtin "object.__setattr__"))) && eqO (PySem.W.findIn K (.ref C) e.fld) (some none) && eqO (PySem.W.findIn K (.ref C) "__init__") (some (some (.ref fI)))
    && decide (PySem.W.typeIn K (.ref fI) = some (.type "function")) && eqO (PySem.W.alongIn K "__init__" (PySem.HKErr.tl B)) (some (some (.builtin "Exception.__init__"))) && eqO (PySem.W.nsIn K cStatics "thirdparty.any") (some none)
    && eqO (PySem.W.nsIn K mainGlobals "super") (some none) && PySem.W.keepIn K (.ref C) && decide (PySem.W.subIn K (.ref C) (.type "BaseException") = some true) && decide (PySem.W.typeIn K (.ref C) = some (.type "type"))
    && !(P.main.scope.names.lookup ("super" : Str)).isSome && iniB P K C fI e.qual && xfB K C
abbrev AlX : Type := Bool × Bool × List FnW × List ErV
def asX (g : Addr → Option Obj) : Nat → List Addr
  | 0 => [mainGlobals, cStatics]
  | n + 1 => growD g (asX g n)
def obsX (P : Program) (fx : List (PySem.W.Frag → Bool)) (fa : List Fa) (fn : List DefD) (er : List ErD) (K : PySem.W.Frag) : AlX :=
  (((fa.all fun f => f.ok K) && fn.all fun d => d.ok K), ((fx.all fun f => f K) && er.all fun e => erB P K e), fn.map (fun d => fnW K d.at_), er.map fun e => erObs K e)
def valX (fn : List DefD) (er : List ErD) : AlX := (true, true, fn.map DefD.val, er.map ErD.val)
def SaysX (P : Program) (fx : List (PySem.W.Frag → Bool)) (fa : List Fa) (fn : List DefD) (er : List ErD) (K : PySem.W.Frag) : Prop := obsX P fx fa fn er K = valX fn er
def obsG (P : Program) (n : Nat) (fx : List (PySem.W.Frag → Bool)) (fa : List Fa) (fn : List DefD) (er : List ErD) (g : Addr → Option Obj) : AlX := obsX P fx fa fn er (frG g (asX g n))
def hookX (P : Program) (n : Nat) (fx : List (PySem.W.Frag → Bool)) (fa : List Fa) (fn : List DefD) (er : List ErD) : PySem.W.Hook where
  α := AlX
  obs := fun s => obsG P n fx fa fn er s.heap.get?
  val := fun _ => valX fn er
  says := fun _ h => ∃ K : PySem.W.Frag, K.In h ∧ SaysX P fx fa fn er K
  of := fun _ _ e => ⟨_, frG_in, e⟩
  keeps := fun _ _ _ ⟨K, hK, c⟩ k => ⟨K, PySem.W.Frag.In.keeps hK k, c⟩
theorem obsG_eq {P : Program} {n : Nat} {fx : List (PySem.W.Frag → Bool)} {fa : List Fa} {fn : List DefD} {er : List ErD} {g : Addr → Option Obj} {s : Shared} (h : ∀ a, g a = s.heap.get? a) : obsG P n fx fa fn er g = (hookX P n fx fa fn er).obs s := by
  have e : g = s.heap.get? := funext h
  rw [e] <;> rfl
/-- the written part and the module's names, as the head left them -/
structure Src (P : Program) (fx : List (PySem.W.Frag → Bool)) (fa : List Fa) (fn : List DefD) (er : List ErD) (K : PySem.W.Frag) (mg : Str → Option Value) : Prop where
  says : SaysX P fx fa fn er K
  ns : ∃ h : Heap, K.In h ∧ h.Ns mainGlobals mg
section
variable {P : Program} {fx : List (PySem.W.Frag → Bool)} {fa : List Fa} {fn : List DefD} {er : List ErD} {K : PySem.W.Frag} {mg : Str → Option Value}
theorem Src.fact (S : Src P fx fa fn er K mg) (i : Nat) {f : Fa} (h : fa[i]? = some f := by rfl) : f.ok K = true := by
  have c1 := (ba (show ((fa.all fun f => f.ok K) && fn.all fun d => d.ok K) = true from congrArg (fun z : AlX => z.1) S.says)).1
  exact List.all_eq_true.mp c1 f (List.mem_of_getElem? h)
theorem Src.flag (S : Src P fx fa fn er K mg) (i : Nat) {f : PySem.W.Frag → Bool} (h : fx[i]? = some f := by rfl) : f K = true := by
  have c1 := (ba (show ((fx.all fun f => f K) && er.all fun e => erB P K e) = true from congrArg (fun z : AlX => z.2.1) S.says)).1
  exact List.all_eq_true.mp c1 f (List.mem_of_getElem? h)
theorem Src.def_ (S : Src P fx fa fn er K mg) (i : Nat) {d : DefD} (h : fn[i]? = some d := by rfl) : ∃ fd, FunD K d.name d.qual d.params d.body d.scope (d.dvs K) (d.kws K) (fAd K d.at_) fd := by
  have c2 := (ba (show ((fa.all fun f => f.ok K) && fn.all fun d => d.ok K) = true from congrArg (fun z : AlX => z.1) S.says)).2
  have e : fn.map (fun d => fnW K d.at_) = fn.map DefD.val := congrArg (fun z : AlX => z.2.2.1) S.says
  have e2 : (fn.map fun d => fnW K d.at_)[i]? = (fn.map DefD.val)[i]? := by rw [e]
  rw [List.getElem?_map, List.getElem?_map, h] at e2
  exact DefD.funD (Option.some.inj e2) (List.all_eq_true.mp c2 d (List.mem_of_getElem? h))
theorem Src.glo (S : Src P fx fa fn er K mg) (i : Nat) {x : Str} (h : fa[i]? = some (.glo x) := by rfl) : mg x = some (.ref (ga K x)) := by
  obtain ⟨hp, X, G⟩ := S.ns
  exact glo_ok X G (S.fact i h)
theorem Src.free (S : Src P fx fa fn er K mg) (i : Nat) {x : Str} (h : fa[i]? = some (.free x) := by rfl) : mg x = none := by
  obtain ⟨hp, X, G⟩ := S.ns
  exact free_ok X G (S.fact i h)
theorem Src.int (S : Src P fx fa fn er K mg) (i : Nat) {x : Str} {z : Int} (h : fa[i]? = some (.int x z) := by rfl) : ∃ t, mg x = some (.int z t) := by
  obtain ⟨hp, X, G⟩ := S.ns
  exact int_ok X G (S.fact i h)
theorem Src.cls (S : Src P fx fa fn er K mg) (i : Nat) {x : Str} (h : fa[i]? = some (.cls x) := by rfl) : Cls K (ga K x) := cls_ok (S.fact i h)
theorem Src.noat (S : Src P fx fa fn er K mg) (i : Nat) {x f : Str} (h : fa[i]? = some (.noat x f) := by rfl) : NoAttr K (ga K x) f := noat_ok (S.fact i h)
theorem Src.mkr (S : Src P fx fa fn er K mg) (i : Nat) {x : Str} (h : fa[i]? = some (.mkr x) := by rfl) : Mk K (ga K x) (ma K (ga K x) "__init__") := mkr_ok (S.fact i h)
theorem Src.exm (S : Src P fx fa fn er K mg) (i : Nat) {x y : Str} {b : Bool} (h : fa[i]? = some (.exm x y b) := by rfl) : PySem.W.exmOne K (.ref (ga K x)) (.ref (ga K y)) = some b := exm_ok (S.fact i h)
theorem excB_ok {C B : Addr} (h : excB K C B = true) : ∃ nm q N bs sn sub ab col dd k0 k1 k2 k3 k5, K.lookup C = some (excClassObj nm q C N bs (PySem.HKErr.tl B) true sn sub ab col dd k0 k1 k2 k3 k5 "Exception.__new__") := by
  unfold excB at h
  split at h
  · rename_i dd cd sl ho
    split at h
    · rename_i C' B' t k0 k1 k2 k3 n k5 hm hs
      simp only [Bool.and_eq_true, beq_iff_eq, Bool.not_eq_true'] at h
      obtain ⟨⟨⟨⟨⟨rfl, rfl⟩, rfl⟩, hdel⟩, hhd⟩, ht⟩ := h
      obtain ⟨nm, bs, mro, ns, qn, hd, sn, sub, ab, col, del⟩ := cd
      dsimp only at hm hdel hhd
      subst hm hdel hhd ht
      obtain ⟨l⟩ := sl
      dsimp only at hs
      subst hs
      exact ⟨nm, qn, ns, bs, sn, sub, ab, col, dd, k0, k1, k2, k3, k5, ho⟩
    · cases h
  · cases h
theorem iniB_ok {C fI : Addr} {e : ErD} (h : iniB P K C fI e.qual = true) (o : (match K.lookup fI with
  | some ⟨_, _, .func fd, _⟩ => some (fd.name, fd.qualname, fd.params, fd.body, fd.scope, fd.globals, fd.builtins)
  | _ => none : ErV) = e.val) : PySem.HKErr.Ini P K C fI e.qual e.params e.body e.scope := by
  unfold iniB at h
  split at h
  · rename_i oc od fd sl ho
    rw [ho] at o
    obtain ⟨n1, n2, n3, n4, n5, n6, n7, n8, n9, n10, n11, n12, n13, n14, n15⟩ := fd
    simp only [ErD.val, Option.some.injEq, Prod.mk.injEq] at o
    dsimp only at o h
    obtain ⟨h1, h2, h3, h4, h5, h6, h7⟩ := o
    subst h1 h2 h3 h4 h5 h6 h7
    split at h
    · rename_i cda p
      obtain ⟨px, cc⟩ := p
      simp only [Bool.and_eq_true, decide_eq_true_eq] at h
      obtain ⟨⟨⟨h8, h9⟩, h10⟩, h11⟩ := h
      have h8' : px = ("__class__" : Str) := h8
      subst h8'
      split at h10
      · rename_i a1 a2 vs a3 hk
        split at h10
        · rename_i file tf hv
          split at h11
          · rename_i b1 b2 D b3 hk2
            have e := beq_iff_eq.mp h11
            subst e
            exact ⟨oc, od, _, _, _, _, cda, _, cc, sl, ho, h9, ⟨a1, a2, vs, a3, file, tf, hk, hv, h10⟩, b1, b2, b3, hk2⟩
          · cases h11
        · cases h10
      · cases h10
    · cases h
  · cases h
/-- what is told of an error class -/
structure Er (P : Program) (K : PySem.W.Frag) (mg : Str → Option Value) (e : ErD) : Prop where
  txt : PySem.HKErr.Txt P K mg (ga K e.cls) (ga K "BodyError") (ma K (ga K e.cls) "__init__") e.fld
  ini : PySem.HKErr.Ini P K (ga K e.cls) (ma K (ga K e.cls) "__init__") e.qual e.params e.body e.scope
  xf : XfC K (ga K e.cls)
theorem Src.err (S : Src P fx fa fn er K mg) (i : Nat) {e : ErD} (h : er[i]? = some e := by rfl) : Er P K mg e := by
  have c2 := (ba (show ((fx.all fun f => f K) && er.all fun e => erB P K e) = true from congrArg (fun z : AlX => z.2.1) S.says)).2
  have q := List.all_eq_true.mp c2 e (List.mem_of_getElem? h)
  have e1 : er.map (fun e => erObs K e) = er.map ErD.val := congrArg (fun z : AlX => z.2.2.2) S.says
  have e2 : (er.map fun e => erObs K e)[i]? = (er.map ErD.val)[i]? := by rw [e1]
  rw [List.getElem?_map, List.getElem?_map, h] at e2
  have e3 : erObs K e = e.val := Option.some.inj e2
  simp only [erB, Bool.and_eq_true, decide_eq_true_eq, Bool.not_eq_true'] at q
  obtain ⟨⟨⟨⟨⟨⟨⟨⟨⟨⟨⟨⟨⟨q1, q2⟩, q3⟩, q4⟩, q5⟩, q6⟩, q7⟩, q8⟩, q9⟩, q10⟩, q11⟩, q12⟩, q13⟩, q14⟩ := q
  exact ⟨⟨excB_ok q1, eqO_ok q2, eqO_ok q3, eqO_ok q4, q5, eqO_ok q6, eqO_ok q7, eqO_ok q8, q9, q10, q11, q12⟩, iniB_ok q13 e3, xfB_ok q14⟩
end
end HK
set_option Elab.async false
set_option linter.all false
set_option maxRecDepth 100000
set_option maxHeartbeats 4000000
/-! HKRules: a def as its callers see it; short rules; data by relations. -/
namespace HK
open PySem PySem.Spec PyProof.Rows L2 He
/-! ### a def as its callers see it -/
structure Cal (P : Program) (w : World) (K : PySem.W.Frag) (mg : Str → Option Value) (base : Heap) (CX : CXT) (x : Str) (k : Nat) (ps : List Str) (dvs : List V) (sp : Sp) : Prop where
  ex : ∃ (f : Addr) (fd : FuncData) (ds : List Value), mg x = some (.ref f) ∧ FnOk P w K mg base CX k f fd ps sp ∧ PySem.W.keepIn K (.ref f) = true ∧ Vals dvs ds ∧ Binds K fd ps ds
/-- a class as its callers see it: its __init__ by a promise -/
structure CalM (P : Program) (w : World) (K : PySem.W.Frag) (mg : Str → Option Value) (base : Heap) (CX : CXT) (x : Str) (C : Addr) (k : Nat) (ps : List Str) (sp : Sp) : Prop where
  ex : ∃ (f : Addr) (fd : FuncData), mg x = some (.ref C) ∧ Mk K C f ∧ FnOk P w K mg base CX k f fd ps sp ∧ Binds K fd ps []
section
variable {X : Cx} {CX : CXT} {x : Str} {k : Nat} {ps : List Str} {dvs : List V} {sp : Sp} {E : XK} {e : Expr} {es : List Expr} {t : TA} {p pos : Pos}
theorem pe_c (c : Cal X.prog X.w X.K X.mg X.base CX x k ps dvs sp) (hr : Room k X.A) (hx : Passes CX X E) (ha : PA X (e :: es) t) (hg : Gl X x := by rfl) (hdb : (x == ("__debug__" : Str)) = false := by decide)
    (he : starEach (e :: es) X.env = (false, eval e X.env) :: starEach es X.env := by rfl) (hpl : (backTo pos (starEach es X.env)).any (·.1) = false := by rfl) : PE X (.Call (.Name x p) (e :: es) [] pos) (tCall sp dvs E t) := by
  obtain ⟨f, fd, ds, hm, F, hk, hd, hb⟩ := c.ex
  exact pe_call F hr hg hm hk hb hd hx ha hdb he hpl
theorem pe_m {C : Addr} (c : CalM X.prog X.w X.K X.mg X.base CX x C k ps sp) (hr : Room (k + 1) X.A) (hx : Passes CX X E) (ha : PA X (e :: es) t) (hg : Gl X x := by rfl) (hdb : (x == ("__debug__" : Str)) = false := by decide)
    (he : starEach (e :: es) X.env = (false, eval e X.env) :: starEach es X.env := by rfl) (hpl : (backTo pos (starEach es X.env)).any (·.1) = false := by rfl) : PE X (.Call (.Name x p) (e :: es) [] pos) (tMake C sp [] E t) := by
  obtain ⟨f, fd, hm, M, F, hb⟩ := c.ex
  exact pe_make M F hr hg hm hb .nil hx ha hdb he hpl
/-! ### names -/
theorem pe_ty {n : String} (hm : X.mg x = none) (hv : bootBuiltins x = some (.type n)) (hg : Gl X x := by rfl) (hdb : (x == ("__debug__" : Str)) = false := by decide) (hn : x ≠ "__name__" := by decide) : PE X (.Name x pos) (tC (.ty n)) := pe_bltn hg hm hv rfl hn hdb
theorem pe_gc {C : Addr} (hm : X.mg x = some (.ref C)) (hg : Gl X x := by rfl) (hdb : (x == ("__debug__" : Str)) = false := by decide) : PE X (.Name x pos) (tC (.ref C)) := pe_glob hg hm rfl hdb
theorem pe_gi {i : Int} (hm : ∃ t, X.mg x = some (.int i t)) (hg : Gl X x := by rfl) (hdb : (x == ("__debug__" : Str)) = false := by decide) : PE X (.Name x pos) (tC (.int i)) := by
  obtain ⟨t, h⟩ := hm
  exact pe_glob hg h ⟨t, rfl⟩ hdb
theorem PS.nox {st : Stmt} {t : TS} (h : PS X.nox st t) : PS X st t := ⟨fun pins s σ H D I hw =>
  wpAny_mono (h.run pins s σ H D (I.wish _) hw) (fun _ _ q => q.unwish) fun _ _ z => False.elim z⟩
end
section
variable {P : Program} {w : World} {base : Heap} {fx : List (PySem.W.Frag → Bool)} {fa : List Fa} {fn : List DefD} {er : List ErD} {K : PySem.W.Frag} {mg : Str → Option Value}
/-- a def of the module that lets nothing out -/
theorem Src.cal {d : DefD} {N ps : List Str} {k : Nat} {sp : Sp} (S : Src P fx fa fn er K mg) (i j : Nat) (Sc : FnScope N ps d.scope) (hd : fn[i]? = some d) (hj : fa[j]? = some (.glo d.name)) (hat : d.at_ = (d.name, none)) (hds : d.dfl = []) (hkw : d.kwd = [])
    (hb : ∀ (kV doc pm : Value) (an : Option Addr) (cdv ct : Value) (us : List Value), us.length = ps.length → bindArgs (PySem.W.fnOf d.name d.qual d.params d.body d.scope .none kV doc pm an cdv ct) ⟨us, []⟩ = pure (ps.zip us))
    (len : ∀ vs H Q E, sp vs H Q E → vs.length = ps.length)
    (hbody : ∀ (f : Addr) (cdv : Value) (A : Around) (outer : List Env) (s : Shared) (H : Hp) (vs : List V) (Q : VK) (E : XK), Room k (A.deeper (envOfC d.qual d.scope s.heap.objs.size f cdv)) → sp vs H Q E →
      ∃ t, PSs (cxOf CX0 P w K mg base N d.qual d.scope f cdv A outer s H E).nox d.body t ∧ t { nx := fun _ H' => Q .non H', rt := Q } (start N vs) H) : Cal P w K mg base CX0 d.name (k + 1) ps [] sp := by
  obtain ⟨fd, F⟩ := S.def_ i hd
  have e1 : d.dvs K = [] := by unfold DefD.dvs; rw [hds]; rfl
  have e2 : d.kws K = [] := by unfold DefD.kws; rw [hkw]; rfl
  rw [e1, e2, hat] at F
  refine ⟨_, fd, [], S.glo j hj, FunD.ok F Sc len fun cdv A outer s H vs Q E hr h => ?_, F.kp, .nil, FunD.bindsN F hb⟩
  obtain ⟨t, h1, h2⟩ := hbody _ cdv A outer s H vs Q E hr h
  exact ⟨t, h1.nox, h2⟩
/-- .. that may raise -/
theorem Src.calX {d : DefD} {N ps : List Str} {k : Nat} {sp : Sp} (S : Src P fx fa fn er K mg) (i j : Nat) (Sc : FnScope N ps d.scope) (hd : fn[i]? = some d) (hj : fa[j]? = some (.glo d.name)) (hat : d.at_ = (d.name, none)) (hds : d.dfl = []) (hkw : d.kwd = [])
    (hb : ∀ (kV doc pm : Value) (an : Option Addr) (cdv ct : Value) (us : List Value), us.length = ps.length → bindArgs (PySem.W.fnOf d.name d.qual d.params d.body d.scope .none kV doc pm an cdv ct) ⟨us, []⟩ = pure (ps.zip us))
    (len : ∀ vs H Q E, sp vs H Q E → vs.length = ps.length)
    (hbody : ∀ (f : Addr) (cdv : Value) (A : Around) (outer : List Env) (s : Shared) (H : Hp) (vs : List V) (Q : VK) (E : XK), Room k (A.deeper (envOfC d.qual d.scope s.heap.objs.size f cdv)) → sp vs H Q E →
      ∃ t, PSs (cxOf (L2.CX P w) P w K mg base N d.qual d.scope f cdv A outer s H E) d.body t ∧ t { nx := fun _ H' => Q .non H', rt := Q } (start N vs) H) : Cal P w K mg base (L2.CX P w) d.name (k + 1) ps [] sp := by
  obtain ⟨fd, F⟩ := S.def_ i hd
  have e1 : d.dvs K = [] := by unfold DefD.dvs; rw [hds]; rfl
  have e2 : d.kws K = [] := by unfold DefD.kws; rw [hkw]; rfl
  rw [e1, e2, hat] at F
  exact ⟨_, fd, [], S.glo j hj, FunD.ok F Sc len fun cdv A outer s H vs Q E hr h => hbody _ cdv A outer s H vs Q E hr h, F.kp, .nil, FunD.bindsN F hb⟩
/-- .. that may raise and has defaults -/
theorem Src.calD {d : DefD} {N ps : List Str} {k : Nat} {sp : Sp} (S : Src P fx fa fn er K mg) (i j n : Nat) (dvs : List V) (Sc : FnScope N ps d.scope) (hd : fn[i]? = some d) (hj : fa[j]? = some (.glo d.name)) (hat : d.at_ = (d.name, none)) (hds : d.dvs K = dvs) (hne : dvs ≠ []) (hlen : n + dvs.length = ps.length)
    (hb : ∀ (T : Addr) (kV doc pm : Value) (an : Option Addr) (cdv ct : Value) (us its : List Value), us.length = n → its.length = dvs.length →
      ∃ k, bindArgs (PySem.W.fnOf d.name d.qual d.params d.body d.scope (.ref T) kV doc pm an cdv ct) ⟨us, []⟩ = seqItems? (.ref T) >>= k ∧ k (some its.toArray) = pure (ps.zip (us ++ its)))
    (len : ∀ vs H Q E, sp vs H Q E → vs.length = ps.length)
    (hbody : ∀ (f : Addr) (cdv : Value) (A : Around) (outer : List Env) (s : Shared) (H : Hp) (vs : List V) (Q : VK) (E : XK), Room k (A.deeper (envOfC d.qual d.scope s.heap.objs.size f cdv)) → sp vs H Q E →
      ∃ t, PSs (cxOf (L2.CX P w) P w K mg base N d.qual d.scope f cdv A outer s H E) d.body t ∧ t { nx := fun _ H' => Q .non H', rt := Q } (start N vs) H) : Cal P w K mg base (L2.CX P w) d.name (k + 1) ps dvs sp := by
  obtain ⟨fd, F⟩ := S.def_ i hd
  rw [hds, hat] at F
  obtain ⟨ds, hv, hbi⟩ := FunD.binds1 F n 0 hne (by simpa using hlen) (fun T kV doc pm an cdv ct us its h1 h2 => by simpa using hb T kV doc pm an cdv ct us its h1 h2)
  exact ⟨_, fd, ds, S.glo j hj, FunD.ok F Sc len fun cdv A outer s H vs Q E hr h => hbody _ cdv A outer s H vs Q E hr h, F.kp, by simpa using hv, hbi⟩
/-- a class made by its __init__, which lets nothing out -/
theorem Src.calM {d : DefD} {N ps : List Str} {k : Nat} {sp : Sp} {x : Str} (S : Src P fx fa fn er K mg) (i j l : Nat) (Sc : FnScope N ps d.scope) (hd : fn[i]? = some d) (hj : fa[j]? = some (.glo x)) (hl : fa[l]? = some (.mkr x)) (hat : d.at_ = (x, some ("__init__" : Str))) (hds : d.dfl = []) (hkw : d.kwd = [])
    (hb : ∀ (kV doc pm : Value) (an : Option Addr) (cdv ct : Value) (us : List Value), us.length = ps.length → bindArgs (PySem.W.fnOf d.name d.qual d.params d.body d.scope .none kV doc pm an cdv ct) ⟨us, []⟩ = pure (ps.zip us))
    (len : ∀ vs H Q E, sp vs H Q E → vs.length = ps.length)
    (hbody : ∀ (f : Addr) (cdv : Value) (A : Around) (outer : List Env) (s : Shared) (H : Hp) (vs : List V) (Q : VK) (E : XK), Room k (A.deeper (envOfC d.qual d.scope s.heap.objs.size f cdv)) → sp vs H Q E →
      ∃ t, PSs (cxOf CX0 P w K mg base N d.qual d.scope f cdv A outer s H E).nox d.body t ∧ t { nx := fun _ H' => Q .non H', rt := Q } (start N vs) H) : CalM P w K mg base CX0 x (ga K x) (k + 1) ps sp := by
  obtain ⟨fd, F⟩ := S.def_ i hd
  have e1 : d.dvs K = [] := by unfold DefD.dvs; rw [hds]; rfl
  have e2 : d.kws K = [] := by unfold DefD.kws; rw [hkw]; rfl
  rw [e1, e2, hat] at F
  refine ⟨_, fd, S.glo j hj, S.mkr l hl, FunD.ok F Sc len fun cdv A outer s H vs Q E hr h => ?_, FunD.bindsN F hb⟩
  obtain ⟨t, h1, h2⟩ := hbody _ cdv A outer s H vs Q E hr h
  exact ⟨t, h1.nox, h2⟩
end
/-! ### heaps that keep -/
theorem same_new {H : Hp} {p : Addr} {o : HO} (h : H p = none) : Same H (upd H p o) := fun a u e => by
  rw [upd_ne (ne_of_none e h)]
  exact e
theorem same_mut {H H' : Hp} {p : Addr} {o : HO} (e : Same H H') (h : H p = none) : Same H (upd H' p o) := fun a u ha => by
  rw [upd_ne (ne_of_none ha h)]
  exact e a u ha
/-- what can't change stays -/
def Tk (H H' : Hp) : Prop := ∀ a, (∀ xs, H a = some (.tup xs) → H' a = some (.tup xs)) ∧ ∀ o u, H a = some (.frz o u) → H' a = some (.frz o u)
theorem Tk.of {H H' : Hp} (e : Same H H') : Tk H H' := fun a => ⟨fun xs h => e a _ h, fun o u h => e a _ h⟩
theorem Tk.refl (H : Hp) : Tk H H := fun a => ⟨fun _ h => h, fun _ _ h => h⟩
theorem Tk.trans {H H1 H2 : Hp} (a : Tk H H1) (b : Tk H1 H2) : Tk H H2 := fun x => ⟨fun xs h => (b x).1 xs ((a x).1 xs h), fun o u h => (b x).2 o u ((a x).2 o u h)⟩
theorem Tk.new {H : Hp} {p : Addr} {o : HO} (h : H p = none) : Tk H (upd H p o) := .of (same_new h)
theorem Tk.lst {H : Hp} {p : Addr} {o : HO} {xs : List V} (h : H p = some (.lst xs)) : Tk H (upd H p o) := fun a =>
  ⟨fun ys e => by rw [upd_ne (ne_of e h (fun z => nomatch z))]; exact e, fun ob u e => by rw [upd_ne (ne_of e h (fun z => nomatch z))]; exact e⟩
theorem Tk.dK {H : Hp} {p : Addr} {o : HO} {xs : List (Key × V)} (h : H p = some (.dK xs)) : Tk H (upd H p o) := fun a =>
  ⟨fun ys e => by rw [upd_ne (ne_of e h (fun z => nomatch z))]; exact e, fun ob u e => by rw [upd_ne (ne_of e h (fun z => nomatch z))]; exact e⟩
theorem Tk.dT {H : Hp} {p : Addr} {o : HO} {xs : List (List Key × V)} (h : H p = some (.dT xs)) : Tk H (upd H p o) := fun a =>
  ⟨fun ys e => by rw [upd_ne (ne_of e h (fun z => nomatch z))]; exact e, fun ob u e => by rw [upd_ne (ne_of e h (fun z => nomatch z))]; exact e⟩
theorem Tk.sqT {K : PySem.W.Frag} {H H' : Hp} {a : Addr} {xs : List V} (e : Tk H H') (h : SqT K H a xs) : SqT K H' a xs := by
  rcases h with (h | ⟨o, h⟩) | h
  · exact .inl (.inl ((e a).1 _ h))
  · exact .inl (.inr ⟨o, (e a).2 _ _ h⟩)
  · exact .inr h
theorem Same.sqT {K : PySem.W.Frag} {H H' : Hp} {a : Addr} {xs : List V} (e : Same H H') (h : SqT K H a xs) : SqT K H' a xs := (Tk.of e).sqT h
theorem Same.sqA {K : PySem.W.Frag} {H H' : Hp} {a : Addr} {xs : List V} (e : Same H H') (h : SqA K H a xs) : SqA K H' a xs := h.elim (fun h => .inl (e.seq h)) fun h => .inr (Same.sqT e h)
theorem sqL_of {K : PySem.W.Frag} {H : Hp} {a : Addr} {xs : List V} (h : H a = some (.lst xs)) : SqL K H a xs := .inl (.inl h)
theorem sqT_of {K : PySem.W.Frag} {H : Hp} {a : Addr} {xs : List V} (h : H a = some (.tup xs)) : SqT K H a xs := .inl (.inl h)
/-! ### data -/
abbrev Rl (α : Type) := Hp → V → α → Prop
def Mono {α : Type} (R : Rl α) : Prop := ∀ H H' v x, Same H H' → R H v x → R H' v x
def MonoT {α : Type} (R : Rl α) : Prop := ∀ H H' v x, Tk H H' → R H v x → R H' v x
def IntR : Rl Int := fun _ v i => v = .int i
def SeqR (K : PySem.W.Frag) {α : Type} (R : Rl α) : Rl (List α) := fun H v xs => ∃ a vs, v = .ref a ∧ SqA K H a vs ∧ Paired (R H) vs xs
def TupR (K : PySem.W.Frag) {α : Type} (R : Rl α) : Rl (List α) := fun H v xs => ∃ a vs, v = .ref a ∧ SqT K H a vs ∧ Paired (R H) vs xs
theorem Paired.imp {α β : Type} {F G : α → β → Prop} (h : ∀ a b, F a b → G a b) : ∀ {xs : List α} {ys : List β}, Paired F xs ys → Paired G xs ys
  | _, _, .nil => .nil
  | _, _, .cons a t => .cons (h _ _ a) (Paired.imp h t)
theorem Paired.at {α β : Type} {F : α → β → Prop} : ∀ {xs : List α} {ys : List β}, Paired F xs ys → ∀ {i : Nat} {x : α}, xs[i]? = some x → ∃ y, ys[i]? = some y ∧ F x y
  | _, _, .nil, i, x, h => by cases h
  | _, _, .cons r t, 0, x, h => by
    have e := Option.some.inj h
    subst e
    exact ⟨_, rfl, r⟩
  | _, _, .cons r t, i + 1, x, h => Paired.at t h
theorem Paired.at2 {α β : Type} {F : α → β → Prop} : ∀ {xs : List α} {ys : List β}, Paired F xs ys → ∀ {i : Nat} {y : β}, ys[i]? = some y → ∃ x, xs[i]? = some x ∧ F x y
  | _, _, .nil, i, x, h => by cases h
  | _, _, .cons r t, 0, x, h => by
    have e := Option.some.inj h
    subst e
    exact ⟨_, rfl, r⟩
  | _, _, .cons r t, i + 1, x, h => Paired.at2 t h
theorem Paired.app {α β : Type} {F : α → β → Prop} : ∀ {xs xs' : List α} {ys ys' : List β}, Paired F xs ys → Paired F xs' ys' → Paired F (xs ++ xs') (ys ++ ys')
  | _, _, _, _, .nil, s => s
  | _, _, _, _, .cons r t, s => .cons r (Paired.app t s)
theorem Paired.tk {α β : Type} {F : α → β → Prop} : ∀ {xs : List α} {ys : List β} (n : Nat), Paired F xs ys → Paired F (xs.take n) (ys.take n)
  | _, _, 0, _ => .nil
  | _, _, _ + 1, .nil => .nil
  | _, _, n + 1, .cons r t => .cons r (Paired.tk n t)
theorem mono_int : Mono IntR := fun _ _ _ _ _ h => h
theorem monoT_int : MonoT IntR := fun _ _ _ _ _ h => h
theorem mono_seq {K : PySem.W.Frag} {α : Type} {R : Rl α} (m : Mono R) : Mono (SeqR K R) := fun H H' v x e ⟨a, vs, ev, hs, hp⟩ => ⟨a, vs, ev, Same.sqA e hs, Paired.imp (fun b c h => m _ _ _ _ e h) hp⟩
theorem mono_tup {K : PySem.W.Frag} {α : Type} {R : Rl α} (m : Mono R) : Mono (TupR K R) := fun H H' v x e ⟨a, vs, ev, hs, hp⟩ => ⟨a, vs, ev, Same.sqT e hs, Paired.imp (fun b c h => m _ _ _ _ e h) hp⟩
theorem monoT_tup {K : PySem.W.Frag} {α : Type} {R : Rl α} (m : MonoT R) : MonoT (TupR K R) := fun H H' v x e ⟨a, vs, ev, hs, hp⟩ => ⟨a, vs, ev, e.sqT hs, Paired.imp (fun b c h => m _ _ _ _ e h) hp⟩
theorem MonoT.mono {α : Type} {R : Rl α} (m : MonoT R) : Mono R := fun H H' v x e h => m H H' v x (.of e) h
theorem tup_seq {K : PySem.W.Frag} {α : Type} {R : Rl α} {H : Hp} {v : V} {x : List α} (h : TupR K R H v x) : SeqR K R H v x := by
  obtain ⟨a, vs, ev, hs, hp⟩ := h
  exact ⟨a, vs, ev, .inr hs, hp⟩
theorem pr_ints {H : Hp} : ∀ {vs : List V} {ns : List Int}, Paired (IntR H) vs ns → vs = ns.map V.int
  | _, _, .nil => rfl
  | _, _, .cons r t => by
    rw [List.map_cons, ← pr_ints t, show _ = _ from r]
theorem ints_pr {H : Hp} : ∀ (ns : List Int), Paired (IntR H) (ns.map V.int) ns
  | [] => .nil
  | _ :: t => .cons rfl (ints_pr t)
theorem map_pr {α : Type} {R : V → α → Prop} {β : Type} {f : β → V} {g : β → α} : ∀ (xs : List β), (∀ x ∈ xs, R (f x) (g x)) → Paired R (xs.map f) (xs.map g)
  | [], _ => .nil
  | x :: t, h => .cons (h x List.mem_cons_self) (map_pr t fun y hy => h y (List.mem_cons_of_mem _ hy))
theorem Paired.len {α β : Type} {F : α → β → Prop} : ∀ {xs : List α} {ys : List β}, Paired F xs ys → xs.length = ys.length
  | _, _, .nil => rfl
  | _, _, .cons _ t => by rw [List.length_cons, List.length_cons, Paired.len t]
/-- handing back: something of the kind, all that was known kept -/
def Ret (R : Hp → V → Prop) (H : Hp) (Q : VK) : Prop := ∀ v H', Same H H' → R H' v → Q v H'
theorem Ret.go {R : Hp → V → Prop} {H H1 : Hp} {Q : VK} (k : Ret R H Q) (e : Same H H1) {v : V} (r : R H1 v) : Q v H1 := k v H1 e r
end HK
set_option Elab.async false
set_option linter.all false
set_option maxRecDepth 100000
set_option maxHeartbeats 4000000
/-! HKData: lists or tuples as data; what a step may change; short forms of some readings. -/
namespace HK
open PySem PySem.Spec PyProof.Rows L2 He
/-! ### what a step may change: what A marks; tuples never; nothing goes -/
def SameO (A : Addr → Prop) (H H' : Hp) : Prop := (∀ a u, ¬A a → H a = some u → H' a = some u) ∧ Tk H H' ∧ ∀ a, H a ≠ none → H' a ≠ none
abbrev No : Addr → Prop := fun _ => False
abbrev Old (H : Hp) : Addr → Prop := fun a => H a ≠ none
abbrev Or1 (A : Addr → Prop) (D : Addr) : Addr → Prop := fun a => A a ∨ a = D
theorem SameO.of {A : Addr → Prop} {H H' : Hp} (e : Same H H') : SameO A H H' := ⟨fun a u _ h => e a u h, .of e, fun a h z => h (e.free z)⟩
theorem SameO.refl (A : Addr → Prop) (H : Hp) : SameO A H H := .of (Same.refl H)
theorem SameO.trans {A : Addr → Prop} {H H1 H2 : Hp} (a : SameO A H H1) (b : SameO A H1 H2) : SameO A H H2 := ⟨fun x u n h => b.1 x u n (a.1 x u n h), a.2.1.trans b.2.1, fun x h => b.2.2 x (a.2.2 x h)⟩
theorem SameO.wk {A B : Addr → Prop} {H H' : Hp} (e : SameO A H H') (h : ∀ a, A a → B a) : SameO B H H' := ⟨fun a u n q => e.1 a u (fun z => n (h a z)) q, e.2⟩
theorem SameO.same {H H' : Hp} (e : SameO No H H') : Same H H' := fun a u h => e.1 a u (fun z => z) h
theorem SameO.new {A : Addr → Prop} {H : Hp} {p : Addr} {o : HO} (h : H p = none) : SameO A H (upd H p o) := .of (same_new h)
theorem SameO.lst {A : Addr → Prop} {H : Hp} {p : Addr} {xs ys : List V} (h : H p = some (.lst xs)) (ha : A p) : SameO A H (upd H p (.lst ys)) :=
  ⟨fun a u n e => by
    rw [upd_ne (fun z => n (by rw [z]; exact ha))]
    exact e, .lst h, fun a e z => by
    by_cases q : a = p
    · subst q
      rw [upd_same] at z
      cases z
    · rw [upd_ne q] at z
      exact e z⟩
theorem SameO.dK {A : Addr → Prop} {H : Hp} {p : Addr} {xs ys : List (Key × V)} (h : H p = some (.dK xs)) (ha : A p) : SameO A H (upd H p (.dK ys)) :=
  ⟨fun a u n e => by
    rw [upd_ne (fun z => n (by rw [z]; exact ha))]
    exact e, .dK h, fun a e z => by
    by_cases q : a = p
    · subst q
      rw [upd_same] at z
      cases z
    · rw [upd_ne q] at z
      exact e z⟩
theorem SameO.dT {A : Addr → Prop} {H : Hp} {p : Addr} {xs ys : List (List Key × V)} (h : H p = some (.dT xs)) (ha : A p) : SameO A H (upd H p (.dT ys)) :=
  ⟨fun a u n e => by
    rw [upd_ne (fun z => n (by rw [z]; exact ha))]
    exact e, .dT h, fun a e z => by
    by_cases q : a = p
    · subst q
      rw [upd_same] at z
      cases z
    · rw [upd_ne q] at z
      exact e z⟩
theorem SameO.ins {A : Addr → Prop} {H : Hp} {p C dx C' dx' : Addr} {xs ys : List (Str × V)} (h : H p = some (.ins C dx xs)) (ha : A p) : SameO A H (upd H p (.ins C' dx' ys)) :=
  ⟨fun a u n e => by
    rw [upd_ne (fun z => n (by rw [z]; exact ha))]
    exact e, fun a => ⟨fun ys e => by rw [upd_ne (ne_of e h (fun z => nomatch z))]; exact e, fun ob u e => by rw [upd_ne (ne_of e h (fun z => nomatch z))]; exact e⟩, fun a e z => by
    by_cases q : a = p
    · subst q
      rw [upd_same] at z
      cases z
    · rw [upd_ne q] at z
      exact e z⟩
/-- a heap that differs at what was not there is as the old one -/
theorem SameO.old {H H' : Hp} {A : Addr → Prop} (e : SameO A H H') (h : ∀ a, A a → H a = none) : Same H H' := fun a u q => e.1 a u (fun z => by rw [h a z] at q; cases q) q
/-! ### a list or a tuple, not frozen -/
def Sq (H : Hp) (a : Addr) (xs : List V) : Prop := H a = some (.lst xs) ∨ H a = some (.tup xs)
theorem Sq.a {K : PySem.W.Frag} {H : Hp} {a : Addr} {xs : List V} (h : Sq H a xs) : SqA K H a xs := h.elim (fun h => .inl (sqL_of h)) fun h => .inr (sqT_of h)
theorem Sq.same {H H' : Hp} {a : Addr} {xs : List V} (e : Same H H') (h : Sq H a xs) : Sq H' a xs := h.elim (fun h => .inl (e _ _ h)) fun h => .inr (e _ _ h)
theorem Sq.sameO {A : Addr → Prop} {H H' : Hp} {a : Addr} {xs : List V} (e : SameO A H H') (n : ¬A a) (h : Sq H a xs) : Sq H' a xs := h.elim (fun h => .inl (e.1 _ _ n h)) fun h => .inr (e.1 _ _ n h)
theorem Sq.keep {A : Addr → Prop} {H H' : Hp} {a : Addr} {xs : List V} (h : Sq H a xs) (n : ¬A a) (e : SameO A H H') : H' a = H a := by
  rcases h with h | h <;> rw [h] <;> exact e.1 _ _ n h
theorem Sq.some {H : Hp} {a : Addr} {xs : List V} (h : Sq H a xs) : H a ≠ none := by
  rcases h with h | h <;> rw [h] <;> exact fun z => nomatch z
/-! ### families of data: off what A marks -/
abbrev RlA (α : Type) := (Addr → Prop) → Rl α
structure Fam {α : Type} (R : RlA α) : Prop where
  mono : ∀ {A : Addr → Prop} {H H' : Hp} {v : V} {x : α}, SameO A H H' → R A H v x → R A H' v x
  weak : ∀ {A B : Addr → Prop} {H : Hp} {v : V} {x : α}, (∀ a, B a → A a) → R A H v x → R B H v x
  live : ∀ {A : Addr → Prop} {H : Hp} {v : V} {x : α}, R A H v x → R (fun a => A a ∨ H a = none) H v x
theorem Fam.same {α : Type} {R : RlA α} (F : Fam R) {A : Addr → Prop} {H H' : Hp} {v : V} {x : α} (e : Same H H') (r : R A H v x) : R A H' v x := F.mono (.of e) r
theorem Fam.monoP {α : Type} {R : RlA α} (F : Fam R) {A : Addr → Prop} {H H' : Hp} {vs : List V} {xs : List α} (e : SameO A H H') (r : Paired (R A H) vs xs) : Paired (R A H') vs xs := Paired.imp (fun _ _ h => F.mono e h) r
theorem Fam.weakP {α : Type} {R : RlA α} (F : Fam R) {A B : Addr → Prop} {H : Hp} {vs : List V} {xs : List α} (e : ∀ a, B a → A a) (r : Paired (R A H) vs xs) : Paired (R B H) vs xs := Paired.imp (fun _ _ h => F.weak e h) r
def InA : RlA Int := fun _ _ v i => v = .int i
def EqA : RlA V := fun _ _ v x => v = x
theorem fam_eq : Fam EqA := ⟨fun _ h => h, fun _ h => h, fun h => h⟩
theorem eqa_eq {A : Addr → Prop} {H : Hp} : ∀ {vs xs : List V}, Paired (EqA A H) vs xs → vs = xs
  | _, _, .nil => rfl
  | _, _, .cons r t => by rw [← eqa_eq t, show _ = _ from r]
def SqF {α : Type} (R : RlA α) : RlA (List α) := fun A H v xs => ∃ a vs, v = .ref a ∧ ¬A a ∧ Sq H a vs ∧ Paired (R A H) vs xs
def LsF {α : Type} (R : RlA α) : RlA (List α) := fun A H v xs => ∃ a vs, v = .ref a ∧ ¬A a ∧ H a = some (.lst vs) ∧ Paired (R A H) vs xs
def TpF {α : Type} (R : RlA α) : RlA (List α) := fun A H v xs => ∃ a vs, v = .ref a ∧ H a = some (.tup vs) ∧ Paired (R A H) vs xs
theorem Fam.liveP {α : Type} {R : RlA α} (F : Fam R) {A : Addr → Prop} {H : Hp} {vs : List V} {xs : List α} (r : Paired (R A H) vs xs) : Paired (R (fun a => A a ∨ H a = none) H) vs xs := Paired.imp (fun _ _ h => F.live h) r
theorem fam_in : Fam InA := ⟨fun _ h => h, fun _ h => h, fun h => h⟩
theorem fam_sq {α : Type} {R : RlA α} (F : Fam R) : Fam (SqF R) :=
  ⟨fun e ⟨a, vs, h1, h2, h3, h4⟩ => ⟨a, vs, h1, h2, h3.sameO e h2, F.monoP e h4⟩, fun e ⟨a, vs, h1, h2, h3, h4⟩ => ⟨a, vs, h1, fun z => h2 (e _ z), h3, F.weakP e h4⟩, fun ⟨a, vs, h1, h2, h3, h4⟩ => ⟨a, vs, h1, fun z => z.elim h2 h3.some, h3, F.liveP h4⟩⟩
theorem fam_ls {α : Type} {R : RlA α} (F : Fam R) : Fam (LsF R) :=
  ⟨fun e ⟨a, vs, h1, h2, h3, h4⟩ => ⟨a, vs, h1, h2, e.1 _ _ h2 h3, F.monoP e h4⟩, fun e ⟨a, vs, h1, h2, h3, h4⟩ => ⟨a, vs, h1, fun z => h2 (e _ z), h3, F.weakP e h4⟩, fun ⟨a, vs, h1, h2, h3, h4⟩ => ⟨a, vs, h1, fun z => z.elim h2 (by rw [h3]; exact fun z => nomatch z), h3, F.liveP h4⟩⟩
theorem fam_tp {α : Type} {R : RlA α} (F : Fam R) : Fam (TpF R) :=
  ⟨fun e ⟨a, vs, h1, h3, h4⟩ => ⟨a, vs, h1, (e.2.1 a).1 _ h3, F.monoP e h4⟩, fun e ⟨a, vs, h1, h3, h4⟩ => ⟨a, vs, h1, h3, F.weakP e h4⟩, fun ⟨a, vs, h1, h3, h4⟩ => ⟨a, vs, h1, h3, F.liveP h4⟩⟩
/-- of tuples and ints alone: kept by whatever keeps tuples -/
structure FamT {α : Type} (R : RlA α) : Prop where
  tk : ∀ {A B : Addr → Prop} {H H' : Hp} {v : V} {x : α}, Tk H H' → R A H v x → R B H' v x
theorem FamT.p {α : Type} {R : RlA α} (F : FamT R) {A B : Addr → Prop} {H H' : Hp} {vs : List V} {xs : List α} (e : Tk H H') (r : Paired (R A H) vs xs) : Paired (R B H') vs xs := Paired.imp (fun _ _ h => F.tk e h) r
theorem famT_in : FamT InA := ⟨fun _ h => h⟩
theorem famT_tp {α : Type} {R : RlA α} (F : FamT R) : FamT (TpF R) := ⟨fun e ⟨a, vs, h1, h3, h4⟩ => ⟨a, vs, h1, (e a).1 _ h3, F.p e h4⟩⟩
theorem Paired.both {α β : Type} {F : α → β → Prop} {xs : List α} {ys : List β} (p : Paired F xs ys) {i : Nat} {x : α} {y : β} (hx : xs[i]? = some x) (hy : ys[i]? = some y) : F x y := by
  obtain ⟨z, hz, r⟩ := Paired.at p hx
  rw [hy] at hz
  cases hz
  exact r
theorem SqF.ofT {α : Type} {R : RlA α} {H : Hp} {v : V} {x : List α} (h : TpF R No H v x) : SqF R No H v x := by
  obtain ⟨a, vs, e, h, p⟩ := h
  exact ⟨a, vs, e, fun z => z, .inr h, p⟩
theorem SqF.ofL {α : Type} {R : RlA α} {A : Addr → Prop} {H : Hp} {v : V} {x : List α} (h : LsF R A H v x) : SqF R A H v x := by
  obtain ⟨a, vs, e, n, h, p⟩ := h
  exact ⟨a, vs, e, n, .inl h, p⟩
theorem ina_eq {A : Addr → Prop} {H : Hp} : ∀ {vs : List V} {ns : List Int}, Paired (InA A H) vs ns → vs = ns.map V.int
  | _, _, .nil => rfl
  | _, _, .cons r t => by rw [List.map_cons, ← ina_eq t, show _ = _ from r]
theorem ina_of {A : Addr → Prop} {H : Hp} : ∀ (ns : List Int), Paired (InA A H) (ns.map V.int) ns
  | [] => .nil
  | _ :: t => .cons rfl (ina_of t)
/-- hands back just this value -/
abbrev RetV (v : V) (H : Hp) (Q : VK) : Prop := Ret (fun _ x => x = v) H Q
theorem retV {v : V} {H : Hp} {Q : VK} : RetV v H Q ↔ ∀ H', Same H H' → Q v H' := ⟨fun h H' e => h v H' e rfl, fun h v' H' e r => r ▸ h H' e⟩
section
variable {K : PySem.W.Frag} {H : Hp} {Q : VK}
theorem isi_of {x c : V} {t u : Value} {b : Bool} (q : Q (.bl b) H) (ty : TyX K H x t) (c' : ClsV c u) (k : PySem.W.kitOne K t u = some b) : rIsi K [x, c] H Q := ⟨x, c, t, u, b, rfl, c', ty, k, q⟩
theorem isi_ii {i : Int} (q : Q (.bl true) H) : rIsi K [.int i, .ty "int"] H Q := isi_of q (.base (.int i)) (.ty _) (kit_ty (by decide +kernel))
theorem isi_ib {i : Int} (q : Q (.bl false) H) : rIsi K [.int i, .ty "bool"] H Q := isi_of q (.base (.int i)) (.ty _) (kit_ty (by decide +kernel))
/-- isinstance(value, (list, tuple)) -/
theorem isi_sq {a : Addr} {xs : List V} (hs : Sq H a xs) (q : ∀ H', Same H H' → Q (.bl true) H') : tTup (tCons (tC (.ty "list")) (tCons (tC (.ty "tuple")) tNil)) [] H fun tp H' => rIsiT K [.ref a, tp] H' Q := by
  refine ⟨by decide, fun T nT => ?_⟩
  have ne : Same H (upd H T (.tup [.ty "list", .ty "tuple"])) := same_new nT
  rcases hs with hs | hs
  · exact ⟨.ref a, T, [.ty "list", .ty "tuple"], .type "list", [.type "list", .type "tuple"], true, rfl, upd_same, .cons (.ty _) (.cons (.ty _) .nil), .base (.lst (ne _ _ hs)), kitAny_cons (b := true) (kit_ty (by decide +kernel)) (fun z => nomatch z) (fun _ => rfl), q _ ne⟩
  · exact ⟨.ref a, T, [.ty "list", .ty "tuple"], .type "tuple", [.type "list", .type "tuple"], true, rfl, upd_same, .cons (.ty _) (.cons (.ty _) .nil), .base (.tup (ne _ _ hs)),
      kitAny_cons (b := false) (kit_ty (by decide +kernel)) (fun _ => kitAny_cons (b := true) (kit_ty (by decide +kernel)) (fun z => nomatch z) (fun _ => rfl)) (fun z => nomatch z), q _ ne⟩
end
/-! ### tuple(..), list(..), len(..) of a list or tuple -/
def rTupA (K : PySem.W.Frag) : List V → Hp → VK → Prop := fun xs H Q => ∃ p ys, xs = [.ref p] ∧ ((SqL K H p ys ∧ ∀ l, H l = none → Q (.ref l) (upd H l (.tup ys))) ∨ (SqT K H p ys ∧ Q (.ref p) H))
def rLstA (K : PySem.W.Frag) : List V → Hp → VK → Prop := fun xs H Q => ∃ p ys, xs = [.ref p] ∧ (SqL K H p ys ∨ SqT K H p ys) ∧ ∀ l, H l = none → Q (.ref l) (upd H l (.lst ys))
def rLenA (K : PySem.W.Frag) : List V → Hp → VK → Prop := fun xs H Q => ∃ p ys, xs = [.ref p] ∧ (SqL K H p ys ∨ SqT K H p ys) ∧ Q (.int ys.length) H
theorem cr_tupA {X : Cx} : CallR X (.type "tuple") (rTupA X.K) := call_tuple_of
theorem cr_lstA {X : Cx} : CallR X (.type "list") (rLstA X.K) := call_list_of
theorem cr_lenA {X : Cx} : CallR X (.builtin "len") (rLenA X.K) := call_len_seq
theorem tup_sq {K : PySem.W.Frag} {H : Hp} {Q : VK} {a : Addr} {xs : List V} (h : Sq H a xs) (q : ∀ p H', Same H H' → H' p = some (.tup xs) → Q (.ref p) H') : rTupA K [.ref a] H Q := by
  refine ⟨a, xs, rfl, ?_⟩
  rcases h with h | h
  · exact .inl ⟨sqL_of h, fun l n => q l _ (same_new n) upd_same⟩
  · exact .inr ⟨sqT_of h, q a _ (Same.refl _) h⟩
theorem lst_sq {K : PySem.W.Frag} {H : Hp} {Q : VK} {a : Addr} {xs : List V} (h : Sq H a xs) (q : ∀ l, H l = none → Q (.ref l) (upd H l (.lst xs))) : rLstA K [.ref a] H Q := ⟨a, xs, rfl, h.a, q⟩
theorem len_sq {K : PySem.W.Frag} {H : Hp} {Q : VK} {a : Addr} {xs : List V} (h : Sq H a xs) (q : Q (.int xs.length) H) : rLenA K [.ref a] H Q := ⟨a, xs, rfl, h.a, q⟩
theorem inV_ints {i : Int} (ns : List Int) : inV (.int i) (ns.map V.int) = decide (i ∈ ns) := by
  induction ns with
  | nil => rfl
  | cons x t ih =>
    unfold inV at ih ⊢
    rw [List.map_cons, List.any_cons, ih]
    simp only [eqV, List.mem_cons, Bool.decide_or]
    congr 1
    by_cases e : x = i
    · subst e
      simp
    · rw [decide_eq_false (fun z => e z.symm)]
      exact beq_false_of_ne e
theorem all_flat (ns : List Int) : (ns.map V.int).all flatV = true := by
  rw [List.all_eq_true]
  intro x hx
  obtain ⟨i, _, rfl⟩ := List.mem_map.1 hx
  rfl
/-- i in a list or tuple of ints -/
theorem in_sq {K : PySem.W.Frag} {H : Hp} {Q : VK} {a : Addr} {i : Int} {ns : List Int} (h : Sq H a (ns.map V.int)) (q : Q (.bl (decide (i ∈ ns))) H) : rIn K false (.int i) (.ref a) H Q :=
  ⟨a, _, rfl, h.a, rfl, all_flat ns, by rw [inV_ints]; exact q⟩
theorem notin_sq {K : PySem.W.Frag} {H : Hp} {Q : VK} {a : Addr} {i : Int} {ns : List Int} (h : Sq H a (ns.map V.int)) (q : Q (.bl (!decide (i ∈ ns))) H) : rIn K true (.int i) (.ref a) H Q :=
  ⟨a, _, rfl, h.a, rfl, all_flat ns, by rw [inV_ints]; exact q⟩
/-- sorted -/
def srt (ns : List Int) : List Int := ns.mergeSort fun a b => decide (a ≤ b)
theorem srt_perm (ns : List Int) : (srt ns).Perm ns := List.mergeSort_perm _ _
theorem srt_asc (ns : List Int) : (srt ns).Pairwise (· ≤ ·) := by
  have := List.pairwise_mergeSort (le := fun a b : Int => decide (a ≤ b)) (fun a b c h1 h2 => by simp at *; omega) (fun a b => by simp; omega) ns
  exact this.imp fun h => of_decide_eq_true h
theorem srt_only {ns ms : List Int} (h : ms.Perm ns) (p : ms.Pairwise (· ≤ ·)) : ms = srt ns := List.Perm.eq_of_pairwise (fun a b _ _ h1 h2 => by omega) p (srt_asc ns) (h.trans (srt_perm ns).symm)
theorem srt_of {ns : List Int} (p : ns.Pairwise (· ≤ ·)) : srt ns = ns := (srt_only (.refl _) p).symm
theorem sorted_sq {K : PySem.W.Frag} {H : Hp} {Q : VK} {a : Addr} {ns : List Int} (h : Sq H a (ns.map V.int)) (q : ∀ p, H p = none → Q (.ref p) (upd H p (.lst ((srt ns).map V.int)))) : rSortedA K [.ref a] H Q :=
  ⟨a, ns, rfl, h.a, fun ns' p hp ha np => by
    obtain rfl := srt_only hp ha
    exact q p np⟩
theorem ixN_nat {n b : Nat} (h : b < n) : ixN n (b : Int) = some b := by
  unfold ixN
  rw [if_pos (by omega), if_pos (by omega), Int.toNat_natCast]
theorem atI_nat {α : Type} {xs : List α} {b : Nat} {v : α} (h : xs[b]? = some v) : atI xs (b : Int) = some v := by
  unfold atI
  rw [ixN_nat (List.getElem?_eq_some_iff.1 h).1]
  exact h
/-- xs[b] of a list -/
theorem ix_at {K : PySem.W.Frag} {H : Hp} {Q : VK} {p : Addr} {xs : List V} {b : Nat} {v : V} (h : H p = some (.lst xs)) (hv : xs[b]? = some v) (q : Q v H) : rIxL K (.ref p) (.int b) H Q := ⟨p, xs, b, v, rfl, rfl, sqL_of h, atI_nat hv, q⟩
/-- xs[b] of a tuple -/
theorem ixt_at {K : PySem.W.Frag} {H : Hp} {Q : VK} {p : Addr} {xs : List V} {b : Nat} {v : V} (h : H p = some (.tup xs)) (hv : xs[b]? = some v) (q : Q v H) : rIxT K (.ref p) (.int b) H Q := ⟨p, xs, b, v, rfl, rfl, sqT_of h, atI_nat hv, q⟩
end HK
set_option Elab.async false
set_option linter.all false
set_option maxRecDepth 100000
set_option maxHeartbeats 4000000
/-! HKLoop: what is walked, and loops and comprehensions by it. -/
namespace HK
open PySem PySem.Spec PyProof.Rows L2 He
structure Walks (J : It) (xs : List V) (Z : Hp → Prop) : Prop where
  go : ∀ i H, i < xs.length → Z H → J.go i H
  stop : ∀ i H, xs.length ≤ i → Z H → J.stop i H
  yld : ∀ i H x H', i < xs.length → J.yld i H x H' → H' = H ∧ xs[i]? = some x
/-- the iterable gives xs, as long as P holds -/
def Gives (wi : TI) (σ : L2.St) (H : Hp) (xs : List V) (P : Hp → Prop) : Prop := ∀ R : It → Hp → Prop, (∀ J Z, Walks J xs Z → (∀ H', P H' → Z H') → R J H) → wi σ H R
theorem gives_sq {K : PySem.W.Frag} {tl : TE} {σ : L2.St} {H : Hp} {a : Addr} {xs : List V} (ht : ∀ Q : VK, Q (.ref a) H → tl σ H Q) (hs : Sq H a xs) : Gives (iSeq K tl) σ H xs fun H' => H' a = H a := fun R h => ht _ ⟨a, xs, rfl, by
  have w : ∀ Z, Walks (ItS xs Z) xs Z := fun Z => ⟨fun i H l z => ⟨z, l⟩, fun i H l z => ⟨z, l⟩, fun i H x H' _ y => y⟩
  rcases hs with hs | hs
  · exact .inl ⟨sqL_of hs, h _ _ (w _) fun H' e => sqL_of (e.trans hs)⟩
  · exact .inr ⟨sqT_of hs, h _ _ (w _) fun H' e => sqT_of (e.trans hs)⟩⟩
/-- lo, lo + 1, .. : n of them -/
def rngV (lo : Int) (n : Nat) : List V := (List.range n).map fun k => .int (lo + (k : Nat))
theorem rngV_len {lo : Int} {n : Nat} : (rngV lo n).length = n := by simp [rngV]
theorem rngV_get {lo : Int} {n i : Nat} (h : i < n) : (rngV lo n)[i]? = some (.int (lo + (i : Nat))) := by simp [rngV, h]
theorem walks_rng {lo : Int} {n : Nat} : Walks (Itr lo n) (rngV lo n) fun _ => True := ⟨fun i H l _ => by rw [rngV_len] at l; exact l, fun i H l _ => by rw [rngV_len] at l; exact l, fun i H x H' l y => by
  rw [rngV_len] at l
  obtain ⟨e, ex⟩ := y
  exact ⟨e, by rw [rngV_get l, ex]⟩⟩
theorem gives_rng1 {ta : TA} {σ : L2.St} {H : Hp} {j : Int} (ht : ∀ Q : List V → Hp → Prop, Q [.int j] H → ta σ H Q) (h1 : -(2 ^ 62) ≤ j := by omega) (h2 : j < 2 ^ 62 := by omega) : Gives (iRng1 ta) σ H (rngV 0 j.toNat) fun _ => True := fun R h => ht _ ⟨j, rfl, h1, h2, h _ _ walks_rng fun _ _ => trivial⟩
theorem for_go {wi : TI} {g : TG} {tb : TS} {D : Ends} {σ : L2.St} {H : Hp} {xs : List V} {P : Hp → Prop} (G : Gives wi σ H xs P) (Pv : Nat → L2.St → Hp → Prop) (h0 : Pv 0 σ H) (hl : ∀ i σ H, i ≤ xs.length → Pv i σ H → P H)
    (hs : ∀ i x σ H, i < xs.length → xs[i]? = some x → Pv i σ H → g x σ H fun σ2 H2 => tb { D with nx := Pv (i + 1), ct := Pv (i + 1), bk := D.nx } σ2 H2) (hd : ∀ σ H, Pv xs.length σ H → D.nx σ H) : tFor wi g tb D σ H := by
  refine G _ fun J Z w hz => ?_
  refine ⟨fun i m σ H => m = xs.length - i ∧ i ≤ xs.length ∧ Pv i σ H, ⟨xs.length, by simp, Nat.zero_le _, h0⟩, ?_⟩
  rintro i m σ H ⟨rfl, hi, p⟩
  have q := hz _ (hl i σ H hi p)
  by_cases hlt : i < xs.length
  · refine .inr ⟨w.go i H hlt q, Pv (i + 1), fun σ' H' p' => ⟨xs.length - (i + 1), by omega, rfl, hlt, p'⟩, fun x H' y => ?_⟩
    obtain ⟨e, y'⟩ := w.yld i H x H' hlt y
    subst e
    exact hs i x σ _ hlt y' p
  · have e : i = xs.length := by omega
    subst e
    exact .inl ⟨w.stop _ H (Nat.le_refl _) q, hd σ H p⟩
/-- enumerate of a list or tuple -/
theorem for_en {K : PySem.W.Frag} {ta : TA} {g : TG} {tb : TS} {D : Ends} {σ : L2.St} {H : Hp} {a : Addr} {xs : List V} (ht : ∀ Q : List V → Hp → Prop, Q [.ref a] H → ta σ H Q) (h : Sq H a xs) (Pv : Nat → L2.St → Hp → Prop) (h0 : Pv 0 σ H) (hl : ∀ i σ H', i ≤ xs.length → Pv i σ H' → H' a = H a)
    (hs : ∀ i x σ H T, i < xs.length → xs[i]? = some x → Pv i σ H → H T = none → g (.ref T) σ (upd H T (.tup [.int (i : Nat), x])) fun σ2 H2 => tb { D with nx := Pv (i + 1), ct := Pv (i + 1), bk := D.nx } σ2 H2) (hd : ∀ σ H, Pv xs.length σ H → D.nx σ H) : tFor (iEnS K ta) g tb D σ H := by
  refine ht _ ⟨a, xs, rfl, ?_⟩
  have st : ∀ (i : Nat) (x : V) (σ : L2.St) (H : Hp) (T : Addr), xs[i]? = some x → Pv i σ H → H T = none → g (.ref T) σ (upd H T (.tup [.int (i : Nat), x])) fun σ2 H2 => tb { D with nx := Pv (i + 1), ct := Pv (i + 1), bk := D.nx } σ2 H2 := fun i x σ H T e => hs i x σ H T (List.getElem?_eq_some_iff.1 e).1 e
  rcases h with h | h
  · exact .inl ⟨sqL_of h, for_E Pv h0 (fun i σ H' l p => sqL_of ((hl i σ H' l p).trans h)) st hd⟩
  · exact .inr ⟨sqT_of h, for_E Pv h0 (fun i σ H' l p => sqT_of ((hl i σ H' l p).trans h)) st hd⟩
theorem for_call {K : PySem.W.Frag} {tl : TE} {g : TG} {tb : TS} {D : Ends} {σ : L2.St} {H : Hp} : tFor (iSeq K tl) g tb D σ H = tl σ H fun x H1 => tFor (iSeq K (tC x)) g tb D σ H1 := rfl
theorem lc_call {K : PySem.W.Frag} {tl : TE} {g : TG} {tt : TT} {te : TE} {vs : List Nat} {σ : L2.St} {H : Hp} {Q : VK} : tLc (iSeq K tl) g tt te vs σ H Q = tl σ H fun x H1 => tLc (iSeq K (tC x)) g tt te vs σ H1 Q := rfl
/-- a pair, taken apart -/
theorem g_two {K : PySem.W.Frag} {n i j : Nat} {T : Addr} {x y : V} {σ : L2.St} {H : Hp} {Q : L2.St → Hp → Prop} (hn : n = 2) (h : H T = some (.tup [x, y])) (q : Q ((σ.set i (some x)).set j (some y)) H) : gTup K n (gCons (gName i) (gCons (gName j) gNil)) (.ref T) σ H Q :=
  ⟨T, [x, y], rfl, sqT_of h, hn.symm, x, [y], rfl, y, [], rfl, rfl, q⟩
theorem g_three {K : PySem.W.Frag} {n i j k : Nat} {T : Addr} {x y z : V} {σ : L2.St} {H : Hp} {Q : L2.St → Hp → Prop} (hn : n = 3) (h : H T = some (.tup [x, y, z])) (q : Q (((σ.set i (some x)).set j (some y)).set k (some z)) H) : gTup K n (gCons (gName i) (gCons (gName j) (gCons (gName k) gNil))) (.ref T) σ H Q :=
  ⟨T, [x, y, z], rfl, sqT_of h, hn.symm, x, [y, z], rfl, y, [z], rfl, z, [], rfl, rfl, q⟩
/-! ### inside comprehensions: the fragment by name -/
theorem cK {X : Cx} {K : PySem.W.Frag} {f : Value} {r : PySem.W.Frag → List V → Hp → VK → Prop} (e : X.K = K) (h : CallR X f (r X.K)) : CallR X f (r K) := e ▸ h
theorem oK {X : Cx} {K : PySem.W.Frag} {f : Value → Value → Sem Value} {r : PySem.W.Frag → R2} (e : X.K = K) (h : OpR X f (r X.K)) : OpR X f (r K) := e ▸ h
theorem iK {X : Cx} {K : PySem.W.Frag} {r : PySem.W.Frag → R2} (e : X.K = K) (h : IxR X (r X.K)) : IxR X (r K) := e ▸ h
theorem pi_seqK {X : Cx} {K : PySem.W.Frag} {tg l : Expr} {tl : TE} (e : X.K = K) (hl : PE X l tl) : PI X tg l (iSeq K tl) := e ▸ pi_seq hl
/-! ### comprehensions: O is what a turn may change, I what it needs and keeps, A what the parts lie off -/
structure Box (O A : Addr → Prop) (I : Hp → Prop) (H : Hp) : Prop where
  sub : ∀ a, O a → A a
  old : ∀ a, A a → H a ≠ none
  upd : ∀ H D o, ¬A D → I H → I (upd H D o)
  ini : I H
theorem Box.none {A : Addr → Prop} {H : Hp} (h : ∀ a, A a → H a ≠ Option.none) : Box No A (fun _ => True) H := ⟨fun _ z => False.elim z, h, fun _ _ _ _ _ => trivial, trivial⟩
theorem lc_acc {wi : TI} {g : TG} {tt : TT} {te : TE} {vs : List Nat} {σ : L2.St} {H : Hp} {Q : VK} {xs : List V} {P : Hp → Prop} (G : Gives wi σ H xs P) {O A : Addr → Prop} {I : Hp → Prop} (B : Box O A I H) (hP : ∀ H', SameO O H H' → P H') (hz : xs.length ≤ sizeLine)
    (Inv : (Addr → Prop) → Nat → List V → Hp → Prop) (i0 : ∀ D H', Inv (Or1 A D) 0 [] H') (mI : ∀ {A n acc H' H''}, SameO A H' H'' → Inv A n acc H' → Inv A n acc H'') (wI : ∀ {A B n acc H'}, (∀ a, B a → A a) → Inv A n acc H' → Inv B n acc H')
    (step : ∀ (n : Nat) (x : V) (acc : List V) (H' : Hp) (D : Addr) (N : VK) (N0 : Hp → Prop), n < xs.length → xs[n]? = some x → SameO O H H' → I H' → (∀ a, Or1 A D a → H' a ≠ none) → Inv (Or1 A D) n acc H' →
      (∀ y H4, SameO O H' H4 → I H4 → Inv (Or1 A D) (n + 1) (acc ++ [y]) H4 → N y H4) → (∀ H3, SameO O H' H3 → I H3 → Inv (Or1 A D) (n + 1) acc H3 → N0 H3) →
      g x (wipe σ vs) H' fun σ2 H2 => wipe σ2 vs = wipe σ vs ∧ tt σ2 H2 fun b H3 => if b = true then te σ2 H3 N else N0 H3)
    (done : ∀ acc H' D, SameO O H H' → I H' → H D = none → ¬A D → H' D = some (.lst acc) → Inv A xs.length acc H' → Q (.ref D) H') : tLc wi g tt te vs σ H Q := by
  refine G _ fun J Z w hz' => fun D nD => ?_
  have nA : ¬A D := fun z => B.old D z nD
  have nO : ¬O D := fun z => nA (B.sub D z)
  refine ⟨fun i m H' => m = xs.length - i ∧ i ≤ xs.length ∧ ∃ acc, acc.length ≤ i ∧ SameO O H H' ∧ I H' ∧ H' D = some (.lst acc) ∧ Inv (Or1 A D) i acc H', ⟨xs.length, by simp, Nat.zero_le _, [], Nat.le_refl _, .new nD, B.upd _ _ _ nA B.ini, upd_same, i0 _ _⟩, ?_⟩
  rintro i m H' ⟨rfl, hi, acc, hlen, e, hI, hD, hInv⟩
  have q := hz' _ (hP _ e)
  by_cases hlt : i < xs.length
  · refine .inr ⟨w.go i H' hlt q, fun H'' => i + 1 ≤ xs.length ∧ ∃ acc, acc.length ≤ i + 1 ∧ SameO O H H'' ∧ I H'' ∧ H'' D = some (.lst acc) ∧ Inv (Or1 A D) (i + 1) acc H'', fun H'' p' => ⟨xs.length - (i + 1), by omega, rfl, p'⟩, fun x H'' y => ?_⟩
    obtain ⟨ee, y'⟩ := w.yld i H' x H'' hlt y
    subst ee
    refine step i x acc H'' D _ _ hlt y' e hI (fun a h => ?_) hInv (fun y H4 e4 I4 v4 => ?_) fun H3 e3 I3 v3 => ?_
    · rcases h with h | h
      · exact e.2.2 a (B.old a h)
      · rw [h, hD]
        exact fun z => nomatch z
    · have hD4 := e4.1 D _ nO hD
      refine ⟨acc, hD4, by omega, by omega, acc ++ [y], by rw [List.length_append]; simp; omega, ?_, B.upd _ _ _ nA I4, upd_same, mI (SameO.lst hD4 (.inr rfl)) v4⟩
      refine ⟨fun a u n h => ?_, ?_, fun a h => ?_⟩
      · have h4 := (e.trans e4).1 a u n h
        rw [upd_ne (ne_of_none h nD)]
        exact h4
      · exact (e.trans e4).2.1.trans (.lst hD4)
      · exact (SameO.lst (A := Or1 A D) hD4 (.inr rfl)).2.2 a ((e.trans e4).2.2 a h)
    · exact ⟨by omega, acc, by omega, e.trans e3, I3, e3.1 D _ nO hD, v3⟩
  · have ee : i = xs.length := by omega
    subst ee
    exact .inl ⟨w.stop _ H' (Nat.le_refl _) q, done acc H' D e hI nD nA hD (wI (fun a h => .inl h) hInv)⟩
/-- each part to its own -/
theorem lc_map {wi : TI} {i : Nat} {te : TE} {vs : List Nat} {σ : L2.St} {H : Hp} {Q : VK} {xs : List V} {P : Hp → Prop} (G : Gives wi σ H xs P) {O A : Addr → Prop} {I : Hp → Prop} (B : Box O A I H) (hP : ∀ H', SameO O H H' → P H') (hz : xs.length ≤ sizeLine)
    (hw : ∀ x, wipe ((wipe σ vs).set i (some x)) vs = wipe σ vs) {α β : Type} {S : RlA β} (F : Fam S) (zs : List α) (hzl : zs.length = xs.length) (f : α → β)
    (step : ∀ (n : Nat) (x : V) (z : α) (H' : Hp) (D : Addr) (N : VK), xs[n]? = some x → zs[n]? = some z → SameO O H H' → I H' → (∀ a, Or1 A D a → H' a ≠ none) →
      (∀ y H4, SameO O H' H4 → I H4 → S (Or1 A D) H4 y (f z) → N y H4) → te ((wipe σ vs).set i (some x)) H' N)
    (done : ∀ ys H' D, SameO O H H' → I H' → H D = none → ¬A D → H' D = some (.lst ys) → Paired (S A H') ys (zs.map f) → Q (.ref D) H') : tLc wi (gName i) tYes te vs σ H Q := by
  refine lc_acc G B hP hz (fun A n acc H' => Paired (S A H') acc ((zs.take n).map f)) (fun _ _ => .nil) (fun e h => F.monoP e h) (fun e h => F.weakP e h) (fun n x acc H' D N N0 hn hx e hI hA hp hN _ => ?_) fun acc H' D e hI nD nA hD hp => ?_
  · refine ⟨hw x, ?_⟩
    have hz' : n < zs.length := by rw [hzl]; exact hn
    refine step n x zs[n] H' D N hx (List.getElem?_eq_getElem hz') e hI hA fun y H4 e4 I4 r => hN y H4 e4 I4 ?_
    rw [List.take_succ, List.getElem?_eq_getElem hz']
    simp only [Option.toList_some, List.map_append, List.map_cons, List.map_nil]
    exact Paired.app (F.monoP (e4.wk fun a h => .inl (B.sub a h)) hp) (.cons r .nil)
  · refine done acc H' D e hI nD nA hD ?_
    rw [← hzl, List.take_length] at hp
    exact hp
/-- {cell: v for cell in xs}, the cells tuples of ints, each once -/
theorem dcT_map {wi : TI} {i : Nat} {vs : List Nat} {σ : L2.St} {H : Hp} {Q : VK} {xs : List V} {P : Hp → Prop} {v : V} (G : Gives wi σ H xs P) (hP : ∀ H', Same H H' → P H') (hz : xs.length ≤ sizeLine)
    (hw : ∀ x, wipe ((wipe σ vs).set i (some x)) vs = wipe σ vs) (hv : ∀ x, ((wipe σ vs).set i (some x))[i]? = some (some x)) {cs : List (List Int)} (hp : Paired (TpF InA No H) xs cs) (hn : cs.Nodup)
    (done : ∀ H' D, Same H H' → H D = none → H' D = some (.dT (cs.map fun c => (c.map Sum.inl, v))) → Q (.ref D) H') : tDcT wi (gName i) tYes (tVar i) (tC v) vs σ H Q := by
  refine G _ fun J Z w hz' => fun D nD => ?_
  have hl : xs.length = cs.length := Paired.len hp
  refine ⟨fun n m H' => m = xs.length - n ∧ n ≤ xs.length ∧ Same H H' ∧ H' D = some (.dT ((cs.take n).map fun c => (c.map Sum.inl, v))), ⟨xs.length, by simp, Nat.zero_le _, same_new nD, upd_same⟩, ?_⟩
  rintro n m H' ⟨rfl, hi, e, hD⟩
  have q := hz' _ (hP _ e)
  by_cases hlt : n < xs.length
  · refine .inr ⟨w.go n H' hlt q, fun H'' => n + 1 ≤ xs.length ∧ Same H H'' ∧ H'' D = some (.dT ((cs.take (n + 1)).map fun c => (c.map Sum.inl, v))), fun H'' p' => ⟨xs.length - (n + 1), by omega, rfl, p'⟩, fun x H'' y => ?_⟩
    obtain ⟨ee, y'⟩ := w.yld n H' x H'' hlt y
    subst ee
    obtain ⟨c, hc, b, ys, rfl, hb, hbp⟩ := Paired.at hp y'
    obtain rfl := ina_eq hbp
    refine ⟨hw _, ⟨.ref b, hv _, (cs.take n).map fun c => (c.map Sum.inl, v), c.map Sum.inl, b, rfl, ?_, hD, by rw [List.length_map, List.length_take]; omega, by omega, same_mut e nD, ?_⟩⟩
    · rw [List.map_map]
      exact e _ _ hb
    · rw [upd_same, putK_new]
      · rw [List.take_succ, hc]
        simp
      · cases hvv : valV ((cs.take n).map fun c => ((c.map Sum.inl : List L2.Key), v)) (c.map Sum.inl) with
        | none => rfl
        | some z =>
          exfalso
          have hin := valV_in hvv
          rw [List.map_map, List.mem_map] at hin
          obtain ⟨d, hd, ed⟩ := hin
          have ecd : d = c := by
            have := congrArg (List.map fun k : L2.Key => match k with | .inl i => i | .inr _ => 0) ed
            simpa [List.map_map, Function.comp_def] using this
          subst ecd
          obtain ⟨j, hj, ej⟩ := List.mem_take_iff_getElem.1 hd
          obtain ⟨hi2, ei⟩ := List.getElem?_eq_some_iff.1 hc
          have := (List.getElem_inj hn).1 (ej.trans ei.symm)
          omega
  · have ee : n = xs.length := by omega
    subst ee
    refine .inl ⟨w.stop _ H' (Nat.le_refl _) q, done H' D e nD ?_⟩
    rw [hD, hl, List.take_length]
theorem Paired.perm {α β : Type} {R : α → β → Prop} {xs ys : List α} (h : ys.Perm xs) : ∀ (zs : List β), Paired R xs zs → ∃ ws, ws.Perm zs ∧ Paired R ys ws := by
  induction h with
  | nil =>
    intro zs h
    cases h
    exact ⟨[], .nil, .nil⟩
  | cons x _ ih =>
    intro zs h
    cases h with
    | cons r t =>
      obtain ⟨ws, e, p⟩ := ih _ t
      exact ⟨_ :: ws, .cons _ e, .cons r p⟩
  | swap x y l =>
    intro zs h
    cases h with
    | cons r t =>
      cases t with
      | cons r' t' => exact ⟨_, .swap _ _ _, .cons r' (.cons r t')⟩
  | trans _ _ ih1 ih2 =>
    intro zs h
    obtain ⟨ws, e, p⟩ := ih2 _ h
    obtain ⟨us, e', p'⟩ := ih1 _ p
    exact ⟨us, e'.trans e, p'⟩
theorem mem_mergeT {k : List L2.Key} : ∀ (more kvs : List (List L2.Key × V)), (valV (mergeT kvs more) k).isSome = true → (valV kvs k).isSome = true ∨ k ∈ more.map (·.1)
  | [], _, h => .inl h
  | p :: more, kvs, h => by
    rcases mem_mergeT more (putK kvs p.1 p.2) h with h | h
    · rw [valV_put] at h
      by_cases e : k = p.1
      · exact .inr (by rw [e]; exact List.mem_cons_self)
      · rw [if_neg e] at h
        exact .inl h
    · exact .inr (List.mem_cons_of_mem _ h)
theorem putK_ne {κ : Type} [DecidableEq κ] {kvs : List (κ × V)} {k : κ} {v : V} : putK kvs k v ≠ [] := by
  unfold putK
  split
  · rename_i h
    intro z
    cases kvs with
    | nil => simp at h
    | cons p r => simp at z
  · simp
theorem mergeT_ne : ∀ (more kvs : List (List L2.Key × V)), kvs ≠ [] ∨ more ≠ [] → mergeT kvs more ≠ []
  | [], kvs, h => by
    rcases h with h | h
    · exact h
    · exact absurd rfl h
  | p :: more, kvs, _ => mergeT_ne more _ (.inl putK_ne)
end HK
set_option Elab.async false
set_option linter.all false
set_option maxRecDepth 100000
set_option maxHeartbeats 4000000
/-! HKObj: own classes: isinstance, ==, != ; deep data. -/
namespace HK
open PySem PySem.Spec PyProof.Rows L2 He
section
variable {P : Program} {w : World} {base : Heap} {fx : List (PySem.W.Frag → Bool)} {fa : List Fa} {fn : List DefD} {er : List ErD} {K : PySem.W.Frag} {mg : Str → Option Value}
/-- a class with its own __eq__, as its callers see it -/
structure CalE (P : Program) (w : World) (K : PySem.W.Frag) (mg : Str → Option Value) (base : Heap) (CX : CXT) (C : Addr) (k : Nat) (ps : List Str) (sp : Sp) : Prop where
  ex : ∃ (f : Addr) (fd : FuncData), EqC K C f ∧ FnOk P w K mg base CX k f fd ps sp ∧ Binds K fd ps []
theorem Src.calE {d : DefD} {N ps : List Str} {k : Nat} {sp : Sp} {x : Str} (S : Src P fx fa fn er K mg) (i : Nat) (Sc : FnScope N ps d.scope) (hd : fn[i]? = some d) (hat : d.at_ = (x, some ("__eq__" : Str))) (hds : d.dfl = []) (hkw : d.kwd = [])
    (hE : EqC K (ga K x) (ma K (ga K x) "__eq__"))
    (hb : ∀ (kV doc pm : Value) (an : Option Addr) (cdv ct : Value) (us : List Value), us.length = ps.length → bindArgs (PySem.W.fnOf d.name d.qual d.params d.body d.scope .none kV doc pm an cdv ct) ⟨us, []⟩ = pure (ps.zip us))
    (len : ∀ vs H Q E, sp vs H Q E → vs.length = ps.length)
    (hbody : ∀ (f : Addr) (cdv : Value) (A : Around) (outer : List Env) (s : Shared) (H : Hp) (vs : List V) (Q : VK) (E : XK), Room k (A.deeper (envOfC d.qual d.scope s.heap.objs.size f cdv)) → sp vs H Q E →
      ∃ t, PSs (cxOf CX0 P w K mg base N d.qual d.scope f cdv A outer s H E).nox d.body t ∧ t { nx := fun _ H' => Q .non H', rt := Q } (start N vs) H) : CalE P w K mg base CX0 (ga K x) (k + 1) ps sp := by
  obtain ⟨fd, F⟩ := S.def_ i hd
  have e1 : d.dvs K = [] := by unfold DefD.dvs; rw [hds]; rfl
  have e2 : d.kws K = [] := by unfold DefD.kws; rw [hkw]; rfl
  rw [e1, e2, hat] at F
  refine ⟨_, fd, hE, FunD.ok F Sc len fun cdv A outer s H vs Q E hr h => ?_, FunD.bindsN F hb⟩
  obtain ⟨t, h1, h2⟩ := hbody _ cdv A outer s H vs Q E hr h
  exact ⟨t, h1.nox, h2⟩
end
section
variable {X : Cx} {CX : CXT} {C : Addr} {k : Nat} {ps : List Str} {sp : Sp}
theorem op_eqC (c : CalE X.prog X.w X.K X.mg X.base CX C k ps sp) (hx : Passes CX X (fun _ _ _ => False)) (hr : Room k X.A) : OpR X (compareOp .Eq) (rEqI C sp id) := by
  obtain ⟨f, fd, E, F, hb⟩ := c.ex
  exact op_eqI E F hb hx hr
theorem op_neC (c : CalE X.prog X.w X.K X.mg X.base CX C k ps sp) (hx : Passes CX X (fun _ _ _ => False)) (hr : Room (k + 2) X.A) : OpR X (compareOp .NotEq) (rEqI C sp fun r => !r) := by
  obtain ⟨f, fd, E, F, hb⟩ := c.ex
  exact op_neI E F hb hx hr
end
section
variable {K : PySem.W.Frag} {H : Hp} {Q : VK} {C : Addr}
/-- what isinstance asks of the class -/
structure Own (K : PySem.W.Frag) (C : Addr) : Prop where
  cl : Cls K C
  ca : eqO (PySem.W.findIn K (.ref C) "__class__") (some (some (.builtin "object.__class__"))) = true
  hn : eqO (PySem.W.specialIn K (.builtin "object.__class__") "__get__") (some (some (.builtin "getset_descriptor.__get__"))) = true
  ht : decide (PySem.W.takesIn K (.builtin "object.__class__") = some true) = true
  ob : decide (PySem.W.mroIn K C (.type "object") = some true) = true
  ty : ((PySem.W.clsIn K C).isSome && PySem.W.typeIn K (.ref C) == some (.type "type")) = true
theorem isi_own {a dx : Addr} {fs : List (Str × V)} (O : Own K C) (h : H a = some (.ins C dx fs)) (q : Q (.bl true) H) : rIsi K [.ref a, .ref C] H Q :=
  isi_of q (.base (.ins h O.cl (eqO_ok O.ca) (eqO_ok O.hn) (of_decide_eq_true O.ht) (of_decide_eq_true O.ob))) (.own C) (by
    unfold PySem.W.kitOne
    exact if_pos (beq_self_eq_true _))
theorem isi_not {x : V} {T : String} (O : Own K C) (h : TyX K H x (.type T)) (hT : ∀ C : Addr, (fastBuiltinMro T).map (·.contains (.ref C)) = some false) (q : Q (.bl false) H) : rIsi K [x, .ref C] H Q :=
  isi_of q h (.own C) (by
    unfold PySem.W.kitOne PySem.W.kitCls
    rw [if_neg (by simp)]
    simp only [O.ty, if_true]
    exact hT C)
end
/-- a field of a value -/
def rFld (K : PySem.W.Frag) (f : Str) : V → Hp → VK → Prop := fun x H Q => ∃ a C dx fs v, x = .ref a ∧ H a = some (.ins C dx fs) ∧ Cls K C ∧ NoAttr K C f ∧ fs.lookup f = some v ∧ Q v H
theorem tFld_eq {K : PySem.W.Frag} {ta : TE} {f : Str} {σ : L2.St} {H : Hp} {Q : VK} : tFld K ta f σ H Q = ta σ H fun x H1 => rFld K f x H1 Q := rfl
theorem pe_fldK {X : Cx} {K : PySem.W.Frag} {e : Expr} {f : Str} {pos : Pos} {ta : TE} (ek : X.K = K) (he : PE X e ta) (hb : attributeBase e f X.env (eval e X.env) = eval e X.env) : PE X (.Attribute e f pos) (tFld K ta f) := ek ▸ pe_fld he hb
/-- tuples of tuples of tuples of ints as data -/
def pdU (U : List (List (List Int))) : PyData := .tuple (U.map fun u => .tuple (u.map fun l => .tuple (l.map PyData.int)))
theorem dp_all {K : PySem.W.Frag} {H : Hp} {α : Type} {R : V → α → Prop} {f : α → PyData} (h : ∀ v x, R v x → Dp K H v (f x)) : ∀ {vs : List V} {xs : List α}, Paired R vs xs → DpAll K H vs (xs.map f)
  | _, _, .nil => .nil
  | _, _, .cons r t => .cons (h _ _ r) (dp_all h t)
theorem dp_ups {K : PySem.W.Frag} {H : Hp} {v : V} {U : List (List (List Int))} (h : TpF (TpF (TpF InA)) No H v U) : Dp K H v (pdU U) := by
  obtain ⟨a, vs, rfl, ha, hp⟩ := h
  refine .tup (sqT_of ha) (dp_all (fun v u h => ?_) hp)
  obtain ⟨a, vs, rfl, ha, hp⟩ := h
  refine .tup (sqT_of ha) (dp_all (fun v u h => ?_) hp)
  obtain ⟨a, vs, rfl, ha, hp⟩ := h
  refine .tup (sqT_of ha) (dp_all (fun v u h => ?_) hp)
  cases (show v = .int u from h)
  exact .int u
theorem lay_all {α : Type} {f : α → PyData} (h : ∀ x, (f x).canLay0 = true) : ∀ xs : List α, PyData.canLayAll0 (xs.map f) = true
  | [] => by simp only [List.map_nil, PyData.canLayAll0]
  | x :: t => by
    simp only [List.map_cons, PyData.canLayAll0, h, lay_all h t]
    rfl
theorem dep_all {α : Type} {f : α → PyData} {n : Nat} (h : ∀ x, (f x).depth ≤ n) : ∀ xs : List α, PyData.depthAll (xs.map f) ≤ n
  | [] => by simp only [List.map_nil, PyData.depthAll]; exact Nat.zero_le _
  | x :: t => by
    simp only [List.map_cons, PyData.depthAll]
    exact Nat.max_le.2 ⟨h x, dep_all h t⟩
theorem pdU_lay (U : List (List (List Int))) : (pdU U).canLay0 = true := by
  unfold pdU
  simp only [PyData.canLay0]
  refine lay_all (fun u => ?_) U
  simp only [PyData.canLay0]
  refine lay_all (fun l => ?_) u
  simp only [PyData.canLay0]
  exact lay_all (fun i => by simp only [PyData.canLay0]) l
theorem pdU_dep (U : List (List (List Int))) : (pdU U).depth ≤ 3 := by
  unfold pdU
  simp only [PyData.depth]
  refine Nat.succ_le_succ (dep_all (fun u => ?_) U)
  simp only [PyData.depth]
  refine Nat.succ_le_succ (dep_all (fun l => ?_) u)
  simp only [PyData.depth]
  exact Nat.succ_le_succ (dep_all (fun i => by simp only [PyData.depth]; exact Nat.le_refl _) l)
theorem eqD_ups {K : PySem.W.Frag} {H : Hp} {Q : VK} {v v' : V} {U : List (List (List Int))} (h : TpF (TpF (TpF InA)) No H v U) (h' : TpF (TpF (TpF InA)) No H v' U) (q : Q (.bl true) H) : rEqD K v v' H Q := by
  have sh : SeqAt.shaped (pdU U) = true := by
    unfold SeqAt.shaped
    rw [pdU_lay]
    exact decide_eq_true (Nat.le_trans (pdU_dep U) (by decide))
  refine ⟨pdU U, pdU U, dp_ups h, dp_ups h', sh, sh, ?_⟩
  rw [SeqAt.eqv_refl _ (pdU_lay U)]
  exact q
end HK
set_option Elab.async false
set_option linter.all false
set_option maxRecDepth 100000
set_option maxHeartbeats 4000000
/-! HKMk: making and raising the program's errors. -/
namespace HK
open PySem PySem.Spec PyProof.Rows L2 He
open PySem.HKErr in
theorem mk_err {P : Program} {X : Cx} {e0 : ErD} {ok : V → Prop} {a ex : Expr} {ta : TA} {p pos : Pos} {k : Nat} {q1 q2 q3 q4 q5 q6 q7 q8 q9 p1 p2 : Pos} (hp : X.prog = P) (E : Er P X.K X.mg e0) (hA : e0.params = iA e0.fld p1 p2) (hB : e0.body = iB e0.fld ex q1 q2 q3 q4 q5 q6 q7 q8 q9)
    (Sd : Side e0.fld ex q1 q2 q3 q4 q5 q6 q7 q8 q9 p1 p2 e0.scope e0.qual) (hok : ∀ v u, ok v → RelV v u → ArgOk X.prog X.w X.mg e0.scope ex e0.fld u) (hm : X.mg e0.cls = some (.ref (ga X.K e0.cls))) (hr : Room k X.A) (ha : PA X [a] ta) (hg : Gl X e0.cls := by rfl) (hdb : (e0.cls == ("__debug__" : Str)) = false := by decide)
    (he : starEach (a :: []) X.env = (false, eval a X.env) :: starEach [] X.env := by rfl) (hpl : (backTo pos (starEach [] X.env)).any (·.1) = false := by rfl) :
    PMk X (.Call (.Name e0.cls p) [a] [] pos) (tMkE (ga X.K e0.cls) e0.fld ok ta) := by
  subst hp
  have Y := E.ini
  rw [hA, hB] at Y
  exact pmk_err E.txt Y Sd hok hm hr ha hg hdb he hpl
end HK
set_option Elab.async false
set_option linter.all false
set_option maxRecDepth 100000
set_option maxHeartbeats 4000000
/-! HKRng: range(n) as a value, walked later; xs[i] op= v of a list. -/
namespace HK
open PySem PySem.Spec PyProof.Rows L2 He
section
variable {X : Cx} {tg : Expr}
theorem cr_range1 : CallR X (.type "range") (fun vs H Q => ∃ j, vs = [V.int j] ∧ ∀ p, H p = none → Q (.ref p) (upd H p (.rng 0 j))) := by
  intro pins s σ H vs us Q I r h
  obtain ⟨j, rfl, q⟩ := h
  obtain ⟨u1, rfl, rj⟩ := Vals.one r
  obtain ⟨u, rfl⟩ := rj
  refine call_range_1 ⟨.ref s.heap.objs.size, upd H s.heap.objs.size (.rng 0 j), I.laid (t' := s.toks + 1 + 1) (fun b o e => Heap.get?_push_of_some _ e) (Nat.le_refl _) ?_, rfl, q _ (I.hok.fresh (Nat.le_refl _))⟩
  exact ⟨_, _, _, Heap.get?_push_size _ rfl⟩
def iRngV (tl : TE) : TI := fun σ H R => tl σ H fun x H1 => ∃ a lo hi, x = .ref a ∧ H1 a = some (.rng lo hi) ∧ (-(2 ^ 62) ≤ lo ∧ lo < 2 ^ 62 ∧ -(2 ^ 62) ≤ hi ∧ hi < 2 ^ 62) ∧ R (Itr lo (hi - lo).toNat) H1
theorem pi_rngV {l : Expr} {tl : TE} (hl : PE X l tl) : PI X tg l (iRngV tl) := by
  refine ⟨fun pins s σ H R I h => ?_⟩
  refine thn (hl.run pins s σ H _ I h) fun v s1 ⟨x, H1, I1, r1, q1⟩ => ?_
  obtain ⟨a, lo, hi, e, ha, ⟨h1, h2, h3, h4⟩, q⟩ := q1
  subst e
  cases r1
  obtain ⟨t, u, v, ho⟩ := I1.hok a _ ha
  refine wpAny_pyIter_range (show IsRange s1.heap a lo hi 1 t u v from ho) (small_one h1 h2 h3 h4) ?_
  refine ⟨s1.heap.objs.size, [s1.heap.objs.size], _, _, H1, rfl, I1.kept (t' := s1.toks) fun b o e => Heap.get?_push_of_some _ e, turn_range _ lo (hi - lo).toNat, ?_, fun b hb => ?_, q⟩
  · have e1 : lo + ((0 : Nat) : Int) * 1 = lo := by simp
    have e2 : (((hi - lo).toNat : Nat) : Int) - ((0 : Nat) : Int) = Builtin.Range.rangeSize lo hi 1 := by rw [rangeSize_one]; split <;> omega
    show IsRangeIter _ _ (lo + ((0 : Nat) : Int) * 1) ((((hi - lo).toNat : Nat) : Int) - ((0 : Nat) : Int)) 1
    rw [e1, e2]
    exact Heap.get?_push_size _ rfl
  · have e : b = s1.heap.objs.size := by simpa using hb
    subst e
    exact I1.fpOk (Nat.le_refl _) (I1.hok.fresh (Nat.le_refl _))
theorem gives_rngV {tl : TE} {σ : L2.St} {H : Hp} {a : Addr} {j : Int} (ht : ∀ Q : VK, Q (.ref a) H → tl σ H Q) (h : H a = some (.rng 0 j)) (h1 : -(2 ^ 62) ≤ j := by omega) (h2 : j < 2 ^ 62 := by omega) : Gives (iRngV tl) σ H (rngV 0 j.toNat) fun _ => True := fun R hR =>
  ht _ ⟨a, 0, j, rfl, h, ⟨by decide, by decide, h1, h2⟩, by simpa using hR _ _ walks_rng fun _ _ => trivial⟩
/-- xs[i], i not below 0 -/
def rGetL (K : PySem.W.Frag) : V → V → Hp → VK → Prop := fun o i H Q => ∃ p xs k v, o = .ref p ∧ i = .int k ∧ 0 ≤ k ∧ SqL K H p xs ∧ xs[k.toNat]? = some v ∧ Q v H
theorem pget_list : PGet X (rGetL X.K) := by
  intro pins s σ H o i ov iv Q I ro ri h
  obtain ⟨p, xs, k, v, rfl, rfl, k0, hq, hv, q⟩ := h
  cases ro
  obtain ⟨t, rfl⟩ := ri
  obtain ⟨its, r, pl, hz⟩ := I.list hq
  obtain ⟨w, ew, rw'⟩ := r.get hv
  have hl := r.length
  have hk := (List.getElem?_eq_some_iff.1 hv).1
  have hn := line63
  refine wpAny_getItem_list (x := w) pl.isList k0 (by omega) (by simpa using ew) ⟨v, H, I, rw', q⟩
end
theorem paired_ix {α β : Type} {R : α → β → Prop} : ∀ {xs : List α} {ys : List β}, xs.length = ys.length → (∀ (i : Nat) (x : α) (y : β), xs[i]? = some x → ys[i]? = some y → R x y) → Paired R xs ys
  | [], [], _, _ => .nil
  | x :: xs, y :: ys, h, k => .cons (k 0 x y rfl rfl) (paired_ix (by simpa using h) fun i a b ha hb => k (i + 1) a b (by simpa using ha) (by simpa using hb))
  | [], _ :: _, h, _ => by simp at h
  | _ :: _, [], h, _ => by simp at h
/-! ### tuples cut and joined -/
theorem cut_take {α : Type} (xs : List α) (a : Nat) : (xs.drop (HT.sIx xs.length 0 none)).take (HT.sIx xs.length xs.length (some (a : Int)) - HT.sIx xs.length 0 none) = xs.take a := by
  rw [HT.sIx_none, HT.sIx_nat, List.drop_zero, Nat.sub_zero]
  rw [List.take_eq_take_iff]
  omega
theorem cut_drop {α : Type} (xs : List α) (a : Nat) : (xs.drop (HT.sIx xs.length 0 (some (a : Int)))).take (HT.sIx xs.length xs.length none - HT.sIx xs.length 0 (some (a : Int))) = xs.drop a := by
  rw [HT.sIx_none, HT.sIx_nat]
  by_cases h : a ≤ xs.length
  · rw [Nat.min_eq_left h]
    exact List.take_of_length_le (by rw [List.length_drop]; exact Nat.le_refl _)
  · rw [Nat.min_eq_right (by omega), List.drop_eq_nil_of_le (Nat.le_refl _), List.drop_eq_nil_of_le (by omega), List.take_nil]
section
variable {K : PySem.W.Frag} {H : Hp} {Q : VK}
theorem sl_take {p : Addr} {xs : List V} {a : Nat} (h : H p = some (.tup xs)) (q : ∀ p' H', Same H H' → H' p' = some (.tup (xs.take a)) → Q (.ref p') H') : rSlA K (.ref p) none (some (a : Int)) H Q := by
  refine ⟨p, xs, rfl, sqT_of h, fun e => ?_, fun _ p' np => q p' _ (same_new np) (by rw [upd_same]; exact congrArg (fun z => some (HO.tup z)) (cut_take xs a))⟩
  have e2 := e.2
  rw [HT.sIx_nat] at e2
  exact q p H (Same.refl _) (by rw [List.take_of_length_le (by omega)]; exact h)
theorem sl_drop {p : Addr} {xs : List V} {a : Nat} (h : H p = some (.tup xs)) (q : ∀ p' H', Same H H' → H' p' = some (.tup (xs.drop a)) → Q (.ref p') H') : rSlA K (.ref p) (some (a : Int)) none H Q := by
  refine ⟨p, xs, rfl, sqT_of h, fun e => ?_, fun _ p' np => q p' _ (same_new np) (by rw [upd_same]; exact congrArg (fun z => some (HO.tup z)) (cut_drop xs a))⟩
  have e1 := e.1
  rw [HT.sIx_nat] at e1
  rcases Nat.eq_zero_or_pos a with z | z
  · exact q p H (Same.refl _) (by rw [z, List.drop_zero]; exact h)
  · have : xs.length = 0 := by omega
    rw [List.length_eq_zero_iff.1 this] at h
    exact q p H (Same.refl _) (by rw [List.length_eq_zero_iff.1 this, List.drop_nil]; exact h)
theorem cat_tup {p p2 : Addr} {xs ys : List V} (h : H p = some (.tup xs)) (h2 : H p2 = some (.tup ys)) (hz : xs.length + ys.length ≤ sizeLine) (q : ∀ p' H', Same H H' → H' p' = some (.tup (xs ++ ys)) → Q (.ref p') H') : rCatA K (.ref p) (.ref p2) H Q :=
  ⟨p, p2, xs, ys, rfl, rfl, sqT_of h, sqT_of h2, hz, fun e => q p2 H (Same.refl _) (by rw [e, List.nil_append]; exact h2), fun _ e => q p H (Same.refl _) (by rw [e, List.append_nil]; exact h), fun _ _ p' np => q p' _ (same_new np) upd_same⟩
end
/-- {k: te for k in d}, d a dict whose keys are tuples, frozen meanwhile -/
theorem dcT_keys {d : Addr} {od : Obj} {kvs : List (List L2.Key × V)} {j : Nat} {tv : TE} {vs : List Nat} {σ : L2.St} {H : Hp} {Q : VK} {D : Addr} (Pv : Nat → Hp → Prop) (hw : ∀ x, wipe ((wipe σ vs).set j (some x)) vs = wipe σ vs) (hv : ∀ x, ((wipe σ vs).set j (some x))[j]? = some (some x))
    (h0 : Pv 0 (upd H D (.dT []))) (hl : ∀ i H, i ≤ kvs.length → Pv i H → H d = some (.frz od (.dT kvs)))
    (hs : ∀ (i : Nat) (k : List L2.Key) (v : V) (q : Addr) (H : Hp) (N : VK), kvs[i]? = some (k, v) → Pv i H → H q = some (.tup (k.map kV)) →
      (∀ z H5 kvs2, H5 q = some (.tup (k.map kV)) → H5 D = some (.dT kvs2) → kvs2.length < sizeLine → Pv (i + 1) (upd H5 D (.dT (putK kvs2 k z))) → N z H5) → tv ((wipe σ vs).set j (some (.ref q))) H N)
    (hd : ∀ H, Pv kvs.length H → Q (.ref D) H) :
    ∃ W : Nat → Nat → Hp → Prop, (∃ m, W 0 m (upd H D (.dT []))) ∧ ∀ i m H, W i m H →
      ((Itkt d od kvs).stop i H ∧ Q (.ref D) H) ∨ ((Itkt d od kvs).go i H ∧ ∃ Nx : Hp → Prop, (∀ H', Nx H' → ∃ m', m' < m ∧ W (i + 1) m' H') ∧ ∀ x H', (Itkt d od kvs).yld i H x H' → gName j x (wipe σ vs) H' fun σ2 H2 => wipe σ2 vs = wipe σ vs ∧ tYes σ2 H2 fun b H3 =>
        if b = true then tVar j σ2 H3 fun y H4 => tv σ2 H4 fun z H5 => ∃ (kvs : List (List L2.Key × V)) (k : List L2.Key) (b : Addr), y = .ref b ∧ H5 b = some (.tup (k.map kV)) ∧ H5 D = some (.dT kvs) ∧ kvs.length < sizeLine ∧ Nx (upd H5 D (.dT (putK kvs k z))) else Nx H3) := by
  refine ⟨fun i m H => m = kvs.length - i ∧ i ≤ kvs.length ∧ Pv i H, ⟨kvs.length, by simp, Nat.zero_le _, h0⟩, ?_⟩
  rintro i m H ⟨rfl, hi, p⟩
  have q := hl i H hi p
  by_cases hlt : i < kvs.length
  · refine .inr ⟨⟨q, hlt⟩, fun H' => i + 1 ≤ kvs.length ∧ Pv (i + 1) H', fun H' p' => ⟨kvs.length - (i + 1), by omega, rfl, p'⟩, fun x H' y => ?_⟩
    obtain ⟨e, k, v, b, hk, rfl, hb⟩ := y
    subst e
    refine ⟨hw _, .ref b, hv _, ?_⟩
    exact hs i k v b _ _ hk p hb fun z H5 kvs2 h1 h2 h3 h4 => ⟨kvs2, k, b, rfl, h1, h2, h3, hlt, h4⟩
  · have e : i = kvs.length := by omega
    subst e
    exact .inl ⟨⟨q, Nat.le_refl _⟩, hd H p⟩
end HK
set_option Elab.async false
set_option linter.all false
set_option maxRecDepth 100000
set_option maxHeartbeats 4000000
/-! HKSet: dicts that stand for sets of ints. -/
namespace HK
open PySem PySem.Spec PyProof.Rows L2 He
def dkOf (L : List Int) : List (L2.Key × V) := L.map fun o => (Sum.inl o, V.bl true)
def addI (L : List Int) (o : Int) : List Int := if o ∈ L then L else L ++ [o]
def addO (L : List Int) (k : Option Int) : List Int := match k with
  | some i => addI L i
  | none => L
theorem dkOf_len (L : List Int) : (dkOf L).length = L.length := List.length_map ..
theorem dkOf_put (L : List Int) (o : Int) : putK (dkOf L) (Sum.inl o) (V.bl true) = dkOf (addI L o) := by
  unfold putK addI
  have e : ((dkOf L).any fun kv => decide (kv.1 = (Sum.inl o : L2.Key))) = decide (o ∈ L) := by
    rw [Bool.eq_iff_iff, List.any_eq_true, decide_eq_true_iff]
    constructor
    · rintro ⟨kv, h1, h2⟩
      obtain ⟨x, hx, rfl⟩ := List.mem_map.1 h1
      have := Sum.inl.inj (of_decide_eq_true h2)
      rwa [← this]
    · intro h
      exact ⟨(Sum.inl o, V.bl true), List.mem_map.2 ⟨o, h, rfl⟩, decide_eq_true rfl⟩
  rw [e]
  by_cases h : o ∈ L
  · rw [if_pos (decide_eq_true h), if_pos h]
    unfold dkOf
    rw [List.map_map]
    refine List.map_congr_left fun x hx => ?_
    show (if (Sum.inl x : L2.Key) = Sum.inl o then ((Sum.inl x : L2.Key), V.bl true) else (Sum.inl x, V.bl true)) = _
    split <;> rfl
  · rw [if_neg (by simpa using h), if_neg h]
    simp [dkOf]
theorem mem_addI {L : List Int} {o x : Int} : x ∈ addI L o ↔ x ∈ L ∨ x = o := by
  unfold addI
  split
  · rename_i h
    exact ⟨.inl, fun z => z.elim id fun e => e ▸ h⟩
  · rw [List.mem_append, List.mem_singleton]
theorem nodup_addI {L : List Int} {o : Int} (h : L.Nodup) : (addI L o).Nodup := by
  unfold addI
  split
  · exact h
  · rename_i hn
    rw [List.nodup_append]
    exact ⟨h, List.pairwise_singleton _ _, fun x hx y hy => by
      rw [List.mem_singleton] at hy
      subst hy
      rintro rfl
      exact hn hx⟩
theorem len_addI (L : List Int) (o : Int) : (addI L o).length ≤ L.length + 1 := by
  unfold addI
  split <;> simp
theorem mem_addO : ∀ (ks : List (Option Int)) {L : List Int} {x : Int}, x ∈ ks.foldl addO L ↔ x ∈ L ∨ some x ∈ ks
  | [], L, x => by simp
  | k :: ks, L, x => by
    rw [List.foldl_cons, mem_addO ks, List.mem_cons]
    cases k with
    | none => simp [addO]
    | some i =>
      show x ∈ addI L i ∨ _ ↔ _
      rw [mem_addI]
      simp only [Option.some.injEq]
      exact ⟨fun h => h.elim (fun h => h.elim .inl fun h => .inr (.inl h)) fun h => .inr (.inr h), fun h => h.elim (fun h => .inl (.inl h)) fun h => h.elim (fun h => .inl (.inr h)) .inr⟩
theorem nodup_addO : ∀ (ks : List (Option Int)) {L : List Int}, L.Nodup → (ks.foldl addO L).Nodup
  | [], _, h => h
  | k :: ks, L, h => by
    rw [List.foldl_cons]
    refine nodup_addO ks ?_
    cases k with
    | none => exact h
    | some i => exact nodup_addI h
theorem len_addO : ∀ (ks : List (Option Int)) (L : List Int), (ks.foldl addO L).length ≤ L.length + ks.length
  | [], L => by simp
  | k :: ks, L => by
    rw [List.foldl_cons, List.length_cons]
    have := len_addO ks (addO L k)
    have h2 : (addO L k).length ≤ L.length + 1 := by
      cases k with
      | none => exact Nat.le_succ _
      | some i => exact len_addI L i
    omega
theorem merge_dk : ∀ (M L : List Int), mergeK (dkOf L) (dkOf M) = dkOf (M.foldl addI L)
  | [], _ => rfl
  | o :: M, L => by
    show mergeK (putK (dkOf L) (Sum.inl o) (V.bl true)) (dkOf M) = _
    rw [dkOf_put, merge_dk M]
    rfl
theorem foldl_addI (M L : List Int) : M.foldl addI L = (M.map some).foldl addO L := by
  rw [List.foldl_map]
  rfl
/-- {i: True for .. if ..}: ks says which key each turn gives, if any -/
theorem dcK_set {wi : TI} {g : TG} {tt : TT} {tk tv : TE} {vs : List Nat} {σ : L2.St} {H : Hp} {Q : VK} {xs : List V} {P : Hp → Prop} (G : Gives wi σ H xs P) (hP : ∀ H', Same H H' → P H') (hz : xs.length ≤ sizeLine) (ks : List (Option Int)) (hk : ks.length = xs.length)
    (step : ∀ (n : Nat) (x : V) (k : Option Int) (H' : Hp) (N : V → V → Hp → Prop) (N0 : Hp → Prop), xs[n]? = some x → ks[n]? = some k → Same H H' →
      (∀ i, k = some i → ∀ H5, Same H' H5 → N (.int i) (.bl true) H5) → (k = none → ∀ H3, Same H' H3 → N0 H3) →
      g x (wipe σ vs) H' fun σ2 H2 => wipe σ2 vs = wipe σ vs ∧ tt σ2 H2 fun b H3 => if b = true then tk σ2 H3 fun y H4 => tv σ2 H4 fun z H5 => N y z H5 else N0 H3)
    (done : ∀ H' D, Same H H' → H D = none → H' D = some (.dK (dkOf (ks.foldl addO []))) → Q (.ref D) H') : tDc wi g tt tk tv vs σ H Q := by
  refine G _ fun J Z w hz' => fun D nD => ?_
  refine ⟨fun n m H' => m = xs.length - n ∧ n ≤ xs.length ∧ Same H H' ∧ H' D = some (.dK (dkOf ((ks.take n).foldl addO []))), ⟨xs.length, by simp, Nat.zero_le _, same_new nD, upd_same⟩, ?_⟩
  rintro n m H' ⟨rfl, hi, e, hD⟩
  have q := hz' _ (hP _ e)
  by_cases hlt : n < xs.length
  · refine .inr ⟨w.go n H' hlt q, fun H'' => n + 1 ≤ xs.length ∧ Same H H'' ∧ H'' D = some (.dK (dkOf ((ks.take (n + 1)).foldl addO []))), fun H'' p' => ⟨xs.length - (n + 1), by omega, rfl, p'⟩, fun x H'' y => ?_⟩
    obtain ⟨ee, y'⟩ := w.yld n H' x H'' hlt y
    subst ee
    obtain ⟨k, hkn⟩ := getI (xs := ks) (i := n) (by omega)
    refine step n x k H'' (fun y z H5 => ∃ kvs k, y = kV k ∧ H5 D = some (.dK kvs) ∧ kvs.length < sizeLine ∧ (n + 1 ≤ xs.length ∧ Same H (upd H5 D (.dK (putK kvs k z))) ∧ upd H5 D (.dK (putK kvs k z)) D = some (.dK (dkOf ((ks.take (n + 1)).foldl addO []))))) _ y' hkn e (fun i hi H5 e5 => ?_) fun hk0 H3 e3 => ?_
    · subst hi
      refine ⟨_, Sum.inl i, rfl, e5 _ _ hD, ?_, by omega, same_mut (e.trans e5) nD, ?_⟩
      · rw [dkOf_len]
        have := len_addO (ks.take n) []
        rw [List.length_take] at this
        simp at this
        omega
      · rw [upd_same, dkOf_put, List.take_succ, hkn, List.foldl_append]
        rfl
    · subst hk0
      refine ⟨by omega, e.trans e3, ?_⟩
      rw [e3 _ _ hD, List.take_succ, hkn, List.foldl_append]
      rfl
  · have ee : n = xs.length := by omega
    subst ee
    refine .inl ⟨w.stop _ H' (Nat.le_refl _) q, done H' D e nD ?_⟩
    rw [hD, ← hk, List.take_length]
def rDkL : List V → Hp → VK → Prop := fun xs H Q => ∃ (a : Addr) (kvs : List (L2.Key × V)), xs = [V.ref a] ∧ Rd H a (.dK kvs) ∧ ∀ p, H p = none → Q (.ref p) (upd H p (.lst (kvs.map fun kv => kV kv.1)))
theorem cr_dkL {X : Cx} (hc : X.calm = true) : CallR X (.type "list") rDkL := call_listD hc
/-- list(d) of such a dict -/
theorem list_dk {H : Hp} {Q : VK} {d : Addr} {L : List Int} (h : H d = some (.dK (dkOf L))) (q : ∀ p, H p = none → Q (.ref p) (upd H p (.lst (L.map V.int)))) : rDkL [V.ref d] H Q :=
  ⟨d, dkOf L, rfl, .inl h, fun p np => by
    have : (dkOf L).map (fun kv => kV kv.1) = L.map V.int := by
      unfold dkOf
      rw [List.map_map]
      rfl
    rw [this]
    exact q p np⟩
theorem dc_call {K : PySem.W.Frag} {tl : TE} {g : TG} {tt : TT} {tk tv : TE} {vs : List Nat} {σ : L2.St} {H : Hp} {Q : VK} : tDc (iSeq K tl) g tt tk tv vs σ H Q = tl σ H fun x H1 => tDc (iSeq K (tC x)) g tt tk tv vs σ H1 Q := rfl
theorem g_nest {K : PySem.W.Frag} {n n2 i j k : Nat} {T t : Addr} {x y z : V} {σ : L2.St} {H : Hp} {Q : L2.St → Hp → Prop} (hn : n = 2) (hn2 : n2 = 2) (h : H T = some (.tup [x, .ref t])) (h2 : H t = some (.tup [y, z])) (q : Q (((σ.set i (some x)).set j (some y)).set k (some z)) H) :
    gTup K n (gCons (gName i) (gCons (gTup K n2 (gCons (gName j) (gCons (gName k) gNil))) gNil)) (.ref T) σ H Q :=
  ⟨T, [x, .ref t], rfl, sqT_of h, hn.symm, x, [.ref t], rfl, .ref t, [], rfl, t, [y, z], rfl, sqT_of h2, hn2.symm, y, [z], rfl, z, [], rfl, rfl, rfl, q⟩
theorem sl_listDrop {K : PySem.W.Frag} {H : Hp} {Q : VK} {p : Addr} {xs : List V} {a : Nat} (h : H p = some (.lst xs)) (q : ∀ p', H p' = none → Q (.ref p') (upd H p' (.lst (xs.drop a)))) : rSlL K (.ref p) (some (a : Int)) none H Q :=
  ⟨p, xs, rfl, sqL_of h, fun p' np => by
    have := q p' np
    rw [← cut_drop xs a] at this
    exact this⟩
end HK
set_option Elab.async false
set_option linter.all false
set_option maxRecDepth 100000
set_option maxHeartbeats 4000000
/-! HKBox: the law's box of numbers: [digits, state]. -/
namespace HK
open PySem PySem.Spec PyProof.Rows L2 He
structure BoxAt (b d : Addr) (H : Hp) : Prop where
  ne : b ≠ d
  at_ : ∃ (ds : List Int) (st : Int), H b = some (.lst [.ref d, .int st]) ∧ H d = some (.lst (ds.map V.int)) ∧ (∀ x ∈ ds, 0 ≤ x) ∧ ds.length ≤ 64 ∧ 0 ≤ st ∧ st < 2147483647
abbrev BoxO (b d : Addr) : Addr → Prop := fun a => a = b ∨ a = d
theorem BoxAt.upd {b d : Addr} {H : Hp} (h : BoxAt b d H) {D : Addr} {o : HO} (n : ¬BoxO b d D) : BoxAt b d (upd H D o) := by
  obtain ⟨ds, st, h1, h2, h3⟩ := h.at_
  exact ⟨h.ne, ds, st, by rw [upd_ne (fun z => n (.inl z.symm))]; exact h1, by rw [upd_ne (fun z => n (.inr z.symm))]; exact h2, h3⟩
theorem BoxAt.same {b d : Addr} {H H' : Hp} (h : BoxAt b d H) (e : Same H H') : BoxAt b d H' := by
  obtain ⟨ds, st, h1, h2, h3⟩ := h.at_
  exact ⟨h.ne, ds, st, e _ _ h1, e _ _ h2, h3⟩
theorem BoxAt.old {b d : Addr} {H : Hp} (h : BoxAt b d H) : ∀ a, BoxO b d a → H a ≠ none := fun a ha => by
  obtain ⟨ds, st, h1, h2, h3⟩ := h.at_
  rcases ha with ha | ha
  · rw [ha, h1]
    exact fun z => nomatch z
  · rw [ha, h2]
    exact fun z => nomatch z
theorem BoxAt.box {b d : Addr} {H : Hp} (h : BoxAt b d H) : Box (BoxO b d) (BoxO b d) (BoxAt b d) H := ⟨fun _ z => z, h.old, fun _ _ _ n i => i.upd n, h⟩
theorem BoxAt.boxA {b d : Addr} {H : Hp} (h : BoxAt b d H) {A : Addr → Prop} (hA : ∀ a, A a → H a ≠ none) : Box (BoxO b d) (fun a => BoxO b d a ∨ A a) (BoxAt b d) H := ⟨fun _ z => .inl z, fun a ha => ha.elim (h.old a) (hA a), fun _ _ _ n i => i.upd fun z => n (.inl z), h⟩
/-- what is new is off the box -/
theorem BoxAt.off {b d : Addr} {H : Hp} (h : BoxAt b d H) {p : Addr} (np : H p = none) : ¬BoxO b d p := fun z => h.old p z np
/-- what a draw promises: anything below many -/
def RetB (b d : Addr) (P : V → Prop) (H : Hp) (Q : VK) : Prop := ∀ v H', SameO (BoxO b d) H H' → BoxAt b d H' → P v → Q v H'
/-- ints as data -/
theorem dp_ints {K : PySem.W.Frag} {H : Hp} {a : Addr} {ns : List Int} (h : H a = some (.lst (ns.map V.int))) : Dp K H (.ref a) (.list (ns.map PyData.int)) := by
  refine .lst (sqL_of h) ?_
  induction ns generalizing a with
  | nil => exact .nil
  | cons n t ih =>
    clear h ih
    have : ∀ l : List Int, DpAll K H (l.map V.int) (l.map PyData.int) := fun l => by
      induction l with
      | nil => exact .nil
      | cons x t ih => exact .cons (.int x) ih
    exact this _
theorem shaped_ints (ns : List Int) : SeqAt.shaped (.list (ns.map PyData.int)) = true := by
  unfold SeqAt.shaped
  have h1 : (PyData.list (ns.map PyData.int)).canLay0 = true := by
    simp only [PyData.canLay0]
    exact lay_all (fun i => by simp only [PyData.canLay0]) ns
  have h2 : (PyData.list (ns.map PyData.int)).depth ≤ 1 := by
    simp only [PyData.depth]
    exact Nat.succ_le_succ (dep_all (fun i => by simp only [PyData.depth]; exact Nat.le_refl _) ns)
  rw [h1]
  exact decide_eq_true (Nat.le_trans h2 (by decide))
/-- xs != [] -/
theorem ne_nil {K : PySem.W.Frag} {H : Hp} {Q : VK} {a p : Addr} {ns : List Int} (h : H a = some (.lst (ns.map V.int))) (hp : H p = some (.lst [])) (q : Q (.bl (!decide (ns = []))) H) : rNeD K (.ref a) (.ref p) H Q := by
  refine ⟨_, _, dp_ints h, dp_ints (ns := []) hp, shaped_ints ns, shaped_ints [], ?_⟩
  cases ns with
  | nil => simpa [PyData.eqv, PyData.eqvAll] using q
  | cons n t => simpa [PyData.eqv, PyData.eqvAll] using q
end HK
set_option Elab.async false
set_option linter.all false
set_option maxRecDepth 100000
set_option maxHeartbeats 4000000
/-! the text of heldoroff_k76_whole_bodies_made_from_way, by places; printed by wip/gen.py -/
namespace K76
open PySem PySem.Spec PyProof.Rows L2 He HK
def prg : Program := PySem.Challenge.pw_heldoroff_k76_whole_bodies_made_from_way
def top (i : Nat) : Stmt := PySem.Challenge.pw_heldoroff_k76_whole_bodies_made_from_way.main.body.getD i (.Pass ⟨0, 0, 0, 0⟩)
abbrev s_is_integer : Stmt := top 9
theorem sc_is_integer : FnScope ["value"] ["value"] (defScope s_is_integer) := ⟨rfl, rfl, rfl, by decide +kernel, rfl, by decide +kernel, by decide +kernel⟩
abbrev s_is_below : Stmt := top 10
theorem sc_is_below : FnScope ["value", "limit"] ["value", "limit"] (defScope s_is_below) := ⟨rfl, rfl, rfl, by decide +kernel, rfl, by decide +kernel, by decide +kernel⟩
abbrev s_is_between : Stmt := top 11
theorem sc_is_between : FnScope ["value", "least", "most"] ["value", "least", "most"] (defScope s_is_between) := ⟨rfl, rfl, rfl, by decide +kernel, rfl, by decide +kernel, by decide +kernel⟩
abbrev s_is_sequence : Stmt := top 12
theorem sc_is_sequence : FnScope ["value"] ["value"] (defScope s_is_sequence) := ⟨rfl, rfl, rfl, by decide +kernel, rfl, by decide +kernel, by decide +kernel⟩
abbrev s_is_row : Stmt := top 13
theorem sc_is_row : FnScope ["value", "many"] ["value", "many"] (defScope s_is_row) := ⟨rfl, rfl, rfl, by decide +kernel, rfl, by decide +kernel, by decide +kernel⟩
abbrev s_lot_wrong : Stmt := top 14
theorem sc_lot_wrong : FnScope ["value", "limit", "seen", "at", "part"] ["value", "limit"] (defScope s_lot_wrong) := ⟨rfl, rfl, rfl, by decide +kernel, rfl, by decide +kernel, by decide +kernel⟩
abbrev s_Bodies_init : Stmt := inClass (top 21) 0
theorem sc_Bodies_init : FnScope ["self", "axes", "bodies"] ["self", "axes", "bodies"] (defScope s_Bodies_init) := ⟨rfl, rfl, rfl, by decide +kernel, rfl, by decide +kernel, by decide +kernel⟩
abbrev s_Bodies_eq : Stmt := inClass (top 21) 1
theorem sc_Bodies_eq : FnScope ["self", "other"] ["self", "other"] (defScope s_Bodies_eq) := ⟨rfl, rfl, rfl, by decide +kernel, rfl, by decide +kernel, by decide +kernel⟩
abbrev s_is_cell : Stmt := top 22
theorem sc_is_cell : FnScope ["axes", "value", "place"] ["axes", "value"] (defScope s_is_cell) := ⟨rfl, rfl, rfl, by decide +kernel, rfl, by decide +kernel, by decide +kernel⟩
abbrev s_is_new_body : Stmt := top 23
theorem sc_is_new_body : FnScope ["axes", "taken", "value", "seen", "cell"] ["axes", "taken", "value"] (defScope s_is_new_body) := ⟨rfl, rfl, rfl, by decide +kernel, rfl, by decide +kernel, by decide +kernel⟩
abbrev s_told_bodies : Stmt := top 24
theorem sc_told_bodies : FnScope ["axes", "bodies", "taken", "found", "at", "value", "cells", "cell"] ["axes", "bodies"] (defScope s_told_bodies) := ⟨rfl, rfl, rfl, by decide +kernel, rfl, by decide +kernel, by decide +kernel⟩
abbrev s_rows_along : Stmt := top 26
theorem sc_rows_along : FnScope ["bodies", "axis", "found", "body", "cells", "cell", "line"] ["bodies", "axis"] (defScope s_rows_along) := ⟨rfl, rfl, rfl, by decide +kernel, rfl, by decide +kernel, by decide +kernel⟩
abbrev s_ups_along : Stmt := top 27
theorem sc_ups_along : FnScope ["bodies", "axis", "found", "_", "row", "at", "body", "other"] ["bodies", "axis"] (defScope s_ups_along) := ⟨rfl, rfl, rfl, by decide +kernel, rfl, by decide +kernel, by decide +kernel⟩
abbrev s_Ways_init : Stmt := inClass (top 30) 0
theorem sc_Ways_init : FnScope ["self", "many", "ups"] ["self", "many", "ups"] (defScope s_Ways_init) := ⟨rfl, rfl, rfl, by decide +kernel, rfl, by decide +kernel, by decide +kernel⟩
abbrev s_Ways_eq : Stmt := inClass (top 30) 1
theorem sc_Ways_eq : FnScope ["self", "other"] ["self", "other"] (defScope s_Ways_eq) := ⟨rfl, rfl, rfl, by decide +kernel, rfl, by decide +kernel, by decide +kernel⟩
abbrev s_is_up : Stmt := top 31
theorem sc_is_up : FnScope ["many", "value", "body", "lot"] ["many", "value"] (defScope s_is_up) := ⟨rfl, rfl, rfl, by decide +kernel, rfl, by decide +kernel, by decide +kernel⟩
abbrev s_told_ups : Stmt := top 32
theorem sc_told_ups : FnScope ["many", "ups", "at", "value", "lot"] ["many", "ups"] (defScope s_told_ups) := ⟨rfl, rfl, rfl, by decide +kernel, rfl, by decide +kernel, by decide +kernel⟩
abbrev s_need_ways : Stmt := top 33
theorem sc_need_ways : FnScope ["value", "at", "axes"] ["value", "at", "axes"] (defScope s_need_ways) := ⟨rfl, rfl, rfl, by decide +kernel, rfl, by decide +kernel, by decide +kernel⟩
abbrev s_ways_of : Stmt := top 34
theorem sc_ways_of : FnScope ["bodies", "many", "lot", "axis"] ["bodies"] (defScope s_ways_of) := ⟨rfl, rfl, rfl, by decide +kernel, rfl, by decide +kernel, by decide +kernel⟩
abbrev s_met_pairs : Stmt := top 37
theorem sc_met_pairs : FnScope ["ways", "found", "axis", "up", "body", "lot", "other"] ["ways"] (defScope s_met_pairs) := ⟨rfl, rfl, rfl, by decide +kernel, rfl, by decide +kernel, by decide +kernel⟩
abbrev s_need_few_cells : Stmt := top 38
theorem sc_need_few_cells : FnScope ["many", "pairs", "counts", "one", "other", "told", "count"] ["many", "pairs"] (defScope s_need_few_cells) := ⟨rfl, rfl, rfl, by decide +kernel, rfl, by decide +kernel, by decide +kernel⟩
abbrev s_cells_of_ways : Stmt := top 39
theorem sc_cells_of_ways : FnScope ["ways", "axes", "found", "_", "place", "axis", "body", "other", "one", "cells"] ["ways"] (defScope s_cells_of_ways) := ⟨rfl, rfl, rfl, by decide +kernel, rfl, by decide +kernel, by decide +kernel⟩
abbrev s_bodies_for : Stmt := top 40
theorem sc_bodies_for : FnScope ["ways", "_", "body", "other"] ["ways"] (defScope s_bodies_for) := ⟨rfl, rfl, rfl, by decide +kernel, rfl, by decide +kernel, by decide +kernel⟩
abbrev s__law_box : Stmt := top 42
theorem sc__law_box : FnScope ["script", "salt", "cells", "cell", "blend"] ["script", "salt"] (defScope s__law_box) := ⟨rfl, rfl, rfl, by decide +kernel, rfl, by decide +kernel, by decide +kernel⟩
abbrev s__law_draw : Stmt := top 43
theorem sc__law_draw : FnScope ["box", "many", "rest", "found", "turn"] ["box", "many"] (defScope s__law_draw) := ⟨rfl, rfl, rfl, by decide +kernel, rfl, by decide +kernel, by decide +kernel⟩
abbrev s__law_pick : Stmt := top 44
theorem sc__law_pick : FnScope ["box", "some"] ["box", "some"] (defScope s__law_pick) := ⟨rfl, rfl, rfl, by decide +kernel, rfl, by decide +kernel, by decide +kernel⟩
abbrev s__law_chance : Stmt := top 45
theorem sc__law_chance : FnScope ["box", "share"] ["box", "share"] (defScope s__law_chance) := ⟨rfl, rfl, rfl, by decide +kernel, rfl, by decide +kernel, by decide +kernel⟩
abbrev s__law_is_int : Stmt := top 46
theorem sc__law_is_int : FnScope ["value"] ["value"] (defScope s__law_is_int) := ⟨rfl, rfl, rfl, by decide +kernel, rfl, by decide +kernel, by decide +kernel⟩
abbrev s__law_place : Stmt := top 47
theorem sc__law_place : FnScope ["value"] ["value"] (defScope s__law_place) := ⟨rfl, rfl, rfl, by decide +kernel, rfl, by decide +kernel, by decide +kernel⟩
abbrev s__law_loose : Stmt := top 48
theorem sc__law_loose : FnScope ["box", "value", "parts", "part"] ["box", "value"] (defScope s__law_loose) := ⟨rfl, rfl, rfl, by decide +kernel, rfl, by decide +kernel, by decide +kernel⟩
abbrev s__law_same : Stmt := top 49
theorem sc__law_same : FnScope ["value", "due", "at"] ["value", "due"] (defScope s__law_same) := ⟨rfl, rfl, rfl, by decide +kernel, rfl, by decide +kernel, by decide +kernel⟩
abbrev s__law_ways : Stmt := top 50
theorem sc__law_ways : FnScope ["box", "many", "axes", "ups", "axis", "share", "up", "body", "other"] ["box", "many", "axes"] (defScope s__law_ways) := ⟨rfl, rfl, rfl, by decide +kernel, rfl, by decide +kernel, by decide +kernel⟩
abbrev s__law_made : Stmt := top 51
theorem sc__law_made : FnScope ["box", "ways"] ["box", "ways"] (defScope s__law_made) := ⟨rfl, rfl, rfl, by decide +kernel, rfl, by decide +kernel, by decide +kernel⟩
abbrev s__law_cells_ups : Stmt := top 52
theorem sc__law_cells_ups : FnScope ["axes", "bodies", "ups", "axis", "up", "body", "met", "other", "cell", "more", "at"] ["axes", "bodies"] (defScope s__law_cells_ups) := ⟨rfl, rfl, rfl, by decide +kernel, rfl, by decide +kernel, by decide +kernel⟩
abbrev s__law_heard : Stmt := top 53
theorem sc__law_heard : FnScope ["ways", "e"] ["ways"] (defScope s__law_heard) := ⟨rfl, rfl, rfl, by decide +kernel, rfl, by decide +kernel, by decide +kernel⟩
abbrev s__law_counts : Stmt := top 54
theorem sc__law_counts : FnScope ["ways", "found", "body", "up", "other", "count"] ["ways"] (defScope s__law_counts) := ⟨rfl, rfl, rfl, by decide +kernel, rfl, by decide +kernel, by decide +kernel⟩
abbrev s__law_case_fine : Stmt := top 55
theorem sc__law_case_fine : FnScope ["box", "ways", "made", "counts", "bodies"] ["box", "ways"] (defScope s__law_case_fine) := ⟨rfl, rfl, rfl, by decide +kernel, rfl, by decide +kernel, by decide +kernel⟩
abbrev s_law : Stmt := top 56
theorem sc_law : FnScope ["script", "box", "turn", "ups", "axis", "other", "body", "many", "axes", "star", "due", "crowd", "wanted", "lone", "count"] ["script"] (defScope s_law) := ⟨rfl, rfl, rfl, by decide +kernel, rfl, by decide +kernel, by decide +kernel⟩
abbrev s_InvalidCount : Stmt := inClass (top 2) 0
abbrev s_InvalidBodies : Stmt := inClass (top 3) 0
abbrev s_InvalidUps : Stmt := inClass (top 4) 0
abbrev s_InvalidWays : Stmt := inClass (top 5) 0
abbrev s_InvalidSize : Stmt := inClass (top 6) 0
abbrev s_Refused : Stmt := inClass (top 7) 0
def d_is_integer : DefD := ⟨("is_integer", none), "is_integer", "is_integer", defArgs s_is_integer, defBody s_is_integer, defScope s_is_integer, [], []⟩
def d_is_below : DefD := ⟨("is_below", none), "is_below", "is_below", defArgs s_is_below, defBody s_is_below, defScope s_is_below, [], []⟩
def d_is_between : DefD := ⟨("is_between", none), "is_between", "is_between", defArgs s_is_between, defBody s_is_between, defScope s_is_between, [], []⟩
def d_is_sequence : DefD := ⟨("is_sequence", none), "is_sequence", "is_sequence", defArgs s_is_sequence, defBody s_is_sequence, defScope s_is_sequence, [], []⟩
def d_is_row : DefD := ⟨("is_row", none), "is_row", "is_row", defArgs s_is_row, defBody s_is_row, defScope s_is_row, [], []⟩
def d_lot_wrong : DefD := ⟨("lot_wrong", none), "lot_wrong", "lot_wrong", defArgs s_lot_wrong, defBody s_lot_wrong, defScope s_lot_wrong, [], []⟩
def d_Bodies_init : DefD := ⟨("Bodies", some "__init__"), "__init__", "Bodies.__init__", defArgs s_Bodies_init, defBody s_Bodies_init, defScope s_Bodies_init, [], []⟩
def d_Bodies_eq : DefD := ⟨("Bodies", some "__eq__"), "__eq__", "Bodies.__eq__", defArgs s_Bodies_eq, defBody s_Bodies_eq, defScope s_Bodies_eq, [], []⟩
def d_is_cell : DefD := ⟨("is_cell", none), "is_cell", "is_cell", defArgs s_is_cell, defBody s_is_cell, defScope s_is_cell, [], []⟩
def d_is_new_body : DefD := ⟨("is_new_body", none), "is_new_body", "is_new_body", defArgs s_is_new_body, defBody s_is_new_body, defScope s_is_new_body, [], []⟩
def d_told_bodies : DefD := ⟨("told_bodies", none), "told_bodies", "told_bodies", defArgs s_told_bodies, defBody s_told_bodies, defScope s_told_bodies, [], []⟩
def d_rows_along : DefD := ⟨("rows_along", none), "rows_along", "rows_along", defArgs s_rows_along, defBody s_rows_along, defScope s_rows_along, [], []⟩
def d_ups_along : DefD := ⟨("ups_along", none), "ups_along", "ups_along", defArgs s_ups_along, defBody s_ups_along, defScope s_ups_along, [], []⟩
def d_Ways_init : DefD := ⟨("Ways", some "__init__"), "__init__", "Ways.__init__", defArgs s_Ways_init, defBody s_Ways_init, defScope s_Ways_init, [], []⟩
def d_Ways_eq : DefD := ⟨("Ways", some "__eq__"), "__eq__", "Ways.__eq__", defArgs s_Ways_eq, defBody s_Ways_eq, defScope s_Ways_eq, [], []⟩
def d_is_up : DefD := ⟨("is_up", none), "is_up", "is_up", defArgs s_is_up, defBody s_is_up, defScope s_is_up, [], []⟩
def d_told_ups : DefD := ⟨("told_ups", none), "told_ups", "told_ups", defArgs s_told_ups, defBody s_told_ups, defScope s_told_ups, [], []⟩
def d_need_ways : DefD := ⟨("need_ways", none), "need_ways", "need_ways", defArgs s_need_ways, defBody s_need_ways, defScope s_need_ways, [.int (-1), .non], []⟩
def d_ways_of : DefD := ⟨("ways_of", none), "ways_of", "ways_of", defArgs s_ways_of, defBody s_ways_of, defScope s_ways_of, [], []⟩
def d_met_pairs : DefD := ⟨("met_pairs", none), "met_pairs", "met_pairs", defArgs s_met_pairs, defBody s_met_pairs, defScope s_met_pairs, [], []⟩
def d_need_few_cells : DefD := ⟨("need_few_cells", none), "need_few_cells", "need_few_cells", defArgs s_need_few_cells, defBody s_need_few_cells, defScope s_need_few_cells, [], []⟩
def d_cells_of_ways : DefD := ⟨("cells_of_ways", none), "cells_of_ways", "cells_of_ways", defArgs s_cells_of_ways, defBody s_cells_of_ways, defScope s_cells_of_ways, [], []⟩
def d_bodies_for : DefD := ⟨("bodies_for", none), "bodies_for", "bodies_for", defArgs s_bodies_for, defBody s_bodies_for, defScope s_bodies_for, [], []⟩
def d__law_box : DefD := ⟨("_law_box", none), "_law_box", "_law_box", defArgs s__law_box, defBody s__law_box, defScope s__law_box, [], []⟩
def d__law_draw : DefD := ⟨("_law_draw", none), "_law_draw", "_law_draw", defArgs s__law_draw, defBody s__law_draw, defScope s__law_draw, [], []⟩
def d__law_pick : DefD := ⟨("_law_pick", none), "_law_pick", "_law_pick", defArgs s__law_pick, defBody s__law_pick, defScope s__law_pick, [], []⟩
def d__law_chance : DefD := ⟨("_law_chance", none), "_law_chance", "_law_chance", defArgs s__law_chance, defBody s__law_chance, defScope s__law_chance, [], []⟩
def d__law_is_int : DefD := ⟨("_law_is_int", none), "_law_is_int", "_law_is_int", defArgs s__law_is_int, defBody s__law_is_int, defScope s__law_is_int, [], []⟩
def d__law_place : DefD := ⟨("_law_place", none), "_law_place", "_law_place", defArgs s__law_place, defBody s__law_place, defScope s__law_place, [], []⟩
def d__law_loose : DefD := ⟨("_law_loose", none), "_law_loose", "_law_loose", defArgs s__law_loose, defBody s__law_loose, defScope s__law_loose, [], []⟩
def d__law_same : DefD := ⟨("_law_same", none), "_law_same", "_law_same", defArgs s__law_same, defBody s__law_same, defScope s__law_same, [], []⟩
def d__law_ways : DefD := ⟨("_law_ways", none), "_law_ways", "_law_ways", defArgs s__law_ways, defBody s__law_ways, defScope s__law_ways, [], []⟩
def d__law_made : DefD := ⟨("_law_made", none), "_law_made", "_law_made", defArgs s__law_made, defBody s__law_made, defScope s__law_made, [], []⟩
def d__law_cells_ups : DefD := ⟨("_law_cells_ups", none), "_law_cells_ups", "_law_cells_ups", defArgs s__law_cells_ups, defBody s__law_cells_ups, defScope s__law_cells_ups, [], []⟩
def d__law_heard : DefD := ⟨("_law_heard", none), "_law_heard", "_law_heard", defArgs s__law_heard, defBody s__law_heard, defScope s__law_heard, [], []⟩
def d__law_counts : DefD := ⟨("_law_counts", none), "_law_counts", "_law_counts", defArgs s__law_counts, defBody s__law_counts, defScope s__law_counts, [], []⟩
def d__law_case_fine : DefD := ⟨("_law_case_fine", none), "_law_case_fine", "_law_case_fine", defArgs s__law_case_fine, defBody s__law_case_fine, defScope s__law_case_fine, [], []⟩
def d_law : DefD := ⟨("law", none), "law", "law", defArgs s_law, defBody s_law, defScope s_law, [], []⟩
def e_InvalidCount : ErD := ⟨"InvalidCount", "at", defArgs s_InvalidCount, defBody s_InvalidCount, defScope s_InvalidCount⟩
def e_InvalidBodies : ErD := ⟨"InvalidBodies", "at", defArgs s_InvalidBodies, defBody s_InvalidBodies, defScope s_InvalidBodies⟩
def e_InvalidUps : ErD := ⟨"InvalidUps", "at", defArgs s_InvalidUps, defBody s_InvalidUps, defScope s_InvalidUps⟩
def e_InvalidWays : ErD := ⟨"InvalidWays", "at", defArgs s_InvalidWays, defBody s_InvalidWays, defScope s_InvalidWays⟩
def e_InvalidSize : ErD := ⟨"InvalidSize", "word", defArgs s_InvalidSize, defBody s_InvalidSize, defScope s_InvalidSize⟩
def e_Refused : ErD := ⟨"Refused", "at", defArgs s_Refused, defBody s_Refused, defScope s_Refused⟩
def fn : List DefD := [d_is_integer, d_is_below, d_is_between, d_is_sequence, d_is_row, d_lot_wrong, d_Bodies_init, d_Bodies_eq, d_is_cell, d_is_new_body, d_told_bodies, d_rows_along, d_ups_along, d_Ways_init, d_Ways_eq, d_is_up, d_told_ups, d_need_ways, d_ways_of, d_met_pairs, d_need_few_cells, d_cells_of_ways, d_bodies_for, d__law_box, d__law_draw, d__law_pick, d__law_chance, d__law_is_int, d__law_place, d__law_loose, d__law_same, d__law_ways, d__law_made, d__law_cells_ups, d__law_heard, d__law_counts, d__law_case_fine, d_law]
def er : List ErD := [e_InvalidCount, e_InvalidBodies, e_InvalidUps, e_InvalidWays, e_InvalidSize, e_Refused]
def fa : List Fa := [.glo "is_integer", .glo "is_below", .glo "is_between", .glo "is_sequence", .glo "is_row", .glo "lot_wrong", .glo "is_cell", .glo "is_new_body", .glo "told_bodies", .glo "rows_along", .glo "ups_along", .glo "is_up", .glo "told_ups", .glo "need_ways", .glo "ways_of", .glo "met_pairs", .glo "need_few_cells", .glo "cells_of_ways", .glo "bodies_for", .glo "_law_box", .glo "_law_draw", .glo "_law_pick", .glo "_law_chance", .glo "_law_is_int", .glo "_law_place", .glo "_law_loose", .glo "_law_same", .glo "_law_ways", .glo "_law_made", .glo "_law_cells_ups", .glo "_law_heard", .glo "_law_counts", .glo "_law_case_fine", .glo "law", .free "Exception", .free "abs", .free "all", .free "bool", .free "enumerate", .free "int", .free "isinstance", .free "len", .free "list", .free "max", .free "range", .free "sorted", .free "str", .free "sum", .free "super", .free "tuple", .int "MOST_AXES" (3), .int "MOST_BODIES" (12), .int "MOST_BODY_CELLS" (60), .int "MOST_CELLS" (400), .int "FARTHEST" (1000), .int "MOST_WAY_AXES" (24), .int "MOST_MADE_AXES" (3), .glo "Bodies", .cls "Bodies", .mkr "Bodies", .glo "Ways", .cls "Ways", .mkr "Ways", .noat "Bodies" "axes", .noat "Bodies" "bodies", .noat "Ways" "many", .noat "Ways" "ups", .glo "InvalidCount", .glo "InvalidBodies", .glo "InvalidUps", .glo "InvalidWays", .glo "InvalidSize", .glo "Refused", .exm "InvalidCount" "InvalidCount" true, .exm "InvalidCount" "InvalidBodies" false, .exm "InvalidCount" "InvalidUps" false, .exm "InvalidCount" "InvalidWays" false, .exm "InvalidCount" "InvalidSize" false, .exm "InvalidCount" "Refused" false, .exm "InvalidBodies" "InvalidCount" false, .exm "InvalidBodies" "InvalidBodies" true, .exm "InvalidBodies" "InvalidUps" false, .exm "InvalidBodies" "InvalidWays" false, .exm "InvalidBodies" "InvalidSize" false, .exm "InvalidBodies" "Refused" false, .exm "InvalidUps" "InvalidCount" false, .exm "InvalidUps" "InvalidBodies" false, .exm "InvalidUps" "InvalidUps" true, .exm "InvalidUps" "InvalidWays" false, .exm "InvalidUps" "InvalidSize" false, .exm "InvalidUps" "Refused" false, .exm "InvalidWays" "InvalidCount" false, .exm "InvalidWays" "InvalidBodies" false, .exm "InvalidWays" "InvalidUps" false, .exm "InvalidWays" "InvalidWays" true, .exm "InvalidWays" "InvalidSize" false, .exm "InvalidWays" "Refused" false, .exm "InvalidSize" "InvalidCount" false, .exm "InvalidSize" "InvalidBodies" false, .exm "InvalidSize" "InvalidUps" false, .exm "InvalidSize" "InvalidWays" false, .exm "InvalidSize" "InvalidSize" true, .exm "InvalidSize" "Refused" false, .exm "Refused" "InvalidCount" false, .exm "Refused" "InvalidBodies" false, .exm "Refused" "InvalidUps" false, .exm "Refused" "InvalidWays" false, .exm "Refused" "InvalidSize" false, .exm "Refused" "Refused" true]
def fx : List (PySem.W.Frag → Bool) := [fun K => eqO (PySem.W.findIn K (.ref (ga K "Bodies")) "__eq__") (some (some (.ref (ma K (ga K "Bodies") "__eq__")))),
  fun K => eqO (PySem.W.findIn K (.ref (ga K "Bodies")) "__ne__") (some (some (.builtin "object.__ne__"))),
  fun K => PySem.W.isFn K (.ref (ma K (ga K "Bodies") "__eq__")),
  fun K => decide (PySem.W.mroIn K (ga K "Bodies") (.type "object") = some true),
  fun K => (PySem.W.clsIn K (ga K "Bodies")).isSome && PySem.W.typeIn K (.ref (ga K "Bodies")) == some (.type "type"),
  fun K => eqO (PySem.W.findIn K (.ref (ga K "Bodies")) "__class__") (some (some (.builtin "object.__class__"))),
  fun K => eqO (PySem.W.findIn K (.ref (ga K "Ways")) "__eq__") (some (some (.ref (ma K (ga K "Ways") "__eq__")))),
  fun K => eqO (PySem.W.findIn K (.ref (ga K "Ways")) "__ne__") (some (some (.builtin "object.__ne__"))),
  fun K => PySem.W.isFn K (.ref (ma K (ga K "Ways") "__eq__")),
  fun K => decide (PySem.W.mroIn K (ga K "Ways") (.type "object") = some true),
  fun K => (PySem.W.clsIn K (ga K "Ways")).isSome && PySem.W.typeIn K (.ref (ga K "Ways")) == some (.type "type"),
  fun K => eqO (PySem.W.findIn K (.ref (ga K "Ways")) "__class__") (some (some (.builtin "object.__class__"))),
  fun K => eqO (PySem.W.specialIn K (.builtin "object.__class__") "__get__") (some (some (.builtin "getset_descriptor.__get__"))),
  fun K => decide (PySem.W.takesIn K (.builtin "object.__class__") = some true)]
-- flag 0: eq_Bodies
-- flag 1: ne_Bodies
-- flag 2: fe_Bodies
-- flag 3: ob_Bodies
-- flag 4: ty_Bodies
-- flag 5: ca_Bodies
-- flag 6: eq_Ways
-- flag 7: ne_Ways
-- flag 8: fe_Ways
-- flag 9: ob_Ways
-- flag 10: ty_Ways
-- flag 11: ca_Ways
-- flag 12: hn
-- flag 13: ht
-- fact 0: ('.glo', 'is_integer')
-- fact 1: ('.glo', 'is_below')
-- fact 2: ('.glo', 'is_between')
-- fact 3: ('.glo', 'is_sequence')
-- fact 4: ('.glo', 'is_row')
-- fact 5: ('.glo', 'lot_wrong')
-- fact 6: ('.glo', 'is_cell')
-- fact 7: ('.glo', 'is_new_body')
-- fact 8: ('.glo', 'told_bodies')
-- fact 9: ('.glo', 'rows_along')
-- fact 10: ('.glo', 'ups_along')
-- fact 11: ('.glo', 'is_up')
-- fact 12: ('.glo', 'told_ups')
-- fact 13: ('.glo', 'need_ways')
-- fact 14: ('.glo', 'ways_of')
-- fact 15: ('.glo', 'met_pairs')
-- fact 16: ('.glo', 'need_few_cells')
-- fact 17: ('.glo', 'cells_of_ways')
-- fact 18: ('.glo', 'bodies_for')
-- fact 19: ('.glo', '_law_box')
-- fact 20: ('.glo', '_law_draw')
-- fact 21: ('.glo', '_law_pick')
-- fact 22: ('.glo', '_law_chance')
-- fact 23: ('.glo', '_law_is_int')
-- fact 24: ('.glo', '_law_place')
-- fact 25: ('.glo', '_law_loose')
-- fact 26: ('.glo', '_law_same')
-- fact 27: ('.glo', '_law_ways')
-- fact 28: ('.glo', '_law_made')
-- fact 29: ('.glo', '_law_cells_ups')
-- fact 30: ('.glo', '_law_heard')
-- fact 31: ('.glo', '_law_counts')
-- fact 32: ('.glo', '_law_case_fine')
-- fact 33: ('.glo', 'law')
-- fact 34: ('.free', 'Exception')
-- fact 35: ('.free', 'abs')
-- fact 36: ('.free', 'all')
-- fact 37: ('.free', 'bool')
-- fact 38: ('.free', 'enumerate')
-- fact 39: ('.free', 'int')
-- fact 40: ('.free', 'isinstance')
-- fact 41: ('.free', 'len')
-- fact 42: ('.free', 'list')
-- fact 43: ('.free', 'max')
-- fact 44: ('.free', 'range')
-- fact 45: ('.free', 'sorted')
-- fact 46: ('.free', 'str')
-- fact 47: ('.free', 'sum')
-- fact 48: ('.free', 'super')
-- fact 49: ('.free', 'tuple')
-- fact 50: ('.int', 'MOST_AXES')
-- fact 51: ('.int', 'MOST_BODIES')
-- fact 52: ('.int', 'MOST_BODY_CELLS')
-- fact 53: ('.int', 'MOST_CELLS')
-- fact 54: ('.int', 'FARTHEST')
-- fact 55: ('.int', 'MOST_WAY_AXES')
-- fact 56: ('.int', 'MOST_MADE_AXES')
-- fact 57: ('.glo', 'Bodies')
-- fact 58: ('.cls', 'Bodies')
-- fact 59: ('.mkr', 'Bodies')
-- fact 60: ('.glo', 'Ways')
-- fact 61: ('.cls', 'Ways')
-- fact 62: ('.mkr', 'Ways')
-- fact 63: ('.noat', 'Bodies', 'axes')
-- fact 64: ('.noat', 'Bodies', 'bodies')
-- fact 65: ('.noat', 'Ways', 'many')
-- fact 66: ('.noat', 'Ways', 'ups')
-- fact 67: ('.glo', 'InvalidCount')
-- fact 68: ('.glo', 'InvalidBodies')
-- fact 69: ('.glo', 'InvalidUps')
-- fact 70: ('.glo', 'InvalidWays')
-- fact 71: ('.glo', 'InvalidSize')
-- fact 72: ('.glo', 'Refused')
-- fact 73: ('.exm', 'InvalidCount', 'InvalidCount')
-- fact 74: ('.exm', 'InvalidCount', 'InvalidBodies')
-- fact 75: ('.exm', 'InvalidCount', 'InvalidUps')
-- fact 76: ('.exm', 'InvalidCount', 'InvalidWays')
-- fact 77: ('.exm', 'InvalidCount', 'InvalidSize')
-- fact 78: ('.exm', 'InvalidCount', 'Refused')
-- fact 79: ('.exm', 'InvalidBodies', 'InvalidCount')
-- fact 80: ('.exm', 'InvalidBodies', 'InvalidBodies')
-- fact 81: ('.exm', 'InvalidBodies', 'InvalidUps')
-- fact 82: ('.exm', 'InvalidBodies', 'InvalidWays')
-- fact 83: ('.exm', 'InvalidBodies', 'InvalidSize')
-- fact 84: ('.exm', 'InvalidBodies', 'Refused')
-- fact 85: ('.exm', 'InvalidUps', 'InvalidCount')
-- fact 86: ('.exm', 'InvalidUps', 'InvalidBodies')
-- fact 87: ('.exm', 'InvalidUps', 'InvalidUps')
-- fact 88: ('.exm', 'InvalidUps', 'InvalidWays')
-- fact 89: ('.exm', 'InvalidUps', 'InvalidSize')
-- fact 90: ('.exm', 'InvalidUps', 'Refused')
-- fact 91: ('.exm', 'InvalidWays', 'InvalidCount')
-- fact 92: ('.exm', 'InvalidWays', 'InvalidBodies')
-- fact 93: ('.exm', 'InvalidWays', 'InvalidUps')
-- fact 94: ('.exm', 'InvalidWays', 'InvalidWays')
-- fact 95: ('.exm', 'InvalidWays', 'InvalidSize')
-- fact 96: ('.exm', 'InvalidWays', 'Refused')
-- fact 97: ('.exm', 'InvalidSize', 'InvalidCount')
-- fact 98: ('.exm', 'InvalidSize', 'InvalidBodies')
-- fact 99: ('.exm', 'InvalidSize', 'InvalidUps')
-- fact 100: ('.exm', 'InvalidSize', 'InvalidWays')
-- fact 101: ('.exm', 'InvalidSize', 'InvalidSize')
-- fact 102: ('.exm', 'InvalidSize', 'Refused')
-- fact 103: ('.exm', 'Refused', 'InvalidCount')
-- fact 104: ('.exm', 'Refused', 'InvalidBodies')
-- fact 105: ('.exm', 'Refused', 'InvalidUps')
-- fact 106: ('.exm', 'Refused', 'InvalidWays')
-- fact 107: ('.exm', 'Refused', 'InvalidSize')
-- fact 108: ('.exm', 'Refused', 'Refused')
abbrev Sc (K : PySem.W.Frag) (mg : Str → Option Value) : Prop := Src prg fx fa fn er K mg
end K76
set_option Elab.async false
set_option linter.all false
set_option maxRecDepth 100000
set_option maxHeartbeats 4000000
/-! k76: the module words -/
namespace K76
open PySem PySem.Spec PyProof.Rows L2 He HK
def sp_is_integer : Sp := fun vs H Q _ => ∃ i : Int, vs = [.int i] ∧ RetV (.bl true) H Q
def sp_is_below : Sp := fun vs H Q _ => ∃ i n : Int, vs = [.int i, .int n] ∧ RetV (.bl (decide (0 ≤ i ∧ i < n))) H Q
def sp_is_between : Sp := fun vs H Q _ => ∃ i a b : Int, vs = [.int i, .int a, .int b] ∧ RetV (.bl (decide (a ≤ i ∧ i ≤ b))) H Q
def sp_is_sequence : Sp := fun vs H Q _ => ∃ (a : Addr) (xs : List V), vs = [.ref a] ∧ Sq H a xs ∧ RetV (.bl true) H Q
def sp_is_row : Sp := fun vs H Q _ => ∃ (a : Addr) (xs : List V) (n : Int), vs = [.ref a, .int n] ∧ Sq H a xs ∧ RetV (.bl (decide ((xs.length : Int) = n))) H Q
def sp_lot_wrong : Sp := fun vs H Q _ => ∃ (ns : List Int) (a : Addr) (n : Int), vs = [.ref a, .int n] ∧ Sq H a (ns.map V.int) ∧ ns.length < sizeLine ∧ ns.Nodup ∧ (∀ x ∈ ns, 0 ≤ x ∧ x < n) ∧ RetV (.int (-1)) H Q
section
variable {w : World} {K : PySem.W.Frag} {mg : Str → Option Value} {base : Heap}
theorem C_is_integer (S : Sc K mg) : Cal prg w K mg base CX0 "is_integer" 1 ["value"] [] sp_is_integer := by
  refine S.cal (d := d_is_integer) 0 0 sc_is_integer rfl rfl rfl rfl rfl (fun _ _ _ _ _ _ us hl => match us, hl with | [_], _ => rfl) (fun vs H Q E h => ?_) (fun f cdv A outer s H vs Q E hr h => ?_)
  · obtain ⟨i, rfl, _⟩ := h
    rfl
  · obtain ⟨i, rfl, q⟩ := h
    refine ⟨_, (pss_one (ps_ret (pe_and (pe_callB call_isi (by rfl) (S.free 40) (by decide +kernel) (pa_cons (pv 0) (pa_cons (pe_ty (n := "int") (S.free 39) (by decide +kernel)) pa_nil))) (pe_one (pe_not (pe_callB call_isi (by rfl) (S.free 40) (by decide +kernel) (pa_cons (pv 0) (pa_cons (pe_ty (n := "bool") (S.free 37) (by decide +kernel)) pa_nil)))))))), ?_⟩
    try simp only [wipe, tC, tVar, tChain, rI0, rI, rU, tOp, tUn, tCall, tAnd, tOr, tNot, tNotV, tAndV, tOrV, tTest, tB, tIf, tIfS, tRet, tRetN, tNext, tSeq, tNil, tCons, tAug, ipI, tPar, tAsg, gName, tDrop, tLst, tTup, tCB, tBM, tBM0, tFld_eq, tMkE, tMake, tAugS, gSub, rEq, rAll, rMax, rSum, rAppend, rExtend, rSetL, _root_.L2.start, List.map_cons, List.map_nil, List.length_cons, List.length_nil, List.replicate_succ, List.replicate_zero, List.cons_append, List.nil_append, List.append_nil, List.getElem?_cons_zero, List.getElem?_cons_succ, List.set_cons_zero, List.set_cons_succ, Nat.reduceAdd, Nat.reduceSub, V.int.injEq, V.bl.injEq, V.ref.injEq, V.str.injEq, exists_eq, exists_eq', exists_eq_left, exists_eq_left', exists_and_left, exists_and_right, Option.some.injEq, List.cons.injEq, and_true, true_and, and_assoc, retV, true_or, or_true, decide_eq_true_eq, if_true, if_false, Bool.false_eq_true, Bool.not_true, Bool.not_false, Bool.not_eq_true', reduceCtorEq, eq_self, decide_true, decide_false, List.length_map, exists_const, false_and, and_false, or_false, false_or, ↓reduceIte]
    refine isi_ii ?_
    try simp only [wipe, tC, tVar, tChain, rI0, rI, rU, tOp, tUn, tCall, tAnd, tOr, tNot, tNotV, tAndV, tOrV, tTest, tB, tIf, tIfS, tRet, tRetN, tNext, tSeq, tNil, tCons, tAug, ipI, tPar, tAsg, gName, tDrop, tLst, tTup, tCB, tBM, tBM0, tFld_eq, tMkE, tMake, tAugS, gSub, rEq, rAll, rMax, rSum, rAppend, rExtend, rSetL, _root_.L2.start, List.map_cons, List.map_nil, List.length_cons, List.length_nil, List.replicate_succ, List.replicate_zero, List.cons_append, List.nil_append, List.append_nil, List.getElem?_cons_zero, List.getElem?_cons_succ, List.set_cons_zero, List.set_cons_succ, Nat.reduceAdd, Nat.reduceSub, V.int.injEq, V.bl.injEq, V.ref.injEq, V.str.injEq, exists_eq, exists_eq', exists_eq_left, exists_eq_left', exists_and_left, exists_and_right, Option.some.injEq, List.cons.injEq, and_true, true_and, and_assoc, retV, true_or, or_true, decide_eq_true_eq, if_true, if_false, Bool.false_eq_true, Bool.not_true, Bool.not_false, Bool.not_eq_true', reduceCtorEq, eq_self, decide_true, decide_false, List.length_map, exists_const, false_and, and_false, or_false, false_or, ↓reduceIte]
    refine isi_ib ?_
    try simp only [wipe, tC, tVar, tChain, rI0, rI, rU, tOp, tUn, tCall, tAnd, tOr, tNot, tNotV, tAndV, tOrV, tTest, tB, tIf, tIfS, tRet, tRetN, tNext, tSeq, tNil, tCons, tAug, ipI, tPar, tAsg, gName, tDrop, tLst, tTup, tCB, tBM, tBM0, tFld_eq, tMkE, tMake, tAugS, gSub, rEq, rAll, rMax, rSum, rAppend, rExtend, rSetL, _root_.L2.start, List.map_cons, List.map_nil, List.length_cons, List.length_nil, List.replicate_succ, List.replicate_zero, List.cons_append, List.nil_append, List.append_nil, List.getElem?_cons_zero, List.getElem?_cons_succ, List.set_cons_zero, List.set_cons_succ, Nat.reduceAdd, Nat.reduceSub, V.int.injEq, V.bl.injEq, V.ref.injEq, V.str.injEq, exists_eq, exists_eq', exists_eq_left, exists_eq_left', exists_and_left, exists_and_right, Option.some.injEq, List.cons.injEq, and_true, true_and, and_assoc, retV, true_or, or_true, decide_eq_true_eq, if_true, if_false, Bool.false_eq_true, Bool.not_true, Bool.not_false, Bool.not_eq_true', reduceCtorEq, eq_self, decide_true, decide_false, List.length_map, exists_const, false_and, and_false, or_false, false_or, ↓reduceIte]
    exact q.go (Same.refl _) rfl
theorem C_is_below (S : Sc K mg) : Cal prg w K mg base CX0 "is_below" 2 ["value", "limit"] [] sp_is_below := by
  have C_is_integer : Cal prg w K mg base CX0 "is_integer" 1 ["value"] [] sp_is_integer := C_is_integer S
  refine S.cal (d := d_is_below) 1 1 sc_is_below rfl rfl rfl rfl rfl (fun _ _ _ _ _ _ us hl => match us, hl with | [_, _], _ => rfl) (fun vs H Q E h => ?_) (fun f cdv A outer s H vs Q E hr h => ?_)
  · obtain ⟨i, n, rfl, _⟩ := h
    rfl
  · obtain ⟨i, n, rfl, q⟩ := h
    refine ⟨_, (pss_one (ps_ret (pe_and (pe_c C_is_integer (hr.mono (by omega)) pass0 (pa_cons (pv 0) pa_nil)) (pe_one (pe_chain op_le op_lt pe_int (pv 0) (pv 1)))))), ?_⟩
    try simp only [wipe, tC, tVar, tChain, rI0, rI, rU, tOp, tUn, tCall, tAnd, tOr, tNot, tNotV, tAndV, tOrV, tTest, tB, tIf, tIfS, tRet, tRetN, tNext, tSeq, tNil, tCons, tAug, ipI, tPar, tAsg, gName, tDrop, tLst, tTup, tCB, tBM, tBM0, tFld_eq, tMkE, tMake, tAugS, gSub, rEq, rAll, rMax, rSum, rAppend, rExtend, rSetL, _root_.L2.start, List.map_cons, List.map_nil, List.length_cons, List.length_nil, List.replicate_succ, List.replicate_zero, List.cons_append, List.nil_append, List.append_nil, List.getElem?_cons_zero, List.getElem?_cons_succ, List.set_cons_zero, List.set_cons_succ, Nat.reduceAdd, Nat.reduceSub, V.int.injEq, V.bl.injEq, V.ref.injEq, V.str.injEq, exists_eq, exists_eq', exists_eq_left, exists_eq_left', exists_and_left, exists_and_right, Option.some.injEq, List.cons.injEq, and_true, true_and, and_assoc, retV, true_or, or_true, decide_eq_true_eq, if_true, if_false, Bool.false_eq_true, Bool.not_true, Bool.not_false, Bool.not_eq_true', reduceCtorEq, eq_self, decide_true, decide_false, List.length_map, exists_const, false_and, and_false, or_false, false_or, sp_is_integer, ↓reduceIte]
    intro H1 e1
    by_cases h0 : (0 : Int) ≤ i
    · try simp only [wipe, tC, tVar, tChain, rI0, rI, rU, tOp, tUn, tCall, tAnd, tOr, tNot, tNotV, tAndV, tOrV, tTest, tB, tIf, tIfS, tRet, tRetN, tNext, tSeq, tNil, tCons, tAug, ipI, tPar, tAsg, gName, tDrop, tLst, tTup, tCB, tBM, tBM0, tFld_eq, tMkE, tMake, tAugS, gSub, rEq, rAll, rMax, rSum, rAppend, rExtend, rSetL, _root_.L2.start, List.map_cons, List.map_nil, List.length_cons, List.length_nil, List.replicate_succ, List.replicate_zero, List.cons_append, List.nil_append, List.append_nil, List.getElem?_cons_zero, List.getElem?_cons_succ, List.set_cons_zero, List.set_cons_succ, Nat.reduceAdd, Nat.reduceSub, V.int.injEq, V.bl.injEq, V.ref.injEq, V.str.injEq, exists_eq, exists_eq', exists_eq_left, exists_eq_left', exists_and_left, exists_and_right, Option.some.injEq, List.cons.injEq, and_true, true_and, and_assoc, retV, true_or, or_true, decide_eq_true_eq, if_true, if_false, Bool.false_eq_true, Bool.not_true, Bool.not_false, Bool.not_eq_true', reduceCtorEq, eq_self, decide_true, decide_false, List.length_map, exists_const, false_and, and_false, or_false, false_or, if_pos h0, ↓reduceIte]
      refine q.go e1 (congrArg V.bl ?_)
      simp [h0]
    · try simp only [wipe, tC, tVar, tChain, rI0, rI, rU, tOp, tUn, tCall, tAnd, tOr, tNot, tNotV, tAndV, tOrV, tTest, tB, tIf, tIfS, tRet, tRetN, tNext, tSeq, tNil, tCons, tAug, ipI, tPar, tAsg, gName, tDrop, tLst, tTup, tCB, tBM, tBM0, tFld_eq, tMkE, tMake, tAugS, gSub, rEq, rAll, rMax, rSum, rAppend, rExtend, rSetL, _root_.L2.start, List.map_cons, List.map_nil, List.length_cons, List.length_nil, List.replicate_succ, List.replicate_zero, List.cons_append, List.nil_append, List.append_nil, List.getElem?_cons_zero, List.getElem?_cons_succ, List.set_cons_zero, List.set_cons_succ, Nat.reduceAdd, Nat.reduceSub, V.int.injEq, V.bl.injEq, V.ref.injEq, V.str.injEq, exists_eq, exists_eq', exists_eq_left, exists_eq_left', exists_and_left, exists_and_right, Option.some.injEq, List.cons.injEq, and_true, true_and, and_assoc, retV, true_or, or_true, decide_eq_true_eq, if_true, if_false, Bool.false_eq_true, Bool.not_true, Bool.not_false, Bool.not_eq_true', reduceCtorEq, eq_self, decide_true, decide_false, List.length_map, exists_const, false_and, and_false, or_false, false_or, if_neg h0, ↓reduceIte]
      refine q.go e1 (congrArg V.bl ?_)
      simp [h0]
theorem C_is_between (S : Sc K mg) : Cal prg w K mg base CX0 "is_between" 2 ["value", "least", "most"] [] sp_is_between := by
  have C_is_integer : Cal prg w K mg base CX0 "is_integer" 1 ["value"] [] sp_is_integer := C_is_integer S
  refine S.cal (d := d_is_between) 2 2 sc_is_between rfl rfl rfl rfl rfl (fun _ _ _ _ _ _ us hl => match us, hl with | [_, _, _], _ => rfl) (fun vs H Q E h => ?_) (fun f cdv A outer s H vs Q E hr h => ?_)
  · obtain ⟨i, a, b, rfl, _⟩ := h
    rfl
  · obtain ⟨i, a, b, rfl, q⟩ := h
    refine ⟨_, (pss_one (ps_ret (pe_and (pe_c C_is_integer (hr.mono (by omega)) pass0 (pa_cons (pv 0) pa_nil)) (pe_one (pe_chain op_le op_le (pv 1) (pv 0) (pv 2)))))), ?_⟩
    try simp only [wipe, tC, tVar, tChain, rI0, rI, rU, tOp, tUn, tCall, tAnd, tOr, tNot, tNotV, tAndV, tOrV, tTest, tB, tIf, tIfS, tRet, tRetN, tNext, tSeq, tNil, tCons, tAug, ipI, tPar, tAsg, gName, tDrop, tLst, tTup, tCB, tBM, tBM0, tFld_eq, tMkE, tMake, tAugS, gSub, rEq, rAll, rMax, rSum, rAppend, rExtend, rSetL, _root_.L2.start, List.map_cons, List.map_nil, List.length_cons, List.length_nil, List.replicate_succ, List.replicate_zero, List.cons_append, List.nil_append, List.append_nil, List.getElem?_cons_zero, List.getElem?_cons_succ, List.set_cons_zero, List.set_cons_succ, Nat.reduceAdd, Nat.reduceSub, V.int.injEq, V.bl.injEq, V.ref.injEq, V.str.injEq, exists_eq, exists_eq', exists_eq_left, exists_eq_left', exists_and_left, exists_and_right, Option.some.injEq, List.cons.injEq, and_true, true_and, and_assoc, retV, true_or, or_true, decide_eq_true_eq, if_true, if_false, Bool.false_eq_true, Bool.not_true, Bool.not_false, Bool.not_eq_true', reduceCtorEq, eq_self, decide_true, decide_false, List.length_map, exists_const, false_and, and_false, or_false, false_or, sp_is_integer, ↓reduceIte]
    intro H1 e1
    by_cases h0 : a ≤ i
    · try simp only [wipe, tC, tVar, tChain, rI0, rI, rU, tOp, tUn, tCall, tAnd, tOr, tNot, tNotV, tAndV, tOrV, tTest, tB, tIf, tIfS, tRet, tRetN, tNext, tSeq, tNil, tCons, tAug, ipI, tPar, tAsg, gName, tDrop, tLst, tTup, tCB, tBM, tBM0, tFld_eq, tMkE, tMake, tAugS, gSub, rEq, rAll, rMax, rSum, rAppend, rExtend, rSetL, _root_.L2.start, List.map_cons, List.map_nil, List.length_cons, List.length_nil, List.replicate_succ, List.replicate_zero, List.cons_append, List.nil_append, List.append_nil, List.getElem?_cons_zero, List.getElem?_cons_succ, List.set_cons_zero, List.set_cons_succ, Nat.reduceAdd, Nat.reduceSub, V.int.injEq, V.bl.injEq, V.ref.injEq, V.str.injEq, exists_eq, exists_eq', exists_eq_left, exists_eq_left', exists_and_left, exists_and_right, Option.some.injEq, List.cons.injEq, and_true, true_and, and_assoc, retV, true_or, or_true, decide_eq_true_eq, if_true, if_false, Bool.false_eq_true, Bool.not_true, Bool.not_false, Bool.not_eq_true', reduceCtorEq, eq_self, decide_true, decide_false, List.length_map, exists_const, false_and, and_false, or_false, false_or, if_pos h0, ↓reduceIte]
      refine q.go e1 (congrArg V.bl ?_)
      simp [h0]
    · try simp only [wipe, tC, tVar, tChain, rI0, rI, rU, tOp, tUn, tCall, tAnd, tOr, tNot, tNotV, tAndV, tOrV, tTest, tB, tIf, tIfS, tRet, tRetN, tNext, tSeq, tNil, tCons, tAug, ipI, tPar, tAsg, gName, tDrop, tLst, tTup, tCB, tBM, tBM0, tFld_eq, tMkE, tMake, tAugS, gSub, rEq, rAll, rMax, rSum, rAppend, rExtend, rSetL, _root_.L2.start, List.map_cons, List.map_nil, List.length_cons, List.length_nil, List.replicate_succ, List.replicate_zero, List.cons_append, List.nil_append, List.append_nil, List.getElem?_cons_zero, List.getElem?_cons_succ, List.set_cons_zero, List.set_cons_succ, Nat.reduceAdd, Nat.reduceSub, V.int.injEq, V.bl.injEq, V.ref.injEq, V.str.injEq, exists_eq, exists_eq', exists_eq_left, exists_eq_left', exists_and_left, exists_and_right, Option.some.injEq, List.cons.injEq, and_true, true_and, and_assoc, retV, true_or, or_true, decide_eq_true_eq, if_true, if_false, Bool.false_eq_true, Bool.not_true, Bool.not_false, Bool.not_eq_true', reduceCtorEq, eq_self, decide_true, decide_false, List.length_map, exists_const, false_and, and_false, or_false, false_or, if_neg h0, ↓reduceIte]
      refine q.go e1 (congrArg V.bl ?_)
      simp [h0]
theorem C_is_sequence (S : Sc K mg) : Cal prg w K mg base CX0 "is_sequence" 1 ["value"] [] sp_is_sequence := by
  refine S.cal (d := d_is_sequence) 3 3 sc_is_sequence rfl rfl rfl rfl rfl (fun _ _ _ _ _ _ us hl => match us, hl with | [_], _ => rfl) (fun vs H Q E h => ?_) (fun f cdv A outer s H vs Q E hr h => ?_)
  · obtain ⟨a, xs, rfl, _⟩ := h
    rfl
  · obtain ⟨a, xs, rfl, hs, q⟩ := h
    refine ⟨_, (pss_one (ps_ret (pe_callB call_isiT (by rfl) (S.free 40) (by decide +kernel) (pa_cons (pv 0) (pa_cons (pe_tup (pa_cons (pe_ty (n := "list") (S.free 42) (by decide +kernel)) (pa_cons (pe_ty (n := "tuple") (S.free 49) (by decide +kernel)) pa_nil))) pa_nil))))), ?_⟩
    refine ⟨_, rfl, ?_⟩
    exact isi_sq hs fun H' e => q.go e rfl
theorem C_is_row (S : Sc K mg) : Cal prg w K mg base CX0 "is_row" 2 ["value", "many"] [] sp_is_row := by
  have C_is_sequence : Cal prg w K mg base CX0 "is_sequence" 1 ["value"] [] sp_is_sequence := C_is_sequence S
  refine S.cal (d := d_is_row) 4 4 sc_is_row rfl rfl rfl rfl rfl (fun _ _ _ _ _ _ us hl => match us, hl with | [_, _], _ => rfl) (fun vs H Q E h => ?_) (fun f cdv A outer s H vs Q E hr h => ?_)
  · obtain ⟨a, xs, n, rfl, _⟩ := h
    rfl
  · obtain ⟨a, xs, n, rfl, hs, q⟩ := h
    refine ⟨_, (pss_one (ps_ret (pe_and (pe_c C_is_sequence (hr.mono (by omega)) pass0 (pa_cons (pv 0) pa_nil)) (pe_one (pe_cmpR op_eq (pe_callB cr_lenA (by rfl) (S.free 41) (by decide +kernel) (pa_cons (pv 0) pa_nil)) (pv 1) (nomark _)))))), ?_⟩
    try simp only [wipe, tC, tVar, tChain, rI0, rI, rU, tOp, tUn, tCall, tAnd, tOr, tNot, tNotV, tAndV, tOrV, tTest, tB, tIf, tIfS, tRet, tRetN, tNext, tSeq, tNil, tCons, tAug, ipI, tPar, tAsg, gName, tDrop, tLst, tTup, tCB, tBM, tBM0, tFld_eq, tMkE, tMake, tAugS, gSub, rEq, rAll, rMax, rSum, rAppend, rExtend, rSetL, _root_.L2.start, List.map_cons, List.map_nil, List.length_cons, List.length_nil, List.replicate_succ, List.replicate_zero, List.cons_append, List.nil_append, List.append_nil, List.getElem?_cons_zero, List.getElem?_cons_succ, List.set_cons_zero, List.set_cons_succ, Nat.reduceAdd, Nat.reduceSub, V.int.injEq, V.bl.injEq, V.ref.injEq, V.str.injEq, exists_eq, exists_eq', exists_eq_left, exists_eq_left', exists_and_left, exists_and_right, Option.some.injEq, List.cons.injEq, and_true, true_and, and_assoc, retV, true_or, or_true, decide_eq_true_eq, if_true, if_false, Bool.false_eq_true, Bool.not_true, Bool.not_false, Bool.not_eq_true', reduceCtorEq, eq_self, decide_true, decide_false, List.length_map, exists_const, false_and, and_false, or_false, false_or, sp_is_sequence, ↓reduceIte]
    refine ⟨⟨xs, hs⟩, fun H1 e1 => len_sq (hs.same e1) ⟨rfl, ?_⟩⟩
    refine q.go e1 (congrArg V.bl ?_)
    simp
theorem C_lot_wrong (S : Sc K mg) : Cal prg w K mg base CX0 "lot_wrong" 3 ["value", "limit"] [] sp_lot_wrong := by
  have C_is_below : Cal prg w K mg base CX0 "is_below" 2 ["value", "limit"] [] sp_is_below := C_is_below S
  refine S.cal (d := d_lot_wrong) 5 5 sc_lot_wrong rfl rfl rfl rfl rfl (fun _ _ _ _ _ _ us hl => match us, hl with | [_, _], _ => rfl) (fun vs H Q E h => ?_) (fun f cdv A outer s H vs Q E hr h => ?_)
  · obtain ⟨ns, a, n, rfl, _⟩ := h
    rfl
  · obtain ⟨ns, a, n, rfl, hs, hz, hn, hb, q⟩ := h
    refine ⟨_, (pss_cons (ps_set (i := 2) sc_lot_wrong.nd rfl (by first | exact Or.inl rfl | exact Or.inr rfl) pe_dnewK)
      (pss_cons (ps_for PassesOwn.never rfl (pi_enS (S.free 38) (pa_cons (pv 0) pa_nil)) (pg_tup (by rfl) (pgs_cons (pg_name (i := 3) sc_lot_wrong.nd rfl (by first | exact Or.inl rfl | exact Or.inr rfl)) (pgs_cons (pg_name (i := 4) sc_lot_wrong.nd rfl (by first | exact Or.inl rfl | exact Or.inr rfl)) pgs_nil))) (pss_cons (ps_if (PW.pt (pw_or (pt_not (pt_val (pe_c C_is_below (hr.mono (by omega)) pass0 (pa_cons (pv 4) (pa_cons (pv 1) pa_nil))))) (pw_or1 (pt_cmp (pc_din (hu_of hr) (pv 4) (pv 2)))))) (pss_one (ps_ret (pv 3))) pss_nil)
      (pss_one (ps_dput (hu_of hr) (pv 2) (pv 4) pe_bl rfl))))
      (pss_one (ps_ret (pe_un un_neg pe_int))))), ?_⟩
    try simp only [wipe, tC, tVar, tChain, rI0, rI, rU, tOp, tUn, tCall, tAnd, tOr, tNot, tNotV, tAndV, tOrV, tTest, tB, tIf, tIfS, tRet, tRetN, tNext, tSeq, tNil, tCons, tAug, ipI, tPar, tAsg, gName, tDrop, tLst, tTup, tCB, tBM, tBM0, tFld_eq, tMkE, tMake, tAugS, gSub, rEq, rAll, rMax, rSum, rAppend, rExtend, rSetL, _root_.L2.start, List.map_cons, List.map_nil, List.length_cons, List.length_nil, List.replicate_succ, List.replicate_zero, List.cons_append, List.nil_append, List.append_nil, List.getElem?_cons_zero, List.getElem?_cons_succ, List.set_cons_zero, List.set_cons_succ, Nat.reduceAdd, Nat.reduceSub, V.int.injEq, V.bl.injEq, V.ref.injEq, V.str.injEq, exists_eq, exists_eq', exists_eq_left, exists_eq_left', exists_and_left, exists_and_right, Option.some.injEq, List.cons.injEq, and_true, true_and, and_assoc, retV, true_or, or_true, decide_eq_true_eq, if_true, if_false, Bool.false_eq_true, Bool.not_true, Bool.not_false, Bool.not_eq_true', reduceCtorEq, eq_self, decide_true, decide_false, List.length_map, exists_const, false_and, and_false, or_false, false_or, sp_is_below, ↓reduceIte]
    intro D nD
    have nDa : D ≠ a := fun e => hs.some (e ▸ nD)
    refine for_en (fun Q h => ⟨_, rfl, h⟩) (hs.same (same_new nD)) (fun i σ H' => Same H H' ∧ (∃ u v, σ = [some (.ref a), some (.int n), some (.ref D), u, v]) ∧ ∃ kvs, H' D = some (.dK kvs) ∧ kvs.length ≤ i ∧ ∀ k, (valV kvs (.inl k)).isSome = true → k ∈ ns.take i)
      ⟨same_new nD, ⟨_, _, rfl⟩, [], upd_same, Nat.le_refl _, fun k z => by cases z⟩ (fun i σ H' _ h => ?_) (fun i x σ H' T hi hx h nT => ?_) (fun σ H' h => ?_)
    · rw [upd_ne nDa.symm]
      rcases hs with hs | hs <;> rw [hs] <;> exact h.1 _ _ hs
    · obtain ⟨e, ⟨u, v, rfl⟩, kvs, hD, hl, hk⟩ := h
      rw [List.length_map] at hi
      rw [List.getElem?_map, List.getElem?_eq_getElem hi] at hx
      obtain rfl := Option.some.inj hx
      refine g_two rfl upd_same ?_
      try simp only [wipe, tC, tVar, tChain, rI0, rI, rU, tOp, tUn, tCall, tAnd, tOr, tNot, tNotV, tAndV, tOrV, tTest, tB, tIf, tIfS, tRet, tRetN, tNext, tSeq, tNil, tCons, tAug, ipI, tPar, tAsg, gName, tDrop, tLst, tTup, tCB, tBM, tBM0, tFld_eq, tMkE, tMake, tAugS, gSub, rEq, rAll, rMax, rSum, rAppend, rExtend, rSetL, _root_.L2.start, List.map_cons, List.map_nil, List.length_cons, List.length_nil, List.replicate_succ, List.replicate_zero, List.cons_append, List.nil_append, List.append_nil, List.getElem?_cons_zero, List.getElem?_cons_succ, List.set_cons_zero, List.set_cons_succ, Nat.reduceAdd, Nat.reduceSub, V.int.injEq, V.bl.injEq, V.ref.injEq, V.str.injEq, exists_eq, exists_eq', exists_eq_left, exists_eq_left', exists_and_left, exists_and_right, Option.some.injEq, List.cons.injEq, and_true, true_and, and_assoc, retV, true_or, or_true, decide_eq_true_eq, if_true, if_false, Bool.false_eq_true, Bool.not_true, Bool.not_false, Bool.not_eq_true', reduceCtorEq, eq_self, decide_true, decide_false, List.length_map, exists_const, false_and, and_false, or_false, false_or, sp_is_below, ↓reduceIte]
      have hm : ns[i] ∈ ns := List.getElem_mem hi
      have e1 : Same H' (upd H' T (.tup [.int (i : Nat), .int ns[i]])) := same_new nT
      intro H2 e2
      rw [decide_eq_true (hb _ hm)]
      try simp only [wipe, tC, tVar, tChain, rI0, rI, rU, tOp, tUn, tCall, tAnd, tOr, tNot, tNotV, tAndV, tOrV, tTest, tB, tIf, tIfS, tRet, tRetN, tNext, tSeq, tNil, tCons, tAug, ipI, tPar, tAsg, gName, tDrop, tLst, tTup, tCB, tBM, tBM0, tFld_eq, tMkE, tMake, tAugS, gSub, rEq, rAll, rMax, rSum, rAppend, rExtend, rSetL, _root_.L2.start, List.map_cons, List.map_nil, List.length_cons, List.length_nil, List.replicate_succ, List.replicate_zero, List.cons_append, List.nil_append, List.append_nil, List.getElem?_cons_zero, List.getElem?_cons_succ, List.set_cons_zero, List.set_cons_succ, Nat.reduceAdd, Nat.reduceSub, V.int.injEq, V.bl.injEq, V.ref.injEq, V.str.injEq, exists_eq, exists_eq', exists_eq_left, exists_eq_left', exists_and_left, exists_and_right, Option.some.injEq, List.cons.injEq, and_true, true_and, and_assoc, retV, true_or, or_true, decide_eq_true_eq, if_true, if_false, Bool.false_eq_true, Bool.not_true, Bool.not_false, Bool.not_eq_true', reduceCtorEq, eq_self, decide_true, decide_false, List.length_map, exists_const, false_and, and_false, or_false, false_or, tDIn, ↓reduceIte]
      have hD2 : H2 D = some (.dK kvs) := e2 _ _ (e1 _ _ hD)
      have no : valV kvs (.inl ns[i]) = none := by
        cases hv : valV kvs (.inl ns[i]) with
        | none => rfl
        | some y =>
          have hin := hk ns[i] (by rw [hv]; rfl)
          exact absurd hin (fun z => by
            obtain ⟨j, hj, ej⟩ := List.getElem_of_mem z
            rw [List.getElem_take] at ej
            rw [List.length_take] at hj
            have := (List.getElem_inj hn).1 ej
            omega)
      refine ⟨none, no ▸ DGet.k (k := .inl ns[i]) hD2, ?_⟩
      try simp only [wipe, tC, tVar, tChain, rI0, rI, rU, tOp, tUn, tCall, tAnd, tOr, tNot, tNotV, tAndV, tOrV, tTest, tB, tIf, tIfS, tRet, tRetN, tNext, tSeq, tNil, tCons, tAug, ipI, tPar, tAsg, gName, tDrop, tLst, tTup, tCB, tBM, tBM0, tFld_eq, tMkE, tMake, tAugS, gSub, rEq, rAll, rMax, rSum, rAppend, rExtend, rSetL, _root_.L2.start, List.map_cons, List.map_nil, List.length_cons, List.length_nil, List.replicate_succ, List.replicate_zero, List.cons_append, List.nil_append, List.append_nil, List.getElem?_cons_zero, List.getElem?_cons_succ, List.set_cons_zero, List.set_cons_succ, Nat.reduceAdd, Nat.reduceSub, V.int.injEq, V.bl.injEq, V.ref.injEq, V.str.injEq, exists_eq, exists_eq', exists_eq_left, exists_eq_left', exists_and_left, exists_and_right, Option.some.injEq, List.cons.injEq, and_true, true_and, and_assoc, retV, true_or, or_true, decide_eq_true_eq, if_true, if_false, Bool.false_eq_true, Bool.not_true, Bool.not_false, Bool.not_eq_true', reduceCtorEq, eq_self, decide_true, decide_false, List.length_map, exists_const, false_and, and_false, or_false, false_or, sDPut, Option.isSome_none, ↓reduceIte]
      refine ⟨_, DPut.k (k := .inl ns[i]) hD2 (by omega), same_mut (e.trans (e1.trans e2)) nD, _, upd_same, Nat.le_trans (length_putK _ _ _) (by omega), fun k z => ?_⟩
      rw [valV_put] at z
      by_cases ek : (Sum.inl k : Key) = .inl ns[i]
      · obtain rfl := Sum.inl.inj ek
        exact List.mem_take_iff_getElem.2 ⟨i, by omega, rfl⟩
      · rw [if_neg ek] at z
        obtain ⟨j, hj, ej⟩ := List.mem_take_iff_getElem.1 (hk k z)
        exact List.mem_take_iff_getElem.2 ⟨j, by omega, ej⟩
    · obtain ⟨e, ⟨u, v, rfl⟩, _⟩ := h
      try simp only [wipe, tC, tVar, tChain, rI0, rI, rU, tOp, tUn, tCall, tAnd, tOr, tNot, tNotV, tAndV, tOrV, tTest, tB, tIf, tIfS, tRet, tRetN, tNext, tSeq, tNil, tCons, tAug, ipI, tPar, tAsg, gName, tDrop, tLst, tTup, tCB, tBM, tBM0, tFld_eq, tMkE, tMake, tAugS, gSub, rEq, rAll, rMax, rSum, rAppend, rExtend, rSetL, _root_.L2.start, List.map_cons, List.map_nil, List.length_cons, List.length_nil, List.replicate_succ, List.replicate_zero, List.cons_append, List.nil_append, List.append_nil, List.getElem?_cons_zero, List.getElem?_cons_succ, List.set_cons_zero, List.set_cons_succ, Nat.reduceAdd, Nat.reduceSub, V.int.injEq, V.bl.injEq, V.ref.injEq, V.str.injEq, exists_eq, exists_eq', exists_eq_left, exists_eq_left', exists_and_left, exists_and_right, Option.some.injEq, List.cons.injEq, and_true, true_and, and_assoc, retV, true_or, or_true, decide_eq_true_eq, if_true, if_false, Bool.false_eq_true, Bool.not_true, Bool.not_false, Bool.not_eq_true', reduceCtorEq, eq_self, decide_true, decide_false, List.length_map, exists_const, false_and, and_false, or_false, false_or, ↓reduceIte]
      exact q.go e rfl
end
end K76
set_option Elab.async false
set_option linter.all false
set_option maxRecDepth 100000
set_option maxHeartbeats 4000000
/-! k76: the module cells -/
namespace K76
open PySem PySem.Spec PyProof.Rows L2 He HK
/-- a cell as a dict's key -/
def ky (c : List Int) : List L2.Key := c.map Sum.inl
theorem ky_kV (c : List Int) : (ky c).map kV = c.map V.int := by rw [ky, List.map_map]; rfl
theorem ky_inj {c d : List Int} (h : ky c = ky d) : c = d := by
  have := congrArg (List.map fun k : L2.Key => match k with | .inl i => i | .inr _ => 0) h
  simpa [ky, List.map_map, Function.comp_def] using this
def sp_is_cell : Sp := fun vs H Q _ => ∃ (v : V) (c : List Int), vs = [.int c.length, v] ∧ SqF InA No H v c ∧ c.length ≤ 3 ∧ (∀ x ∈ c, -1000 ≤ x ∧ x ≤ 1000) ∧ RetV (.bl true) H Q
def sp_is_new_body : Sp := fun vs H Q _ => ∃ (n : Nat) (t : Addr) (v : V) (tk : List (List L2.Key × V)) (cs : List (List Int)), vs = [.int n, .ref t, v] ∧ H t = some (.dT tk) ∧ SqF (SqF InA) No H v cs ∧ 1 ≤ cs.length ∧ cs.length ≤ 60 ∧ n ≤ 3 ∧
  (∀ c ∈ cs, c.length = n ∧ (∀ x ∈ c, -1000 ≤ x ∧ x ≤ 1000) ∧ valV tk (ky c) = none) ∧ cs.Nodup ∧ RetV (.bl true) H Q
/-- bodies made: each is the given one in an order of its own -/
def BodR (B : List (List (List Int))) : Hp → V → Prop := fun H v => ∃ B', TpF (TpF (TpF InA)) No H v B' ∧ Paired List.Perm B' B
structure BodOk (w : World) (n : Nat) (B : List (List (List Int))) : Prop where
  n1 : 1 ≤ n
  n3 : n ≤ 3
  l1 : 1 ≤ B.length
  l12 : B.length ≤ 12
  c1 : ∀ b ∈ B, 1 ≤ b.length
  c60 : ∀ b ∈ B, b.length ≤ 60
  cell : ∀ b ∈ B, ∀ c ∈ b, c.length = n ∧ ∀ x ∈ c, 0 ≤ x ∧ x ≤ 1000
  nd : B.flatten.Nodup
  most : B.flatten.length ≤ 400
  hash : ∀ b, B[0]? = some b → (b.map fun c => tupleKeyHash (mixKind prg w) (ky c)).Nodup
def sp_told_bodies (w : World) : Sp := fun vs H Q _ => ∃ (n : Nat) (v : V) (B : List (List (List Int))), vs = [.int n, v] ∧ SqF (SqF (SqF InA)) No H v B ∧ BodOk w n B ∧ Ret (BodR B) H Q
section
variable {w : World} {K : PySem.W.Frag} {mg : Str → Option Value} {base : Heap}
theorem C_is_cell (S : Sc K mg) : Cal prg w K mg base CX0 "is_cell" 3 ["axes", "value"] [] sp_is_cell := by
  have C_is_sequence : Cal prg w K mg base CX0 "is_sequence" 1 ["value"] [] sp_is_sequence := C_is_sequence S
  have C_is_between : Cal prg w K mg base CX0 "is_between" 2 ["value", "least", "most"] [] sp_is_between := C_is_between S
  refine S.cal (d := d_is_cell) 8 6 sc_is_cell rfl rfl rfl rfl rfl (fun _ _ _ _ _ _ us hl => match us, hl with | [_, _], _ => rfl) (fun vs H Q E h => ?_) (fun f cdv A outer s H vs Q E hr h => ?_)
  · obtain ⟨v, c, rfl, _⟩ := h
    rfl
  · obtain ⟨v, c, rfl, ⟨a, xs, rfl, _, hs, hp⟩, h3, hc, q⟩ := h
    obtain rfl := ina_eq hp
    refine ⟨_, (pss_cons (ps_if (PW.pt (pw_or (pt_not (pt_val (pe_c C_is_sequence (hr.mono (by omega)) pass0 (pa_cons (pv 1) pa_nil)))) (pw_or1 (pt_cmpR op_ne (pe_callB cr_lenA (by rfl) (S.free 41) (by decide +kernel) (pa_cons (pv 1) pa_nil)) (pv 0) (nomark _))))) (pss_one (ps_ret pe_bl)) pss_nil)
      (pss_one (ps_ret (pe_callB (cr_all rfl) (by rfl) (S.free 36) (by decide +kernel) (pa_cons (pe_lc (own := [("place", 2)]) (g := (gName 2)) (tt := tYes) rfl sc_is_cell.nd (pi_seq (pv 1)) (blkOk_by (N := ["axes", "value", "place"]) (sc := defScope s_is_cell) (by decide +kernel)) (fun _ _ _ _ _ => (pg_name (i := 2) sc_is_cell.nd rfl (by first | exact Or.inl rfl | exact Or.inr rfl))) (fun _ _ _ _ _ => pts_nil) (fun _ _ _ _ _ => (pe_c C_is_between (hr.mono (by omega)) pass0 (pa_cons (pv 2) (pa_cons (pe_un un_neg (pe_gi (S.int 54))) (pa_cons (pe_gi (S.int 54)) pa_nil)))))) pa_nil))))), ?_⟩
    try simp only [wipe, tC, tVar, tChain, rI0, rI, rU, tOp, tUn, tCall, tAnd, tOr, tNot, tNotV, tAndV, tOrV, tTest, tB, tIf, tIfS, tRet, tRetN, tNext, tSeq, tNil, tCons, tAug, ipI, tPar, tAsg, gName, tDrop, tLst, tTup, tCB, tBM, tBM0, tFld_eq, tMkE, tMake, tAugS, gSub, rEq, rAll, rMax, rSum, rAppend, rExtend, rSetL, _root_.L2.start, List.map_cons, List.map_nil, List.length_cons, List.length_nil, List.replicate_succ, List.replicate_zero, List.cons_append, List.nil_append, List.append_nil, List.getElem?_cons_zero, List.getElem?_cons_succ, List.set_cons_zero, List.set_cons_succ, Nat.reduceAdd, Nat.reduceSub, V.int.injEq, V.bl.injEq, V.ref.injEq, V.str.injEq, exists_eq, exists_eq', exists_eq_left, exists_eq_left', exists_and_left, exists_and_right, Option.some.injEq, List.cons.injEq, and_true, true_and, and_assoc, retV, true_or, or_true, decide_eq_true_eq, if_true, if_false, Bool.false_eq_true, Bool.not_true, Bool.not_false, Bool.not_eq_true', reduceCtorEq, eq_self, decide_true, decide_false, List.length_map, exists_const, false_and, and_false, or_false, false_or, sp_is_sequence, ↓reduceIte]
    refine ⟨⟨_, hs⟩, fun H1 e1 => len_sq (hs.same e1) ⟨rfl, ?_⟩⟩
    try simp only [wipe, tC, tVar, tChain, rI0, rI, rU, tOp, tUn, tCall, tAnd, tOr, tNot, tNotV, tAndV, tOrV, tTest, tB, tIf, tIfS, tRet, tRetN, tNext, tSeq, tNil, tCons, tAug, ipI, tPar, tAsg, gName, tDrop, tLst, tTup, tCB, tBM, tBM0, tFld_eq, tMkE, tMake, tAugS, gSub, rEq, rAll, rMax, rSum, rAppend, rExtend, rSetL, _root_.L2.start, List.map_cons, List.map_nil, List.length_cons, List.length_nil, List.replicate_succ, List.replicate_zero, List.cons_append, List.nil_append, List.append_nil, List.getElem?_cons_zero, List.getElem?_cons_succ, List.set_cons_zero, List.set_cons_succ, Nat.reduceAdd, Nat.reduceSub, V.int.injEq, V.bl.injEq, V.ref.injEq, V.str.injEq, exists_eq, exists_eq', exists_eq_left, exists_eq_left', exists_and_left, exists_and_right, Option.some.injEq, List.cons.injEq, and_true, true_and, and_assoc, retV, true_or, or_true, decide_eq_true_eq, if_true, if_false, Bool.false_eq_true, Bool.not_true, Bool.not_false, Bool.not_eq_true', reduceCtorEq, eq_self, decide_true, decide_false, List.length_map, exists_const, false_and, and_false, or_false, false_or, ↓reduceIte]
    refine lc_map (gives_sq (fun Q h => ⟨_, rfl, h⟩) (hs.same e1)) (Box.none (A := No) (fun _ z => z.elim)) (fun H' e => (hs.same e1).keep (fun z => z) e) ?_ (fun x => rfl) fam_eq c (by simp) (fun _ => V.bl true) (fun n x z H' D N hx hz e _ _ hN => ?_) fun ys H' D e _ nD _ hD hp => ?_
    · rw [List.length_map]
      exact Nat.le_trans h3 (by decide)
    · rw [List.getElem?_map, hz] at hx
      obtain rfl := Option.some.inj hx
      try simp only [wipe, tC, tVar, tChain, rI0, rI, rU, tOp, tUn, tCall, tAnd, tOr, tNot, tNotV, tAndV, tOrV, tTest, tB, tIf, tIfS, tRet, tRetN, tNext, tSeq, tNil, tCons, tAug, ipI, tPar, tAsg, gName, tDrop, tLst, tTup, tCB, tBM, tBM0, tFld_eq, tMkE, tMake, tAugS, gSub, rEq, rAll, rMax, rSum, rAppend, rExtend, rSetL, _root_.L2.start, List.map_cons, List.map_nil, List.length_cons, List.length_nil, List.replicate_succ, List.replicate_zero, List.cons_append, List.nil_append, List.append_nil, List.getElem?_cons_zero, List.getElem?_cons_succ, List.set_cons_zero, List.set_cons_succ, Nat.reduceAdd, Nat.reduceSub, V.int.injEq, V.bl.injEq, V.ref.injEq, V.str.injEq, exists_eq, exists_eq', exists_eq_left, exists_eq_left', exists_and_left, exists_and_right, Option.some.injEq, List.cons.injEq, and_true, true_and, and_assoc, retV, true_or, or_true, decide_eq_true_eq, if_true, if_false, Bool.false_eq_true, Bool.not_true, Bool.not_false, Bool.not_eq_true', reduceCtorEq, eq_self, decide_true, decide_false, List.length_map, exists_const, false_and, and_false, or_false, false_or, sp_is_between, ↓reduceIte]
      intro H4 e4
      rw [decide_eq_true (hc z (List.mem_of_getElem? hz))]
      exact hN _ _ (.of e4) trivial rfl
    · refine ⟨D, rfl, c.map fun _ => true, ?_⟩
      have hy : ys = (c.map fun _ => true).map V.bl := by rw [eqa_eq hp, List.map_map]; rfl
      rw [← hy]
      refine ⟨sqL_of hD, q.go (e1.trans e.same) ?_⟩
      simp
theorem C_is_new_body (S : Sc K mg) : Cal prg w K mg base CX0 "is_new_body" 4 ["axes", "taken", "value"] [] sp_is_new_body := by
  have C_is_sequence : Cal prg w K mg base CX0 "is_sequence" 1 ["value"] [] sp_is_sequence := C_is_sequence S
  have C_is_between : Cal prg w K mg base CX0 "is_between" 2 ["value", "least", "most"] [] sp_is_between := C_is_between S
  have C_is_cell : Cal prg w K mg base CX0 "is_cell" 3 ["axes", "value"] [] sp_is_cell := C_is_cell S
  refine S.cal (d := d_is_new_body) 9 7 sc_is_new_body rfl rfl rfl rfl rfl (fun _ _ _ _ _ _ us hl => match us, hl with | [_, _, _], _ => rfl) (fun vs H Q E h => ?_) (fun f cdv A outer s H vs Q E hr h => ?_)
  · obtain ⟨n, t, v, tk, cs, rfl, _⟩ := h
    rfl
  · obtain ⟨n, t, v, tk, cs, rfl, ht, ⟨a, xs, rfl, _, hs, hp⟩, h1, h60, h3, hc, hnd, q⟩ := h
    refine ⟨_, (pss_cons (ps_if (PW.pt (pw_or (pt_not (pt_val (pe_c C_is_sequence (hr.mono (by omega)) pass0 (pa_cons (pv 2) pa_nil)))) (pw_or1 (pt_not (pt_val (pe_c C_is_between (hr.mono (by omega)) pass0 (pa_cons (pe_callB cr_lenA (by rfl) (S.free 41) (by decide +kernel) (pa_cons (pv 2) pa_nil)) (pa_cons pe_int (pa_cons (pe_gi (S.int 52)) pa_nil))))))))) (pss_one (ps_ret pe_bl)) pss_nil)
      (pss_cons (ps_set (i := 3) sc_is_new_body.nd rfl (by first | exact Or.inl rfl | exact Or.inr rfl) pe_dnewT)
      (pss_cons (ps_for PassesOwn.never rfl (pi_seq (pv 2)) (pg_name (i := 4) sc_is_new_body.nd rfl (by first | exact Or.inl rfl | exact Or.inr rfl)) (pss_cons (ps_if (PW.pt (pw_or (pt_not (pt_val (pe_c C_is_cell (hr.mono (by omega)) pass0 (pa_cons (pv 0) (pa_cons (pv 4) pa_nil))))) (pw_or (pt_cmp (pc_din (hu_of hr) (pe_callTy cr_tupA (by rfl) (S.free 49) (by decide +kernel) (pa_cons (pv 4) pa_nil)) (pv 3))) (pw_or1 (pt_cmp (pc_din (hu_of hr) (pe_callTy cr_tupA (by rfl) (S.free 49) (by decide +kernel) (pa_cons (pv 4) pa_nil)) (pv 1))))))) (pss_one (ps_ret pe_bl)) pss_nil)
      (pss_one (ps_dput (hu_of hr) (pv 3) (pe_callTy cr_tupA (by rfl) (S.free 49) (by decide +kernel) (pa_cons (pv 4) pa_nil)) pe_bl rfl))))
      (pss_one (ps_ret pe_bl))))), ?_⟩
    have hl : xs.length = cs.length := Paired.len hp
    try simp only [wipe, tC, tVar, tChain, rI0, rI, rU, tOp, tUn, tCall, tAnd, tOr, tNot, tNotV, tAndV, tOrV, tTest, tB, tIf, tIfS, tRet, tRetN, tNext, tSeq, tNil, tCons, tAug, ipI, tPar, tAsg, gName, tDrop, tLst, tTup, tCB, tBM, tBM0, tFld_eq, tMkE, tMake, tAugS, gSub, rEq, rAll, rMax, rSum, rAppend, rExtend, rSetL, _root_.L2.start, List.map_cons, List.map_nil, List.length_cons, List.length_nil, List.replicate_succ, List.replicate_zero, List.cons_append, List.nil_append, List.append_nil, List.getElem?_cons_zero, List.getElem?_cons_succ, List.set_cons_zero, List.set_cons_succ, Nat.reduceAdd, Nat.reduceSub, V.int.injEq, V.bl.injEq, V.ref.injEq, V.str.injEq, exists_eq, exists_eq', exists_eq_left, exists_eq_left', exists_and_left, exists_and_right, Option.some.injEq, List.cons.injEq, and_true, true_and, and_assoc, retV, true_or, or_true, decide_eq_true_eq, if_true, if_false, Bool.false_eq_true, Bool.not_true, Bool.not_false, Bool.not_eq_true', reduceCtorEq, eq_self, decide_true, decide_false, List.length_map, exists_const, false_and, and_false, or_false, false_or, sp_is_sequence, sp_is_between, ↓reduceIte]
    refine ⟨⟨_, hs⟩, fun H1 e1 => len_sq (hs.same e1) ?_⟩
    try simp only [wipe, tC, tVar, tChain, rI0, rI, rU, tOp, tUn, tCall, tAnd, tOr, tNot, tNotV, tAndV, tOrV, tTest, tB, tIf, tIfS, tRet, tRetN, tNext, tSeq, tNil, tCons, tAug, ipI, tPar, tAsg, gName, tDrop, tLst, tTup, tCB, tBM, tBM0, tFld_eq, tMkE, tMake, tAugS, gSub, rEq, rAll, rMax, rSum, rAppend, rExtend, rSetL, _root_.L2.start, List.map_cons, List.map_nil, List.length_cons, List.length_nil, List.replicate_succ, List.replicate_zero, List.cons_append, List.nil_append, List.append_nil, List.getElem?_cons_zero, List.getElem?_cons_succ, List.set_cons_zero, List.set_cons_succ, Nat.reduceAdd, Nat.reduceSub, V.int.injEq, V.bl.injEq, V.ref.injEq, V.str.injEq, exists_eq, exists_eq', exists_eq_left, exists_eq_left', exists_and_left, exists_and_right, Option.some.injEq, List.cons.injEq, and_true, true_and, and_assoc, retV, true_or, or_true, decide_eq_true_eq, if_true, if_false, Bool.false_eq_true, Bool.not_true, Bool.not_false, Bool.not_eq_true', reduceCtorEq, eq_self, decide_true, decide_false, List.length_map, exists_const, false_and, and_false, or_false, false_or, sp_is_between, ↓reduceIte]
    intro H2 e2
    have e12 := e1.trans e2
    rw [show decide ((1 : Int) ≤ (xs.length : Int) ∧ (xs.length : Int) ≤ 60) = true from decide_eq_true (by omega)]
    try simp only [wipe, tC, tVar, tChain, rI0, rI, rU, tOp, tUn, tCall, tAnd, tOr, tNot, tNotV, tAndV, tOrV, tTest, tB, tIf, tIfS, tRet, tRetN, tNext, tSeq, tNil, tCons, tAug, ipI, tPar, tAsg, gName, tDrop, tLst, tTup, tCB, tBM, tBM0, tFld_eq, tMkE, tMake, tAugS, gSub, rEq, rAll, rMax, rSum, rAppend, rExtend, rSetL, _root_.L2.start, List.map_cons, List.map_nil, List.length_cons, List.length_nil, List.replicate_succ, List.replicate_zero, List.cons_append, List.nil_append, List.append_nil, List.getElem?_cons_zero, List.getElem?_cons_succ, List.set_cons_zero, List.set_cons_succ, Nat.reduceAdd, Nat.reduceSub, V.int.injEq, V.bl.injEq, V.ref.injEq, V.str.injEq, exists_eq, exists_eq', exists_eq_left, exists_eq_left', exists_and_left, exists_and_right, Option.some.injEq, List.cons.injEq, and_true, true_and, and_assoc, retV, true_or, or_true, decide_eq_true_eq, if_true, if_false, Bool.false_eq_true, Bool.not_true, Bool.not_false, Bool.not_eq_true', reduceCtorEq, eq_self, decide_true, decide_false, List.length_map, exists_const, false_and, and_false, or_false, false_or, tDNewT, ↓reduceIte]
    intro D nD
    have nDa : D ≠ a := fun e => (hs.same e12).some (e ▸ nD)
    have nDt : D ≠ t := fun e => by
      have := e12 _ _ ht
      rw [← e, nD] at this
      cases this
    refine for_go (gives_sq (fun Q h => ⟨_, rfl, h⟩) (hs.same (e12.trans (same_new nD)))) (fun i σ H' => Same H H' ∧ (∃ u, σ = [some (.int n), some (.ref t), some (.ref a), some (.ref D), u]) ∧ ∃ kvs, H' D = some (.dT kvs) ∧ kvs.length ≤ i ∧ ∀ c, (valV kvs (ky c)).isSome = true → c ∈ cs.take i)
      ⟨e12.trans (same_new nD), ⟨_, rfl⟩, [], upd_same, Nat.le_refl _, fun k z => by cases z⟩ (fun i σ H' _ h => ?_) (fun i x σ H' hi hx h => ?_) (fun σ H' h => ?_)
    · rw [upd_ne nDa.symm, (hs.keep (A := No) (fun z => z) (.of h.1)), (hs.keep (A := No) (fun z => z) (.of e12))]
    · obtain ⟨e, ⟨u, rfl⟩, kvs, hD, hkl, hk⟩ := h
      obtain ⟨c, hcc, hr0⟩ := Paired.at hp hx
      have hm := List.mem_of_getElem? hcc
      obtain ⟨c1, c2, c3⟩ := hc c hm
      have hR := (fam_sq fam_in).same e hr0
      obtain ⟨b, ys, rfl, _, hb, hbp⟩ := id hr0
      obtain rfl := ina_eq hbp
      try simp only [wipe, tC, tVar, tChain, rI0, rI, rU, tOp, tUn, tCall, tAnd, tOr, tNot, tNotV, tAndV, tOrV, tTest, tB, tIf, tIfS, tRet, tRetN, tNext, tSeq, tNil, tCons, tAug, ipI, tPar, tAsg, gName, tDrop, tLst, tTup, tCB, tBM, tBM0, tFld_eq, tMkE, tMake, tAugS, gSub, rEq, rAll, rMax, rSum, rAppend, rExtend, rSetL, _root_.L2.start, List.map_cons, List.map_nil, List.length_cons, List.length_nil, List.replicate_succ, List.replicate_zero, List.cons_append, List.nil_append, List.append_nil, List.getElem?_cons_zero, List.getElem?_cons_succ, List.set_cons_zero, List.set_cons_succ, Nat.reduceAdd, Nat.reduceSub, V.int.injEq, V.bl.injEq, V.ref.injEq, V.str.injEq, exists_eq, exists_eq', exists_eq_left, exists_eq_left', exists_and_left, exists_and_right, Option.some.injEq, List.cons.injEq, and_true, true_and, and_assoc, retV, true_or, or_true, decide_eq_true_eq, if_true, if_false, Bool.false_eq_true, Bool.not_true, Bool.not_false, Bool.not_eq_true', reduceCtorEq, eq_self, decide_true, decide_false, List.length_map, exists_const, false_and, and_false, or_false, false_or, ↓reduceIte]
      refine ⟨.ref b, c, by rw [c1], hR, by omega, c2, retV.2 fun H3 e3 => ?_⟩
      try simp only [wipe, tC, tVar, tChain, rI0, rI, rU, tOp, tUn, tCall, tAnd, tOr, tNot, tNotV, tAndV, tOrV, tTest, tB, tIf, tIfS, tRet, tRetN, tNext, tSeq, tNil, tCons, tAug, ipI, tPar, tAsg, gName, tDrop, tLst, tTup, tCB, tBM, tBM0, tFld_eq, tMkE, tMake, tAugS, gSub, rEq, rAll, rMax, rSum, rAppend, rExtend, rSetL, _root_.L2.start, List.map_cons, List.map_nil, List.length_cons, List.length_nil, List.replicate_succ, List.replicate_zero, List.cons_append, List.nil_append, List.append_nil, List.getElem?_cons_zero, List.getElem?_cons_succ, List.set_cons_zero, List.set_cons_succ, Nat.reduceAdd, Nat.reduceSub, V.int.injEq, V.bl.injEq, V.ref.injEq, V.str.injEq, exists_eq, exists_eq', exists_eq_left, exists_eq_left', exists_and_left, exists_and_right, Option.some.injEq, List.cons.injEq, and_true, true_and, and_assoc, retV, true_or, or_true, decide_eq_true_eq, if_true, if_false, Bool.false_eq_true, Bool.not_true, Bool.not_false, Bool.not_eq_true', reduceCtorEq, eq_self, decide_true, decide_false, List.length_map, exists_const, false_and, and_false, or_false, false_or, tDIn, ↓reduceIte]
      refine tup_sq (hb.same (e.trans e3)) fun p H4 e4 hp4 => ?_
      try simp only [wipe, tC, tVar, tChain, rI0, rI, rU, tOp, tUn, tCall, tAnd, tOr, tNot, tNotV, tAndV, tOrV, tTest, tB, tIf, tIfS, tRet, tRetN, tNext, tSeq, tNil, tCons, tAug, ipI, tPar, tAsg, gName, tDrop, tLst, tTup, tCB, tBM, tBM0, tFld_eq, tMkE, tMake, tAugS, gSub, rEq, rAll, rMax, rSum, rAppend, rExtend, rSetL, _root_.L2.start, List.map_cons, List.map_nil, List.length_cons, List.length_nil, List.replicate_succ, List.replicate_zero, List.cons_append, List.nil_append, List.append_nil, List.getElem?_cons_zero, List.getElem?_cons_succ, List.set_cons_zero, List.set_cons_succ, Nat.reduceAdd, Nat.reduceSub, V.int.injEq, V.bl.injEq, V.ref.injEq, V.str.injEq, exists_eq, exists_eq', exists_eq_left, exists_eq_left', exists_and_left, exists_and_right, Option.some.injEq, List.cons.injEq, and_true, true_and, and_assoc, retV, true_or, or_true, decide_eq_true_eq, if_true, if_false, Bool.false_eq_true, Bool.not_true, Bool.not_false, Bool.not_eq_true', reduceCtorEq, eq_self, decide_true, decide_false, List.length_map, exists_const, false_and, and_false, or_false, false_or, ↓reduceIte]
      have no : valV kvs (ky c) = none := by
        cases hv : valV kvs (ky c) with
        | none => rfl
        | some y =>
          obtain ⟨j, hj, ej⟩ := List.mem_take_iff_getElem.1 (hk c (by rw [hv]; rfl))
          obtain ⟨hi2, ei⟩ := List.getElem?_eq_some_iff.1 hcc
          have := (List.getElem_inj hnd).1 (ej.trans ei.symm)
          omega
      refine ⟨none, no ▸ DGet.t (k := ky c) (e4 _ _ (e3 _ _ hD)) (by rw [ky_kV]; exact hp4), ?_⟩
      try simp only [wipe, tC, tVar, tChain, rI0, rI, rU, tOp, tUn, tCall, tAnd, tOr, tNot, tNotV, tAndV, tOrV, tTest, tB, tIf, tIfS, tRet, tRetN, tNext, tSeq, tNil, tCons, tAug, ipI, tPar, tAsg, gName, tDrop, tLst, tTup, tCB, tBM, tBM0, tFld_eq, tMkE, tMake, tAugS, gSub, rEq, rAll, rMax, rSum, rAppend, rExtend, rSetL, _root_.L2.start, List.map_cons, List.map_nil, List.length_cons, List.length_nil, List.replicate_succ, List.replicate_zero, List.cons_append, List.nil_append, List.append_nil, List.getElem?_cons_zero, List.getElem?_cons_succ, List.set_cons_zero, List.set_cons_succ, Nat.reduceAdd, Nat.reduceSub, V.int.injEq, V.bl.injEq, V.ref.injEq, V.str.injEq, exists_eq, exists_eq', exists_eq_left, exists_eq_left', exists_and_left, exists_and_right, Option.some.injEq, List.cons.injEq, and_true, true_and, and_assoc, retV, true_or, or_true, decide_eq_true_eq, if_true, if_false, Bool.false_eq_true, Bool.not_true, Bool.not_false, Bool.not_eq_true', reduceCtorEq, eq_self, decide_true, decide_false, List.length_map, exists_const, false_and, and_false, or_false, false_or, Option.isSome_none, tDIn, ↓reduceIte]
      refine tup_sq (hb.same (e.trans (e3.trans e4))) fun p5 H5 e5 hp5 => ?_
      try simp only [wipe, tC, tVar, tChain, rI0, rI, rU, tOp, tUn, tCall, tAnd, tOr, tNot, tNotV, tAndV, tOrV, tTest, tB, tIf, tIfS, tRet, tRetN, tNext, tSeq, tNil, tCons, tAug, ipI, tPar, tAsg, gName, tDrop, tLst, tTup, tCB, tBM, tBM0, tFld_eq, tMkE, tMake, tAugS, gSub, rEq, rAll, rMax, rSum, rAppend, rExtend, rSetL, _root_.L2.start, List.map_cons, List.map_nil, List.length_cons, List.length_nil, List.replicate_succ, List.replicate_zero, List.cons_append, List.nil_append, List.append_nil, List.getElem?_cons_zero, List.getElem?_cons_succ, List.set_cons_zero, List.set_cons_succ, Nat.reduceAdd, Nat.reduceSub, V.int.injEq, V.bl.injEq, V.ref.injEq, V.str.injEq, exists_eq, exists_eq', exists_eq_left, exists_eq_left', exists_and_left, exists_and_right, Option.some.injEq, List.cons.injEq, and_true, true_and, and_assoc, retV, true_or, or_true, decide_eq_true_eq, if_true, if_false, Bool.false_eq_true, Bool.not_true, Bool.not_false, Bool.not_eq_true', reduceCtorEq, eq_self, decide_true, decide_false, List.length_map, exists_const, false_and, and_false, or_false, false_or, ↓reduceIte]
      refine ⟨none, c3 ▸ DGet.t (k := ky c) ((e.trans (e3.trans (e4.trans e5))) _ _ ht) (by rw [ky_kV]; exact hp5), ?_⟩
      try simp only [wipe, tC, tVar, tChain, rI0, rI, rU, tOp, tUn, tCall, tAnd, tOr, tNot, tNotV, tAndV, tOrV, tTest, tB, tIf, tIfS, tRet, tRetN, tNext, tSeq, tNil, tCons, tAug, ipI, tPar, tAsg, gName, tDrop, tLst, tTup, tCB, tBM, tBM0, tFld_eq, tMkE, tMake, tAugS, gSub, rEq, rAll, rMax, rSum, rAppend, rExtend, rSetL, _root_.L2.start, List.map_cons, List.map_nil, List.length_cons, List.length_nil, List.replicate_succ, List.replicate_zero, List.cons_append, List.nil_append, List.append_nil, List.getElem?_cons_zero, List.getElem?_cons_succ, List.set_cons_zero, List.set_cons_succ, Nat.reduceAdd, Nat.reduceSub, V.int.injEq, V.bl.injEq, V.ref.injEq, V.str.injEq, exists_eq, exists_eq', exists_eq_left, exists_eq_left', exists_and_left, exists_and_right, Option.some.injEq, List.cons.injEq, and_true, true_and, and_assoc, retV, true_or, or_true, decide_eq_true_eq, if_true, if_false, Bool.false_eq_true, Bool.not_true, Bool.not_false, Bool.not_eq_true', reduceCtorEq, eq_self, decide_true, decide_false, List.length_map, exists_const, false_and, and_false, or_false, false_or, Option.isSome_none, sDPut, ↓reduceIte]
      refine tup_sq (hb.same (e.trans (e3.trans (e4.trans e5)))) fun p6 H6 e6 hp6 => ?_
      have e36 := e3.trans (e4.trans (e5.trans e6))
      try simp only [wipe, tC, tVar, tChain, rI0, rI, rU, tOp, tUn, tCall, tAnd, tOr, tNot, tNotV, tAndV, tOrV, tTest, tB, tIf, tIfS, tRet, tRetN, tNext, tSeq, tNil, tCons, tAug, ipI, tPar, tAsg, gName, tDrop, tLst, tTup, tCB, tBM, tBM0, tFld_eq, tMkE, tMake, tAugS, gSub, rEq, rAll, rMax, rSum, rAppend, rExtend, rSetL, _root_.L2.start, List.map_cons, List.map_nil, List.length_cons, List.length_nil, List.replicate_succ, List.replicate_zero, List.cons_append, List.nil_append, List.append_nil, List.getElem?_cons_zero, List.getElem?_cons_succ, List.set_cons_zero, List.set_cons_succ, Nat.reduceAdd, Nat.reduceSub, V.int.injEq, V.bl.injEq, V.ref.injEq, V.str.injEq, exists_eq, exists_eq', exists_eq_left, exists_eq_left', exists_and_left, exists_and_right, Option.some.injEq, List.cons.injEq, and_true, true_and, and_assoc, retV, true_or, or_true, decide_eq_true_eq, if_true, if_false, Bool.false_eq_true, Bool.not_true, Bool.not_false, Bool.not_eq_true', reduceCtorEq, eq_self, decide_true, decide_false, List.length_map, exists_const, false_and, and_false, or_false, false_or, ↓reduceIte]
      refine ⟨_, DPut.t (k := ky c) (e36 _ _ hD) (by rw [ky_kV]; exact hp6) (Nat.lt_of_lt_of_le (by omega : kvs.length < 60) (by decide)), same_mut (e.trans e36) (e12.free nD), _, upd_same, Nat.le_trans (length_putK _ _ _) (by omega), fun d z => ?_⟩
      rw [valV_put] at z
      by_cases ek : ky d = ky c
      · obtain rfl := ky_inj ek
        obtain ⟨hi2, ei⟩ := List.getElem?_eq_some_iff.1 hcc
        exact List.mem_take_iff_getElem.2 ⟨i, by omega, ei⟩
      · rw [if_neg ek] at z
        obtain ⟨j, hj, ej⟩ := List.mem_take_iff_getElem.1 (hk d z)
        exact List.mem_take_iff_getElem.2 ⟨j, by omega, ej⟩
    · obtain ⟨e, ⟨u, rfl⟩, _⟩ := h
      try simp only [wipe, tC, tVar, tChain, rI0, rI, rU, tOp, tUn, tCall, tAnd, tOr, tNot, tNotV, tAndV, tOrV, tTest, tB, tIf, tIfS, tRet, tRetN, tNext, tSeq, tNil, tCons, tAug, ipI, tPar, tAsg, gName, tDrop, tLst, tTup, tCB, tBM, tBM0, tFld_eq, tMkE, tMake, tAugS, gSub, rEq, rAll, rMax, rSum, rAppend, rExtend, rSetL, _root_.L2.start, List.map_cons, List.map_nil, List.length_cons, List.length_nil, List.replicate_succ, List.replicate_zero, List.cons_append, List.nil_append, List.append_nil, List.getElem?_cons_zero, List.getElem?_cons_succ, List.set_cons_zero, List.set_cons_succ, Nat.reduceAdd, Nat.reduceSub, V.int.injEq, V.bl.injEq, V.ref.injEq, V.str.injEq, exists_eq, exists_eq', exists_eq_left, exists_eq_left', exists_and_left, exists_and_right, Option.some.injEq, List.cons.injEq, and_true, true_and, and_assoc, retV, true_or, or_true, decide_eq_true_eq, if_true, if_false, Bool.false_eq_true, Bool.not_true, Bool.not_false, Bool.not_eq_true', reduceCtorEq, eq_self, decide_true, decide_false, List.length_map, exists_const, false_and, and_false, or_false, false_or, ↓reduceIte]
      exact q.go e rfl
theorem C_told_bodies (S : Sc K mg) : Cal prg w K mg base CX0 "told_bodies" 5 ["axes", "bodies"] [] (sp_told_bodies w) := by
  have C_is_sequence : Cal prg w K mg base CX0 "is_sequence" 1 ["value"] [] sp_is_sequence := C_is_sequence S
  have C_is_between : Cal prg w K mg base CX0 "is_between" 2 ["value", "least", "most"] [] sp_is_between := C_is_between S
  have C_is_new_body : Cal prg w K mg base CX0 "is_new_body" 4 ["axes", "taken", "value"] [] sp_is_new_body := C_is_new_body S
  refine S.cal (d := d_told_bodies) 10 8 sc_told_bodies rfl rfl rfl rfl rfl (fun _ _ _ _ _ _ us hl => match us, hl with | [_, _], _ => rfl) (fun vs H Q E h => ?_) (fun f cdv A outer s H vs Q E hr h => ?_)
  · obtain ⟨n, v, B, rfl, _⟩ := h
    rfl
  · obtain ⟨n, v, B, rfl, ⟨a, xs, rfl, _, hs, hp⟩, O, q⟩ := h
    have hd1 := O.n1
    refine ⟨_, (pss_cons (ps_if (PW.pt (pw_or (pt_not (pt_val (pe_c C_is_sequence (hr.mono (by omega)) pass0 (pa_cons (pv 1) pa_nil)))) (pw_or1 (pt_not (pt_val (pe_c C_is_between (hr.mono (by omega)) pass0 (pa_cons (pe_callB cr_lenA (by rfl) (S.free 41) (by decide +kernel) (pa_cons (pv 1) pa_nil)) (pa_cons pe_int (pa_cons (pe_gi (S.int 51)) pa_nil))))))))) (pss_one ps_never) pss_nil)
      (pss_cons (ps_set (i := 2) sc_told_bodies.nd rfl (by first | exact Or.inl rfl | exact Or.inr rfl) pe_dnewT)
      (pss_cons (ps_set (i := 3) sc_told_bodies.nd rfl (by first | exact Or.inl rfl | exact Or.inr rfl) (pe_lst pa_nil))
      (pss_cons (ps_for PassesOwn.never rfl (pi_enS (S.free 38) (pa_cons (pv 1) pa_nil)) (pg_tup (by rfl) (pgs_cons (pg_name (i := 4) sc_told_bodies.nd rfl (by first | exact Or.inl rfl | exact Or.inr rfl)) (pgs_cons (pg_name (i := 5) sc_told_bodies.nd rfl (by first | exact Or.inl rfl | exact Or.inr rfl)) pgs_nil))) (pss_cons (ps_if (pt_not (pt_val (pe_c C_is_new_body (hr.mono (by omega)) pass0 (pa_cons (pv 0) (pa_cons (pv 2) (pa_cons (pv 5) pa_nil)))))) (pss_one ps_never) pss_nil)
      (pss_cons (ps_set (i := 6) sc_told_bodies.nd rfl (by first | exact Or.inl rfl | exact Or.inr rfl) (pe_callB (cr_sortT (d := n) (B := 1001) hd1) (by rfl) (S.free 45) (by decide +kernel) (pa_cons (pe_lc (own := [("cell", 7)]) (g := (gName 7)) (tt := tYes) rfl sc_told_bodies.nd (pi_seq (pv 5)) (blkOk_by (N := ["axes", "bodies", "taken", "found", "at", "value", "cells", "cell"]) (sc := defScope s_told_bodies) (by decide +kernel)) (fun _ _ _ _ _ => (pg_name (i := 7) sc_told_bodies.nd rfl (by first | exact Or.inl rfl | exact Or.inr rfl))) (fun _ _ _ _ _ => pts_nil) (fun _ _ _ _ _ => (pe_callTy (cK (K := K) rfl cr_tupA) (by rfl) (S.free 49) (by decide +kernel) (pa_cons (pv 7) pa_nil)))) pa_nil)))
      (pss_cons (ps_expr (pe_bm PySem.F.plainAttrs_dict PySem.F.slot_dict_update PySem.F.type_dict_update (mt_updT (hu_of hr)) (pv 2) (pa_cons (pe_dcT (own := [("cell", 7)]) (g := (gName 7)) (tt := tYes) (hu_of hr) rfl sc_told_bodies.nd (pi_seq (pv 6)) (blkOk_by (N := ["axes", "bodies", "taken", "found", "at", "value", "cells", "cell"]) (sc := defScope s_told_bodies) (by decide +kernel)) (fun _ _ _ _ _ => (pg_name (i := 7) sc_told_bodies.nd rfl (by first | exact Or.inl rfl | exact Or.inr rfl))) (fun _ _ _ _ _ => pts_nil) (fun _ _ _ _ _ => (pv 7)) (fun _ _ _ _ _ => pe_bl)) pa_nil)))
      (pss_one (ps_expr (pe_bm PySem.F.plainAttrs_list PySem.F.slot_list_append PySem.F.type_list_append mt_append (pv 3) (pa_cons (pe_callTy cr_tupA (by rfl) (S.free 49) (by decide +kernel) (pa_cons (pv 6) pa_nil)) pa_nil))))))))
      (pss_cons (ps_if (pt_cmpR op_gt (pe_callB call_len_dT (by rfl) (S.free 41) (by decide +kernel) (pa_cons (pv 2) pa_nil)) (pe_gi (S.int 53)) (nomark _)) (pss_one ps_never) pss_nil)
      (pss_one (ps_ret (pe_callTy cr_tupA (by rfl) (S.free 49) (by decide +kernel) (pa_cons (pv 3) pa_nil))))))))), ?_⟩
    have hl : xs.length = B.length := Paired.len hp
    have o1 := O.l1
    have o12 := O.l12
    try simp only [wipe, tC, tVar, tChain, rI0, rI, rU, tOp, tUn, tCall, tAnd, tOr, tNot, tNotV, tAndV, tOrV, tTest, tB, tIf, tIfS, tRet, tRetN, tNext, tSeq, tNil, tCons, tAug, ipI, tPar, tAsg, gName, tDrop, tLst, tTup, tCB, tBM, tBM0, tFld_eq, tMkE, tMake, tAugS, gSub, rEq, rAll, rMax, rSum, rAppend, rExtend, rSetL, _root_.L2.start, List.map_cons, List.map_nil, List.length_cons, List.length_nil, List.replicate_succ, List.replicate_zero, List.cons_append, List.nil_append, List.append_nil, List.getElem?_cons_zero, List.getElem?_cons_succ, List.set_cons_zero, List.set_cons_succ, Nat.reduceAdd, Nat.reduceSub, V.int.injEq, V.bl.injEq, V.ref.injEq, V.str.injEq, exists_eq, exists_eq', exists_eq_left, exists_eq_left', exists_and_left, exists_and_right, Option.some.injEq, List.cons.injEq, and_true, true_and, and_assoc, retV, true_or, or_true, decide_eq_true_eq, if_true, if_false, Bool.false_eq_true, Bool.not_true, Bool.not_false, Bool.not_eq_true', reduceCtorEq, eq_self, decide_true, decide_false, List.length_map, exists_const, false_and, and_false, or_false, false_or, sp_is_sequence, sp_is_between, ↓reduceIte]
    refine ⟨⟨_, hs⟩, fun H1 e1 => len_sq (hs.same e1) ?_⟩
    try simp only [wipe, tC, tVar, tChain, rI0, rI, rU, tOp, tUn, tCall, tAnd, tOr, tNot, tNotV, tAndV, tOrV, tTest, tB, tIf, tIfS, tRet, tRetN, tNext, tSeq, tNil, tCons, tAug, ipI, tPar, tAsg, gName, tDrop, tLst, tTup, tCB, tBM, tBM0, tFld_eq, tMkE, tMake, tAugS, gSub, rEq, rAll, rMax, rSum, rAppend, rExtend, rSetL, _root_.L2.start, List.map_cons, List.map_nil, List.length_cons, List.length_nil, List.replicate_succ, List.replicate_zero, List.cons_append, List.nil_append, List.append_nil, List.getElem?_cons_zero, List.getElem?_cons_succ, List.set_cons_zero, List.set_cons_succ, Nat.reduceAdd, Nat.reduceSub, V.int.injEq, V.bl.injEq, V.ref.injEq, V.str.injEq, exists_eq, exists_eq', exists_eq_left, exists_eq_left', exists_and_left, exists_and_right, Option.some.injEq, List.cons.injEq, and_true, true_and, and_assoc, retV, true_or, or_true, decide_eq_true_eq, if_true, if_false, Bool.false_eq_true, Bool.not_true, Bool.not_false, Bool.not_eq_true', reduceCtorEq, eq_self, decide_true, decide_false, List.length_map, exists_const, false_and, and_false, or_false, false_or, sp_is_between, ↓reduceIte]
    intro H2 e2
    have e12 := e1.trans e2
    rw [show decide ((1 : Int) ≤ (xs.length : Int) ∧ (xs.length : Int) ≤ 12) = true from decide_eq_true (by omega)]
    try simp only [wipe, tC, tVar, tChain, rI0, rI, rU, tOp, tUn, tCall, tAnd, tOr, tNot, tNotV, tAndV, tOrV, tTest, tB, tIf, tIfS, tRet, tRetN, tNext, tSeq, tNil, tCons, tAug, ipI, tPar, tAsg, gName, tDrop, tLst, tTup, tCB, tBM, tBM0, tFld_eq, tMkE, tMake, tAugS, gSub, rEq, rAll, rMax, rSum, rAppend, rExtend, rSetL, _root_.L2.start, List.map_cons, List.map_nil, List.length_cons, List.length_nil, List.replicate_succ, List.replicate_zero, List.cons_append, List.nil_append, List.append_nil, List.getElem?_cons_zero, List.getElem?_cons_succ, List.set_cons_zero, List.set_cons_succ, Nat.reduceAdd, Nat.reduceSub, V.int.injEq, V.bl.injEq, V.ref.injEq, V.str.injEq, exists_eq, exists_eq', exists_eq_left, exists_eq_left', exists_and_left, exists_and_right, Option.some.injEq, List.cons.injEq, and_true, true_and, and_assoc, retV, true_or, or_true, decide_eq_true_eq, if_true, if_false, Bool.false_eq_true, Bool.not_true, Bool.not_false, Bool.not_eq_true', reduceCtorEq, eq_self, decide_true, decide_false, List.length_map, exists_const, false_and, and_false, or_false, false_or, tDNewT, ↓reduceIte]
    intro D nD
    try simp only [wipe, tC, tVar, tChain, rI0, rI, rU, tOp, tUn, tCall, tAnd, tOr, tNot, tNotV, tAndV, tOrV, tTest, tB, tIf, tIfS, tRet, tRetN, tNext, tSeq, tNil, tCons, tAug, ipI, tPar, tAsg, gName, tDrop, tLst, tTup, tCB, tBM, tBM0, tFld_eq, tMkE, tMake, tAugS, gSub, rEq, rAll, rMax, rSum, rAppend, rExtend, rSetL, _root_.L2.start, List.map_cons, List.map_nil, List.length_cons, List.length_nil, List.replicate_succ, List.replicate_zero, List.cons_append, List.nil_append, List.append_nil, List.getElem?_cons_zero, List.getElem?_cons_succ, List.set_cons_zero, List.set_cons_succ, Nat.reduceAdd, Nat.reduceSub, V.int.injEq, V.bl.injEq, V.ref.injEq, V.str.injEq, exists_eq, exists_eq', exists_eq_left, exists_eq_left', exists_and_left, exists_and_right, Option.some.injEq, List.cons.injEq, and_true, true_and, and_assoc, retV, true_or, or_true, decide_eq_true_eq, if_true, if_false, Bool.false_eq_true, Bool.not_true, Bool.not_false, Bool.not_eq_true', reduceCtorEq, eq_self, decide_true, decide_false, List.length_map, exists_const, false_and, and_false, or_false, false_or, ↓reduceIte]
    refine ⟨by decide, fun F nF => ?_⟩
    have nDF : D ≠ F := fun e => by rw [e, upd_same] at nF; cases nF
    have nF2 : H2 F = none := by rw [upd_ne nDF.symm] at nF; exact nF
    have e3 : Same H (upd (upd H2 D (.dT [])) F (.lst [])) := e12.trans ((same_new nD).trans (same_new nF))
    refine for_en (fun Q h => ⟨_, rfl, h⟩) (hs.same e3) (fun i σ H' => Same H H' ∧ (∃ u4 u5 u6 u7, σ = [some (.int n), some (.ref a), some (.ref D), some (.ref F), u4, u5, u6, u7]) ∧
        (∃ kvs, H' D = some (.dT kvs) ∧ kvs.length ≤ (B.take i).flatten.length ∧ (0 < i → kvs ≠ []) ∧ ∀ c, (valV kvs (ky c)).isSome = true → c ∈ (B.take i).flatten) ∧
        ∃ ts B', H' F = some (.lst ts) ∧ Paired (TpF (TpF InA) No H') ts B' ∧ Paired List.Perm B' (B.take i))
      ⟨e3, ⟨_, _, _, _, rfl⟩, ⟨[], by rw [upd_ne nDF.symm.symm]; exact upd_same, Nat.zero_le _, fun z => absurd z (Nat.lt_irrefl _), fun k z => by cases z⟩, [], [], upd_same, .nil, .nil⟩ (fun i σ H' _ h => ?_) (fun i x σ H' T hi hx h nT => ?_) (fun σ H' h => ?_)
    · rw [(hs.keep (A := No) (fun z => z) (.of h.1)), (hs.keep (A := No) (fun z => z) (.of e3))]
    · obtain ⟨e, ⟨u4, u5, u6, u7, rfl⟩, ⟨kvs, hD, hkl, hk0, hk⟩, ts, B', hF, hts, hB⟩ := h
      refine g_two rfl upd_same ?_
      have eT : Same H' (upd H' T (.tup [.int (i : Nat), x])) := same_new nT
      obtain ⟨b, hb, hr0⟩ := Paired.at hp hx
      have hm := List.mem_of_getElem? hb
      have hR := (fam_sq (fam_sq fam_in)).same (e.trans eT) hr0
      have b1 := O.c1 b hm
      have b60 := O.c60 b hm
      have hsplit : (B.take (i + 1)).flatten = (B.take i).flatten ++ b := by rw [List.take_succ, hb]; simp
      have hsub : (B.take (i + 1)).flatten.Sublist B.flatten := by
        conv => rhs; rw [← List.take_append_drop (i + 1) B, List.flatten_append]
        exact List.sublist_append_left _ _
      have hnd := O.nd.sublist hsub
      rw [hsplit] at hnd
      have hlen := hsub.length_le
      rw [hsplit, List.length_append] at hlen
      have hmost := O.most
      have hbn : b.Nodup := (List.nodup_append.1 hnd).2.1
      have hdis : ∀ c, c ∈ (B.take i).flatten → c ∈ b → False := fun c h1 h2 => (List.nodup_append.1 hnd).2.2 c h1 c h2 rfl
      have ltB : B'.length = i := by
        rw [Paired.len hB, List.length_take]
        omega
      have lts : ts.length = i := (Paired.len hts).trans ltB
      try simp only [wipe, tC, tVar, tChain, rI0, rI, rU, tOp, tUn, tCall, tAnd, tOr, tNot, tNotV, tAndV, tOrV, tTest, tB, tIf, tIfS, tRet, tRetN, tNext, tSeq, tNil, tCons, tAug, ipI, tPar, tAsg, gName, tDrop, tLst, tTup, tCB, tBM, tBM0, tFld_eq, tMkE, tMake, tAugS, gSub, rEq, rAll, rMax, rSum, rAppend, rExtend, rSetL, _root_.L2.start, List.map_cons, List.map_nil, List.length_cons, List.length_nil, List.replicate_succ, List.replicate_zero, List.cons_append, List.nil_append, List.append_nil, List.getElem?_cons_zero, List.getElem?_cons_succ, List.set_cons_zero, List.set_cons_succ, Nat.reduceAdd, Nat.reduceSub, V.int.injEq, V.bl.injEq, V.ref.injEq, V.str.injEq, exists_eq, exists_eq', exists_eq_left, exists_eq_left', exists_and_left, exists_and_right, Option.some.injEq, List.cons.injEq, and_true, true_and, and_assoc, retV, true_or, or_true, decide_eq_true_eq, if_true, if_false, Bool.false_eq_true, Bool.not_true, Bool.not_false, Bool.not_eq_true', reduceCtorEq, eq_self, decide_true, decide_false, List.length_map, exists_const, false_and, and_false, or_false, false_or, ↓reduceIte]
      refine ⟨n, D, x, kvs, b, rfl, eT _ _ hD, hR, b1, b60, O.n3, fun c hc => ?_, ?_, retV.2 fun H3 e3 => ?_⟩
      · obtain ⟨l1, l2⟩ := O.cell b hm c hc
        refine ⟨l1, fun x hx => ⟨by have := l2 x hx; omega, (l2 x hx).2⟩, ?_⟩
        cases hv : valV kvs (ky c) with
        | none => rfl
        | some y => exact absurd (hk c (by rw [hv]; rfl)) fun z => hdis c z hc
      · exact hbn
      · try simp only [wipe, tC, tVar, tChain, rI0, rI, rU, tOp, tUn, tCall, tAnd, tOr, tNot, tNotV, tAndV, tOrV, tTest, tB, tIf, tIfS, tRet, tRetN, tNext, tSeq, tNil, tCons, tAug, ipI, tPar, tAsg, gName, tDrop, tLst, tTup, tCB, tBM, tBM0, tFld_eq, tMkE, tMake, tAugS, gSub, rEq, rAll, rMax, rSum, rAppend, rExtend, rSetL, _root_.L2.start, List.map_cons, List.map_nil, List.length_cons, List.length_nil, List.replicate_succ, List.replicate_zero, List.cons_append, List.nil_append, List.append_nil, List.getElem?_cons_zero, List.getElem?_cons_succ, List.set_cons_zero, List.set_cons_succ, Nat.reduceAdd, Nat.reduceSub, V.int.injEq, V.bl.injEq, V.ref.injEq, V.str.injEq, exists_eq, exists_eq', exists_eq_left, exists_eq_left', exists_and_left, exists_and_right, Option.some.injEq, List.cons.injEq, and_true, true_and, and_assoc, retV, true_or, or_true, decide_eq_true_eq, if_true, if_false, Bool.false_eq_true, Bool.not_true, Bool.not_false, Bool.not_eq_true', reduceCtorEq, eq_self, decide_true, decide_false, List.length_map, exists_const, false_and, and_false, or_false, false_or, ↓reduceIte]
        obtain ⟨bx, bxs, rfl, _, hbx, hbp⟩ := (fam_sq (fam_sq fam_in)).same e3 hR
        have lbx : bxs.length = b.length := Paired.len hbp
        refine lc_map (gives_sq (fun Q h => ⟨_, rfl, h⟩) hbx) (Box.none (A := No) (fun _ z => z.elim)) (fun H' e => hbx.keep (fun z => z) e) (Nat.le_trans (by omega : bxs.length ≤ 60) (by decide)) (fun x => rfl) (fam_tp fam_in) b lbx.symm id (fun n x z H' D N hx hz e _ _ hN => ?_) fun ys H5 D5 e5 _ nD5 _ hD5 hp5 => ?_
        · obtain ⟨c, cs, rfl, _, hc, hcp⟩ := (fam_sq fam_in).mono e (Paired.both hbp hx hz)
          obtain rfl := ina_eq hcp
          try simp only [wipe, tC, tVar, tChain, rI0, rI, rU, tOp, tUn, tCall, tAnd, tOr, tNot, tNotV, tAndV, tOrV, tTest, tB, tIf, tIfS, tRet, tRetN, tNext, tSeq, tNil, tCons, tAug, ipI, tPar, tAsg, gName, tDrop, tLst, tTup, tCB, tBM, tBM0, tFld_eq, tMkE, tMake, tAugS, gSub, rEq, rAll, rMax, rSum, rAppend, rExtend, rSetL, _root_.L2.start, List.map_cons, List.map_nil, List.length_cons, List.length_nil, List.replicate_succ, List.replicate_zero, List.cons_append, List.nil_append, List.append_nil, List.getElem?_cons_zero, List.getElem?_cons_succ, List.set_cons_zero, List.set_cons_succ, Nat.reduceAdd, Nat.reduceSub, V.int.injEq, V.bl.injEq, V.ref.injEq, V.str.injEq, exists_eq, exists_eq', exists_eq_left, exists_eq_left', exists_and_left, exists_and_right, Option.some.injEq, List.cons.injEq, and_true, true_and, and_assoc, retV, true_or, or_true, decide_eq_true_eq, if_true, if_false, Bool.false_eq_true, Bool.not_true, Bool.not_false, Bool.not_eq_true', reduceCtorEq, eq_self, decide_true, decide_false, List.length_map, exists_const, false_and, and_false, or_false, false_or, ↓reduceIte]
          exact tup_sq hc fun p H4 e4 hp4 => hN _ _ (.of e4) trivial ⟨p, _, rfl, hp4, ina_of z⟩
        · rw [List.map_id] at hp5
          have ly : ys.length = b.length := Paired.len hp5
          refine ⟨D5, ys, rfl, sqL_of hD5, by omega, fun y hy => ?_, fun zs p6 perm _ np => ?_⟩
          · obtain ⟨j, hj⟩ := List.getElem?_of_mem hy
            obtain ⟨c, hc, t, cs, rfl, ht, hcp⟩ := Paired.at hp5 hj
            obtain rfl := ina_eq hcp
            obtain ⟨l1, l2⟩ := O.cell b hm c (List.mem_of_getElem? hc)
            exact ⟨c, ⟨t, rfl, sqT_of ht⟩, l1, fun m hm => ⟨(l2 m hm).1, by have := (l2 m hm).2; omega⟩⟩
          · obtain ⟨b', hperm, hzs⟩ := Paired.perm perm _ hp5
            have e36 : Same H3 (upd H5 p6 (.lst zs)) := e5.same.trans (same_new np)
            have e06 : Same H' (upd H5 p6 (.lst zs)) := eT.trans (e3.trans e36)
            refine ⟨.inr (.inr (.inl ⟨rfl, .inr ⟨kvs, e06 _ _ hD⟩⟩)), ?_⟩
            have lb : b'.length = b.length := hperm.length_eq
            have lz : zs.length = ys.length := perm.length_eq
            refine dcT_map (gives_sq (fun Q h => ⟨_, rfl, h⟩) (.inl upd_same)) (fun H' e => by rw [upd_same]; exact e _ _ upd_same) (Nat.le_trans (by omega : zs.length ≤ 60) (by decide)) (fun x => rfl) (fun x => rfl) ((fam_tp fam_in).monoP (.of (same_new np)) hzs) (hperm.nodup_iff.2 hbn) fun H7 D7 e7 nD7 hD7 => ?_
            have e07 := e06.trans e7
            have nDD : D ≠ D7 := fun z => by
              have := e06 _ _ hD
              rw [z, nD7] at this
              cases this
            refine ⟨D, D7, kvs, _, rfl, rfl, e07 _ _ hD, hD7, nDD, ?_, ?_, ?_⟩
            · by_cases i0 : 0 < i
              · exact .inl (hk0 i0)
              · obtain rfl : i = 0 := by omega
                refine .inr ?_
                rw [List.map_map]
                exact (hperm.map _).nodup_iff.2 (O.hash b hb)
            · rw [List.length_map]
              exact Nat.le_trans (by omega : kvs.length + b'.length ≤ 400) (by decide)
            · have e08 : Same H (upd H7 D (.dT (mergeT kvs (b'.map fun c => (c.map Sum.inl, V.bl true))))) := same_mut (e.trans e07) (e12.free nD)
              have k78 : Tk H7 (upd H7 D (.dT (mergeT kvs (b'.map fun c => (c.map Sum.inl, V.bl true))))) := .dT (e07 _ _ hD)
              have hF8 : upd H7 D (.dT (mergeT kvs (b'.map fun c => (c.map Sum.inl, V.bl true)))) F = some (.lst ts) := by
                rw [upd_ne nDF.symm]
                exact e07 _ _ hF
              refine ⟨.inl ⟨rfl, ts, sqL_of hF8⟩, ?_⟩
              have n6 : p6 ≠ D := fun z => by
                have := (eT.trans (e3.trans e5.same)) _ _ hD
                rw [← z, np] at this
                cases this
              refine tup_sq (xs := zs) (.inl (by rw [upd_ne n6]; exact e7 _ _ upd_same)) fun p9 H9 e9 hp9 => ?_
              refine ⟨ts, e9 _ _ hF8, Nat.lt_of_lt_of_le (by omega : ts.length < 12) (by decide), same_mut (e08.trans e9) (e12.free nF2), ⟨_, by rw [upd_ne nDF]; exact e9 _ _ upd_same, ?_, ?_, ?_⟩, ts ++ [.ref p9], upd_same, B' ++ [b'], ?_, ?_⟩
              · rw [hsplit, List.length_append]
                refine Nat.le_trans (length_mergeT _ _) ?_
                rw [List.length_map]
                omega
              · exact fun _ => mergeT_ne _ _ (.inr (by
                  intro z
                  have : b'.length = 0 := by simpa using congrArg List.length z
                  omega))
              · intro c hc
                rw [hsplit, List.mem_append]
                rcases mem_mergeT _ _ hc with h | h
                · exact .inl (hk c h)
                · rw [List.map_map, List.mem_map] at h
                  obtain ⟨d, hd, ed⟩ := h
                  obtain rfl := ky_inj (c := d) (d := c) ed
                  exact .inr (hperm.mem_iff.1 hd)
              · have tk1 : Tk H9 (upd H9 F (.lst (ts ++ [.ref p9]))) := .lst (e9 _ _ hF8)
                refine Paired.app ((famT_tp (famT_tp famT_in)).p ((Tk.of e07).trans (k78.trans ((Tk.of e9).trans tk1))) hts) (.cons ⟨p9, zs, rfl, (tk1 p9).1 _ hp9, ?_⟩ .nil)
                exact (famT_tp famT_in).p (((Tk.new np).trans (Tk.of e7)).trans (k78.trans ((Tk.of e9).trans tk1))) hzs
              · rw [List.take_succ, hb]
                exact Paired.app hB (.cons hperm .nil)
    · obtain ⟨e, ⟨u4, u5, u6, u7, rfl⟩, ⟨kvs, hD, hkl, hk0, hk⟩, ts, B', hF, hts, hB⟩ := h
      try simp only [wipe, tC, tVar, tChain, rI0, rI, rU, tOp, tUn, tCall, tAnd, tOr, tNot, tNotV, tAndV, tOrV, tTest, tB, tIf, tIfS, tRet, tRetN, tNext, tSeq, tNil, tCons, tAug, ipI, tPar, tAsg, gName, tDrop, tLst, tTup, tCB, tBM, tBM0, tFld_eq, tMkE, tMake, tAugS, gSub, rEq, rAll, rMax, rSum, rAppend, rExtend, rSetL, _root_.L2.start, List.map_cons, List.map_nil, List.length_cons, List.length_nil, List.replicate_succ, List.replicate_zero, List.cons_append, List.nil_append, List.append_nil, List.getElem?_cons_zero, List.getElem?_cons_succ, List.set_cons_zero, List.set_cons_succ, Nat.reduceAdd, Nat.reduceSub, V.int.injEq, V.bl.injEq, V.ref.injEq, V.str.injEq, exists_eq, exists_eq', exists_eq_left, exists_eq_left', exists_and_left, exists_and_right, Option.some.injEq, List.cons.injEq, and_true, true_and, and_assoc, retV, true_or, or_true, decide_eq_true_eq, if_true, if_false, Bool.false_eq_true, Bool.not_true, Bool.not_false, Bool.not_eq_true', reduceCtorEq, eq_self, decide_true, decide_false, List.length_map, exists_const, false_and, and_false, or_false, false_or, ↓reduceIte]
      rw [hl, List.take_length] at hB hkl
      have := O.most
      refine ⟨D, kvs, rfl, hD, _, rfl, ?_⟩
      rw [if_neg (by omega)]
      refine tup_sq (.inl hF) fun p H9 e9 hp9 => ?_
      exact q.go (e.trans e9) ⟨B', ⟨p, ts, rfl, hp9, (fam_tp (fam_tp fam_in)).monoP (.of e9) hts⟩, hB⟩
def sp_Bodies (w : World) (C : Addr) : Sp := fun vs H Q _ => ∃ (x dx : Addr) (n : Nat) (v : V) (B : List (List (List Int))), vs = [.ref x, .int n, v] ∧ H x = some (.ins C dx []) ∧ SqF (SqF (SqF InA)) (Or1 No x) H v B ∧ BodOk w n B ∧
  ∀ H' t, SameO (Or1 No x) H H' → H' x = some (.ins C dx [("axes", .int n), ("bodies", t)]) → BodR B H' t → Q .non H'
theorem famT_bod {B : List (List (List Int))} {H H' : Hp} {v : V} (e : Tk H H') (h : BodR B H v) : BodR B H' v := by
  obtain ⟨B', h, p⟩ := h
  exact ⟨B', (famT_tp (famT_tp (famT_tp famT_in))).tk e h, p⟩
theorem C_Bodies (S : Sc K mg) : CalM prg w K mg base CX0 "Bodies" (ga K "Bodies") 6 ["self", "axes", "bodies"] (sp_Bodies w (ga K "Bodies")) := by
  have C_is_between : Cal prg w K mg base CX0 "is_between" 2 ["value", "least", "most"] [] sp_is_between := C_is_between S
  have C_told_bodies : Cal prg w K mg base CX0 "told_bodies" 5 ["axes", "bodies"] [] (sp_told_bodies w) := C_told_bodies S
  refine S.calM (d := d_Bodies_init) 6 57 59 sc_Bodies_init rfl rfl rfl rfl rfl rfl (fun _ _ _ _ _ _ us hl => match us, hl with | [_, _, _], _ => rfl) (fun vs H Q E h => ?_) (fun f cdv A outer s H vs Q E hr h => ?_)
  · obtain ⟨x, dx, n, v, B, rfl, _⟩ := h
    rfl
  · obtain ⟨x, dx, n, v, B, rfl, hx, hv, O, q⟩ := h
    refine ⟨_, (pss_cons (ps_if (pt_not (pt_val (pe_c C_is_between (hr.mono (by omega)) pass0 (pa_cons (pv 1) (pa_cons pe_int (pa_cons (pe_gi (S.int 50)) pa_nil)))))) (pss_one ps_never) pss_nil)
      (pss_cons (ps_fld (pv 0) (pv 1) rfl)
      (pss_one (ps_fld (pv 0) (pe_c C_told_bodies (hr.mono (by omega)) pass0 (pa_cons (pv 1) (pa_cons (pv 2) pa_nil))) rfl)))), ?_⟩
    have n1 := O.n1
    have n3 := O.n3
    try simp only [wipe, tC, tVar, tChain, rI0, rI, rU, tOp, tUn, tCall, tAnd, tOr, tNot, tNotV, tAndV, tOrV, tTest, tB, tIf, tIfS, tRet, tRetN, tNext, tSeq, tNil, tCons, tAug, ipI, tPar, tAsg, gName, tDrop, tLst, tTup, tCB, tBM, tBM0, tFld_eq, tMkE, tMake, tAugS, gSub, rEq, rAll, rMax, rSum, rAppend, rExtend, rSetL, _root_.L2.start, List.map_cons, List.map_nil, List.length_cons, List.length_nil, List.replicate_succ, List.replicate_zero, List.cons_append, List.nil_append, List.append_nil, List.getElem?_cons_zero, List.getElem?_cons_succ, List.set_cons_zero, List.set_cons_succ, Nat.reduceAdd, Nat.reduceSub, V.int.injEq, V.bl.injEq, V.ref.injEq, V.str.injEq, exists_eq, exists_eq', exists_eq_left, exists_eq_left', exists_and_left, exists_and_right, Option.some.injEq, List.cons.injEq, and_true, true_and, and_assoc, retV, true_or, or_true, decide_eq_true_eq, if_true, if_false, Bool.false_eq_true, Bool.not_true, Bool.not_false, Bool.not_eq_true', reduceCtorEq, eq_self, decide_true, decide_false, List.length_map, exists_const, false_and, and_false, or_false, false_or, sp_is_between, ↓reduceIte]
    intro H1 e1
    rw [show decide ((1 : Int) ≤ (n : Int) ∧ (n : Int) ≤ 3) = true from decide_eq_true (by omega)]
    try simp only [wipe, tC, tVar, tChain, rI0, rI, rU, tOp, tUn, tCall, tAnd, tOr, tNot, tNotV, tAndV, tOrV, tTest, tB, tIf, tIfS, tRet, tRetN, tNext, tSeq, tNil, tCons, tAug, ipI, tPar, tAsg, gName, tDrop, tLst, tTup, tCB, tBM, tBM0, tFld_eq, tMkE, tMake, tAugS, gSub, rEq, rAll, rMax, rSum, rAppend, rExtend, rSetL, _root_.L2.start, List.map_cons, List.map_nil, List.length_cons, List.length_nil, List.replicate_succ, List.replicate_zero, List.cons_append, List.nil_append, List.append_nil, List.getElem?_cons_zero, List.getElem?_cons_succ, List.set_cons_zero, List.set_cons_succ, Nat.reduceAdd, Nat.reduceSub, V.int.injEq, V.bl.injEq, V.ref.injEq, V.str.injEq, exists_eq, exists_eq', exists_eq_left, exists_eq_left', exists_and_left, exists_and_right, Option.some.injEq, List.cons.injEq, and_true, true_and, and_assoc, retV, true_or, or_true, decide_eq_true_eq, if_true, if_false, Bool.false_eq_true, Bool.not_true, Bool.not_false, Bool.not_eq_true', reduceCtorEq, eq_self, decide_true, decide_false, List.length_map, exists_const, false_and, and_false, or_false, false_or, sFld, ↓reduceIte]
    refine ⟨_, dx, _, e1 _ _ hx, (S.cls 58), (S.noat 63), by decide, ?_⟩
    have e2 : SameO (Or1 No x) H (upd H1 x (.ins (ga K "Bodies") dx (putF "axes" (.int n) []))) := SameO.trans (.of e1) (.ins (e1 _ _ hx) (.inr rfl))
    refine ⟨n, v, B, rfl, (fam_sq (fam_sq (fam_sq fam_in))).weak (fun a z => z.elim) ((fam_sq (fam_sq (fam_sq fam_in))).mono e2 hv), O, fun t H3 e3 ht => ?_⟩
    try simp only [wipe, tC, tVar, tChain, rI0, rI, rU, tOp, tUn, tCall, tAnd, tOr, tNot, tNotV, tAndV, tOrV, tTest, tB, tIf, tIfS, tRet, tRetN, tNext, tSeq, tNil, tCons, tAug, ipI, tPar, tAsg, gName, tDrop, tLst, tTup, tCB, tBM, tBM0, tFld_eq, tMkE, tMake, tAugS, gSub, rEq, rAll, rMax, rSum, rAppend, rExtend, rSetL, _root_.L2.start, List.map_cons, List.map_nil, List.length_cons, List.length_nil, List.replicate_succ, List.replicate_zero, List.cons_append, List.nil_append, List.append_nil, List.getElem?_cons_zero, List.getElem?_cons_succ, List.set_cons_zero, List.set_cons_succ, Nat.reduceAdd, Nat.reduceSub, V.int.injEq, V.bl.injEq, V.ref.injEq, V.str.injEq, exists_eq, exists_eq', exists_eq_left, exists_eq_left', exists_and_left, exists_and_right, Option.some.injEq, List.cons.injEq, and_true, true_and, and_assoc, retV, true_or, or_true, decide_eq_true_eq, if_true, if_false, Bool.false_eq_true, Bool.not_true, Bool.not_false, Bool.not_eq_true', reduceCtorEq, eq_self, decide_true, decide_false, List.length_map, exists_const, false_and, and_false, or_false, false_or, ↓reduceIte]
    have hx3 := e3 _ _ (upd_same (H := H1) (a := x) (o := .ins (ga K "Bodies") dx (putF "axes" (.int n) [])))
    refine ⟨_, _, _, hx3, (S.cls 58), (S.noat 64), by simp [putF], ?_⟩
    have e4 : SameO (Or1 No x) H3 (upd H3 x (.ins (ga K "Bodies") dx (putF "bodies" t (putF "axes" (.int n) [])))) := .ins hx3 (.inr rfl)
    exact q _ t (e2.trans (SameO.trans (.of e3) e4)) upd_same (famT_bod e4.2.1 ht)
/-- an object of the class Bodies -/
def BodO (K : PySem.W.Frag) (n : Nat) (B : List (List (List Int))) : Hp → V → Prop := fun H v => ∃ x dx t, v = .ref x ∧ H x = some (.ins (ga K "Bodies") dx [("axes", .int n), ("bodies", t)]) ∧ BodR B H t
theorem make_bodies {H : Hp} {Q : VK} {E : XK} {n : Nat} {v : V} {B : List (List (List Int))} (hv : SqF (SqF (SqF InA)) No H v B) (O : BodOk w n B) (q : Ret (BodO K n B) H Q) :
    ∀ x dx, H x = none → H dx = none → dx ≠ x → sp_Bodies w (ga K "Bodies") (.ref x :: ([.int n, v] ++ [])) (upd (upd H dx (.own x)) x (.ins (ga K "Bodies") dx [])) (fun v H2 => v = .non ∧ Q (.ref x) H2) E := fun x dx nx ndx hne => by
  have e1 : Same H (upd H dx (.own x)) := same_new ndx
  have e2 : Same H (upd (upd H dx (.own x)) x (.ins (ga K "Bodies") dx [])) := same_mut e1 nx
  refine ⟨x, dx, n, v, B, rfl, upd_same, (fam_sq (fam_sq (fam_sq fam_in))).weak (fun a z => ?_) ((fam_sq (fam_sq (fam_sq fam_in))).same e2 ((fam_sq (fam_sq (fam_sq fam_in))).live hv)), O, fun H' t e ht hb => ⟨rfl, q _ _ (fun a u h => ?_) ⟨x, dx, t, rfl, ht, hb⟩⟩⟩
  · rcases z with z | z
    · exact z.elim
    · exact .inr (z ▸ nx)
  · refine e.1 a u (fun z => ?_) (e2 a u h)
    rcases z with z | z
    · exact z
    · rw [z, nx] at h
      cases h
end
end K76
set_option Elab.async false
set_option linter.all false
set_option maxRecDepth 100000
set_option maxHeartbeats 4000000
/-! k76: the module ways, its data -/
namespace K76
open PySem PySem.Spec PyProof.Rows L2 He HK
abbrev Ups := List (List (List Int))
/-- who is in whose way along an axis: lots off oneself -/
def UpOk (m : Nat) (u : List (List Int)) : Prop := u.length = m ∧ ∀ (b : Nat) (lot : List Int), u[b]? = some lot → lot.Nodup ∧ ∀ x ∈ lot, 0 ≤ x ∧ x < (m : Int) ∧ x ≠ (b : Int)
theorem nodup_le : ∀ (m : Nat) (l : List Int), l.Nodup → (∀ x ∈ l, 0 ≤ x ∧ x < (m : Int)) → l.length ≤ m
  | 0, l, _, h => by
    cases l with
    | nil => exact Nat.le_refl _
    | cons x t =>
      have := h x List.mem_cons_self
      omega
  | m + 1, l, nd, h => by
    by_cases e : (m : Int) ∈ l
    · have h1 := nodup_le m (l.erase m) (nd.erase _) fun x hx => by
        have h2 := h x (List.mem_of_mem_erase hx)
        have h3 : x ≠ m := fun z => nd.not_mem_erase (z ▸ hx)
        omega
      rw [List.length_erase_of_mem e] at h1
      omega
    · have h1 := nodup_le m l nd fun x hx => by
        have h2 := h x hx
        have h3 : x ≠ m := fun z => e (z ▸ hx)
        omega
      omega
theorem UpOk.le {m : Nat} {u : List (List Int)} (h : UpOk m u) {b : Nat} {lot : List Int} (hb : u[b]? = some lot) : lot.length ≤ m := by
  obtain ⟨h1, h2⟩ := h.2 b lot hb
  exact nodup_le m lot h1 fun x hx => ⟨(h2 x hx).1, (h2 x hx).2.1⟩
def sp_is_up : Sp := fun vs H Q _ => ∃ (m : Nat) (v : V) (u : List (List Int)), vs = [.int m, v] ∧ SqF (SqF InA) No H v u ∧ m ≤ 12 ∧ UpOk m u ∧ RetV (.bl true) H Q
def UpsOk (m : Nat) (U : Ups) : Prop := 1 ≤ U.length ∧ U.length ≤ 24 ∧ m ≤ 12 ∧ ∀ u ∈ U, UpOk m u
def srtU (U : Ups) : Ups := U.map fun u => u.map srt
/-- the tuple of ups -/
def UpsR (U : Ups) : Hp → V → Prop := fun H v => TpF (TpF (TpF InA)) No H v U
theorem famT_ups {U : Ups} {H H' : Hp} {v : V} (e : Tk H H') (h : UpsR U H v) : UpsR U H' v := (famT_tp (famT_tp (famT_tp famT_in))).tk e h
def sp_told_ups : Sp := fun vs H Q _ => ∃ (m : Nat) (v : V) (U : Ups), vs = [.int m, v] ∧ SqF (SqF (SqF InA)) No H v U ∧ UpsOk m U ∧ Ret (UpsR (srtU U)) H Q
section
variable {w : World} {K : PySem.W.Frag} {mg : Str → Option Value} {base : Heap}
theorem C_is_up (S : Sc K mg) : Cal prg w K mg base CX0 "is_up" 4 ["many", "value"] [] sp_is_up := by
  have C_is_sequence : Cal prg w K mg base CX0 "is_sequence" 1 ["value"] [] sp_is_sequence := C_is_sequence S
  have C_is_row : Cal prg w K mg base CX0 "is_row" 2 ["value", "many"] [] sp_is_row := C_is_row S
  have C_lot_wrong : Cal prg w K mg base CX0 "lot_wrong" 3 ["value", "limit"] [] sp_lot_wrong := C_lot_wrong S
  refine S.cal (d := d_is_up) 15 11 sc_is_up rfl rfl rfl rfl rfl (fun _ _ _ _ _ _ us hl => match us, hl with | [_, _], _ => rfl) (fun vs H Q E h => ?_) (fun f cdv A outer s H vs Q E hr h => ?_)
  · obtain ⟨m, v, u, rfl, _⟩ := h
    rfl
  · obtain ⟨m, v, u, rfl, ⟨a, xs, rfl, _, hs, hp⟩, h12, O, q⟩ := h
    refine ⟨_, (pss_cons (ps_if (pt_not (pt_val (pe_c C_is_row (hr.mono (by omega)) pass0 (pa_cons (pv 1) (pa_cons (pv 0) pa_nil))))) (pss_one (ps_ret pe_bl)) pss_nil)
      (pss_cons (ps_for PassesOwn.never rfl (pi_enS (S.free 38) (pa_cons (pv 1) pa_nil)) (pg_tup (by rfl) (pgs_cons (pg_name (i := 2) sc_is_up.nd rfl (by first | exact Or.inl rfl | exact Or.inr rfl)) (pgs_cons (pg_name (i := 3) sc_is_up.nd rfl (by first | exact Or.inl rfl | exact Or.inr rfl)) pgs_nil))) (pss_one (ps_if (PW.pt (pw_or (pt_not (pt_val (pe_c C_is_sequence (hr.mono (by omega)) pass0 (pa_cons (pv 3) pa_nil)))) (pw_or (pt_cmpR op_ge (pe_c C_lot_wrong (hr.mono (by omega)) pass0 (pa_cons (pv 3) (pa_cons (pv 0) pa_nil))) pe_int (nomark _)) (pw_or1 (pt_cmpR op_in_seq (pv 2) (pv 3) (by rfl)))))) (pss_one (ps_ret pe_bl)) pss_nil)))
      (pss_one (ps_ret pe_bl)))), ?_⟩
    have hl : xs.length = u.length := Paired.len hp
    have hl2 := O.1
    try simp only [wipe, tC, tVar, tChain, rI0, rI, rU, tOp, tUn, tCall, tAnd, tOr, tNot, tNotV, tAndV, tOrV, tTest, tB, tIf, tIfS, tRet, tRetN, tNext, tSeq, tNil, tCons, tAug, ipI, tPar, tAsg, gName, tDrop, tLst, tTup, tCB, tBM, tBM0, tFld_eq, tMkE, tMake, tAugS, gSub, rEq, rAll, rMax, rSum, rAppend, rExtend, rSetL, _root_.L2.start, List.map_cons, List.map_nil, List.length_cons, List.length_nil, List.replicate_succ, List.replicate_zero, List.cons_append, List.nil_append, List.append_nil, List.getElem?_cons_zero, List.getElem?_cons_succ, List.set_cons_zero, List.set_cons_succ, Nat.reduceAdd, Nat.reduceSub, V.int.injEq, V.bl.injEq, V.ref.injEq, V.str.injEq, exists_eq, exists_eq', exists_eq_left, exists_eq_left', exists_and_left, exists_and_right, Option.some.injEq, List.cons.injEq, and_true, true_and, and_assoc, retV, true_or, or_true, decide_eq_true_eq, if_true, if_false, Bool.false_eq_true, Bool.not_true, Bool.not_false, Bool.not_eq_true', reduceCtorEq, eq_self, decide_true, decide_false, List.length_map, exists_const, false_and, and_false, or_false, false_or, ↓reduceIte]
    refine ⟨a, xs, m, rfl, hs, retV.2 fun H1 e1 => ?_⟩
    rw [show decide ((xs.length : Int) = (m : Int)) = true from decide_eq_true (by omega)]
    try simp only [wipe, tC, tVar, tChain, rI0, rI, rU, tOp, tUn, tCall, tAnd, tOr, tNot, tNotV, tAndV, tOrV, tTest, tB, tIf, tIfS, tRet, tRetN, tNext, tSeq, tNil, tCons, tAug, ipI, tPar, tAsg, gName, tDrop, tLst, tTup, tCB, tBM, tBM0, tFld_eq, tMkE, tMake, tAugS, gSub, rEq, rAll, rMax, rSum, rAppend, rExtend, rSetL, _root_.L2.start, List.map_cons, List.map_nil, List.length_cons, List.length_nil, List.replicate_succ, List.replicate_zero, List.cons_append, List.nil_append, List.append_nil, List.getElem?_cons_zero, List.getElem?_cons_succ, List.set_cons_zero, List.set_cons_succ, Nat.reduceAdd, Nat.reduceSub, V.int.injEq, V.bl.injEq, V.ref.injEq, V.str.injEq, exists_eq, exists_eq', exists_eq_left, exists_eq_left', exists_and_left, exists_and_right, Option.some.injEq, List.cons.injEq, and_true, true_and, and_assoc, retV, true_or, or_true, decide_eq_true_eq, if_true, if_false, Bool.false_eq_true, Bool.not_true, Bool.not_false, Bool.not_eq_true', reduceCtorEq, eq_self, decide_true, decide_false, List.length_map, exists_const, false_and, and_false, or_false, false_or, ↓reduceIte]
    refine for_en (fun Q h => ⟨_, rfl, h⟩) (hs.same e1) (fun i σ H' => Same H H' ∧ (∃ u v, σ = [some (.int m), some (.ref a), u, v]))
      ⟨e1, ⟨_, _, rfl⟩⟩ (fun i σ H' _ h => ?_) (fun i x σ H' T hi hx h nT => ?_) (fun σ H' h => ?_)
    · rw [(hs.keep (A := No) (fun z => z) (.of h.1)), (hs.keep (A := No) (fun z => z) (.of e1))]
    · obtain ⟨e, ⟨u2, v2, rfl⟩⟩ := h
      refine g_two rfl upd_same ?_
      have eT : Same H' (upd H' T (.tup [.int (i : Nat), x])) := same_new nT
      obtain ⟨lot, hlot, hr0⟩ := Paired.at hp hx
      obtain ⟨l1, l2⟩ := O.2 i lot hlot
      have ll := O.le hlot
      obtain ⟨b, ys, rfl, _, hb, hbp⟩ := (fam_sq fam_in).same (e.trans eT) hr0
      obtain rfl := ina_eq hbp
      try simp only [wipe, tC, tVar, tChain, rI0, rI, rU, tOp, tUn, tCall, tAnd, tOr, tNot, tNotV, tAndV, tOrV, tTest, tB, tIf, tIfS, tRet, tRetN, tNext, tSeq, tNil, tCons, tAug, ipI, tPar, tAsg, gName, tDrop, tLst, tTup, tCB, tBM, tBM0, tFld_eq, tMkE, tMake, tAugS, gSub, rEq, rAll, rMax, rSum, rAppend, rExtend, rSetL, _root_.L2.start, List.map_cons, List.map_nil, List.length_cons, List.length_nil, List.replicate_succ, List.replicate_zero, List.cons_append, List.nil_append, List.append_nil, List.getElem?_cons_zero, List.getElem?_cons_succ, List.set_cons_zero, List.set_cons_succ, Nat.reduceAdd, Nat.reduceSub, V.int.injEq, V.bl.injEq, V.ref.injEq, V.str.injEq, exists_eq, exists_eq', exists_eq_left, exists_eq_left', exists_and_left, exists_and_right, Option.some.injEq, List.cons.injEq, and_true, true_and, and_assoc, retV, true_or, or_true, decide_eq_true_eq, if_true, if_false, Bool.false_eq_true, Bool.not_true, Bool.not_false, Bool.not_eq_true', reduceCtorEq, eq_self, decide_true, decide_false, List.length_map, exists_const, false_and, and_false, or_false, false_or, sp_is_sequence, ↓reduceIte]
      refine ⟨⟨_, hb⟩, fun H3 e3 => ⟨lot, b, m, rfl, hb.same e3, Nat.lt_of_lt_of_le (by omega : lot.length < 13) (by decide), l1, fun x hx => ⟨(l2 x hx).1, (l2 x hx).2.1⟩, retV.2 fun H4 e4 => ?_⟩⟩
      try simp only [wipe, tC, tVar, tChain, rI0, rI, rU, tOp, tUn, tCall, tAnd, tOr, tNot, tNotV, tAndV, tOrV, tTest, tB, tIf, tIfS, tRet, tRetN, tNext, tSeq, tNil, tCons, tAug, ipI, tPar, tAsg, gName, tDrop, tLst, tTup, tCB, tBM, tBM0, tFld_eq, tMkE, tMake, tAugS, gSub, rEq, rAll, rMax, rSum, rAppend, rExtend, rSetL, _root_.L2.start, List.map_cons, List.map_nil, List.length_cons, List.length_nil, List.replicate_succ, List.replicate_zero, List.cons_append, List.nil_append, List.append_nil, List.getElem?_cons_zero, List.getElem?_cons_succ, List.set_cons_zero, List.set_cons_succ, Nat.reduceAdd, Nat.reduceSub, V.int.injEq, V.bl.injEq, V.ref.injEq, V.str.injEq, exists_eq, exists_eq', exists_eq_left, exists_eq_left', exists_and_left, exists_and_right, Option.some.injEq, List.cons.injEq, and_true, true_and, and_assoc, retV, true_or, or_true, decide_eq_true_eq, if_true, if_false, Bool.false_eq_true, Bool.not_true, Bool.not_false, Bool.not_eq_true', reduceCtorEq, eq_self, decide_true, decide_false, List.length_map, exists_const, false_and, and_false, or_false, false_or, ↓reduceIte]
      rw [if_neg (by decide)]
      refine in_sq (hb.same (e3.trans e4)) ?_
      rw [decide_eq_false (fun z => (l2 _ z).2.2 rfl)]
      try simp only [wipe, tC, tVar, tChain, rI0, rI, rU, tOp, tUn, tCall, tAnd, tOr, tNot, tNotV, tAndV, tOrV, tTest, tB, tIf, tIfS, tRet, tRetN, tNext, tSeq, tNil, tCons, tAug, ipI, tPar, tAsg, gName, tDrop, tLst, tTup, tCB, tBM, tBM0, tFld_eq, tMkE, tMake, tAugS, gSub, rEq, rAll, rMax, rSum, rAppend, rExtend, rSetL, _root_.L2.start, List.map_cons, List.map_nil, List.length_cons, List.length_nil, List.replicate_succ, List.replicate_zero, List.cons_append, List.nil_append, List.append_nil, List.getElem?_cons_zero, List.getElem?_cons_succ, List.set_cons_zero, List.set_cons_succ, Nat.reduceAdd, Nat.reduceSub, V.int.injEq, V.bl.injEq, V.ref.injEq, V.str.injEq, exists_eq, exists_eq', exists_eq_left, exists_eq_left', exists_and_left, exists_and_right, Option.some.injEq, List.cons.injEq, and_true, true_and, and_assoc, retV, true_or, or_true, decide_eq_true_eq, if_true, if_false, Bool.false_eq_true, Bool.not_true, Bool.not_false, Bool.not_eq_true', reduceCtorEq, eq_self, decide_true, decide_false, List.length_map, exists_const, false_and, and_false, or_false, false_or, ↓reduceIte]
      exact e.trans (eT.trans (e3.trans e4))
    · obtain ⟨e, ⟨u2, v2, rfl⟩⟩ := h
      try simp only [wipe, tC, tVar, tChain, rI0, rI, rU, tOp, tUn, tCall, tAnd, tOr, tNot, tNotV, tAndV, tOrV, tTest, tB, tIf, tIfS, tRet, tRetN, tNext, tSeq, tNil, tCons, tAug, ipI, tPar, tAsg, gName, tDrop, tLst, tTup, tCB, tBM, tBM0, tFld_eq, tMkE, tMake, tAugS, gSub, rEq, rAll, rMax, rSum, rAppend, rExtend, rSetL, _root_.L2.start, List.map_cons, List.map_nil, List.length_cons, List.length_nil, List.replicate_succ, List.replicate_zero, List.cons_append, List.nil_append, List.append_nil, List.getElem?_cons_zero, List.getElem?_cons_succ, List.set_cons_zero, List.set_cons_succ, Nat.reduceAdd, Nat.reduceSub, V.int.injEq, V.bl.injEq, V.ref.injEq, V.str.injEq, exists_eq, exists_eq', exists_eq_left, exists_eq_left', exists_and_left, exists_and_right, Option.some.injEq, List.cons.injEq, and_true, true_and, and_assoc, retV, true_or, or_true, decide_eq_true_eq, if_true, if_false, Bool.false_eq_true, Bool.not_true, Bool.not_false, Bool.not_eq_true', reduceCtorEq, eq_self, decide_true, decide_false, List.length_map, exists_const, false_and, and_false, or_false, false_or, ↓reduceIte]
      exact q.go e rfl
theorem C_told_ups (S : Sc K mg) : Cal prg w K mg base CX0 "told_ups" 5 ["many", "ups"] [] sp_told_ups := by
  have C_is_sequence : Cal prg w K mg base CX0 "is_sequence" 1 ["value"] [] sp_is_sequence := C_is_sequence S
  have C_is_between : Cal prg w K mg base CX0 "is_between" 2 ["value", "least", "most"] [] sp_is_between := C_is_between S
  have C_is_up : Cal prg w K mg base CX0 "is_up" 4 ["many", "value"] [] sp_is_up := C_is_up S
  refine S.cal (d := d_told_ups) 16 12 sc_told_ups rfl rfl rfl rfl rfl (fun _ _ _ _ _ _ us hl => match us, hl with | [_, _], _ => rfl) (fun vs H Q E h => ?_) (fun f cdv A outer s H vs Q E hr h => ?_)
  · obtain ⟨m, v, u, rfl, _⟩ := h
    rfl
  · obtain ⟨m, v, U, rfl, ⟨a, xs, rfl, _, hs, hp⟩, ⟨U1, U24, m12, O⟩, q⟩ := h
    refine ⟨_, (pss_cons (ps_if (PW.pt (pw_or (pt_not (pt_val (pe_c C_is_sequence (hr.mono (by omega)) pass0 (pa_cons (pv 1) pa_nil)))) (pw_or1 (pt_not (pt_val (pe_c C_is_between (hr.mono (by omega)) pass0 (pa_cons (pe_callB cr_lenA (by rfl) (S.free 41) (by decide +kernel) (pa_cons (pv 1) pa_nil)) (pa_cons pe_int (pa_cons (pe_gi (S.int 55)) pa_nil))))))))) (pss_one ps_never) pss_nil)
      (pss_cons (ps_for PassesOwn.never rfl (pi_enS (S.free 38) (pa_cons (pv 1) pa_nil)) (pg_tup (by rfl) (pgs_cons (pg_name (i := 2) sc_told_ups.nd rfl (by first | exact Or.inl rfl | exact Or.inr rfl)) (pgs_cons (pg_name (i := 3) sc_told_ups.nd rfl (by first | exact Or.inl rfl | exact Or.inr rfl)) pgs_nil))) (pss_one (ps_if (pt_not (pt_val (pe_c C_is_up (hr.mono (by omega)) pass0 (pa_cons (pv 0) (pa_cons (pv 3) pa_nil))))) (pss_one ps_never) pss_nil)))
      (pss_one (ps_ret (pe_callTy cr_tupA (by rfl) (S.free 49) (by decide +kernel) (pa_cons (pe_lc (own := [("value", 3)]) (g := (gName 3)) (tt := tYes) rfl sc_told_ups.nd (pi_seq (pv 1)) (blkOk_by (N := ["many", "ups", "at", "value", "lot"]) (sc := defScope s_told_ups) (by decide +kernel)) (fun _ _ _ _ _ => (pg_name (i := 3) sc_told_ups.nd rfl (by first | exact Or.inl rfl | exact Or.inr rfl))) (fun _ _ _ _ _ => pts_nil) (fun _ _ _ _ _ => (pe_callTy (cK (K := K) rfl cr_tupA) (by rfl) (S.free 49) (by decide +kernel) (pa_cons (pe_lc (own := [("lot", 4)]) (g := (gName 4)) (tt := tYes) rfl sc_told_ups.nd (pi_seqK (K := K) rfl (pv 3)) (blkOk_by (by kernel_rfl)) (fun _ _ _ _ _ => (pg_name (i := 4) sc_told_ups.nd rfl (by first | exact Or.inl rfl | exact Or.inr rfl))) (fun _ _ _ _ _ => pts_nil) (fun _ _ _ _ _ => (pe_callTy (cK (K := K) rfl cr_tupA) (by rfl) (S.free 49) (by decide +kernel) (pa_cons (pe_callB (cK (K := K) rfl cr_sortedA) (by rfl) (S.free 45) (by decide +kernel) (pa_cons (pv 4) pa_nil)) pa_nil)))) pa_nil)))) pa_nil)))))), ?_⟩
    have hl : xs.length = U.length := Paired.len hp
    try simp only [wipe, tC, tVar, tChain, rI0, rI, rU, tOp, tUn, tCall, tAnd, tOr, tNot, tNotV, tAndV, tOrV, tTest, tB, tIf, tIfS, tRet, tRetN, tNext, tSeq, tNil, tCons, tAug, ipI, tPar, tAsg, gName, tDrop, tLst, tTup, tCB, tBM, tBM0, tFld_eq, tMkE, tMake, tAugS, gSub, rEq, rAll, rMax, rSum, rAppend, rExtend, rSetL, _root_.L2.start, List.map_cons, List.map_nil, List.length_cons, List.length_nil, List.replicate_succ, List.replicate_zero, List.cons_append, List.nil_append, List.append_nil, List.getElem?_cons_zero, List.getElem?_cons_succ, List.set_cons_zero, List.set_cons_succ, Nat.reduceAdd, Nat.reduceSub, V.int.injEq, V.bl.injEq, V.ref.injEq, V.str.injEq, exists_eq, exists_eq', exists_eq_left, exists_eq_left', exists_and_left, exists_and_right, Option.some.injEq, List.cons.injEq, and_true, true_and, and_assoc, retV, true_or, or_true, decide_eq_true_eq, if_true, if_false, Bool.false_eq_true, Bool.not_true, Bool.not_false, Bool.not_eq_true', reduceCtorEq, eq_self, decide_true, decide_false, List.length_map, exists_const, false_and, and_false, or_false, false_or, sp_is_sequence, ↓reduceIte]
    refine ⟨⟨_, hs⟩, fun H1 e1 => len_sq (hs.same e1) ?_⟩
    try simp only [wipe, tC, tVar, tChain, rI0, rI, rU, tOp, tUn, tCall, tAnd, tOr, tNot, tNotV, tAndV, tOrV, tTest, tB, tIf, tIfS, tRet, tRetN, tNext, tSeq, tNil, tCons, tAug, ipI, tPar, tAsg, gName, tDrop, tLst, tTup, tCB, tBM, tBM0, tFld_eq, tMkE, tMake, tAugS, gSub, rEq, rAll, rMax, rSum, rAppend, rExtend, rSetL, _root_.L2.start, List.map_cons, List.map_nil, List.length_cons, List.length_nil, List.replicate_succ, List.replicate_zero, List.cons_append, List.nil_append, List.append_nil, List.getElem?_cons_zero, List.getElem?_cons_succ, List.set_cons_zero, List.set_cons_succ, Nat.reduceAdd, Nat.reduceSub, V.int.injEq, V.bl.injEq, V.ref.injEq, V.str.injEq, exists_eq, exists_eq', exists_eq_left, exists_eq_left', exists_and_left, exists_and_right, Option.some.injEq, List.cons.injEq, and_true, true_and, and_assoc, retV, true_or, or_true, decide_eq_true_eq, if_true, if_false, Bool.false_eq_true, Bool.not_true, Bool.not_false, Bool.not_eq_true', reduceCtorEq, eq_self, decide_true, decide_false, List.length_map, exists_const, false_and, and_false, or_false, false_or, sp_is_between, ↓reduceIte]
    intro H2 e2
    have e12 := e1.trans e2
    rw [show decide ((1 : Int) ≤ (xs.length : Int) ∧ (xs.length : Int) ≤ 24) = true from decide_eq_true (by omega)]
    try simp only [wipe, tC, tVar, tChain, rI0, rI, rU, tOp, tUn, tCall, tAnd, tOr, tNot, tNotV, tAndV, tOrV, tTest, tB, tIf, tIfS, tRet, tRetN, tNext, tSeq, tNil, tCons, tAug, ipI, tPar, tAsg, gName, tDrop, tLst, tTup, tCB, tBM, tBM0, tFld_eq, tMkE, tMake, tAugS, gSub, rEq, rAll, rMax, rSum, rAppend, rExtend, rSetL, _root_.L2.start, List.map_cons, List.map_nil, List.length_cons, List.length_nil, List.replicate_succ, List.replicate_zero, List.cons_append, List.nil_append, List.append_nil, List.getElem?_cons_zero, List.getElem?_cons_succ, List.set_cons_zero, List.set_cons_succ, Nat.reduceAdd, Nat.reduceSub, V.int.injEq, V.bl.injEq, V.ref.injEq, V.str.injEq, exists_eq, exists_eq', exists_eq_left, exists_eq_left', exists_and_left, exists_and_right, Option.some.injEq, List.cons.injEq, and_true, true_and, and_assoc, retV, true_or, or_true, decide_eq_true_eq, if_true, if_false, Bool.false_eq_true, Bool.not_true, Bool.not_false, Bool.not_eq_true', reduceCtorEq, eq_self, decide_true, decide_false, List.length_map, exists_const, false_and, and_false, or_false, false_or, ↓reduceIte]
    refine for_en (fun Q h => ⟨_, rfl, h⟩) (hs.same e12) (fun i σ H' => Same H H' ∧ (∃ u v w, σ = [some (.int m), some (.ref a), u, v, w]))
      ⟨e12, ⟨_, _, _, rfl⟩⟩ (fun i σ H' _ h => ?_) (fun i x σ H' T hi hx h nT => ?_) (fun σ H' h => ?_)
    · rw [(hs.keep (A := No) (fun z => z) (.of h.1)), (hs.keep (A := No) (fun z => z) (.of e12))]
    · obtain ⟨e, ⟨u2, v2, w2, rfl⟩⟩ := h
      refine g_two rfl upd_same ?_
      have eT : Same H' (upd H' T (.tup [.int (i : Nat), x])) := same_new nT
      obtain ⟨u, hu, hr0⟩ := Paired.at hp hx
      try simp only [wipe, tC, tVar, tChain, rI0, rI, rU, tOp, tUn, tCall, tAnd, tOr, tNot, tNotV, tAndV, tOrV, tTest, tB, tIf, tIfS, tRet, tRetN, tNext, tSeq, tNil, tCons, tAug, ipI, tPar, tAsg, gName, tDrop, tLst, tTup, tCB, tBM, tBM0, tFld_eq, tMkE, tMake, tAugS, gSub, rEq, rAll, rMax, rSum, rAppend, rExtend, rSetL, _root_.L2.start, List.map_cons, List.map_nil, List.length_cons, List.length_nil, List.replicate_succ, List.replicate_zero, List.cons_append, List.nil_append, List.append_nil, List.getElem?_cons_zero, List.getElem?_cons_succ, List.set_cons_zero, List.set_cons_succ, Nat.reduceAdd, Nat.reduceSub, V.int.injEq, V.bl.injEq, V.ref.injEq, V.str.injEq, exists_eq, exists_eq', exists_eq_left, exists_eq_left', exists_and_left, exists_and_right, Option.some.injEq, List.cons.injEq, and_true, true_and, and_assoc, retV, true_or, or_true, decide_eq_true_eq, if_true, if_false, Bool.false_eq_true, Bool.not_true, Bool.not_false, Bool.not_eq_true', reduceCtorEq, eq_self, decide_true, decide_false, List.length_map, exists_const, false_and, and_false, or_false, false_or, ↓reduceIte]
      refine ⟨m, x, u, rfl, (fam_sq (fam_sq fam_in)).same (e.trans eT) hr0, m12, O u (List.mem_of_getElem? hu), retV.2 fun H3 e3 => ?_⟩
      try simp only [wipe, tC, tVar, tChain, rI0, rI, rU, tOp, tUn, tCall, tAnd, tOr, tNot, tNotV, tAndV, tOrV, tTest, tB, tIf, tIfS, tRet, tRetN, tNext, tSeq, tNil, tCons, tAug, ipI, tPar, tAsg, gName, tDrop, tLst, tTup, tCB, tBM, tBM0, tFld_eq, tMkE, tMake, tAugS, gSub, rEq, rAll, rMax, rSum, rAppend, rExtend, rSetL, _root_.L2.start, List.map_cons, List.map_nil, List.length_cons, List.length_nil, List.replicate_succ, List.replicate_zero, List.cons_append, List.nil_append, List.append_nil, List.getElem?_cons_zero, List.getElem?_cons_succ, List.set_cons_zero, List.set_cons_succ, Nat.reduceAdd, Nat.reduceSub, V.int.injEq, V.bl.injEq, V.ref.injEq, V.str.injEq, exists_eq, exists_eq', exists_eq_left, exists_eq_left', exists_and_left, exists_and_right, Option.some.injEq, List.cons.injEq, and_true, true_and, and_assoc, retV, true_or, or_true, decide_eq_true_eq, if_true, if_false, Bool.false_eq_true, Bool.not_true, Bool.not_false, Bool.not_eq_true', reduceCtorEq, eq_self, decide_true, decide_false, List.length_map, exists_const, false_and, and_false, or_false, false_or, ↓reduceIte]
      exact e.trans (eT.trans e3)
    · obtain ⟨e, ⟨u2, v2, w2, rfl⟩⟩ := h
      try simp only [wipe, tC, tVar, tChain, rI0, rI, rU, tOp, tUn, tCall, tAnd, tOr, tNot, tNotV, tAndV, tOrV, tTest, tB, tIf, tIfS, tRet, tRetN, tNext, tSeq, tNil, tCons, tAug, ipI, tPar, tAsg, gName, tDrop, tLst, tTup, tCB, tBM, tBM0, tFld_eq, tMkE, tMake, tAugS, gSub, rEq, rAll, rMax, rSum, rAppend, rExtend, rSetL, _root_.L2.start, List.map_cons, List.map_nil, List.length_cons, List.length_nil, List.replicate_succ, List.replicate_zero, List.cons_append, List.nil_append, List.append_nil, List.getElem?_cons_zero, List.getElem?_cons_succ, List.set_cons_zero, List.set_cons_succ, Nat.reduceAdd, Nat.reduceSub, V.int.injEq, V.bl.injEq, V.ref.injEq, V.str.injEq, exists_eq, exists_eq', exists_eq_left, exists_eq_left', exists_and_left, exists_and_right, Option.some.injEq, List.cons.injEq, and_true, true_and, and_assoc, retV, true_or, or_true, decide_eq_true_eq, if_true, if_false, Bool.false_eq_true, Bool.not_true, Bool.not_false, Bool.not_eq_true', reduceCtorEq, eq_self, decide_true, decide_false, List.length_map, exists_const, false_and, and_false, or_false, false_or, ↓reduceIte]
      have hsH := hs.same e
      refine lc_map (gives_sq (fun Q h => ⟨_, rfl, h⟩) hsH) (Box.none (A := No) (fun _ z => z.elim)) (fun H' e => hsH.keep (fun z => z) e) (Nat.le_trans (by omega : xs.length ≤ 24) (by decide)) (fun x => rfl) (fam_tp (fam_tp fam_in)) U hl.symm (fun u => u.map srt) (fun n x u H3 D N hx hu e3 _ _ hN => ?_) fun ys H5 D5 e5 _ nD5 _ hD5 hp5 => ?_
      · obtain ⟨b, ys, rfl, _, hb, hbp⟩ := (fam_sq (fam_sq fam_in)).same (e.trans e3.same) (Paired.both hp hx hu)
        have ou := O u (List.mem_of_getElem? hu)
        have ly : ys.length = u.length := Paired.len hbp
        have lu := ou.1
        try simp only [wipe, tC, tVar, tChain, rI0, rI, rU, tOp, tUn, tCall, tAnd, tOr, tNot, tNotV, tAndV, tOrV, tTest, tB, tIf, tIfS, tRet, tRetN, tNext, tSeq, tNil, tCons, tAug, ipI, tPar, tAsg, gName, tDrop, tLst, tTup, tCB, tBM, tBM0, tFld_eq, tMkE, tMake, tAugS, gSub, rEq, rAll, rMax, rSum, rAppend, rExtend, rSetL, _root_.L2.start, List.map_cons, List.map_nil, List.length_cons, List.length_nil, List.replicate_succ, List.replicate_zero, List.cons_append, List.nil_append, List.append_nil, List.getElem?_cons_zero, List.getElem?_cons_succ, List.set_cons_zero, List.set_cons_succ, Nat.reduceAdd, Nat.reduceSub, V.int.injEq, V.bl.injEq, V.ref.injEq, V.str.injEq, exists_eq, exists_eq', exists_eq_left, exists_eq_left', exists_and_left, exists_and_right, Option.some.injEq, List.cons.injEq, and_true, true_and, and_assoc, retV, true_or, or_true, decide_eq_true_eq, if_true, if_false, Bool.false_eq_true, Bool.not_true, Bool.not_false, Bool.not_eq_true', reduceCtorEq, eq_self, decide_true, decide_false, List.length_map, exists_const, false_and, and_false, or_false, false_or, ↓reduceIte]
        refine lc_map (gives_sq (fun Q h => ⟨_, rfl, h⟩) hb) (Box.none (A := No) (fun _ z => z.elim)) (fun H' e => hb.keep (fun z => z) e) (Nat.le_trans (by omega : ys.length ≤ 24) (by decide)) (fun x => rfl) (fam_tp fam_in) u ly.symm srt (fun n x lot H6 D6 N6 hx6 hlot e6 _ _ hN6 => ?_) fun zs H7 D7 e7 _ nD7 _ hD7 hp7 => ?_
        · obtain ⟨c, cs, rfl, _, hc, hcp⟩ := (fam_sq fam_in).mono e6 (Paired.both hbp hx6 hlot)
          obtain rfl := ina_eq hcp
          try simp only [wipe, tC, tVar, tChain, rI0, rI, rU, tOp, tUn, tCall, tAnd, tOr, tNot, tNotV, tAndV, tOrV, tTest, tB, tIf, tIfS, tRet, tRetN, tNext, tSeq, tNil, tCons, tAug, ipI, tPar, tAsg, gName, tDrop, tLst, tTup, tCB, tBM, tBM0, tFld_eq, tMkE, tMake, tAugS, gSub, rEq, rAll, rMax, rSum, rAppend, rExtend, rSetL, _root_.L2.start, List.map_cons, List.map_nil, List.length_cons, List.length_nil, List.replicate_succ, List.replicate_zero, List.cons_append, List.nil_append, List.append_nil, List.getElem?_cons_zero, List.getElem?_cons_succ, List.set_cons_zero, List.set_cons_succ, Nat.reduceAdd, Nat.reduceSub, V.int.injEq, V.bl.injEq, V.ref.injEq, V.str.injEq, exists_eq, exists_eq', exists_eq_left, exists_eq_left', exists_and_left, exists_and_right, Option.some.injEq, List.cons.injEq, and_true, true_and, and_assoc, retV, true_or, or_true, decide_eq_true_eq, if_true, if_false, Bool.false_eq_true, Bool.not_true, Bool.not_false, Bool.not_eq_true', reduceCtorEq, eq_self, decide_true, decide_false, List.length_map, exists_const, false_and, and_false, or_false, false_or, ↓reduceIte]
          refine sorted_sq hc fun p np => ?_
          refine tup_sq (.inl upd_same) fun p8 H8 e8 hp8 => hN6 _ _ (.of ((same_new np).trans e8)) trivial ⟨p8, _, rfl, hp8, ina_of _⟩
        · refine tup_sq (.inl hD7) fun p8 H8 e8 hp8 => hN _ _ (.of (e7.same.trans e8)) trivial ⟨p8, _, rfl, hp8, (famT_tp famT_in).p (.of e8) hp7⟩
      · refine tup_sq (.inl hD5) fun p8 H8 e8 hp8 => q.go (e.trans (e5.same.trans e8)) ⟨p8, _, rfl, hp8, (famT_tp (famT_tp famT_in)).p (.of e8) hp5⟩
def sp_Ways (C : Addr) : Sp := fun vs H Q _ => ∃ (x dx : Addr) (m : Nat) (v : V) (U : Ups), vs = [.ref x, .int m, v] ∧ H x = some (.ins C dx []) ∧ SqF (SqF (SqF InA)) (Or1 No x) H v U ∧ 1 ≤ m ∧ UpsOk m U ∧
  ∀ H' t, SameO (Or1 No x) H H' → H' x = some (.ins C dx [("many", .int m), ("ups", t)]) → UpsR (srtU U) H' t → Q .non H'
theorem C_Ways (S : Sc K mg) : CalM prg w K mg base CX0 "Ways" (ga K "Ways") 6 ["self", "many", "ups"] (sp_Ways (ga K "Ways")) := by
  have C_is_between : Cal prg w K mg base CX0 "is_between" 2 ["value", "least", "most"] [] sp_is_between := C_is_between S
  have C_told_ups : Cal prg w K mg base CX0 "told_ups" 5 ["many", "ups"] [] sp_told_ups := C_told_ups S
  refine S.calM (d := d_Ways_init) 13 60 62 sc_Ways_init rfl rfl rfl rfl rfl rfl (fun _ _ _ _ _ _ us hl => match us, hl with | [_, _, _], _ => rfl) (fun vs H Q E h => ?_) (fun f cdv A outer s H vs Q E hr h => ?_)
  · obtain ⟨x, dx, n, v, B, rfl, _⟩ := h
    rfl
  · obtain ⟨x, dx, m, v, U, rfl, hx, hv, m1, O, q⟩ := h
    refine ⟨_, (pss_cons (ps_if (pt_not (pt_val (pe_c C_is_between (hr.mono (by omega)) pass0 (pa_cons (pv 1) (pa_cons pe_int (pa_cons (pe_gi (S.int 51)) pa_nil)))))) (pss_one ps_never) pss_nil)
      (pss_cons (ps_fld (pv 0) (pv 1) rfl)
      (pss_one (ps_fld (pv 0) (pe_c C_told_ups (hr.mono (by omega)) pass0 (pa_cons (pv 1) (pa_cons (pv 2) pa_nil))) rfl)))), ?_⟩
    have m12 := O.2.2.1
    try simp only [wipe, tC, tVar, tChain, rI0, rI, rU, tOp, tUn, tCall, tAnd, tOr, tNot, tNotV, tAndV, tOrV, tTest, tB, tIf, tIfS, tRet, tRetN, tNext, tSeq, tNil, tCons, tAug, ipI, tPar, tAsg, gName, tDrop, tLst, tTup, tCB, tBM, tBM0, tFld_eq, tMkE, tMake, tAugS, gSub, rEq, rAll, rMax, rSum, rAppend, rExtend, rSetL, _root_.L2.start, List.map_cons, List.map_nil, List.length_cons, List.length_nil, List.replicate_succ, List.replicate_zero, List.cons_append, List.nil_append, List.append_nil, List.getElem?_cons_zero, List.getElem?_cons_succ, List.set_cons_zero, List.set_cons_succ, Nat.reduceAdd, Nat.reduceSub, V.int.injEq, V.bl.injEq, V.ref.injEq, V.str.injEq, exists_eq, exists_eq', exists_eq_left, exists_eq_left', exists_and_left, exists_and_right, Option.some.injEq, List.cons.injEq, and_true, true_and, and_assoc, retV, true_or, or_true, decide_eq_true_eq, if_true, if_false, Bool.false_eq_true, Bool.not_true, Bool.not_false, Bool.not_eq_true', reduceCtorEq, eq_self, decide_true, decide_false, List.length_map, exists_const, false_and, and_false, or_false, false_or, sp_is_between, ↓reduceIte]
    intro H1 e1
    rw [show decide ((1 : Int) ≤ (m : Int) ∧ (m : Int) ≤ 12) = true from decide_eq_true (by omega)]
    try simp only [wipe, tC, tVar, tChain, rI0, rI, rU, tOp, tUn, tCall, tAnd, tOr, tNot, tNotV, tAndV, tOrV, tTest, tB, tIf, tIfS, tRet, tRetN, tNext, tSeq, tNil, tCons, tAug, ipI, tPar, tAsg, gName, tDrop, tLst, tTup, tCB, tBM, tBM0, tFld_eq, tMkE, tMake, tAugS, gSub, rEq, rAll, rMax, rSum, rAppend, rExtend, rSetL, _root_.L2.start, List.map_cons, List.map_nil, List.length_cons, List.length_nil, List.replicate_succ, List.replicate_zero, List.cons_append, List.nil_append, List.append_nil, List.getElem?_cons_zero, List.getElem?_cons_succ, List.set_cons_zero, List.set_cons_succ, Nat.reduceAdd, Nat.reduceSub, V.int.injEq, V.bl.injEq, V.ref.injEq, V.str.injEq, exists_eq, exists_eq', exists_eq_left, exists_eq_left', exists_and_left, exists_and_right, Option.some.injEq, List.cons.injEq, and_true, true_and, and_assoc, retV, true_or, or_true, decide_eq_true_eq, if_true, if_false, Bool.false_eq_true, Bool.not_true, Bool.not_false, Bool.not_eq_true', reduceCtorEq, eq_self, decide_true, decide_false, List.length_map, exists_const, false_and, and_false, or_false, false_or, sFld, ↓reduceIte]
    refine ⟨_, dx, _, e1 _ _ hx, (S.cls 61), (S.noat 65), by decide, ?_⟩
    have e2 : SameO (Or1 No x) H (upd H1 x (.ins (ga K "Ways") dx (putF "many" (.int m) []))) := SameO.trans (.of e1) (.ins (e1 _ _ hx) (.inr rfl))
    refine ⟨m, v, U, rfl, (fam_sq (fam_sq (fam_sq fam_in))).weak (fun a z => z.elim) ((fam_sq (fam_sq (fam_sq fam_in))).mono e2 hv), O, fun t H3 e3 ht => ?_⟩
    try simp only [wipe, tC, tVar, tChain, rI0, rI, rU, tOp, tUn, tCall, tAnd, tOr, tNot, tNotV, tAndV, tOrV, tTest, tB, tIf, tIfS, tRet, tRetN, tNext, tSeq, tNil, tCons, tAug, ipI, tPar, tAsg, gName, tDrop, tLst, tTup, tCB, tBM, tBM0, tFld_eq, tMkE, tMake, tAugS, gSub, rEq, rAll, rMax, rSum, rAppend, rExtend, rSetL, _root_.L2.start, List.map_cons, List.map_nil, List.length_cons, List.length_nil, List.replicate_succ, List.replicate_zero, List.cons_append, List.nil_append, List.append_nil, List.getElem?_cons_zero, List.getElem?_cons_succ, List.set_cons_zero, List.set_cons_succ, Nat.reduceAdd, Nat.reduceSub, V.int.injEq, V.bl.injEq, V.ref.injEq, V.str.injEq, exists_eq, exists_eq', exists_eq_left, exists_eq_left', exists_and_left, exists_and_right, Option.some.injEq, List.cons.injEq, and_true, true_and, and_assoc, retV, true_or, or_true, decide_eq_true_eq, if_true, if_false, Bool.false_eq_true, Bool.not_true, Bool.not_false, Bool.not_eq_true', reduceCtorEq, eq_self, decide_true, decide_false, List.length_map, exists_const, false_and, and_false, or_false, false_or, ↓reduceIte]
    have hx3 := e3 _ _ (upd_same (H := H1) (a := x) (o := .ins (ga K "Ways") dx (putF "many" (.int m) [])))
    refine ⟨_, _, _, hx3, (S.cls 61), (S.noat 66), by simp [putF], ?_⟩
    have e4 : SameO (Or1 No x) H3 (upd H3 x (.ins (ga K "Ways") dx (putF "ups" t (putF "many" (.int m) [])))) := .ins hx3 (.inr rfl)
    exact q _ t (e2.trans (SameO.trans (.of e3) e4)) upd_same (famT_ups e4.2.1 ht)
/-- an object of the class Ways -/
def WayO (K : PySem.W.Frag) (m : Nat) (U : Ups) : Hp → V → Prop := fun H v => ∃ x dx t, v = .ref x ∧ H x = some (.ins (ga K "Ways") dx [("many", .int m), ("ups", t)]) ∧ UpsR U H t
theorem same_way {m : Nat} {U : Ups} {H H' : Hp} {v : V} (e : Same H H') (h : WayO K m U H v) : WayO K m U H' v := by
  obtain ⟨x, dx, t, e1, e2, e3⟩ := h
  exact ⟨x, dx, t, e1, e _ _ e2, famT_ups (.of e) e3⟩
theorem same_bod {n : Nat} {B : List (List (List Int))} {H H' : Hp} {v : V} (e : Same H H') (h : BodO K n B H v) : BodO K n B H' v := by
  obtain ⟨x, dx, t, e1, e2, e3⟩ := h
  exact ⟨x, dx, t, e1, e _ _ e2, famT_bod (.of e) e3⟩
theorem make_ways {H : Hp} {Q : VK} {E : XK} {m : Nat} {v : V} {U : Ups} (hv : SqF (SqF (SqF InA)) No H v U) (m1 : 1 ≤ m) (O : UpsOk m U) (q : Ret (WayO K m (srtU U)) H Q) :
    ∀ x dx, H x = none → H dx = none → dx ≠ x → sp_Ways (ga K "Ways") (.ref x :: ([.int m, v] ++ [])) (upd (upd H dx (.own x)) x (.ins (ga K "Ways") dx [])) (fun v H2 => v = .non ∧ Q (.ref x) H2) E := fun x dx nx ndx hne => by
  have e1 : Same H (upd H dx (.own x)) := same_new ndx
  have e2 : Same H (upd (upd H dx (.own x)) x (.ins (ga K "Ways") dx [])) := same_mut e1 nx
  refine ⟨x, dx, m, v, U, rfl, upd_same, (fam_sq (fam_sq (fam_sq fam_in))).weak (fun a z => ?_) ((fam_sq (fam_sq (fam_sq fam_in))).same e2 ((fam_sq (fam_sq (fam_sq fam_in))).live hv)), m1, O, fun H' t e ht hb => ⟨rfl, q _ _ (fun a u h => ?_) ⟨x, dx, t, rfl, ht, hb⟩⟩⟩
  · rcases z with z | z
    · exact z.elim
    · exact .inr (z ▸ nx)
  · refine e.1 a u (fun z => ?_) (e2 a u h)
    rcases z with z | z
    · exact z
    · rw [z, nx] at h
      cases h
end
end K76
set_option Elab.async false
set_option linter.all false
set_option maxRecDepth 100000
set_option maxHeartbeats 4000000
/-! k76: Ways: ==; need_ways -/
namespace K76
open PySem PySem.Spec PyProof.Rows L2 He HK
def sp_Ways_eq (K : PySem.W.Frag) : Sp := fun vs H Q _ => ∃ (x y : V) (m : Nat) (U : Ups), vs = [x, y] ∧ WayO K m U H x ∧ WayO K m U H y ∧ RetV (.bl true) H Q
section
variable {w : World} {K : PySem.W.Frag} {mg : Str → Option Value} {base : Heap}
theorem own_Ways (S : Sc K mg) : Own K (ga K "Ways") := ⟨(S.cls 61), (S.flag 11), (S.flag 12), (S.flag 13), (S.flag 9), (S.flag 10)⟩
theorem own_Bodies (S : Sc K mg) : Own K (ga K "Bodies") := ⟨(S.cls 58), (S.flag 5), (S.flag 12), (S.flag 13), (S.flag 3), (S.flag 4)⟩
theorem way_many (S : Sc K mg) {m : Nat} {U : Ups} {H : Hp} {v : V} {Q : VK} (h : WayO K m U H v) (q : Q (.int m) H) : rFld K "many" v H Q := by
  obtain ⟨x, dx, t, rfl, hx, ht⟩ := h
  exact ⟨x, _, dx, _, _, rfl, hx, (S.cls 61), (S.noat 65), rfl, q⟩
theorem way_ups (S : Sc K mg) {m : Nat} {U : Ups} {H : Hp} {v : V} {Q : VK} (h : WayO K m U H v) (q : ∀ t, UpsR U H t → Q t H) : rFld K "ups" v H Q := by
  obtain ⟨x, dx, t, rfl, hx, ht⟩ := h
  exact ⟨x, _, dx, _, _, rfl, hx, (S.cls 61), (S.noat 66), rfl, q t ht⟩
theorem bod_axes (S : Sc K mg) {n : Nat} {B : List (List (List Int))} {H : Hp} {v : V} {Q : VK} (h : BodO K n B H v) (q : Q (.int n) H) : rFld K "axes" v H Q := by
  obtain ⟨x, dx, t, rfl, hx, ht⟩ := h
  exact ⟨x, _, dx, _, _, rfl, hx, (S.cls 58), (S.noat 63), rfl, q⟩
theorem bod_bodies (S : Sc K mg) {n : Nat} {B : List (List (List Int))} {H : Hp} {v : V} {Q : VK} (h : BodO K n B H v) (q : ∀ t, BodR B H t → Q t H) : rFld K "bodies" v H Q := by
  obtain ⟨x, dx, t, rfl, hx, ht⟩ := h
  exact ⟨x, _, dx, _, _, rfl, hx, (S.cls 58), (S.noat 64), rfl, q t ht⟩
theorem isi_way (S : Sc K mg) {m : Nat} {U : Ups} {H : Hp} {v : V} {Q : VK} (h : WayO K m U H v) (q : Q (.bl true) H) : rIsi K [v, .ref (ga K "Ways")] H Q := by
  obtain ⟨x, dx, t, rfl, hx, ht⟩ := h
  exact isi_own (own_Ways S) hx q
theorem isi_bod (S : Sc K mg) {n : Nat} {B : List (List (List Int))} {H : Hp} {v : V} {Q : VK} (h : BodO K n B H v) (q : Q (.bl true) H) : rIsi K [v, .ref (ga K "Bodies")] H Q := by
  obtain ⟨x, dx, t, rfl, hx, ht⟩ := h
  exact isi_own (own_Bodies S) hx q
theorem C_Ways_eq (S : Sc K mg) : CalE prg w K mg base CX0 (ga K "Ways") 1 ["self", "other"] (sp_Ways_eq K) := by
  refine S.calE (d := d_Ways_eq) 14 sc_Ways_eq rfl rfl rfl rfl ⟨eqO_ok (S.flag 6), eqO_ok (S.flag 7), (S.flag 8), of_decide_eq_true (S.flag 9)⟩ (fun _ _ _ _ _ _ us hl => match us, hl with | [_, _], _ => rfl) (fun vs H Q E h => ?_) (fun f cdv A outer s H vs Q E hr h => ?_)
  · obtain ⟨x, y, m, U, rfl, _⟩ := h
    rfl
  · obtain ⟨x, y, m, U, rfl, hx, hy, q⟩ := h
    refine ⟨_, (pss_one (ps_ret (pe_and (pe_callB call_isi (by rfl) (S.free 40) (by decide +kernel) (pa_cons (pv 1) (pa_cons (pe_gc (S.glo 60)) pa_nil))) (pe_and (pe_cmpR op_eq (pe_fld (pv 0) rfl) (pe_fld (pv 1) rfl) (nomark _)) (pe_one (pe_cmpR (op_eqD hr.units) (pe_fld (pv 0) rfl) (pe_fld (pv 1) rfl) (nomark _))))))), ?_⟩
    try simp only [wipe, tC, tVar, tChain, rI0, rI, rU, tOp, tUn, tCall, tAnd, tOr, tNot, tNotV, tAndV, tOrV, tTest, tB, tIf, tIfS, tRet, tRetN, tNext, tSeq, tNil, tCons, tAug, ipI, tPar, tAsg, gName, tDrop, tLst, tTup, tCB, tBM, tBM0, tFld_eq, tMkE, tMake, tAugS, gSub, rEq, rAll, rMax, rSum, rAppend, rExtend, rSetL, _root_.L2.start, List.map_cons, List.map_nil, List.length_cons, List.length_nil, List.replicate_succ, List.replicate_zero, List.cons_append, List.nil_append, List.append_nil, List.getElem?_cons_zero, List.getElem?_cons_succ, List.set_cons_zero, List.set_cons_succ, Nat.reduceAdd, Nat.reduceSub, V.int.injEq, V.bl.injEq, V.ref.injEq, V.str.injEq, exists_eq, exists_eq', exists_eq_left, exists_eq_left', exists_and_left, exists_and_right, Option.some.injEq, List.cons.injEq, and_true, true_and, and_assoc, retV, true_or, or_true, decide_eq_true_eq, if_true, if_false, Bool.false_eq_true, Bool.not_true, Bool.not_false, Bool.not_eq_true', reduceCtorEq, eq_self, decide_true, decide_false, List.length_map, exists_const, false_and, and_false, or_false, false_or, ↓reduceIte]
    refine isi_way S hy ?_
    try simp only [wipe, tC, tVar, tChain, rI0, rI, rU, tOp, tUn, tCall, tAnd, tOr, tNot, tNotV, tAndV, tOrV, tTest, tB, tIf, tIfS, tRet, tRetN, tNext, tSeq, tNil, tCons, tAug, ipI, tPar, tAsg, gName, tDrop, tLst, tTup, tCB, tBM, tBM0, tFld_eq, tMkE, tMake, tAugS, gSub, rEq, rAll, rMax, rSum, rAppend, rExtend, rSetL, _root_.L2.start, List.map_cons, List.map_nil, List.length_cons, List.length_nil, List.replicate_succ, List.replicate_zero, List.cons_append, List.nil_append, List.append_nil, List.getElem?_cons_zero, List.getElem?_cons_succ, List.set_cons_zero, List.set_cons_succ, Nat.reduceAdd, Nat.reduceSub, V.int.injEq, V.bl.injEq, V.ref.injEq, V.str.injEq, exists_eq, exists_eq', exists_eq_left, exists_eq_left', exists_and_left, exists_and_right, Option.some.injEq, List.cons.injEq, and_true, true_and, and_assoc, retV, true_or, or_true, decide_eq_true_eq, if_true, if_false, Bool.false_eq_true, Bool.not_true, Bool.not_false, Bool.not_eq_true', reduceCtorEq, eq_self, decide_true, decide_false, List.length_map, exists_const, false_and, and_false, or_false, false_or, ↓reduceIte]
    refine way_many S hx (way_many S hy ?_)
    try simp only [wipe, tC, tVar, tChain, rI0, rI, rU, tOp, tUn, tCall, tAnd, tOr, tNot, tNotV, tAndV, tOrV, tTest, tB, tIf, tIfS, tRet, tRetN, tNext, tSeq, tNil, tCons, tAug, ipI, tPar, tAsg, gName, tDrop, tLst, tTup, tCB, tBM, tBM0, tFld_eq, tMkE, tMake, tAugS, gSub, rEq, rAll, rMax, rSum, rAppend, rExtend, rSetL, _root_.L2.start, List.map_cons, List.map_nil, List.length_cons, List.length_nil, List.replicate_succ, List.replicate_zero, List.cons_append, List.nil_append, List.append_nil, List.getElem?_cons_zero, List.getElem?_cons_succ, List.set_cons_zero, List.set_cons_succ, Nat.reduceAdd, Nat.reduceSub, V.int.injEq, V.bl.injEq, V.ref.injEq, V.str.injEq, exists_eq, exists_eq', exists_eq_left, exists_eq_left', exists_and_left, exists_and_right, Option.some.injEq, List.cons.injEq, and_true, true_and, and_assoc, retV, true_or, or_true, decide_eq_true_eq, if_true, if_false, Bool.false_eq_true, Bool.not_true, Bool.not_false, Bool.not_eq_true', reduceCtorEq, eq_self, decide_true, decide_false, List.length_map, exists_const, false_and, and_false, or_false, false_or, scal, ↓reduceIte]
    refine way_ups S hx fun t ht => way_ups S hy fun u hu => eqD_ups ht hu ?_
    exact q.go (Same.refl _) rfl
end
end K76
set_option Elab.async false
set_option linter.all false
set_option maxRecDepth 100000
set_option maxHeartbeats 4000000
/-! k76: need_ways -/
namespace K76
open PySem PySem.Spec PyProof.Rows L2 He HK
section
variable {w : World} {K : PySem.W.Frag} {mg : Str → Option Value} {base : Heap}
theorem mk_InvalidWays {X : Cx} (S : Sc X.K X.mg) (hp : X.prog = prg) {a : Expr} {ta : TA} {p pos : Pos} {k : Nat} (hr : Room k X.A) (ha : PA X [a] ta) (hg : Gl X "InvalidWays")
    (he : starEach (a :: []) X.env = (false, eval a X.env) :: starEach [] X.env) (hpl : (backTo pos (starEach [] X.env)).any (·.1) = false) : PMk X (.Call (.Name "InvalidWays" p) [a] [] pos) (tMkE (ga X.K "InvalidWays") "at" (fun _ => True) ta) :=
  mk_err (e0 := e_InvalidWays) hp (S.err 3) rfl rfl ⟨by decide +kernel, rfl, rfl, rfl, rfl, rfl, rfl, rfl, by decide, rfl, fun _ _ _ _ _ => rfl, fun _ _ _ _ _ => rfl, fun _ _ _ _ _ => rfl, fun _ _ _ _ _ => ⟨_, rfl⟩, fun _ _ _ _ _ _ _ _ _ => rfl⟩ (fun _ _ _ _ => PySem.HKErr.arg_const) (S.glo 70) hr ha hg rfl he hpl
theorem mk_Refused {X : Cx} (S : Sc X.K X.mg) (hp : X.prog = prg) {a : Expr} {ta : TA} {p pos : Pos} {k : Nat} (hr : Room k X.A) (ha : PA X [a] ta) (hg : Gl X "Refused")
    (he : starEach (a :: []) X.env = (false, eval a X.env) :: starEach [] X.env) (hpl : (backTo pos (starEach [] X.env)).any (·.1) = false) : PMk X (.Call (.Name "Refused" p) [a] [] pos) (tMkE (ga X.K "Refused") "at" (fun _ => True) ta) :=
  mk_err (e0 := e_Refused) hp (S.err 5) rfl rfl ⟨by decide +kernel, rfl, rfl, rfl, rfl, rfl, rfl, rfl, by decide, rfl, fun _ _ _ _ _ => rfl, fun _ _ _ _ _ => rfl, fun _ _ _ _ _ => rfl, fun _ _ _ _ _ => ⟨_, rfl⟩, fun _ _ _ _ _ _ _ _ _ => rfl⟩ (fun _ _ _ _ => PySem.HKErr.arg_const) (S.glo 72) hr ha hg rfl he hpl
/-- lets out an error of the class, its field so -/
def Err (C : Addr) (f : Str) (v : V) (H : Hp) (E : XK) : Prop := ∀ H1 d, Same H H1 → H1 d = none → E (.ref C) (some d) (upd H1 d (.xd [(f, v)]))
/-- not an object of one of our classes -/
def Alien (K : PySem.W.Frag) (H : Hp) (x : V) : Prop := ∃ T, TyX K H x (.type T) ∧ ∀ C : Addr, (fastBuiltinMro T).map (·.contains (.ref C)) = some false
def sp_need_ways (K : PySem.W.Frag) : Sp := fun vs H Q E => ∃ x, vs = [x, .int (-1), .non] ∧ ((∃ m U, WayO K m U H x ∧ RetV .non H Q) ∨ Alien K H x ∧ Err (ga K "InvalidWays") "at" (.int (-1)) H E)
theorem C_need_ways (S : Sc K mg) : Cal prg w K mg base (L2.CX prg w) "need_ways" 1 ["value", "at", "axes"] [.int (-1), .non] (sp_need_ways K) := by
  refine S.calD (d := d_need_ways) 17 13 1 [.int (-1), .non] sc_need_ways rfl rfl rfl rfl (by decide) rfl (fun _ _ _ _ _ _ _ us its h1 h2 => match us, its, h1, h2 with | [_], [_, _], _, _ => ⟨_, rfl, rfl⟩) (fun vs H Q E h => ?_) (fun f cdv A outer s H vs Q E hr h => ?_)
  · obtain ⟨x, rfl, _⟩ := h
    rfl
  · obtain ⟨x, rfl, h⟩ := h
    refine ⟨_, (pss_one (ps_if (PW.pt (pw_or (pt_not (pt_val (pe_callB call_isi (by rfl) (S.free 40) (by decide +kernel) (pa_cons (pv 0) (pa_cons (pe_gc (S.glo 60)) pa_nil))))) (pw_or1 (PW.pt (pw_and (pt_cmpR op_notN (pv 2) pe_non (nomark _)) (pw_and1 (pt_cmpR op_ne (pe_callB cr_lenA (by rfl) (S.free 41) (by decide +kernel) (pa_cons (pe_fld (pv 0) rfl) pa_nil)) (pv 2) (nomark _)))))))) (pss_one (ps_raise rfl (takes_of rfl rfl rfl rfl) (mk_InvalidWays S rfl hr (pa_cons (pv 1) pa_nil) rfl rfl rfl))) pss_nil)), ?_⟩
    rcases h with ⟨m, U, h, q⟩ | ⟨⟨T, hT, hm⟩, hE⟩
    · try simp only [wipe, tC, tVar, tChain, rI0, rI, rU, tOp, tUn, tCall, tAnd, tOr, tNot, tNotV, tAndV, tOrV, tTest, tB, tIf, tIfS, tRet, tRetN, tNext, tSeq, tNil, tCons, tAug, ipI, tPar, tAsg, gName, tDrop, tLst, tTup, tCB, tBM, tBM0, tFld_eq, tMkE, tMake, tAugS, gSub, rEq, rAll, rMax, rSum, rAppend, rExtend, rSetL, _root_.L2.start, List.map_cons, List.map_nil, List.length_cons, List.length_nil, List.replicate_succ, List.replicate_zero, List.cons_append, List.nil_append, List.append_nil, List.getElem?_cons_zero, List.getElem?_cons_succ, List.set_cons_zero, List.set_cons_succ, Nat.reduceAdd, Nat.reduceSub, V.int.injEq, V.bl.injEq, V.ref.injEq, V.str.injEq, exists_eq, exists_eq', exists_eq_left, exists_eq_left', exists_and_left, exists_and_right, Option.some.injEq, List.cons.injEq, and_true, true_and, and_assoc, retV, true_or, or_true, decide_eq_true_eq, if_true, if_false, Bool.false_eq_true, Bool.not_true, Bool.not_false, Bool.not_eq_true', reduceCtorEq, eq_self, decide_true, decide_false, List.length_map, exists_const, false_and, and_false, or_false, false_or, ↓reduceIte]
      refine isi_way S h ?_
      try simp only [wipe, tC, tVar, tChain, rI0, rI, rU, tOp, tUn, tCall, tAnd, tOr, tNot, tNotV, tAndV, tOrV, tTest, tB, tIf, tIfS, tRet, tRetN, tNext, tSeq, tNil, tCons, tAug, ipI, tPar, tAsg, gName, tDrop, tLst, tTup, tCB, tBM, tBM0, tFld_eq, tMkE, tMake, tAugS, gSub, rEq, rAll, rMax, rSum, rAppend, rExtend, rSetL, _root_.L2.start, List.map_cons, List.map_nil, List.length_cons, List.length_nil, List.replicate_succ, List.replicate_zero, List.cons_append, List.nil_append, List.append_nil, List.getElem?_cons_zero, List.getElem?_cons_succ, List.set_cons_zero, List.set_cons_succ, Nat.reduceAdd, Nat.reduceSub, V.int.injEq, V.bl.injEq, V.ref.injEq, V.str.injEq, exists_eq, exists_eq', exists_eq_left, exists_eq_left', exists_and_left, exists_and_right, Option.some.injEq, List.cons.injEq, and_true, true_and, and_assoc, retV, true_or, or_true, decide_eq_true_eq, if_true, if_false, Bool.false_eq_true, Bool.not_true, Bool.not_false, Bool.not_eq_true', reduceCtorEq, eq_self, decide_true, decide_false, List.length_map, exists_const, false_and, and_false, or_false, false_or, ↓reduceIte]
      exact q.go (Same.refl _) rfl
    · try simp only [wipe, tC, tVar, tChain, rI0, rI, rU, tOp, tUn, tCall, tAnd, tOr, tNot, tNotV, tAndV, tOrV, tTest, tB, tIf, tIfS, tRet, tRetN, tNext, tSeq, tNil, tCons, tAug, ipI, tPar, tAsg, gName, tDrop, tLst, tTup, tCB, tBM, tBM0, tFld_eq, tMkE, tMake, tAugS, gSub, rEq, rAll, rMax, rSum, rAppend, rExtend, rSetL, _root_.L2.start, List.map_cons, List.map_nil, List.length_cons, List.length_nil, List.replicate_succ, List.replicate_zero, List.cons_append, List.nil_append, List.append_nil, List.getElem?_cons_zero, List.getElem?_cons_succ, List.set_cons_zero, List.set_cons_succ, Nat.reduceAdd, Nat.reduceSub, V.int.injEq, V.bl.injEq, V.ref.injEq, V.str.injEq, exists_eq, exists_eq', exists_eq_left, exists_eq_left', exists_and_left, exists_and_right, Option.some.injEq, List.cons.injEq, and_true, true_and, and_assoc, retV, true_or, or_true, decide_eq_true_eq, if_true, if_false, Bool.false_eq_true, Bool.not_true, Bool.not_false, Bool.not_eq_true', reduceCtorEq, eq_self, decide_true, decide_false, List.length_map, exists_const, false_and, and_false, or_false, false_or, ↓reduceIte]
      refine isi_not (own_Ways S) hT hm ?_
      try simp only [wipe, tC, tVar, tChain, rI0, rI, rU, tOp, tUn, tCall, tAnd, tOr, tNot, tNotV, tAndV, tOrV, tTest, tB, tIf, tIfS, tRet, tRetN, tNext, tSeq, tNil, tCons, tAug, ipI, tPar, tAsg, gName, tDrop, tLst, tTup, tCB, tBM, tBM0, tFld_eq, tMkE, tMake, tAugS, gSub, rEq, rAll, rMax, rSum, rAppend, rExtend, rSetL, _root_.L2.start, List.map_cons, List.map_nil, List.length_cons, List.length_nil, List.replicate_succ, List.replicate_zero, List.cons_append, List.nil_append, List.append_nil, List.getElem?_cons_zero, List.getElem?_cons_succ, List.set_cons_zero, List.set_cons_succ, Nat.reduceAdd, Nat.reduceSub, V.int.injEq, V.bl.injEq, V.ref.injEq, V.str.injEq, exists_eq, exists_eq', exists_eq_left, exists_eq_left', exists_and_left, exists_and_right, Option.some.injEq, List.cons.injEq, and_true, true_and, and_assoc, retV, true_or, or_true, decide_eq_true_eq, if_true, if_false, Bool.false_eq_true, Bool.not_true, Bool.not_false, Bool.not_eq_true', reduceCtorEq, eq_self, decide_true, decide_false, List.length_map, exists_const, false_and, and_false, or_false, false_or, ↓reduceIte]
      exact fun d nd => hE _ d (Same.refl _) nd
end
end K76
set_option Elab.async false
set_option linter.all false
set_option maxRecDepth 100000
set_option maxHeartbeats 4000000
/-! k76: met_pairs, need_few_cells -/
namespace K76
open PySem PySem.Spec PyProof.Rows L2 He HK
def lotAt (U : Ups) (a b : Nat) : List Int := (U.getD a []).getD b []
/-- those met, by body, along one axis -/
def prsB (U : Ups) (a j : Nat) : List (List Int) := (List.range j).flatMap fun b => (lotAt U a b).map fun o => [(a : Int), (b : Int), o]
def prsTo (U : Ups) (m i : Nat) : List (List Int) := (List.range i).flatMap fun a => prsB U a m
def prs (U : Ups) (m : Nat) : List (List Int) := prsTo U m U.length
theorem prsTo_succ (U : Ups) (m i : Nat) : prsTo U m (i + 1) = prsTo U m i ++ prsB U i m := by simp [prsTo, List.range_succ]
theorem prsB_succ (U : Ups) (a j : Nat) : prsB U a (j + 1) = prsB U a j ++ (lotAt U a j).map fun o => [(a : Int), (j : Int), o] := by simp [prsB, List.range_succ]
theorem lotAt_le {m : Nat} {U : Ups} (O : UpsOk m U) (a b : Nat) : (lotAt U a b).length ≤ m := by
  unfold lotAt
  cases hu : U[a]? with
  | none => simp [List.getD, hu]
  | some u =>
    cases hl : u[b]? with
    | none => simp [List.getD, hu, hl]
    | some l =>
      simp only [List.getD, hu, hl, Option.getD_some]
      exact (O.2.2.2 u (List.mem_of_getElem? hu)).le hl
theorem prsB_le {m : Nat} {U : Ups} (O : UpsOk m U) (a j : Nat) : (prsB U a j).length ≤ j * m := by
  induction j with
  | zero => simp [prsB]
  | succ j ih =>
    rw [prsB_succ, List.length_append, List.length_map, Nat.succ_mul]
    have := lotAt_le O a j
    omega
theorem prsTo_le {m : Nat} {U : Ups} (O : UpsOk m U) (i : Nat) : (prsTo U m i).length ≤ i * (m * m) := by
  induction i with
  | zero => simp [prsTo]
  | succ i ih =>
    rw [prsTo_succ, List.length_append, Nat.succ_mul]
    have := prsB_le O i m
    omega
theorem lotAt_of {U : Ups} {a b : Nat} {u : List (List Int)} {l : List Int} (hu : U[a]? = some u) (hl : u[b]? = some l) : lotAt U a b = l := by
  unfold lotAt
  simp only [List.getD, hu, hl, Option.getD_some]
/-- how often a body is in a list of pairs -/
def cntOf (ps : List (List Int)) (k : Nat) : Nat := ps.countP (fun p => p.getD 0 (-1) = (k : Int)) + ps.countP (fun p => p.getD 1 (-1) = (k : Int))
def cntL (m : Nat) (ps : List (List Int)) : List Int := (List.range m).map fun k => (cntOf ps k : Int)
def atLeast1 (c : Int) : Int := if c > 1 then c else 1
def toldL (m : Nat) (ps : List (List Int)) : List Int := (cntL m ps).map atLeast1
def Few (ts : List Int) : Prop := (∀ x ∈ ts, x ≤ 60) ∧ ts.sum ≤ 400
def PairsOk (m : Nat) (ps : List (List Int)) : Prop := ∀ p ∈ ps, ∃ b o : Nat, p = [(b : Int), (o : Int)] ∧ b < m ∧ o < m
theorem cntL_step {m : Nat} {ps : List (List Int)} {b o : Nat} (hb : b < m) (ho : o < m) : cntL m (ps ++ [[(b : Int), (o : Int)]]) =
    ((cntL m ps).set b ((cntOf ps b : Int) + 1)).set o ((((cntL m ps).set b ((cntOf ps b : Int) + 1))[o]?.getD 0) + 1) := by
  refine List.ext_getElem? fun k => ?_
  by_cases hk : k < m
  · have h1 : (cntL m (ps ++ [[(b : Int), (o : Int)]]))[k]? = some (cntOf (ps ++ [[(b : Int), (o : Int)]]) k : Int) := by simp [cntL, hk]
    have hl : ((cntL m ps).set b ((cntOf ps b : Int) + 1)).length = m := by simp [cntL]
    have hl0 : (cntL m ps).length = m := by simp [cntL]
    have h2 : ∀ j, j < m → ((cntL m ps).set b ((cntOf ps b : Int) + 1))[j]? = some (if b = j then (cntOf ps b : Int) + 1 else (cntOf ps j : Int)) := by
      intro j hj
      rw [List.getElem?_set]
      by_cases e : b = j
      · subst e
        simp [hl0, hj]
      · simp [e, cntL, hj]
    rw [h1, List.getElem?_set, hl, h2 o ho, h2 k hk]
    have hc : cntOf (ps ++ [[(b : Int), (o : Int)]]) k = cntOf ps k + (if b = k then 1 else 0) + (if o = k then 1 else 0) := by
      unfold cntOf
      rw [List.countP_append, List.countP_append, List.countP_singleton, List.countP_singleton]
      have e1 : (([(b : Int), (o : Int)] : List Int).getD 0 (-1) = (k : Int)) = (b = k) := by simp; omega
      have e2 : (([(b : Int), (o : Int)] : List Int).getD 1 (-1) = (k : Int)) = (o = k) := by simp; omega
      simp only [e1, e2, decide_eq_true_eq]
      omega
    rw [hc]
    by_cases e1 : b = k <;> by_cases e2 : o = k <;> simp [e1, e2, hk] <;> omega
  · rw [List.getElem?_eq_none (by simp [cntL]; omega), List.getElem?_eq_none (by simp [cntL]; omega)]
def sp_need_few (K : PySem.W.Frag) : Sp := fun vs H Q E => ∃ (m : Nat) (v : V) (ps : List (List Int)), vs = [.int m, v] ∧ 1 ≤ m ∧ m ≤ 12 ∧ LsF (TpF InA) No H v ps ∧ ps.length ≤ 4000 ∧ PairsOk m ps ∧ (Few (toldL m ps) → RetV .non H Q) ∧ (¬Few (toldL m ps) → Err (ga K "InvalidSize") "word" (.str "cells") H E)
theorem prs_mem {m : Nat} {U : Ups} (O : UpsOk m U) {p : List Int} (h : p ∈ prs U m) : ∃ a b o : Nat, p = [(a : Int), (b : Int), (o : Int)] ∧ a < U.length ∧ b < m ∧ o < m ∧ b ≠ o ∧ (o : Int) ∈ lotAt U a b := by
  simp only [prs, prsTo, prsB, List.mem_flatMap, List.mem_range, List.mem_map] at h
  obtain ⟨a, ha, b, hb, o, ho, rfl⟩ := h
  obtain ⟨u, hu⟩ := getI (xs := U) ha
  have ou := O.2.2.2 u (List.mem_of_getElem? hu)
  obtain ⟨l, hl⟩ := getI (xs := u) (i := b) (by have := ou.1; omega)
  have ho' := ho
  rw [lotAt_of hu hl] at ho
  obtain ⟨h1, h2, h3⟩ := (ou.2 b l hl).2 o ho
  refine ⟨a, b, o.toNat, by rw [Int.toNat_of_nonneg h1], ha, hb, by omega, by omega, ?_⟩
  rw [Int.toNat_of_nonneg h1]
  exact ho'
def sp_met_pairs (K : PySem.W.Frag) : Sp := fun vs H Q _ => ∃ x m U, vs = [x] ∧ WayO K m U H x ∧ UpsOk m U ∧ ∀ v H', Same H H' → LsF (TpF InA) (Old H) H' v (prs U m) → Q v H'
section
variable {w : World} {K : PySem.W.Frag} {mg : Str → Option Value} {base : Heap}
theorem fld_at {H : Hp} {Q : VK} {x C dx : Addr} {fs : List (Str × V)} {f : Str} {v : V} (hx : H x = some (.ins C dx fs)) (c : Cls K C) (n : NoAttr K C f) (hl : fs.lookup f = some v) (q : Q v H) : rFld K f (.ref x) H Q := ⟨x, C, dx, fs, v, rfl, hx, c, n, hl, q⟩
theorem argok_size {X : Cx} (S : Sc X.K X.mg) (hp : X.prog = prg) : ∀ (v : V) (u : Value), (∃ x, v = .str x ∧ x.length ≤ 1000) → RelV v u → PySem.HKErr.ArgOk X.prog X.w X.mg e_InvalidSize.scope (match (e_InvalidSize.body.headD (.Pass ⟨0,0,0,0⟩)) with | .Expr (.Call _ [e] _ _) _ => e | _ => .Constant .none 0 ⟨0,0,0,0⟩) e_InvalidSize.fld u := by
  intro v u hv r
  obtain ⟨x, rfl, hx⟩ := hv
  obtain ⟨t, rfl⟩ := r
  intro L a cc cd q A s Q E m hL hm hG hB k
  obtain ⟨mb, hb, hbe⟩ := hB
  refine wpAny_BinOp (wpAny_Constant_str ?_)
  refine wpAny_Call_Name_kw (wpAny_Name (PySem.W.ks_loadName_global rfl rfl (Calls.loadGlobal_builtin hG (S.free 46) hb ((hbe _ (by decide +kernel)).trans (show bootBuiltins "str" = some (.type "str") by decide +kernel)) ?_)) (by decide))
  refine PyProof.Rows.callWith_type1 (Calls.spliced_cons (wpAny_Name (wpAny_loadName_local rfl rfl hL hm ?_) (by decide))) (by rfl) (by rfl)
  refine Calls.spliced_nil ?_
  refine PySem.P.str_of_str ?_
  refine PyProof.Rows.add_str (fun t' tk => k _ _) ?_
  rw [sizeLine_eq]
  have : ("too great: " : Str).length = 11 := by decide +kernel
  omega
theorem mk_InvalidSize {X : Cx} (S : Sc X.K X.mg) (hp : X.prog = prg) {a : Expr} {ta : TA} {p pos : Pos} {k : Nat} (hr : Room k X.A) (ha : PA X [a] ta) (hg : Gl X "InvalidSize")
    (he : starEach (a :: []) X.env = (false, eval a X.env) :: starEach [] X.env) (hpl : (backTo pos (starEach [] X.env)).any (·.1) = false) : PMk X (.Call (.Name "InvalidSize" p) [a] [] pos) (tMkE (ga X.K "InvalidSize") "word" (fun v => ∃ x, v = .str x ∧ x.length ≤ 1000) ta) :=
  mk_err (e0 := e_InvalidSize) hp (S.err 4) rfl rfl ⟨by decide +kernel, rfl, rfl, rfl, rfl, rfl, rfl, rfl, by decide, rfl, fun _ _ _ _ _ => rfl, fun _ _ _ _ _ => rfl, fun _ _ _ _ _ => rfl, fun _ _ _ _ _ => ⟨_, rfl⟩, fun _ _ _ _ _ _ _ _ _ => rfl⟩ (argok_size S hp) (S.glo 71) hr ha hg rfl he hpl
theorem C_met_pairs (S : Sc K mg) : Cal prg w K mg base CX0 "met_pairs" 1 ["ways"] [] (sp_met_pairs K) := by
  refine S.cal (d := d_met_pairs) 19 15 sc_met_pairs rfl rfl rfl rfl rfl (fun _ _ _ _ _ _ us hl => match us, hl with | [_], _ => rfl) (fun vs H Q E h => ?_) (fun f cdv A outer s H vs Q E hr h => ?_)
  · obtain ⟨x, m, U, rfl, _⟩ := h
    rfl
  · obtain ⟨_, m, U, rfl, ⟨x, dx, t, rfl, hx, a, us, rfl, ha, hp⟩, O, q⟩ := h
    refine ⟨_, (pss_cons (ps_set (i := 1) sc_met_pairs.nd rfl (by first | exact Or.inl rfl | exact Or.inr rfl) (pe_lst pa_nil))
      (pss_cons (ps_for PassesOwn.never rfl (pi_enS (S.free 38) (pa_cons (pe_fld (pv 0) rfl) pa_nil)) (pg_tup (by rfl) (pgs_cons (pg_name (i := 2) sc_met_pairs.nd rfl (by first | exact Or.inl rfl | exact Or.inr rfl)) (pgs_cons (pg_name (i := 3) sc_met_pairs.nd rfl (by first | exact Or.inl rfl | exact Or.inr rfl)) pgs_nil))) (pss_one (ps_for PassesOwn.never rfl (pi_enS (S.free 38) (pa_cons (pv 3) pa_nil)) (pg_tup (by rfl) (pgs_cons (pg_name (i := 4) sc_met_pairs.nd rfl (by first | exact Or.inl rfl | exact Or.inr rfl)) (pgs_cons (pg_name (i := 5) sc_met_pairs.nd rfl (by first | exact Or.inl rfl | exact Or.inr rfl)) pgs_nil))) (pss_one (ps_expr (pe_bm PySem.F.plainAttrs_list PySem.F.slot_list_extend PySem.F.type_list_extend mt_extend (pv 1) (pa_cons (pe_lc (own := [("other", 6)]) (g := (gName 6)) (tt := tYes) rfl sc_met_pairs.nd (pi_seq (pv 5)) (blkOk_by (N := ["ways", "found", "axis", "up", "body", "lot", "other"]) (sc := defScope s_met_pairs) (by decide +kernel)) (fun _ _ _ _ _ => (pg_name (i := 6) sc_met_pairs.nd rfl (by first | exact Or.inl rfl | exact Or.inr rfl))) (fun _ _ _ _ _ => pts_nil) (fun _ _ _ _ _ => (pe_tup (pa_cons (pv 2) (pa_cons (pv 4) (pa_cons (pv 6) pa_nil)))))) pa_nil)))))))
      (pss_one (ps_ret (pv 1))))), ?_⟩
    have hl : us.length = U.length := Paired.len hp
    have U24 := O.2.1
    have m12 := O.2.2.1
    try simp only [wipe, tC, tVar, tChain, rI0, rI, rU, tOp, tUn, tCall, tAnd, tOr, tNot, tNotV, tAndV, tOrV, tTest, tB, tIf, tIfS, tRet, tRetN, tNext, tSeq, tNil, tCons, tAug, ipI, tPar, tAsg, gName, tDrop, tLst, tTup, tCB, tBM, tBM0, tFld_eq, tMkE, tMake, tAugS, gSub, rEq, rAll, rMax, rSum, rAppend, rExtend, rSetL, _root_.L2.start, List.map_cons, List.map_nil, List.length_cons, List.length_nil, List.replicate_succ, List.replicate_zero, List.cons_append, List.nil_append, List.append_nil, List.getElem?_cons_zero, List.getElem?_cons_succ, List.set_cons_zero, List.set_cons_succ, Nat.reduceAdd, Nat.reduceSub, V.int.injEq, V.bl.injEq, V.ref.injEq, V.str.injEq, exists_eq, exists_eq', exists_eq_left, exists_eq_left', exists_and_left, exists_and_right, Option.some.injEq, List.cons.injEq, and_true, true_and, and_assoc, retV, true_or, or_true, decide_eq_true_eq, if_true, if_false, Bool.false_eq_true, Bool.not_true, Bool.not_false, Bool.not_eq_true', reduceCtorEq, eq_self, decide_true, decide_false, List.length_map, exists_const, false_and, and_false, or_false, false_or, ↓reduceIte]
    refine ⟨by decide, fun F nF => ?_⟩
    have e0 : Same H (upd H F (.lst [])) := same_new nF
    have hnF : ∀ H', Same H H' → ∀ z, H z ≠ none → z ≠ F := fun _ _ z hz e => hz (e ▸ nF)
    refine for_en (xs := us) (a := a) (fun Q h => ?_) (.inr (e0 _ _ ha)) (fun i σ H' => Same H H' ∧ (∃ u2 u3 u4 u5 u6, σ = [some (.ref x), some (.ref F), u2, u3, u4, u5, u6]) ∧ ∃ ts, H' F = some (.lst ts) ∧ Paired (TpF InA No H') ts (prsTo U m i))
      ⟨e0, ⟨_, _, _, _, _, rfl⟩, [], upd_same, .nil⟩ (fun i σ H' _ h => ?_) (fun i u σ H' T hi hu h nT => ?_) (fun σ H' h => ?_)
    · try simp only [wipe, tC, tVar, tChain, rI0, rI, rU, tOp, tUn, tCall, tAnd, tOr, tNot, tNotV, tAndV, tOrV, tTest, tB, tIf, tIfS, tRet, tRetN, tNext, tSeq, tNil, tCons, tAug, ipI, tPar, tAsg, gName, tDrop, tLst, tTup, tCB, tBM, tBM0, tFld_eq, tMkE, tMake, tAugS, gSub, rEq, rAll, rMax, rSum, rAppend, rExtend, rSetL, _root_.L2.start, List.map_cons, List.map_nil, List.length_cons, List.length_nil, List.replicate_succ, List.replicate_zero, List.cons_append, List.nil_append, List.append_nil, List.getElem?_cons_zero, List.getElem?_cons_succ, List.set_cons_zero, List.set_cons_succ, Nat.reduceAdd, Nat.reduceSub, V.int.injEq, V.bl.injEq, V.ref.injEq, V.str.injEq, exists_eq, exists_eq', exists_eq_left, exists_eq_left', exists_and_left, exists_and_right, Option.some.injEq, List.cons.injEq, and_true, true_and, and_assoc, retV, true_or, or_true, decide_eq_true_eq, if_true, if_false, Bool.false_eq_true, Bool.not_true, Bool.not_false, Bool.not_eq_true', reduceCtorEq, eq_self, decide_true, decide_false, List.length_map, exists_const, false_and, and_false, or_false, false_or, ↓reduceIte]
      exact fld_at (e0 _ _ hx) (S.cls 61) (S.noat 66) rfl h
    · rw [h.1 _ _ ha, e0 _ _ ha]
    · obtain ⟨e, ⟨u2, u3, u4, u5, u6, rfl⟩, ts, hF, hts⟩ := h
      refine g_two rfl upd_same ?_
      have eT : Same H' (upd H' T (.tup [.int (i : Nat), u])) := same_new nT
      obtain ⟨row, hrow, b, ls, rfl, hb, hbp⟩ := Paired.at hp hu
      have lr : ls.length = row.length := Paired.len hbp
      have orow := O.2.2.2 row (List.mem_of_getElem? hrow)
      have hb1 := eT _ _ (e _ _ hb)
      try simp only [wipe, tC, tVar, tChain, rI0, rI, rU, tOp, tUn, tCall, tAnd, tOr, tNot, tNotV, tAndV, tOrV, tTest, tB, tIf, tIfS, tRet, tRetN, tNext, tSeq, tNil, tCons, tAug, ipI, tPar, tAsg, gName, tDrop, tLst, tTup, tCB, tBM, tBM0, tFld_eq, tMkE, tMake, tAugS, gSub, rEq, rAll, rMax, rSum, rAppend, rExtend, rSetL, _root_.L2.start, List.map_cons, List.map_nil, List.length_cons, List.length_nil, List.replicate_succ, List.replicate_zero, List.cons_append, List.nil_append, List.append_nil, List.getElem?_cons_zero, List.getElem?_cons_succ, List.set_cons_zero, List.set_cons_succ, Nat.reduceAdd, Nat.reduceSub, V.int.injEq, V.bl.injEq, V.ref.injEq, V.str.injEq, exists_eq, exists_eq', exists_eq_left, exists_eq_left', exists_and_left, exists_and_right, Option.some.injEq, List.cons.injEq, and_true, true_and, and_assoc, retV, true_or, or_true, decide_eq_true_eq, if_true, if_false, Bool.false_eq_true, Bool.not_true, Bool.not_false, Bool.not_eq_true', reduceCtorEq, eq_self, decide_true, decide_false, List.length_map, exists_const, false_and, and_false, or_false, false_or, ↓reduceIte]
      refine for_en (xs := ls) (a := b) (fun Q h => ⟨_, rfl, h⟩) (.inr hb1) (fun j σ H' => Same H H' ∧ (∃ u4 u5 u6, σ = [some (.ref x), some (.ref F), some (.int (i : Nat)), some (.ref b), u4, u5, u6]) ∧ ∃ ts, H' F = some (.lst ts) ∧ Paired (TpF InA No H') ts (prsTo U m i ++ prsB U i j))
        ⟨e.trans eT, ⟨_, _, _, rfl⟩, ts, eT _ _ hF, ?_⟩ (fun j σ H' _ h => ?_) (fun j l σ H5 T5 hj hlj h nT5 => ?_) (fun σ H5 h => ?_)
      · rw [show prsB U i 0 = [] from rfl, List.append_nil]
        exact (famT_tp famT_in).p (.of eT) hts
      · rw [h.1 _ _ hb, hb1]
      · obtain ⟨e5, ⟨u4, u5, u6, rfl⟩, ts5, hF5, hts5⟩ := h
        refine g_two rfl upd_same ?_
        have eT5 : Same H5 (upd H5 T5 (.tup [.int (j : Nat), l])) := same_new nT5
        obtain ⟨lot, hlot, c, cs, rfl, hc, hcp⟩ := Paired.at hbp hlj
        obtain rfl := ina_eq hcp
        have ll := orow.le hlot
        have hc1 := eT5 _ _ (e5 _ _ hc)
        try simp only [wipe, tC, tVar, tChain, rI0, rI, rU, tOp, tUn, tCall, tAnd, tOr, tNot, tNotV, tAndV, tOrV, tTest, tB, tIf, tIfS, tRet, tRetN, tNext, tSeq, tNil, tCons, tAug, ipI, tPar, tAsg, gName, tDrop, tLst, tTup, tCB, tBM, tBM0, tFld_eq, tMkE, tMake, tAugS, gSub, rEq, rAll, rMax, rSum, rAppend, rExtend, rSetL, _root_.L2.start, List.map_cons, List.map_nil, List.length_cons, List.length_nil, List.replicate_succ, List.replicate_zero, List.cons_append, List.nil_append, List.append_nil, List.getElem?_cons_zero, List.getElem?_cons_succ, List.set_cons_zero, List.set_cons_succ, Nat.reduceAdd, Nat.reduceSub, V.int.injEq, V.bl.injEq, V.ref.injEq, V.str.injEq, exists_eq, exists_eq', exists_eq_left, exists_eq_left', exists_and_left, exists_and_right, Option.some.injEq, List.cons.injEq, and_true, true_and, and_assoc, retV, true_or, or_true, decide_eq_true_eq, if_true, if_false, Bool.false_eq_true, Bool.not_true, Bool.not_false, Bool.not_eq_true', reduceCtorEq, eq_self, decide_true, decide_false, List.length_map, exists_const, false_and, and_false, or_false, false_or, ↓reduceIte]
        refine ⟨.inl ⟨rfl, ts5, sqL_of (eT5 _ _ hF5)⟩, ?_⟩
        refine lc_map (gives_sq (fun Q h => ⟨_, rfl, h⟩) (.inr hc1)) (Box.none (A := No) (fun _ z => z.elim)) (fun H' e => by rw [e.same _ _ hc1, hc1]) (by rw [List.length_map]; exact Nat.le_trans (by omega : lot.length ≤ 12) (by decide)) (fun x => rfl) (fam_tp fam_in) lot (by simp) (fun o => [(i : Int), (j : Int), o]) (fun n y o H6 D6 N6 hy ho e6 _ _ hN6 => ?_) fun zs H7 D7 e7 nO7 nD7 _ hD7 hp7 => ?_
        · rw [List.getElem?_map, ho] at hy
          obtain rfl := Option.some.inj hy
          try simp only [wipe, tC, tVar, tChain, rI0, rI, rU, tOp, tUn, tCall, tAnd, tOr, tNot, tNotV, tAndV, tOrV, tTest, tB, tIf, tIfS, tRet, tRetN, tNext, tSeq, tNil, tCons, tAug, ipI, tPar, tAsg, gName, tDrop, tLst, tTup, tCB, tBM, tBM0, tFld_eq, tMkE, tMake, tAugS, gSub, rEq, rAll, rMax, rSum, rAppend, rExtend, rSetL, _root_.L2.start, List.map_cons, List.map_nil, List.length_cons, List.length_nil, List.replicate_succ, List.replicate_zero, List.cons_append, List.nil_append, List.append_nil, List.getElem?_cons_zero, List.getElem?_cons_succ, List.set_cons_zero, List.set_cons_succ, Nat.reduceAdd, Nat.reduceSub, V.int.injEq, V.bl.injEq, V.ref.injEq, V.str.injEq, exists_eq, exists_eq', exists_eq_left, exists_eq_left', exists_and_left, exists_and_right, Option.some.injEq, List.cons.injEq, and_true, true_and, and_assoc, retV, true_or, or_true, decide_eq_true_eq, if_true, if_false, Bool.false_eq_true, Bool.not_true, Bool.not_false, Bool.not_eq_true', reduceCtorEq, eq_self, decide_true, decide_false, List.length_map, exists_const, false_and, and_false, or_false, false_or, ↓reduceIte]
          refine ⟨by show 3 ≤ sizeLine; decide, fun p np => hN6 _ _ (.new np) trivial ⟨p, _, rfl, upd_same, .cons rfl (.cons rfl (.cons rfl .nil))⟩⟩
        · have lz : zs.length = lot.length := by rw [Paired.len hp7, List.length_map]
          have lt : ts5.length ≤ 4000 := by
            rw [Paired.len hts5, List.length_append]
            have h1 := prsTo_le O i
            have h2 := prsB_le O i j
            have h3 : i * (m * m) ≤ 24 * (12 * 12) := Nat.mul_le_mul (by omega) (Nat.mul_le_mul m12 m12)
            have h4 : j * m ≤ 12 * 12 := Nat.mul_le_mul (by have := orow.1; omega) m12
            omega
          have hF7 := e7.same _ _ (eT5 _ _ hF5)
          have tkF : Tk H7 (upd H7 F (.lst (ts5 ++ zs))) := .lst hF7
          refine ⟨D7, rfl, ts5, hF7, zs, hD7, Nat.le_trans (by omega : ts5.length + zs.length ≤ 5000) (by decide), same_mut (e5.trans (eT5.trans e7.same)) nF, _, upd_same, ?_⟩
          rw [prsB_succ, ← List.append_assoc, lotAt_of hrow hlot]
          exact Paired.app ((famT_tp famT_in).p ((Tk.of (eT5.trans e7.same)).trans tkF) hts5) ((famT_tp famT_in).p tkF hp7)
      · obtain ⟨e5, ⟨u4, u5, u6, rfl⟩, ts5, hF5, hts5⟩ := h
        try simp only [wipe, tC, tVar, tChain, rI0, rI, rU, tOp, tUn, tCall, tAnd, tOr, tNot, tNotV, tAndV, tOrV, tTest, tB, tIf, tIfS, tRet, tRetN, tNext, tSeq, tNil, tCons, tAug, ipI, tPar, tAsg, gName, tDrop, tLst, tTup, tCB, tBM, tBM0, tFld_eq, tMkE, tMake, tAugS, gSub, rEq, rAll, rMax, rSum, rAppend, rExtend, rSetL, _root_.L2.start, List.map_cons, List.map_nil, List.length_cons, List.length_nil, List.replicate_succ, List.replicate_zero, List.cons_append, List.nil_append, List.append_nil, List.getElem?_cons_zero, List.getElem?_cons_succ, List.set_cons_zero, List.set_cons_succ, Nat.reduceAdd, Nat.reduceSub, V.int.injEq, V.bl.injEq, V.ref.injEq, V.str.injEq, exists_eq, exists_eq', exists_eq_left, exists_eq_left', exists_and_left, exists_and_right, Option.some.injEq, List.cons.injEq, and_true, true_and, and_assoc, retV, true_or, or_true, decide_eq_true_eq, if_true, if_false, Bool.false_eq_true, Bool.not_true, Bool.not_false, Bool.not_eq_true', reduceCtorEq, eq_self, decide_true, decide_false, List.length_map, exists_const, false_and, and_false, or_false, false_or, ↓reduceIte]
        refine ⟨e5, ts5, hF5, ?_⟩
        rw [prsTo_succ]
        rw [lr, orow.1] at hts5
        exact hts5
    · obtain ⟨e, ⟨u2, u3, u4, u5, u6, rfl⟩, ts, hF, hts⟩ := h
      try simp only [wipe, tC, tVar, tChain, rI0, rI, rU, tOp, tUn, tCall, tAnd, tOr, tNot, tNotV, tAndV, tOrV, tTest, tB, tIf, tIfS, tRet, tRetN, tNext, tSeq, tNil, tCons, tAug, ipI, tPar, tAsg, gName, tDrop, tLst, tTup, tCB, tBM, tBM0, tFld_eq, tMkE, tMake, tAugS, gSub, rEq, rAll, rMax, rSum, rAppend, rExtend, rSetL, _root_.L2.start, List.map_cons, List.map_nil, List.length_cons, List.length_nil, List.replicate_succ, List.replicate_zero, List.cons_append, List.nil_append, List.append_nil, List.getElem?_cons_zero, List.getElem?_cons_succ, List.set_cons_zero, List.set_cons_succ, Nat.reduceAdd, Nat.reduceSub, V.int.injEq, V.bl.injEq, V.ref.injEq, V.str.injEq, exists_eq, exists_eq', exists_eq_left, exists_eq_left', exists_and_left, exists_and_right, Option.some.injEq, List.cons.injEq, and_true, true_and, and_assoc, retV, true_or, or_true, decide_eq_true_eq, if_true, if_false, Bool.false_eq_true, Bool.not_true, Bool.not_false, Bool.not_eq_true', reduceCtorEq, eq_self, decide_true, decide_false, List.length_map, exists_const, false_and, and_false, or_false, false_or, ↓reduceIte]
      refine q _ _ e ⟨F, ts, rfl, fun z => z nF, hF, ?_⟩
      rw [hl] at hts
      exact (famT_tp famT_in).p (Tk.refl _) hts
theorem C_need_few_cells (S : Sc K mg) : Cal prg w K mg base (L2.CX prg w) "need_few_cells" 1 ["many", "pairs"] [] (sp_need_few K) := by
  refine S.calX (d := d_need_few_cells) 20 16 sc_need_few_cells rfl rfl rfl rfl rfl (fun _ _ _ _ _ _ us hl => match us, hl with | [_, _], _ => rfl) (fun vs H Q E h => ?_) (fun f cdv A outer s H vs Q E hr h => ?_)
  · obtain ⟨m, v, ps, rfl, _⟩ := h
    rfl
  · obtain ⟨m, _, ps, rfl, m1, m12, ⟨a, xs, rfl, _, ha, hp⟩, h4, hok, hy, hn⟩ := h
    refine ⟨_, (pss_cons (ps_set (i := 2) sc_need_few_cells.nd rfl (by first | exact Or.inl rfl | exact Or.inr rfl) (pe_op op_rep (pe_lst (pa_cons pe_int pa_nil)) (pv 0)))
      (pss_cons (ps_for (passes_of rfl) rfl (pi_seq (pv 1)) (pg_tup (by rfl) (pgs_cons (pg_name (i := 3) sc_need_few_cells.nd rfl (by first | exact Or.inl rfl | exact Or.inr rfl)) (pgs_cons (pg_name (i := 4) sc_need_few_cells.nd rfl (by first | exact Or.inl rfl | exact Or.inr rfl)) pgs_nil))) (pss_cons (ps_augS (pv 2) (pv 3) pget_list pe_int ip_add set_list)
      (pss_one (ps_augS (pv 2) (pv 4) pget_list pe_int ip_add set_list))))
      (pss_cons (ps_setLc (i := 5) (own := [("count", 6)]) (g := (gName 6)) (tt := tYes) rfl sc_need_few_cells.nd rfl rfl (sw_true rfl rfl rfl (by decide +kernel)) (pi_seq (pv 2)) (blkOk_by (N := ["many", "pairs", "counts", "one", "other", "told", "count"]) (sc := defScope s_need_few_cells) (by decide +kernel)) (fun _ _ _ _ _ => (pg_name (i := 6) sc_need_few_cells.nd rfl (by first | exact Or.inl rfl | exact Or.inr rfl))) (fun _ _ _ _ _ => pts_nil) (fun _ _ _ _ _ => (pe_callB (call_max2 rfl) (by rfl) (S.free 43) (by decide +kernel) (pa_cons pe_int (pa_cons (pv 6) pa_nil)))))
      (pss_one (ps_if (PW.pt (pw_or (pt_cmpR op_gt (pe_callB (cr_max rfl) (by rfl) (S.free 43) (by decide +kernel) (pa_cons (pv 5) pa_nil)) (pe_gi (S.int 52)) (nomark _)) (pw_or1 (pt_cmpR op_gt (pe_callB (cr_sum rfl) (by rfl) (S.free 47) (by decide +kernel) (pa_cons (pv 5) pa_nil)) (pe_gi (S.int 53)) (nomark _))))) (pss_one (ps_raise rfl (takes_of rfl rfl rfl rfl) (mk_InvalidSize S rfl hr (pa_cons pe_str pa_nil) rfl rfl rfl))) pss_nil))))), ?_⟩
    have hl : xs.length = ps.length := Paired.len hp
    try simp only [wipe, tC, tVar, tChain, rI0, rI, rU, tOp, tUn, tCall, tAnd, tOr, tNot, tNotV, tAndV, tOrV, tTest, tB, tIf, tIfS, tRet, tRetN, tNext, tSeq, tNil, tCons, tAug, ipI, tPar, tAsg, gName, tDrop, tLst, tTup, tCB, tBM, tBM0, tFld_eq, tMkE, tMake, tAugS, gSub, rEq, rAll, rMax, rSum, rAppend, rExtend, rSetL, _root_.L2.start, List.map_cons, List.map_nil, List.length_cons, List.length_nil, List.replicate_succ, List.replicate_zero, List.cons_append, List.nil_append, List.append_nil, List.getElem?_cons_zero, List.getElem?_cons_succ, List.set_cons_zero, List.set_cons_succ, Nat.reduceAdd, Nat.reduceSub, V.int.injEq, V.bl.injEq, V.ref.injEq, V.str.injEq, exists_eq, exists_eq', exists_eq_left, exists_eq_left', exists_and_left, exists_and_right, Option.some.injEq, List.cons.injEq, and_true, true_and, and_assoc, retV, true_or, or_true, decide_eq_true_eq, if_true, if_false, Bool.false_eq_true, Bool.not_true, Bool.not_false, Bool.not_eq_true', reduceCtorEq, eq_self, decide_true, decide_false, List.length_map, exists_const, false_and, and_false, or_false, false_or, ↓reduceIte]
    refine ⟨by decide, fun Z nZ => ?_⟩
    have eZ : Same H (upd H Z (.lst [.int 0])) := same_new nZ
    try simp only [wipe, tC, tVar, tChain, rI0, rI, rU, tOp, tUn, tCall, tAnd, tOr, tNot, tNotV, tAndV, tOrV, tTest, tB, tIf, tIfS, tRet, tRetN, tNext, tSeq, tNil, tCons, tAug, ipI, tPar, tAsg, gName, tDrop, tLst, tTup, tCB, tBM, tBM0, tFld_eq, tMkE, tMake, tAugS, gSub, rEq, rAll, rMax, rSum, rAppend, rExtend, rSetL, _root_.L2.start, List.map_cons, List.map_nil, List.length_cons, List.length_nil, List.replicate_succ, List.replicate_zero, List.cons_append, List.nil_append, List.append_nil, List.getElem?_cons_zero, List.getElem?_cons_succ, List.set_cons_zero, List.set_cons_succ, Nat.reduceAdd, Nat.reduceSub, V.int.injEq, V.bl.injEq, V.ref.injEq, V.str.injEq, exists_eq, exists_eq', exists_eq_left, exists_eq_left', exists_and_left, exists_and_right, Option.some.injEq, List.cons.injEq, and_true, true_and, and_assoc, retV, true_or, or_true, decide_eq_true_eq, if_true, if_false, Bool.false_eq_true, Bool.not_true, Bool.not_false, Bool.not_eq_true', reduceCtorEq, eq_self, decide_true, decide_false, List.length_map, exists_const, false_and, and_false, or_false, false_or, ↓reduceIte]
    have z0 : (List.replicate m [V.int 0]).flatten = (cntL m []).map V.int := by
      rw [List.flatten_replicate_singleton]
      simp [cntL, cntOf, List.map_map, Function.comp_def, List.map_const']
    refine ⟨Z, m, [.int 0], rfl, rfl, upd_same, by omega, by omega, ?_, fun C nC => ?_⟩
    · simp only [List.length_cons, List.length_nil, Int.toNat_natCast]
      exact Nat.le_trans (by omega : (0 + 1) * m ≤ 12) (by decide)
    · rw [Int.toNat_natCast, z0]
      have eC := eZ.trans (same_new (o := .lst ((cntL m []).map V.int)) nC)
      refine for_go (gives_sq (fun Q h => ⟨_, rfl, h⟩) (.inl (eC _ _ ha))) (fun i σ H' => Same H H' ∧ (∃ u3 u4 u5 u6, σ = [some (.int m), some (.ref a), some (.ref C), u3, u4, u5, u6]) ∧ H' C = some (.lst ((cntL m (ps.take i)).map V.int)))
        ⟨eC, ⟨_, _, _, _, rfl⟩, upd_same⟩ (fun i σ H' _ h => ?_) (fun i x σ H' hi hx h => ?_) (fun σ H' h => ?_)
      · rw [h.1 _ _ ha, eC _ _ ha]
      · obtain ⟨e, ⟨u3, u4, u5, u6, rfl⟩, hC⟩ := h
        obtain ⟨p, hpp, hr0⟩ := Paired.at hp hx
        obtain ⟨b, o, rfl, hb, ho⟩ := hok p (List.mem_of_getElem? hpp)
        obtain ⟨t, ys, rfl, ht, hyp⟩ := hr0
        obtain rfl := ina_eq hyp
        refine g_two rfl (e _ _ ht) ?_
        have l0 : (cntL m (ps.take i)).length = m := by simp [cntL]
        have gb : (cntL m (ps.take i))[b]? = some (cntOf (ps.take i) b : Int) := by simp [cntL, hb]
        try simp only [wipe, tC, tVar, tChain, rI0, rI, rU, tOp, tUn, tCall, tAnd, tOr, tNot, tNotV, tAndV, tOrV, tTest, tB, tIf, tIfS, tRet, tRetN, tNext, tSeq, tNil, tCons, tAug, ipI, tPar, tAsg, gName, tDrop, tLst, tTup, tCB, tBM, tBM0, tFld_eq, tMkE, tMake, tAugS, gSub, rEq, rAll, rMax, rSum, rAppend, rExtend, rSetL, _root_.L2.start, List.map_cons, List.map_nil, List.length_cons, List.length_nil, List.replicate_succ, List.replicate_zero, List.cons_append, List.nil_append, List.append_nil, List.getElem?_cons_zero, List.getElem?_cons_succ, List.set_cons_zero, List.set_cons_succ, Nat.reduceAdd, Nat.reduceSub, V.int.injEq, V.bl.injEq, V.ref.injEq, V.str.injEq, exists_eq, exists_eq', exists_eq_left, exists_eq_left', exists_and_left, exists_and_right, Option.some.injEq, List.cons.injEq, and_true, true_and, and_assoc, retV, true_or, or_true, decide_eq_true_eq, if_true, if_false, Bool.false_eq_true, Bool.not_true, Bool.not_false, Bool.not_eq_true', reduceCtorEq, eq_self, decide_true, decide_false, List.length_map, exists_const, false_and, and_false, or_false, false_or, ↓reduceIte]
        refine ⟨C, _, b, _, rfl, rfl, by omega, sqL_of hC, by rw [Int.toNat_natCast, List.getElem?_map, gb]; rfl, ?_⟩
        have l1 : ((cntL m (ps.take i)).set b ((cntOf (ps.take i) b : Int) + 1)).length = m := by rw [List.length_set, l0]
        obtain ⟨go', hgo⟩ := getI (xs := (cntL m (ps.take i)).set b ((cntOf (ps.take i) b : Int) + 1)) (i := o) (by omega)
        have st : cntL m (ps.take (i + 1)) = ((cntL m (ps.take i)).set b ((cntOf (ps.take i) b : Int) + 1)).set o (go' + 1) := by
          rw [List.take_succ, hpp]
          show cntL m (ps.take i ++ [[(b : Int), (o : Int)]]) = _
          rw [cntL_step hb ho, hgo]
          rfl
        refine ⟨_, rfl, _, hC, b, ixN_nat (by rw [List.length_map, l0]; exact hb), ?_⟩
        rw [← List.map_set]
        refine ⟨C, _, o, .int go', rfl, rfl, by omega, sqL_of upd_same, by rw [Int.toNat_natCast, List.getElem?_map, hgo]; rfl, ?_⟩
        refine ⟨_, rfl, _, upd_same, o, ixN_nat (by rw [List.length_map, l1]; exact ho), same_mut (same_mut e (eZ.free nC)) (eZ.free nC), ?_⟩
        rw [upd_same, ← List.map_set, st]
      · obtain ⟨e, ⟨u3, u4, u5, u6, rfl⟩, hC⟩ := h
        rw [hl, List.take_length] at hC
        try simp only [wipe, tC, tVar, tChain, rI0, rI, rU, tOp, tUn, tCall, tAnd, tOr, tNot, tNotV, tAndV, tOrV, tTest, tB, tIf, tIfS, tRet, tRetN, tNext, tSeq, tNil, tCons, tAug, ipI, tPar, tAsg, gName, tDrop, tLst, tTup, tCB, tBM, tBM0, tFld_eq, tMkE, tMake, tAugS, gSub, rEq, rAll, rMax, rSum, rAppend, rExtend, rSetL, _root_.L2.start, List.map_cons, List.map_nil, List.length_cons, List.length_nil, List.replicate_succ, List.replicate_zero, List.cons_append, List.nil_append, List.append_nil, List.getElem?_cons_zero, List.getElem?_cons_succ, List.set_cons_zero, List.set_cons_succ, Nat.reduceAdd, Nat.reduceSub, V.int.injEq, V.bl.injEq, V.ref.injEq, V.str.injEq, exists_eq, exists_eq', exists_eq_left, exists_eq_left', exists_and_left, exists_and_right, Option.some.injEq, List.cons.injEq, and_true, true_and, and_assoc, retV, true_or, or_true, decide_eq_true_eq, if_true, if_false, Bool.false_eq_true, Bool.not_true, Bool.not_false, Bool.not_eq_true', reduceCtorEq, eq_self, decide_true, decide_false, List.length_map, exists_const, false_and, and_false, or_false, false_or, ↓reduceIte]
        refine lc_map (gives_sq (fun Q h => ⟨_, rfl, h⟩) (.inl hC)) (Box.none (A := No) (fun _ z => z.elim)) (fun H' e => by rw [e.same _ _ hC, hC]) (by rw [List.length_map]; exact Nat.le_trans (by simp [cntL]; omega : _ ≤ 12) (by decide)) (fun x => rfl) fam_in (cntL m ps) (by simp) atLeast1 (fun n y o H6 D6 N6 hy ho e6 _ _ hN6 => ?_) fun zs H7 D7 e7 nO7 nD7 _ hD7 hp7 => ?_
        · rw [List.getElem?_map, ho] at hy
          obtain rfl := Option.some.inj hy
          try simp only [wipe, tC, tVar, tChain, rI0, rI, rU, tOp, tUn, tCall, tAnd, tOr, tNot, tNotV, tAndV, tOrV, tTest, tB, tIf, tIfS, tRet, tRetN, tNext, tSeq, tNil, tCons, tAug, ipI, tPar, tAsg, gName, tDrop, tLst, tTup, tCB, tBM, tBM0, tFld_eq, tMkE, tMake, tAugS, gSub, rEq, rAll, rMax, rSum, rAppend, rExtend, rSetL, _root_.L2.start, List.map_cons, List.map_nil, List.length_cons, List.length_nil, List.replicate_succ, List.replicate_zero, List.cons_append, List.nil_append, List.append_nil, List.getElem?_cons_zero, List.getElem?_cons_succ, List.set_cons_zero, List.set_cons_succ, Nat.reduceAdd, Nat.reduceSub, V.int.injEq, V.bl.injEq, V.ref.injEq, V.str.injEq, exists_eq, exists_eq', exists_eq_left, exists_eq_left', exists_and_left, exists_and_right, Option.some.injEq, List.cons.injEq, and_true, true_and, and_assoc, retV, true_or, or_true, decide_eq_true_eq, if_true, if_false, Bool.false_eq_true, Bool.not_true, Bool.not_false, Bool.not_eq_true', reduceCtorEq, eq_self, decide_true, decide_false, List.length_map, exists_const, false_and, and_false, or_false, false_or, ↓reduceIte]
          exact hN6 _ _ (SameO.refl _ _) trivial rfl
        · obtain rfl := ina_eq hp7
          try simp only [wipe, tC, tVar, tChain, rI0, rI, rU, tOp, tUn, tCall, tAnd, tOr, tNot, tNotV, tAndV, tOrV, tTest, tB, tIf, tIfS, tRet, tRetN, tNext, tSeq, tNil, tCons, tAug, ipI, tPar, tAsg, gName, tDrop, tLst, tTup, tCB, tBM, tBM0, tFld_eq, tMkE, tMake, tAugS, gSub, rEq, rAll, rMax, rSum, rAppend, rExtend, rSetL, _root_.L2.start, List.map_cons, List.map_nil, List.length_cons, List.length_nil, List.replicate_succ, List.replicate_zero, List.cons_append, List.nil_append, List.append_nil, List.getElem?_cons_zero, List.getElem?_cons_succ, List.set_cons_zero, List.set_cons_succ, Nat.reduceAdd, Nat.reduceSub, V.int.injEq, V.bl.injEq, V.ref.injEq, V.str.injEq, exists_eq, exists_eq', exists_eq_left, exists_eq_left', exists_and_left, exists_and_right, Option.some.injEq, List.cons.injEq, and_true, true_and, and_assoc, retV, true_or, or_true, decide_eq_true_eq, if_true, if_false, Bool.false_eq_true, Bool.not_true, Bool.not_false, Bool.not_eq_true', reduceCtorEq, eq_self, decide_true, decide_false, List.length_map, exists_const, false_and, and_false, or_false, false_or, ↓reduceIte]
          have e07 := e.trans e7.same
          refine ⟨toldL m ps, sqL_of hD7, by simp [toldL, cntL]; omega, fun M hM hle => ?_⟩
          by_cases hf : Few (toldL m ps)
          · rw [if_neg (by have := hf.1 M hM; omega)]
            refine ⟨toldL m ps, sqL_of hD7, ?_⟩
            rw [if_neg (by have := hf.2; omega)]
            exact (hy hf).go e07 rfl
          · by_cases h60 : 60 < M
            · rw [if_pos h60]
              exact ⟨by decide +kernel, fun d nd => hn hf _ d e07 nd⟩
            · rw [if_neg h60]
              refine ⟨toldL m ps, sqL_of hD7, ?_⟩
              have h400 : 400 < (toldL m ps).sum := by
                refine Int.not_le.1 fun z => hf ⟨fun x hx => ?_, z⟩
                have := hle x hx
                omega
              rw [if_pos h400]
              exact ⟨by decide +kernel, fun d nd => hn hf _ d e07 nd⟩
end
end K76
set_option Elab.async false
set_option linter.all false
set_option maxRecDepth 100000
set_option maxHeartbeats 4000000
/-! k76: cells_of_ways -/
namespace K76
open PySem PySem.Spec PyProof.Rows L2 He HK
def evenC (n : Nat) (z : Int) : List Int := List.replicate n z
def shiftC (n : Nat) (a z : Int) : List Int := (List.range n).map fun j => if ((j : Nat) : Int) = a then z + 1 else z
/-- the cells that the k-th pair gives to body b -/
def pcell (n : Nat) (p : List Int) (k b : Nat) : List (List Int) :=
  (if p.getD 1 (-1) = (b : Int) then [evenC n (2 * (k : Int))] else []) ++ (if p.getD 2 (-1) = (b : Int) then [shiftC n (p.getD 0 0) (2 * (k : Int))] else [])
def partTo (n : Nat) (P : List (List Int)) (i b : Nat) : List (List Int) := (List.range i).flatMap fun k => pcell n (P.getD k []) k b
def part (n : Nat) (P : List (List Int)) (b : Nat) : List (List Int) := partTo n P P.length b
theorem partTo_succ (n : Nat) (P : List (List Int)) (i b : Nat) : partTo n P (i + 1) b = partTo n P i b ++ pcell n (P.getD i []) i b := by simp [partTo, List.range_succ]
/-- the lone ones below b -/
def loneTo (n : Nat) (P : List (List Int)) (b : Nat) : Nat := (List.range b).countP fun x => part n P x = []
def finC (n : Nat) (P : List (List Int)) (b : Nat) : List (List Int) := if part n P b = [] then [evenC n (2 * (P.length : Int) + (loneTo n P b : Int))] else part n P b
def cellsOf (U : Ups) (m : Nat) : List (List (List Int)) := (List.range m).map (finC U.length (prs U m))
theorem pcell_le (n : Nat) (p : List Int) (k b : Nat) : (pcell n p k b).length ≤ 2 := by
  unfold pcell
  rw [List.length_append]
  split <;> split <;> simp
theorem partTo_le (n : Nat) (P : List (List Int)) (i b : Nat) : (partTo n P i b).length ≤ 2 * i := by
  induction i with
  | zero => simp [partTo]
  | succ i ih =>
    rw [partTo_succ, List.length_append]
    have := pcell_le n (P.getD i []) i b
    omega
theorem pcell_of (n k x ax b o : Nat) (hbo : b ≠ o) : pcell n [(ax : Int), (b : Int), (o : Int)] k x = if x = o then [shiftC n ax (2 * (k : Int))] else if x = b then [evenC n (2 * (k : Int))] else [] := by
  unfold pcell
  simp only [List.getD_cons_succ, List.getD_cons_zero]
  by_cases h1 : x = b <;> by_cases h2 : x = o
  · omega
  · rw [if_pos (by omega), if_neg (by omega), if_neg h2, if_pos h1, List.append_nil]
  · rw [if_neg (by omega), if_pos (by omega), if_pos h2, List.nil_append]
  · rw [if_neg (by omega), if_neg (by omega), if_neg h2, if_neg h1, List.append_nil]
theorem rngV_at {n k z : Nat} {y : V} (hy : (rngV 0 n)[k]? = some y) (hz : (List.range n)[k]? = some z) : y = .int (z : Nat) := by
  have hk : k < n := by
    have := (List.getElem?_eq_some_iff.1 hz).1
    rwa [List.length_range] at this
  rw [rngV_get hk] at hy
  rw [List.getElem?_range hk] at hz
  injection hy with hy
  injection hz with hz
  subst hz
  rw [← hy]
  simp
/-- the lists found so far -/
structure Fnd (H : Hp) (Rg F : Addr) (n : Nat) (refs : List Addr) (parts : Nat → List (List Int)) (H' : Hp) : Prop where
  same : Same H H'
  rg : H' Rg = some (.rng 0 n)
  f : H' F = some (.lst (refs.map V.ref))
  nd : refs.Nodup
  new : ∀ r ∈ refs, H r = none ∧ r ≠ F ∧ r ≠ Rg
  at_ : ∀ (b : Nat) (r : Addr), refs[b]? = some r → ∃ vs, H' r = some (.lst vs) ∧ Paired (LsF InA (fun a => Old H a ∨ a = F ∨ a = Rg ∨ a ∈ refs) H') vs (parts b)
section
variable {H H' H'' : Hp} {Rg F D : Addr} {n : Nat} {refs : List Addr} {parts : Nat → List (List Int)}
theorem Fnd.alive (h : Fnd H Rg F n refs parts H') : ∀ a, (Old H a ∨ a = F ∨ a = Rg ∨ a ∈ refs) → H' a ≠ none := fun a ha => by
  rcases ha with ha | ha | ha | ha
  · exact fun z => ha (h.same.free z)
  · rw [ha, h.f]
    exact fun z => nomatch z
  · rw [ha, h.rg]
    exact fun z => nomatch z
  · obtain ⟨b, hb⟩ := List.getElem?_of_mem ha
    obtain ⟨vs, e, _⟩ := h.at_ b a hb
    rw [e]
    exact fun z => nomatch z
theorem Fnd.grow (h : Fnd H Rg F n refs parts H') (e : Same H' H'') : Fnd H Rg F n refs parts H'' :=
  ⟨h.same.trans e, e _ _ h.rg, e _ _ h.f, h.nd, h.new, fun b r hb => by
    obtain ⟨vs, h1, h2⟩ := h.at_ b r hb
    exact ⟨vs, e _ _ h1, (fam_ls fam_in).monoP (.of e) h2⟩⟩
theorem Fnd.app (h : Fnd H Rg F n refs parts H') {b : Nat} {r : Addr} (hb : refs[b]? = some r) {vs : List V} (hr : H' r = some (.lst vs)) {c : List Int} (hD : H' D = some (.lst (c.map V.int))) (nD : ¬(Old H D ∨ D = F ∨ D = Rg ∨ D ∈ refs)) :
    Fnd H Rg F n refs (fun x => if x = b then parts b ++ [c] else parts x) (upd H' r (.lst (vs ++ [.ref D]))) := by
  have hm := List.mem_of_getElem? hb
  obtain ⟨n1, n2, n3⟩ := h.new r hm
  have e : SameO (fun a => Old H a ∨ a = F ∨ a = Rg ∨ a ∈ refs) H' (upd H' r (.lst (vs ++ [.ref D]))) := .lst hr (.inr (.inr (.inr hm)))
  have nDr : D ≠ r := fun z => nD (.inr (.inr (.inr (z ▸ hm))))
  refine ⟨same_mut h.same n1, by rw [upd_ne n3.symm]; exact h.rg, by rw [upd_ne n2.symm]; exact h.f, h.nd, h.new, fun x s hx => ?_⟩
  by_cases ex : x = b
  · subst ex
    obtain rfl : s = r := by rw [hb] at hx; exact (Option.some.inj hx).symm
    obtain ⟨us, h1, h2⟩ := h.at_ x s hx
    rw [h1] at hr
    obtain rfl : us = vs := by injection hr with hr; injection hr
    refine ⟨_, upd_same, ?_⟩
    rw [if_pos rfl]
    exact Paired.app ((fam_ls fam_in).monoP e h2) (.cons ⟨D, _, rfl, nD, by rw [upd_ne nDr]; exact hD, ina_of _⟩ .nil)
  · obtain ⟨us, h1, h2⟩ := h.at_ x s hx
    have nsr : s ≠ r := fun z => ex (by
      subst z
      obtain ⟨i1, e1⟩ := List.getElem?_eq_some_iff.1 hx
      obtain ⟨i2, e2⟩ := List.getElem?_eq_some_iff.1 hb
      exact (List.getElem_inj h.nd).1 (e1.trans e2.symm))
    refine ⟨us, by rw [upd_ne nsr]; exact h1, ?_⟩
    rw [if_neg ex]
    exact (fam_ls fam_in).monoP e h2
theorem Fnd.eq {parts' : Nat → List (List Int)} (h : Fnd H Rg F n refs parts H') (e : ∀ b, b < refs.length → parts' b = parts b) : Fnd H Rg F n refs parts' H' :=
  ⟨h.same, h.rg, h.f, h.nd, h.new, fun b r hb => by
    rw [e b (List.getElem?_eq_some_iff.1 hb).1]
    exact h.at_ b r hb⟩
end
def sp_cells_of_ways (K : PySem.W.Frag) : Sp := fun vs H Q _ => ∃ x m U, vs = [x] ∧ WayO K m U H x ∧ UpsOk m U ∧ 1 ≤ m ∧ ∀ v H', Same H H' → LsF (LsF (LsF InA)) (Old H) H' v (cellsOf U m) → Q v H'
section
variable {w : World} {K : PySem.W.Frag} {mg : Str → Option Value} {base : Heap}
theorem C_cells_of_ways (S : Sc K mg) : Cal prg w K mg base CX0 "cells_of_ways" 2 ["ways"] [] (sp_cells_of_ways K) := by
  have C_met_pairs : Cal prg w K mg base CX0 "met_pairs" 1 ["ways"] [] (sp_met_pairs K) := C_met_pairs S
  refine S.cal (d := d_cells_of_ways) 21 17 sc_cells_of_ways rfl rfl rfl rfl rfl (fun _ _ _ _ _ _ us hl => match us, hl with | [_], _ => rfl) (fun vs H Q E h => ?_) (fun f cdv A outer s H vs Q E hr h => ?_)
  · obtain ⟨x, m, U, rfl, _⟩ := h
    rfl
  · obtain ⟨_, m, U, rfl, hW, O, m1, q⟩ := h
    obtain ⟨x, dx, t, rfl, hx, a, us, rfl, ha, hp⟩ := id hW
    refine ⟨_, (pss_cons (ps_set (i := 1) sc_cells_of_ways.nd rfl (by first | exact Or.inl rfl | exact Or.inr rfl) (pe_callTy cr_range1 (by rfl) (S.free 44) (by decide +kernel) (pa_cons (pe_callB cr_lenA (by rfl) (S.free 41) (by decide +kernel) (pa_cons (pe_fld (pv 0) rfl) pa_nil)) pa_nil)))
      (pss_cons (ps_setLc (i := 2) (own := [("_", 3)]) (g := (gName 3)) (tt := tYes) rfl sc_cells_of_ways.nd rfl rfl (sw_true rfl rfl rfl (by decide +kernel)) (pi_range1 rfl (S.free 44) (pa_cons (pe_fld (pv 0) rfl) pa_nil)) (blkOk_by (N := ["ways", "axes", "found", "_", "place", "axis", "body", "other", "one", "cells"]) (sc := defScope s_cells_of_ways) (by decide +kernel)) (fun _ _ _ _ _ => (pg_name (i := 3) sc_cells_of_ways.nd rfl (by first | exact Or.inl rfl | exact Or.inr rfl))) (fun _ _ _ _ _ => pts_nil) (fun _ _ _ _ _ => (pe_lst pa_nil)))
      (pss_cons (ps_set (i := 4) sc_cells_of_ways.nd rfl (by first | exact Or.inl rfl | exact Or.inr rfl) pe_int)
      (pss_cons (ps_for PassesOwn.never rfl (pi_seq (pe_c C_met_pairs (hr.mono (by omega)) pass0 (pa_cons (pv 0) pa_nil))) (pg_tup (by rfl) (pgs_cons (pg_name (i := 5) sc_cells_of_ways.nd rfl (by first | exact Or.inl rfl | exact Or.inr rfl)) (pgs_cons (pg_name (i := 6) sc_cells_of_ways.nd rfl (by first | exact Or.inl rfl | exact Or.inr rfl)) (pgs_cons (pg_name (i := 7) sc_cells_of_ways.nd rfl (by first | exact Or.inl rfl | exact Or.inr rfl)) pgs_nil)))) (pss_cons (ps_expr (pe_bm PySem.F.plainAttrs_list PySem.F.slot_list_append PySem.F.type_list_append mt_append (pe_ix ix_list (pv 2) (pv 6) (fun _ _ => rfl)) (pa_cons (pe_lc (own := [("_", 3)]) (g := (gName 3)) (tt := tYes) rfl sc_cells_of_ways.nd (pi_rngV (pv 1)) (blkOk_by (N := ["ways", "axes", "found", "_", "place", "axis", "body", "other", "one", "cells"]) (sc := defScope s_cells_of_ways) (by decide +kernel)) (fun _ _ _ _ _ => (pg_name (i := 3) sc_cells_of_ways.nd rfl (by first | exact Or.inl rfl | exact Or.inr rfl))) (fun _ _ _ _ _ => pts_nil) (fun _ _ _ _ _ => (pv 4))) pa_nil)))
      (pss_cons (ps_expr (pe_bm PySem.F.plainAttrs_list PySem.F.slot_list_append PySem.F.type_list_append mt_append (pe_ix ix_list (pv 2) (pv 7) (fun _ _ => rfl)) (pa_cons (pe_lc (own := [("one", 8)]) (g := (gName 8)) (tt := tYes) rfl sc_cells_of_ways.nd (pi_rngV (pv 1)) (blkOk_by (N := ["ways", "axes", "found", "_", "place", "axis", "body", "other", "one", "cells"]) (sc := defScope s_cells_of_ways) (by decide +kernel)) (fun _ _ _ _ _ => (pg_name (i := 8) sc_cells_of_ways.nd rfl (by first | exact Or.inl rfl | exact Or.inr rfl))) (fun _ _ _ _ _ => pts_nil) (fun _ _ _ _ _ => (pe_ifExp (pt_cmpR op_eq (pv 8) (pv 5) (nomark _)) (pe_op op_add (pv 4) pe_int) (pv 4)))) pa_nil)))
      (pss_one (ps_aug (i := 4) sc_cells_of_ways.nd rfl (by first | exact Or.inl rfl | exact Or.inr rfl) pe_int ip_add)))))
      (pss_cons (ps_for PassesOwn.never rfl (pi_seq (pv 2)) (pg_name (i := 9) sc_cells_of_ways.nd rfl (by first | exact Or.inl rfl | exact Or.inr rfl)) (pss_one (ps_if (pt_cmpR op_eq (pe_callB cr_lenA (by rfl) (S.free 41) (by decide +kernel) (pa_cons (pv 9) pa_nil)) pe_int (nomark _)) (pss_cons (ps_expr (pe_bm PySem.F.plainAttrs_list PySem.F.slot_list_append PySem.F.type_list_append mt_append (pv 9) (pa_cons (pe_lc (own := [("_", 3)]) (g := (gName 3)) (tt := tYes) rfl sc_cells_of_ways.nd (pi_rngV (pv 1)) (blkOk_by (N := ["ways", "axes", "found", "_", "place", "axis", "body", "other", "one", "cells"]) (sc := defScope s_cells_of_ways) (by decide +kernel)) (fun _ _ _ _ _ => (pg_name (i := 3) sc_cells_of_ways.nd rfl (by first | exact Or.inl rfl | exact Or.inr rfl))) (fun _ _ _ _ _ => pts_nil) (fun _ _ _ _ _ => (pv 4))) pa_nil)))
      (pss_one (ps_aug (i := 4) sc_cells_of_ways.nd rfl (by first | exact Or.inl rfl | exact Or.inr rfl) pe_int ip_add))) pss_nil)))
      (pss_one (ps_ret (pv 2)))))))), ?_⟩
    have hl : us.length = U.length := Paired.len hp
    have U24 := O.2.1
    have m12 := O.2.2.1
    try simp only [wipe, tC, tVar, tChain, rI0, rI, rU, tOp, tUn, tCall, tAnd, tOr, tNot, tNotV, tAndV, tOrV, tTest, tB, tIf, tIfS, tRet, tRetN, tNext, tSeq, tNil, tCons, tAug, ipI, tPar, tAsg, gName, tDrop, tLst, tTup, tCB, tBM, tBM0, tFld_eq, tMkE, tMake, tAugS, gSub, rEq, rAll, rMax, rSum, rAppend, rExtend, rSetL, _root_.L2.start, List.map_cons, List.map_nil, List.length_cons, List.length_nil, List.replicate_succ, List.replicate_zero, List.cons_append, List.nil_append, List.append_nil, List.getElem?_cons_zero, List.getElem?_cons_succ, List.set_cons_zero, List.set_cons_succ, Nat.reduceAdd, Nat.reduceSub, V.int.injEq, V.bl.injEq, V.ref.injEq, V.str.injEq, exists_eq, exists_eq', exists_eq_left, exists_eq_left', exists_and_left, exists_and_right, Option.some.injEq, List.cons.injEq, and_true, true_and, and_assoc, retV, true_or, or_true, decide_eq_true_eq, if_true, if_false, Bool.false_eq_true, Bool.not_true, Bool.not_false, Bool.not_eq_true', reduceCtorEq, eq_self, decide_true, decide_false, List.length_map, exists_const, false_and, and_false, or_false, false_or, ↓reduceIte]
    refine fld_at hx (S.cls 61) (S.noat 66) rfl (len_sq (.inr ha) ?_)
    try simp only [wipe, tC, tVar, tChain, rI0, rI, rU, tOp, tUn, tCall, tAnd, tOr, tNot, tNotV, tAndV, tOrV, tTest, tB, tIf, tIfS, tRet, tRetN, tNext, tSeq, tNil, tCons, tAug, ipI, tPar, tAsg, gName, tDrop, tLst, tTup, tCB, tBM, tBM0, tFld_eq, tMkE, tMake, tAugS, gSub, rEq, rAll, rMax, rSum, rAppend, rExtend, rSetL, _root_.L2.start, List.map_cons, List.map_nil, List.length_cons, List.length_nil, List.replicate_succ, List.replicate_zero, List.cons_append, List.nil_append, List.append_nil, List.getElem?_cons_zero, List.getElem?_cons_succ, List.set_cons_zero, List.set_cons_succ, Nat.reduceAdd, Nat.reduceSub, V.int.injEq, V.bl.injEq, V.ref.injEq, V.str.injEq, exists_eq, exists_eq', exists_eq_left, exists_eq_left', exists_and_left, exists_and_right, Option.some.injEq, List.cons.injEq, and_true, true_and, and_assoc, retV, true_or, or_true, decide_eq_true_eq, if_true, if_false, Bool.false_eq_true, Bool.not_true, Bool.not_false, Bool.not_eq_true', reduceCtorEq, eq_self, decide_true, decide_false, List.length_map, exists_const, false_and, and_false, or_false, false_or, ↓reduceIte]
    intro Rg nRg
    have eR : Same H (upd H Rg (.rng 0 (us.length : Int))) := same_new nRg
    refine lc_acc (gives_rng1 (j := m) (fun Q h => ?_)) (Box.none (A := Old (upd H Rg (.rng 0 (us.length : Int)))) (fun _ z => z)) (fun _ _ => trivial) (by rw [rngV_len, Int.toNat_natCast]; exact Nat.le_trans (by omega : m ≤ 12) (by decide))
      (fun A n acc H' => ∃ refs : List Addr, acc = refs.map V.ref ∧ refs.Nodup ∧ refs.length = n ∧ ∀ r ∈ refs, ¬A r ∧ H' r = some (.lst [])) (fun D H' => ⟨[], rfl, .nil, rfl, fun r z => by cases z⟩)
      (fun e ⟨refs, h1, h2, h3, h4⟩ => ⟨refs, h1, h2, h3, fun r hr => ⟨(h4 r hr).1, e.1 _ _ (h4 r hr).1 (h4 r hr).2⟩⟩) (fun w ⟨refs, h1, h2, h3, h4⟩ => ⟨refs, h1, h2, h3, fun r hr => ⟨fun z => (h4 r hr).1 (w r z), (h4 r hr).2⟩⟩)
      (fun n y acc H' D N N0 hn hy e _ hA hI hN _ => ?_) fun acc H2 F e2 _ nF nAF hF hI => ?_
    · try simp only [wipe, tC, tVar, tChain, rI0, rI, rU, tOp, tUn, tCall, tAnd, tOr, tNot, tNotV, tAndV, tOrV, tTest, tB, tIf, tIfS, tRet, tRetN, tNext, tSeq, tNil, tCons, tAug, ipI, tPar, tAsg, gName, tDrop, tLst, tTup, tCB, tBM, tBM0, tFld_eq, tMkE, tMake, tAugS, gSub, rEq, rAll, rMax, rSum, rAppend, rExtend, rSetL, _root_.L2.start, List.map_cons, List.map_nil, List.length_cons, List.length_nil, List.replicate_succ, List.replicate_zero, List.cons_append, List.nil_append, List.append_nil, List.getElem?_cons_zero, List.getElem?_cons_succ, List.set_cons_zero, List.set_cons_succ, Nat.reduceAdd, Nat.reduceSub, V.int.injEq, V.bl.injEq, V.ref.injEq, V.str.injEq, exists_eq, exists_eq', exists_eq_left, exists_eq_left', exists_and_left, exists_and_right, Option.some.injEq, List.cons.injEq, and_true, true_and, and_assoc, retV, true_or, or_true, decide_eq_true_eq, if_true, if_false, Bool.false_eq_true, Bool.not_true, Bool.not_false, Bool.not_eq_true', reduceCtorEq, eq_self, decide_true, decide_false, List.length_map, exists_const, false_and, and_false, or_false, false_or, ↓reduceIte]
      exact fld_at (eR _ _ hx) (S.cls 61) (S.noat 65) rfl h
    · refine ⟨rfl, ?_⟩
      try simp only [wipe, tC, tVar, tChain, rI0, rI, rU, tOp, tUn, tCall, tAnd, tOr, tNot, tNotV, tAndV, tOrV, tTest, tB, tIf, tIfS, tRet, tRetN, tNext, tSeq, tNil, tCons, tAug, ipI, tPar, tAsg, gName, tDrop, tLst, tTup, tCB, tBM, tBM0, tFld_eq, tMkE, tMake, tAugS, gSub, rEq, rAll, rMax, rSum, rAppend, rExtend, rSetL, _root_.L2.start, List.map_cons, List.map_nil, List.length_cons, List.length_nil, List.replicate_succ, List.replicate_zero, List.cons_append, List.nil_append, List.append_nil, List.getElem?_cons_zero, List.getElem?_cons_succ, List.set_cons_zero, List.set_cons_succ, Nat.reduceAdd, Nat.reduceSub, V.int.injEq, V.bl.injEq, V.ref.injEq, V.str.injEq, exists_eq, exists_eq', exists_eq_left, exists_eq_left', exists_and_left, exists_and_right, Option.some.injEq, List.cons.injEq, and_true, true_and, and_assoc, retV, true_or, or_true, decide_eq_true_eq, if_true, if_false, Bool.false_eq_true, Bool.not_true, Bool.not_false, Bool.not_eq_true', reduceCtorEq, eq_self, decide_true, decide_false, List.length_map, exists_const, false_and, and_false, or_false, false_or, tYes, ↓reduceIte]
      refine ⟨by decide, fun p np => ?_⟩
      obtain ⟨refs, h1, h2, h3, h4⟩ := hI
      refine hN _ _ (.new np) trivial ⟨refs ++ [p], by rw [h1, List.map_append]; rfl, ?_, by simp [h3], fun r hr => ?_⟩
      · rw [List.nodup_append]
        refine ⟨h2, List.pairwise_singleton _ p, fun x hx y hy => ?_⟩
        rw [List.mem_singleton] at hy
        subst hy
        intro z
        subst z
        rw [(h4 x hx).2] at np
        cases np
      · rw [List.mem_append, List.mem_singleton] at hr
        rcases hr with hr | hr
        · exact ⟨(h4 r hr).1, by rw [upd_ne (fun z => by have k := (h4 r hr).2; rw [z, np] at k; cases k)]; exact (h4 r hr).2⟩
        · subst hr
          exact ⟨fun z => hA _ z np, upd_same⟩
    · obtain ⟨refs, h1, h2, h3, h4⟩ := hI
      rw [rngV_len, Int.toNat_natCast] at h3
      have e02 := eR.trans e2.same
      try simp only [wipe, tC, tVar, tChain, rI0, rI, rU, tOp, tUn, tCall, tAnd, tOr, tNot, tNotV, tAndV, tOrV, tTest, tB, tIf, tIfS, tRet, tRetN, tNext, tSeq, tNil, tCons, tAug, ipI, tPar, tAsg, gName, tDrop, tLst, tTup, tCB, tBM, tBM0, tFld_eq, tMkE, tMake, tAugS, gSub, rEq, rAll, rMax, rSum, rAppend, rExtend, rSetL, _root_.L2.start, List.map_cons, List.map_nil, List.length_cons, List.length_nil, List.replicate_succ, List.replicate_zero, List.cons_append, List.nil_append, List.append_nil, List.getElem?_cons_zero, List.getElem?_cons_succ, List.set_cons_zero, List.set_cons_succ, Nat.reduceAdd, Nat.reduceSub, V.int.injEq, V.bl.injEq, V.ref.injEq, V.str.injEq, exists_eq, exists_eq', exists_eq_left, exists_eq_left', exists_and_left, exists_and_right, Option.some.injEq, List.cons.injEq, and_true, true_and, and_assoc, retV, true_or, or_true, decide_eq_true_eq, if_true, if_false, Bool.false_eq_true, Bool.not_true, Bool.not_false, Bool.not_eq_true', reduceCtorEq, eq_self, decide_true, decide_false, List.length_map, exists_const, false_and, and_false, or_false, false_or, ↓reduceIte]
      rw [for_call]
      try simp only [wipe, tC, tVar, tChain, rI0, rI, rU, tOp, tUn, tCall, tAnd, tOr, tNot, tNotV, tAndV, tOrV, tTest, tB, tIf, tIfS, tRet, tRetN, tNext, tSeq, tNil, tCons, tAug, ipI, tPar, tAsg, gName, tDrop, tLst, tTup, tCB, tBM, tBM0, tFld_eq, tMkE, tMake, tAugS, gSub, rEq, rAll, rMax, rSum, rAppend, rExtend, rSetL, _root_.L2.start, List.map_cons, List.map_nil, List.length_cons, List.length_nil, List.replicate_succ, List.replicate_zero, List.cons_append, List.nil_append, List.append_nil, List.getElem?_cons_zero, List.getElem?_cons_succ, List.set_cons_zero, List.set_cons_succ, Nat.reduceAdd, Nat.reduceSub, V.int.injEq, V.bl.injEq, V.ref.injEq, V.str.injEq, exists_eq, exists_eq', exists_eq_left, exists_eq_left', exists_and_left, exists_and_right, Option.some.injEq, List.cons.injEq, and_true, true_and, and_assoc, retV, true_or, or_true, decide_eq_true_eq, if_true, if_false, Bool.false_eq_true, Bool.not_true, Bool.not_false, Bool.not_eq_true', reduceCtorEq, eq_self, decide_true, decide_false, List.length_map, exists_const, false_and, and_false, or_false, false_or, ↓reduceIte]
      refine ⟨.ref x, m, U, rfl, same_way e02 hW, O, fun v H3 e3 hv => ?_⟩
      obtain ⟨pa, ps, rfl, npa, hpa, hpp⟩ := hv
      have hF0 : Fnd H Rg F us.length refs (partTo U.length (prs U m) 0) H3 := by
        refine ⟨e02.trans e3, e3 _ _ (e2.same _ _ upd_same), by rw [← h1]; exact e3 _ _ hF, h2, fun r hr => ?_, fun b r hb => ⟨[], e3 _ _ (h4 r (List.mem_of_getElem? hb)).2, .nil⟩⟩
        obtain ⟨k1, k2⟩ := h4 r hr
        refine ⟨Classical.byContradiction fun z => k1 (by
          cases hh : H r with
          | none => exact absurd hh z
          | some o => show _ ≠ none; rw [eR _ _ hh]; exact fun z => nomatch z), fun z => ?_, fun z => k1 (by rw [z]; show upd _ _ _ _ ≠ none; rw [upd_same]; exact fun z => nomatch z)⟩
        rw [z, hF, h1] at k2
        injection k2 with k2
        injection k2 with k2
        have := congrArg List.length k2
        rw [List.length_map] at this
        simp at this
        rw [this] at hr
        cases hr
      have hrl : refs.length = m := h3
      have P4 : (prs U m).length ≤ 4000 := by
        have h1 := prsTo_le O U.length
        have h3 : U.length * (m * m) ≤ 24 * (12 * 12) := Nat.mul_le_mul U24 (Nat.mul_le_mul m12 m12)
        show (prsTo U m U.length).length ≤ 4000
        omega
      have lP : ps.length = (prs U m).length := Paired.len hpp
      refine for_go (gives_sq (xs := ps) (a := pa) (fun Q h => h) (.inl hpa)) (fun i σ H' => (∃ u3 u5 u6 u7 u8 u9, σ = [some (.ref x), some (.ref Rg), some (.ref F), u3, some (.int (2 * (i : Int))), u5, u6, u7, u8, u9]) ∧
          Fnd H Rg F us.length refs (partTo U.length (prs U m) i) H' ∧ H' pa = some (.lst ps) ∧ Paired (TpF InA No H') ps (prs U m))
        ⟨⟨_, _, _, _, _, _, rfl⟩, hF0, hpa, (famT_tp famT_in).p (Tk.refl _) hpp⟩ (fun i σ H' _ h => ?_) (fun i y σ H' hi hy h => ?_) (fun σ H' h => ?_)
      · rw [h.2.2.1, hpa]
      · obtain ⟨⟨u3, u5, u6, u7, u8, u9, rfl⟩, hFn, hpa', hps⟩ := h
        obtain ⟨p, hpi, hr0⟩ := Paired.at hps hy
        obtain ⟨ax, b, o, rfl, hax, hb, ho, hbo, _⟩ := prs_mem O (List.mem_of_getElem? hpi)
        obtain ⟨t, ys, rfl, ht, hyp⟩ := hr0
        obtain rfl := ina_eq hyp
        refine g_three rfl ht ?_
        obtain ⟨rb, hrb⟩ := getI (xs := refs) (i := b) (by omega)
        obtain ⟨ro, hro⟩ := getI (xs := refs) (i := o) (by omega)
        have npr : ∀ r ∈ refs, pa ≠ r := fun r hr z => npa (by
          rw [z]
          show _ ≠ none
          rw [(h4 r hr).2]
          exact fun z => nomatch z)
        try simp only [wipe, tC, tVar, tChain, rI0, rI, rU, tOp, tUn, tCall, tAnd, tOr, tNot, tNotV, tAndV, tOrV, tTest, tB, tIf, tIfS, tRet, tRetN, tNext, tSeq, tNil, tCons, tAug, ipI, tPar, tAsg, gName, tDrop, tLst, tTup, tCB, tBM, tBM0, tFld_eq, tMkE, tMake, tAugS, gSub, rEq, rAll, rMax, rSum, rAppend, rExtend, rSetL, _root_.L2.start, List.map_cons, List.map_nil, List.length_cons, List.length_nil, List.replicate_succ, List.replicate_zero, List.cons_append, List.nil_append, List.append_nil, List.getElem?_cons_zero, List.getElem?_cons_succ, List.set_cons_zero, List.set_cons_succ, Nat.reduceAdd, Nat.reduceSub, V.int.injEq, V.bl.injEq, V.ref.injEq, V.str.injEq, exists_eq, exists_eq', exists_eq_left, exists_eq_left', exists_and_left, exists_and_right, Option.some.injEq, List.cons.injEq, and_true, true_and, and_assoc, retV, true_or, or_true, decide_eq_true_eq, if_true, if_false, Bool.false_eq_true, Bool.not_true, Bool.not_false, Bool.not_eq_true', reduceCtorEq, eq_self, decide_true, decide_false, List.length_map, exists_const, false_and, and_false, or_false, false_or, ↓reduceIte]
        refine ix_at hFn.f (b := b) (v := .ref rb) (by rw [List.getElem?_map, hrb]; rfl) ?_
        obtain ⟨vb, hvb, hvp⟩ := hFn.at_ b rb hrb
        refine ⟨.inl ⟨rfl, vb, sqL_of hvb⟩, ?_⟩
        refine lc_map (gives_rngV (fun Q h => ⟨_, rfl, h⟩) hFn.rg) (Box.none (A := Old H') (fun _ z => z)) (fun _ _ => trivial) (by rw [rngV_len, Int.toNat_natCast]; exact Nat.le_trans (by omega : us.length ≤ 24) (by decide)) (fun x => rfl) fam_in (List.range us.length) (by rw [rngV_len, Int.toNat_natCast, List.length_range]) (fun _ => 2 * (i : Int)) (fun n y z H6 D6 N6 hy hz e6 _ _ hN6 => ?_) fun zs H7 D7 e7 nO7 nD7 _ hD7 hp7 => ?_
        · try simp only [wipe, tC, tVar, tChain, rI0, rI, rU, tOp, tUn, tCall, tAnd, tOr, tNot, tNotV, tAndV, tOrV, tTest, tB, tIf, tIfS, tRet, tRetN, tNext, tSeq, tNil, tCons, tAug, ipI, tPar, tAsg, gName, tDrop, tLst, tTup, tCB, tBM, tBM0, tFld_eq, tMkE, tMake, tAugS, gSub, rEq, rAll, rMax, rSum, rAppend, rExtend, rSetL, _root_.L2.start, List.map_cons, List.map_nil, List.length_cons, List.length_nil, List.replicate_succ, List.replicate_zero, List.cons_append, List.nil_append, List.append_nil, List.getElem?_cons_zero, List.getElem?_cons_succ, List.set_cons_zero, List.set_cons_succ, Nat.reduceAdd, Nat.reduceSub, V.int.injEq, V.bl.injEq, V.ref.injEq, V.str.injEq, exists_eq, exists_eq', exists_eq_left, exists_eq_left', exists_and_left, exists_and_right, Option.some.injEq, List.cons.injEq, and_true, true_and, and_assoc, retV, true_or, or_true, decide_eq_true_eq, if_true, if_false, Bool.false_eq_true, Bool.not_true, Bool.not_false, Bool.not_eq_true', reduceCtorEq, eq_self, decide_true, decide_false, List.length_map, exists_const, false_and, and_false, or_false, false_or, ↓reduceIte]
          exact hN6 _ _ (SameO.refl _ _) trivial rfl
        · obtain rfl := ina_eq hp7
          have z1 : (List.range us.length).map (fun _ => 2 * (i : Int)) = evenC U.length (2 * (i : Int)) := by
            rw [hl]
            simp [evenC, List.map_const']
          rw [z1] at hD7
          try simp only [wipe, tC, tVar, tChain, rI0, rI, rU, tOp, tUn, tCall, tAnd, tOr, tNot, tNotV, tAndV, tOrV, tTest, tB, tIf, tIfS, tRet, tRetN, tNext, tSeq, tNil, tCons, tAug, ipI, tPar, tAsg, gName, tDrop, tLst, tTup, tCB, tBM, tBM0, tFld_eq, tMkE, tMake, tAugS, gSub, rEq, rAll, rMax, rSum, rAppend, rExtend, rSetL, _root_.L2.start, List.map_cons, List.map_nil, List.length_cons, List.length_nil, List.replicate_succ, List.replicate_zero, List.cons_append, List.nil_append, List.append_nil, List.getElem?_cons_zero, List.getElem?_cons_succ, List.set_cons_zero, List.set_cons_succ, Nat.reduceAdd, Nat.reduceSub, V.int.injEq, V.bl.injEq, V.ref.injEq, V.str.injEq, exists_eq, exists_eq', exists_eq_left, exists_eq_left', exists_and_left, exists_and_right, Option.some.injEq, List.cons.injEq, and_true, true_and, and_assoc, retV, true_or, or_true, decide_eq_true_eq, if_true, if_false, Bool.false_eq_true, Bool.not_true, Bool.not_false, Bool.not_eq_true', reduceCtorEq, eq_self, decide_true, decide_false, List.length_map, exists_const, false_and, and_false, or_false, false_or, ↓reduceIte]
          have hF7 := hFn.grow e7.same
          have lb : vb.length ≤ 2 * i := by
            rw [Paired.len hvp]
            exact partTo_le _ _ _ _
          have nA : ∀ {H9 : Hp} {D9 : Addr}, H9 D9 = none → Fnd H Rg F us.length refs (partTo U.length (prs U m) i) H9 → ¬(Old H D9 ∨ D9 = F ∨ D9 = Rg ∨ D9 ∈ refs) := fun nn ff zz => ff.alive _ zz nn
          have hF8 := hF7.app hrb (e7.same _ _ hvb) hD7 (nA nD7 hFn)
          refine ⟨vb, e7.same _ _ hvb, Nat.lt_of_lt_of_le (by omega : vb.length < 10000) (by decide), ?_⟩
          refine ix_at hF8.f (b := o) (v := .ref ro) (by rw [List.getElem?_map, hro]; rfl) ?_
          obtain ⟨vo, hvo, hvop⟩ := hF8.at_ o ro hro
          refine ⟨.inl ⟨rfl, vo, sqL_of hvo⟩, ?_⟩
          refine lc_map (gives_rngV (fun Q h => ⟨_, rfl, h⟩) hF8.rg) (Box.none (A := Old (upd H7 rb (.lst (vb ++ [.ref D7])))) (fun _ z => z)) (fun _ _ => trivial) (by rw [rngV_len, Int.toNat_natCast]; exact Nat.le_trans (by omega : us.length ≤ 24) (by decide)) (fun x => rfl) fam_in (List.range us.length) (by rw [rngV_len, Int.toNat_natCast, List.length_range]) (fun j => if ((j : Nat) : Int) = ax then 2 * (i : Int) + 1 else 2 * (i : Int)) (fun n y z H6 D6 N6 hy hz e6 _ _ hN6 => ?_) fun zs H9 D9 e9 nO9 nD9 _ hD9 hp9 => ?_
          · rw [Int.toNat_natCast] at hy
            obtain rfl := rngV_at hy hz
            try simp only [wipe, tC, tVar, tChain, rI0, rI, rU, tOp, tUn, tCall, tAnd, tOr, tNot, tNotV, tAndV, tOrV, tTest, tB, tIf, tIfS, tRet, tRetN, tNext, tSeq, tNil, tCons, tAug, ipI, tPar, tAsg, gName, tDrop, tLst, tTup, tCB, tBM, tBM0, tFld_eq, tMkE, tMake, tAugS, gSub, rEq, rAll, rMax, rSum, rAppend, rExtend, rSetL, _root_.L2.start, List.map_cons, List.map_nil, List.length_cons, List.length_nil, List.replicate_succ, List.replicate_zero, List.cons_append, List.nil_append, List.append_nil, List.getElem?_cons_zero, List.getElem?_cons_succ, List.set_cons_zero, List.set_cons_succ, Nat.reduceAdd, Nat.reduceSub, V.int.injEq, V.bl.injEq, V.ref.injEq, V.str.injEq, exists_eq, exists_eq', exists_eq_left, exists_eq_left', exists_and_left, exists_and_right, Option.some.injEq, List.cons.injEq, and_true, true_and, and_assoc, retV, true_or, or_true, decide_eq_true_eq, if_true, if_false, Bool.false_eq_true, Bool.not_true, Bool.not_false, Bool.not_eq_true', reduceCtorEq, eq_self, decide_true, decide_false, List.length_map, exists_const, false_and, and_false, or_false, false_or, scal, ↓reduceIte]
            by_cases hza : ((z : Nat) : Int) = ax
            · rw [if_pos hza]
              exact hN6 _ _ (SameO.refl _ _) trivial (by rw [if_pos hza]; rfl)
            · rw [if_neg hza]
              exact hN6 _ _ (SameO.refl _ _) trivial (by rw [if_neg hza]; rfl)
          · obtain rfl := ina_eq hp9
            have z2 : (List.range us.length).map (fun j => if ((j : Nat) : Int) = ax then 2 * (i : Int) + 1 else 2 * (i : Int)) = shiftC U.length ax (2 * (i : Int)) := by
              rw [hl]
              rfl
            rw [z2] at hD9
            try simp only [wipe, tC, tVar, tChain, rI0, rI, rU, tOp, tUn, tCall, tAnd, tOr, tNot, tNotV, tAndV, tOrV, tTest, tB, tIf, tIfS, tRet, tRetN, tNext, tSeq, tNil, tCons, tAug, ipI, tPar, tAsg, gName, tDrop, tLst, tTup, tCB, tBM, tBM0, tFld_eq, tMkE, tMake, tAugS, gSub, rEq, rAll, rMax, rSum, rAppend, rExtend, rSetL, _root_.L2.start, List.map_cons, List.map_nil, List.length_cons, List.length_nil, List.replicate_succ, List.replicate_zero, List.cons_append, List.nil_append, List.append_nil, List.getElem?_cons_zero, List.getElem?_cons_succ, List.set_cons_zero, List.set_cons_succ, Nat.reduceAdd, Nat.reduceSub, V.int.injEq, V.bl.injEq, V.ref.injEq, V.str.injEq, exists_eq, exists_eq', exists_eq_left, exists_eq_left', exists_and_left, exists_and_right, Option.some.injEq, List.cons.injEq, and_true, true_and, and_assoc, retV, true_or, or_true, decide_eq_true_eq, if_true, if_false, Bool.false_eq_true, Bool.not_true, Bool.not_false, Bool.not_eq_true', reduceCtorEq, eq_self, decide_true, decide_false, List.length_map, exists_const, false_and, and_false, or_false, false_or, ↓reduceIte]
            have lo : vo.length ≤ 2 * i := by
              rw [Paired.len hvop, if_neg (by omega : ¬o = b)]
              exact partTo_le _ _ _ _
            have hF9 := hF8.grow e9.same
            have hF10 := hF9.app hro (e9.same _ _ hvo) hD9 (fun zz => hF8.alive _ zz nD9)
            have n1 := npr rb (List.mem_of_getElem? hrb)
            have n2 := npr ro (List.mem_of_getElem? hro)
            refine ⟨vo, e9.same _ _ hvo, Nat.lt_of_lt_of_le (by omega : vo.length < 10000) (by decide), by omega, hF10.eq fun x hx => ?_, ?_, ?_⟩
            · have hg : (prs U m).getD i [] = [(ax : Int), (b : Int), (o : Int)] := by simp [List.getD, hpi]
              rw [partTo_succ, hg, pcell_of _ _ _ _ _ _ hbo]
              by_cases x1 : x = o
              · subst x1
                rw [if_pos rfl, if_pos rfl, if_neg (by omega)]
              · rw [if_neg x1, if_neg x1]
                by_cases x2 : x = b
                · subst x2
                  rw [if_pos rfl, if_pos rfl]
                · rw [if_neg x2, if_neg x2, List.append_nil]
            · rw [upd_ne n2]
              refine e9.same _ _ ?_
              rw [upd_ne n1]
              exact e7.same _ _ hpa'
            · exact (famT_tp famT_in).p ((Tk.of e7.same).trans ((Tk.lst (e7.same _ _ hvb)).trans ((Tk.of e9.same).trans (Tk.lst (e9.same _ _ hvo))))) hps
      · obtain ⟨⟨u3, u5, u6, u7, u8, u9, rfl⟩, hFn, hpa', hps⟩ := h
        try simp only [wipe, tC, tVar, tChain, rI0, rI, rU, tOp, tUn, tCall, tAnd, tOr, tNot, tNotV, tAndV, tOrV, tTest, tB, tIf, tIfS, tRet, tRetN, tNext, tSeq, tNil, tCons, tAug, ipI, tPar, tAsg, gName, tDrop, tLst, tTup, tCB, tBM, tBM0, tFld_eq, tMkE, tMake, tAugS, gSub, rEq, rAll, rMax, rSum, rAppend, rExtend, rSetL, _root_.L2.start, List.map_cons, List.map_nil, List.length_cons, List.length_nil, List.replicate_succ, List.replicate_zero, List.cons_append, List.nil_append, List.append_nil, List.getElem?_cons_zero, List.getElem?_cons_succ, List.set_cons_zero, List.set_cons_succ, Nat.reduceAdd, Nat.reduceSub, V.int.injEq, V.bl.injEq, V.ref.injEq, V.str.injEq, exists_eq, exists_eq', exists_eq_left, exists_eq_left', exists_and_left, exists_and_right, Option.some.injEq, List.cons.injEq, and_true, true_and, and_assoc, retV, true_or, or_true, decide_eq_true_eq, if_true, if_false, Bool.false_eq_true, Bool.not_true, Bool.not_false, Bool.not_eq_true', reduceCtorEq, eq_self, decide_true, decide_false, List.length_map, exists_const, false_and, and_false, or_false, false_or, ↓reduceIte]
        rw [lP] at hFn
        rw [lP]
        refine for_go (gives_sq (fun Q h => ⟨_, rfl, h⟩) (.inl hFn.f)) (fun i σ H' => (∃ u3 u5 u6 u7 u8 u9, σ = [some (.ref x), some (.ref Rg), some (.ref F), u3, some (.int (2 * ((prs U m).length : Int) + (loneTo U.length (prs U m) i : Int))), u5, u6, u7, u8, u9]) ∧
            Fnd H Rg F us.length refs (fun y => if y < i then finC U.length (prs U m) y else part U.length (prs U m) y) H')
          ⟨⟨u3, u5, u6, u7, u8, u9, by simp [loneTo]⟩, hFn.eq fun b _ => by simp [part]⟩ (fun i σ H' _ h => ?_) (fun i y σ H5 hi hy h => ?_) (fun σ H5 h => ?_)
        · rw [h.2.f, hFn.f]
        · obtain ⟨⟨u3, u5, u6, u7, u8, u9, rfl⟩, hF5⟩ := h
          rw [List.length_map] at hi
          rw [List.getElem?_map] at hy
          obtain ⟨r, hr1⟩ := getI hi
          rw [hr1] at hy
          obtain rfl := Option.some.inj hy
          obtain ⟨vs, hvs, hvp⟩ := hF5.at_ i r hr1
          rw [if_neg (Nat.lt_irrefl _)] at hvp
          have lv := Paired.len hvp
          try simp only [wipe, tC, tVar, tChain, rI0, rI, rU, tOp, tUn, tCall, tAnd, tOr, tNot, tNotV, tAndV, tOrV, tTest, tB, tIf, tIfS, tRet, tRetN, tNext, tSeq, tNil, tCons, tAug, ipI, tPar, tAsg, gName, tDrop, tLst, tTup, tCB, tBM, tBM0, tFld_eq, tMkE, tMake, tAugS, gSub, rEq, rAll, rMax, rSum, rAppend, rExtend, rSetL, _root_.L2.start, List.map_cons, List.map_nil, List.length_cons, List.length_nil, List.replicate_succ, List.replicate_zero, List.cons_append, List.nil_append, List.append_nil, List.getElem?_cons_zero, List.getElem?_cons_succ, List.set_cons_zero, List.set_cons_succ, Nat.reduceAdd, Nat.reduceSub, V.int.injEq, V.bl.injEq, V.ref.injEq, V.str.injEq, exists_eq, exists_eq', exists_eq_left, exists_eq_left', exists_and_left, exists_and_right, Option.some.injEq, List.cons.injEq, and_true, true_and, and_assoc, retV, true_or, or_true, decide_eq_true_eq, if_true, if_false, Bool.false_eq_true, Bool.not_true, Bool.not_false, Bool.not_eq_true', reduceCtorEq, eq_self, decide_true, decide_false, List.length_map, exists_const, false_and, and_false, or_false, false_or, ↓reduceIte]
          refine len_sq (.inl hvs) ?_
          try simp only [wipe, tC, tVar, tChain, rI0, rI, rU, tOp, tUn, tCall, tAnd, tOr, tNot, tNotV, tAndV, tOrV, tTest, tB, tIf, tIfS, tRet, tRetN, tNext, tSeq, tNil, tCons, tAug, ipI, tPar, tAsg, gName, tDrop, tLst, tTup, tCB, tBM, tBM0, tFld_eq, tMkE, tMake, tAugS, gSub, rEq, rAll, rMax, rSum, rAppend, rExtend, rSetL, _root_.L2.start, List.map_cons, List.map_nil, List.length_cons, List.length_nil, List.replicate_succ, List.replicate_zero, List.cons_append, List.nil_append, List.append_nil, List.getElem?_cons_zero, List.getElem?_cons_succ, List.set_cons_zero, List.set_cons_succ, Nat.reduceAdd, Nat.reduceSub, V.int.injEq, V.bl.injEq, V.ref.injEq, V.str.injEq, exists_eq, exists_eq', exists_eq_left, exists_eq_left', exists_and_left, exists_and_right, Option.some.injEq, List.cons.injEq, and_true, true_and, and_assoc, retV, true_or, or_true, decide_eq_true_eq, if_true, if_false, Bool.false_eq_true, Bool.not_true, Bool.not_false, Bool.not_eq_true', reduceCtorEq, eq_self, decide_true, decide_false, List.length_map, exists_const, false_and, and_false, or_false, false_or, scal, ↓reduceIte]
          have lst1 : loneTo U.length (prs U m) (i + 1) = loneTo U.length (prs U m) i + if part U.length (prs U m) i = [] then 1 else 0 := by
            unfold loneTo
            rw [List.range_succ, List.countP_append, List.countP_singleton]
            simp only [decide_eq_true_eq]
          by_cases hv0 : part U.length (prs U m) i = []
          · rw [hv0] at lv
            obtain rfl := List.length_eq_zero_iff.1 lv
            rw [if_pos (by simp)]
            refine ⟨.inl ⟨rfl, [], sqL_of hvs⟩, ?_⟩
            refine lc_map (gives_rngV (fun Q h => ⟨_, rfl, h⟩) hF5.rg) (Box.none (A := Old H5) (fun _ z => z)) (fun _ _ => trivial) (by rw [rngV_len, Int.toNat_natCast]; exact Nat.le_trans (by omega : us.length ≤ 24) (by decide)) (fun x => rfl) fam_in (List.range us.length) (by rw [rngV_len, Int.toNat_natCast, List.length_range]) (fun _ => 2 * ((prs U m).length : Int) + (loneTo U.length (prs U m) i : Int)) (fun n y z H6 D6 N6 hy hz e6 _ _ hN6 => ?_) fun zs H7 D7 e7 nO7 nD7 _ hD7 hp7 => ?_
            · try simp only [wipe, tC, tVar, tChain, rI0, rI, rU, tOp, tUn, tCall, tAnd, tOr, tNot, tNotV, tAndV, tOrV, tTest, tB, tIf, tIfS, tRet, tRetN, tNext, tSeq, tNil, tCons, tAug, ipI, tPar, tAsg, gName, tDrop, tLst, tTup, tCB, tBM, tBM0, tFld_eq, tMkE, tMake, tAugS, gSub, rEq, rAll, rMax, rSum, rAppend, rExtend, rSetL, _root_.L2.start, List.map_cons, List.map_nil, List.length_cons, List.length_nil, List.replicate_succ, List.replicate_zero, List.cons_append, List.nil_append, List.append_nil, List.getElem?_cons_zero, List.getElem?_cons_succ, List.set_cons_zero, List.set_cons_succ, Nat.reduceAdd, Nat.reduceSub, V.int.injEq, V.bl.injEq, V.ref.injEq, V.str.injEq, exists_eq, exists_eq', exists_eq_left, exists_eq_left', exists_and_left, exists_and_right, Option.some.injEq, List.cons.injEq, and_true, true_and, and_assoc, retV, true_or, or_true, decide_eq_true_eq, if_true, if_false, Bool.false_eq_true, Bool.not_true, Bool.not_false, Bool.not_eq_true', reduceCtorEq, eq_self, decide_true, decide_false, List.length_map, exists_const, false_and, and_false, or_false, false_or, ↓reduceIte]
              exact hN6 _ _ (SameO.refl _ _) trivial rfl
            · obtain rfl := ina_eq hp7
              have z1 : (List.range us.length).map (fun _ => 2 * ((prs U m).length : Int) + (loneTo U.length (prs U m) i : Int)) = evenC U.length (2 * ((prs U m).length : Int) + (loneTo U.length (prs U m) i : Int)) := by
                rw [hl]
                simp [evenC, List.map_const']
              rw [z1] at hD7
              try simp only [wipe, tC, tVar, tChain, rI0, rI, rU, tOp, tUn, tCall, tAnd, tOr, tNot, tNotV, tAndV, tOrV, tTest, tB, tIf, tIfS, tRet, tRetN, tNext, tSeq, tNil, tCons, tAug, ipI, tPar, tAsg, gName, tDrop, tLst, tTup, tCB, tBM, tBM0, tFld_eq, tMkE, tMake, tAugS, gSub, rEq, rAll, rMax, rSum, rAppend, rExtend, rSetL, _root_.L2.start, List.map_cons, List.map_nil, List.length_cons, List.length_nil, List.replicate_succ, List.replicate_zero, List.cons_append, List.nil_append, List.append_nil, List.getElem?_cons_zero, List.getElem?_cons_succ, List.set_cons_zero, List.set_cons_succ, Nat.reduceAdd, Nat.reduceSub, V.int.injEq, V.bl.injEq, V.ref.injEq, V.str.injEq, exists_eq, exists_eq', exists_eq_left, exists_eq_left', exists_and_left, exists_and_right, Option.some.injEq, List.cons.injEq, and_true, true_and, and_assoc, retV, true_or, or_true, decide_eq_true_eq, if_true, if_false, Bool.false_eq_true, Bool.not_true, Bool.not_false, Bool.not_eq_true', reduceCtorEq, eq_self, decide_true, decide_false, List.length_map, exists_const, false_and, and_false, or_false, false_or, ↓reduceIte]
              refine ⟨[], e7.same _ _ hvs, by decide, ?_, ?_⟩
              · rw [lst1, if_pos hv0]
                omega
              · refine ((hF5.grow e7.same).app hr1 (e7.same _ _ hvs) hD7 (fun zz => hF5.alive _ zz nD7)).eq fun b hb => ?_
                by_cases eb : b = i
                · subst eb
                  rw [if_pos rfl, if_pos (Nat.lt_succ_self _), if_neg (Nat.lt_irrefl _), hv0, finC, if_pos hv0, List.nil_append]
                · rw [if_neg eb]
                  by_cases lb : b < i
                  · rw [if_pos lb, if_pos (by omega)]
                  · rw [if_neg lb, if_neg (by omega)]
          · rw [if_neg (by
              rw [lv]
              intro z
              exact hv0 (List.length_eq_zero_iff.1 (by omega)))]
            refine ⟨?_, hF5.eq fun b hb => ?_⟩
            · rw [lst1, if_neg hv0]
              omega
            · by_cases eb : b = i
              · subst eb
                rw [if_pos (Nat.lt_succ_self _), if_neg (Nat.lt_irrefl _), finC, if_neg hv0]
              · by_cases lb : b < i
                · rw [if_pos lb, if_pos (by omega)]
                · rw [if_neg lb, if_neg (by omega)]
        · obtain ⟨⟨u3, u5, u6, u7, u8, u9, rfl⟩, hF5⟩ := h
          rw [List.length_map] at hF5
          try simp only [wipe, tC, tVar, tChain, rI0, rI, rU, tOp, tUn, tCall, tAnd, tOr, tNot, tNotV, tAndV, tOrV, tTest, tB, tIf, tIfS, tRet, tRetN, tNext, tSeq, tNil, tCons, tAug, ipI, tPar, tAsg, gName, tDrop, tLst, tTup, tCB, tBM, tBM0, tFld_eq, tMkE, tMake, tAugS, gSub, rEq, rAll, rMax, rSum, rAppend, rExtend, rSetL, _root_.L2.start, List.map_cons, List.map_nil, List.length_cons, List.length_nil, List.replicate_succ, List.replicate_zero, List.cons_append, List.nil_append, List.append_nil, List.getElem?_cons_zero, List.getElem?_cons_succ, List.set_cons_zero, List.set_cons_succ, Nat.reduceAdd, Nat.reduceSub, V.int.injEq, V.bl.injEq, V.ref.injEq, V.str.injEq, exists_eq, exists_eq', exists_eq_left, exists_eq_left', exists_and_left, exists_and_right, Option.some.injEq, List.cons.injEq, and_true, true_and, and_assoc, retV, true_or, or_true, decide_eq_true_eq, if_true, if_false, Bool.false_eq_true, Bool.not_true, Bool.not_false, Bool.not_eq_true', reduceCtorEq, eq_self, decide_true, decide_false, List.length_map, exists_const, false_and, and_false, or_false, false_or, ↓reduceIte]
          have hm1 : 0 < refs.length := by omega
          have nFH : ¬Old H F := fun z => nAF (show _ ≠ none from by
            cases hh : H F with
            | none => exact absurd hh z
            | some o => rw [eR _ _ hh]; exact fun z => nomatch z)
          refine q _ _ hF5.same ⟨F, _, rfl, nFH, hF5.f, ?_⟩
          refine paired_ix (by rw [List.length_map, hrl, cellsOf, List.length_map, List.length_range]) fun b y c hy hc => ?_
          rw [List.getElem?_map] at hy
          cases hrb : refs[b]? with
          | none =>
            rw [hrb] at hy
            cases hy
          | some r =>
            rw [hrb] at hy
            obtain rfl := Option.some.inj hy
            have hbl := (List.getElem?_eq_some_iff.1 hrb).1
            have hc' : (cellsOf U m)[b]? = some (finC U.length (prs U m) b) := by
              unfold cellsOf
              rw [List.getElem?_map, List.getElem?_range (by omega)]
              rfl
            rw [hc'] at hc
            obtain rfl := Option.some.inj hc
            obtain ⟨vs, h1, h2⟩ := hF5.at_ b r hrb
            rw [if_pos hbl] at h2
            exact ⟨r, vs, rfl, fun z => z (hF5.new r (List.mem_of_getElem? hrb)).1, h1, (fam_ls fam_in).weakP (fun a h => .inl h) h2⟩
end
end K76
set_option Elab.async false
set_option linter.all false
set_option maxRecDepth 100000
set_option maxHeartbeats 4000000
/-! k76: bodies_for -/
namespace K76
open PySem PySem.Spec PyProof.Rows L2 He HK
def pairsOf (U : Ups) (m : Nat) : List (List Int) := (prs U m).map List.tail
def toldU (U : Ups) (m : Nat) : List Int := toldL m (pairsOf U m)
def sp_bodies_for (w : World) (K : PySem.W.Frag) : Sp := fun vs H Q E => ∃ x, vs = [x] ∧ ((Alien K H x ∧ Err (ga K "InvalidWays") "at" (.int (-1)) H E) ∨ ∃ m U, WayO K m U H x ∧ UpsOk m U ∧ 1 ≤ m ∧
  ((U.length = 1 ∨ 3 < U.length) → Err (ga K "Refused") "at" (.int (-1)) H E) ∧ (¬(U.length = 1 ∨ 3 < U.length) → (¬Few (toldU U m) → Err (ga K "InvalidSize") "word" (.str "cells") H E) ∧
    (Few (toldU U m) → BodOk w U.length (cellsOf U m) ∧ Ret (BodO K U.length (cellsOf U m)) H Q)))
theorem sq_ls {α : Type} {R R' : RlA α} {A B : Addr → Prop} {H : Hp} {v : V} {x : List α} (h : ∀ v x, R A H v x → R' B H v x) (hb : ∀ a, B a → A a) (r : LsF R A H v x) : SqF R' B H v x := by
  obtain ⟨a, vs, e, n, k, p⟩ := r
  exact ⟨a, vs, e, fun z => n (hb a z), .inl k, Paired.imp (fun _ _ h' => h _ _ h') p⟩
theorem Err.wk {C : Addr} {f : Str} {v : V} {H H' : Hp} {E : XK} (h : Err C f v H E) (e : Same H H') : Err C f v H' E := fun H1 d e1 n => h H1 d (e.trans e1) n
section
variable {w : World} {K : PySem.W.Frag} {mg : Str → Option Value} {base : Heap}
theorem C_bodies_for (S : Sc K mg) : Cal prg w K mg base (L2.CX prg w) "bodies_for" 8 ["ways"] [] (sp_bodies_for w K) := by
  have C_met_pairs : Cal prg w K mg base CX0 "met_pairs" 1 ["ways"] [] (sp_met_pairs K) := C_met_pairs S
  have C_need_ways := C_need_ways (w := w) (base := base) S
  have C_need_few_cells := C_need_few_cells (w := w) (base := base) S
  have C_cells_of_ways := C_cells_of_ways (w := w) (base := base) S
  have C_Bodies := C_Bodies (w := w) (base := base) S
  refine S.calX (d := d_bodies_for) 22 18 sc_bodies_for rfl rfl rfl rfl rfl (fun _ _ _ _ _ _ us hl => match us, hl with | [_], _ => rfl) (fun vs H Q E h => ?_) (fun f cdv A outer s H vs Q E hr h => ?_)
  · obtain ⟨x, rfl, _⟩ := h
    rfl
  · obtain ⟨x, rfl, h⟩ := h
    refine ⟨_, (pss_cons (ps_expr (pe_c C_need_ways (hr.mono (by omega)) (passes_call (takes_of rfl rfl rfl rfl) fun _ _ _ _ h => h) (pa_cons (pv 0) pa_nil)))
      (pss_cons (ps_if (PW.pt (pw_or (pt_cmpR op_eq (pe_callB cr_lenA (by rfl) (S.free 41) (by decide +kernel) (pa_cons (pe_fld (pv 0) rfl) pa_nil)) pe_int (nomark _)) (pw_or1 (pt_cmpR op_gt (pe_callB cr_lenA (by rfl) (S.free 41) (by decide +kernel) (pa_cons (pe_fld (pv 0) rfl) pa_nil)) (pe_gi (S.int 56)) (nomark _))))) (pss_one (ps_raise rfl (takes_of rfl rfl rfl rfl) (mk_Refused S rfl hr (pa_cons (pe_un un_neg pe_int) pa_nil) rfl rfl rfl))) pss_nil)
      (pss_cons (ps_expr (pe_c C_need_few_cells (hr.mono (by omega)) (passes_call (takes_of rfl rfl rfl rfl) fun _ _ _ _ h => h) (pa_cons (pe_fld (pv 0) rfl) (pa_cons (pe_lc (own := [("_", 1), ("body", 2), ("other", 3)]) (g := (gTup K 3 (gCons (gName 1) (gCons (gName 2) (gCons (gName 3) gNil))))) (tt := tYes) rfl sc_bodies_for.nd (pi_seq (pe_c C_met_pairs (hr.mono (by omega)) pass0 (pa_cons (pv 0) pa_nil))) (blkOk_by (N := ["ways", "_", "body", "other"]) (sc := defScope s_bodies_for) (by decide +kernel)) (fun _ _ _ _ _ => (pg_tup (by rfl) (pgs_cons (pg_name (i := 1) sc_bodies_for.nd rfl (by first | exact Or.inl rfl | exact Or.inr rfl)) (pgs_cons (pg_name (i := 2) sc_bodies_for.nd rfl (by first | exact Or.inl rfl | exact Or.inr rfl)) (pgs_cons (pg_name (i := 3) sc_bodies_for.nd rfl (by first | exact Or.inl rfl | exact Or.inr rfl)) pgs_nil))))) (fun _ _ _ _ _ => pts_nil) (fun _ _ _ _ _ => (pe_tup (pa_cons (pv 2) (pa_cons (pv 3) pa_nil))))) pa_nil))))
      (pss_one (ps_ret (pe_m C_Bodies (hr.mono (by omega)) pass0 (pa_cons (pe_callB cr_lenA (by rfl) (S.free 41) (by decide +kernel) (pa_cons (pe_fld (pv 0) rfl) pa_nil)) (pa_cons (pe_c C_cells_of_ways (hr.mono (by omega)) pass0 (pa_cons (pv 0) pa_nil)) pa_nil)))))))), ?_⟩
    try simp only [wipe, tC, tVar, tChain, rI0, rI, rU, tOp, tUn, tCall, tAnd, tOr, tNot, tNotV, tAndV, tOrV, tTest, tB, tIf, tIfS, tRet, tRetN, tNext, tSeq, tNil, tCons, tAug, ipI, tPar, tAsg, gName, tDrop, tLst, tTup, tCB, tBM, tBM0, tFld_eq, tMkE, tMake, tAugS, gSub, rEq, rAll, rMax, rSum, rAppend, rExtend, rSetL, _root_.L2.start, List.map_cons, List.map_nil, List.length_cons, List.length_nil, List.replicate_succ, List.replicate_zero, List.cons_append, List.nil_append, List.append_nil, List.getElem?_cons_zero, List.getElem?_cons_succ, List.set_cons_zero, List.set_cons_succ, Nat.reduceAdd, Nat.reduceSub, V.int.injEq, V.bl.injEq, V.ref.injEq, V.str.injEq, exists_eq, exists_eq', exists_eq_left, exists_eq_left', exists_and_left, exists_and_right, Option.some.injEq, List.cons.injEq, and_true, true_and, and_assoc, retV, true_or, or_true, decide_eq_true_eq, if_true, if_false, Bool.false_eq_true, Bool.not_true, Bool.not_false, Bool.not_eq_true', reduceCtorEq, eq_self, decide_true, decide_false, List.length_map, exists_const, false_and, and_false, or_false, false_or, ↓reduceIte]
    rcases h with ⟨hA, hE⟩ | ⟨m, U, hW, O, m1, hR, hS⟩
    · exact ⟨x, rfl, .inr ⟨hA, hE⟩⟩
    · refine ⟨x, rfl, .inl ⟨m, U, hW, retV.2 fun H1 e1 => ?_⟩⟩
      have hW1 := same_way e1 hW
      try simp only [wipe, tC, tVar, tChain, rI0, rI, rU, tOp, tUn, tCall, tAnd, tOr, tNot, tNotV, tAndV, tOrV, tTest, tB, tIf, tIfS, tRet, tRetN, tNext, tSeq, tNil, tCons, tAug, ipI, tPar, tAsg, gName, tDrop, tLst, tTup, tCB, tBM, tBM0, tFld_eq, tMkE, tMake, tAugS, gSub, rEq, rAll, rMax, rSum, rAppend, rExtend, rSetL, _root_.L2.start, List.map_cons, List.map_nil, List.length_cons, List.length_nil, List.replicate_succ, List.replicate_zero, List.cons_append, List.nil_append, List.append_nil, List.getElem?_cons_zero, List.getElem?_cons_succ, List.set_cons_zero, List.set_cons_succ, Nat.reduceAdd, Nat.reduceSub, V.int.injEq, V.bl.injEq, V.ref.injEq, V.str.injEq, exists_eq, exists_eq', exists_eq_left, exists_eq_left', exists_and_left, exists_and_right, Option.some.injEq, List.cons.injEq, and_true, true_and, and_assoc, retV, true_or, or_true, decide_eq_true_eq, if_true, if_false, Bool.false_eq_true, Bool.not_true, Bool.not_false, Bool.not_eq_true', reduceCtorEq, eq_self, decide_true, decide_false, List.length_map, exists_const, false_and, and_false, or_false, false_or, ↓reduceIte]
      refine way_ups S hW1 fun t ht => ?_
      obtain ⟨a, us, rfl, ha, hp⟩ := ht
      have hl : us.length = U.length := Paired.len hp
      refine len_sq (.inr ha) ?_
      try simp only [wipe, tC, tVar, tChain, rI0, rI, rU, tOp, tUn, tCall, tAnd, tOr, tNot, tNotV, tAndV, tOrV, tTest, tB, tIf, tIfS, tRet, tRetN, tNext, tSeq, tNil, tCons, tAug, ipI, tPar, tAsg, gName, tDrop, tLst, tTup, tCB, tBM, tBM0, tFld_eq, tMkE, tMake, tAugS, gSub, rEq, rAll, rMax, rSum, rAppend, rExtend, rSetL, _root_.L2.start, List.map_cons, List.map_nil, List.length_cons, List.length_nil, List.replicate_succ, List.replicate_zero, List.cons_append, List.nil_append, List.append_nil, List.getElem?_cons_zero, List.getElem?_cons_succ, List.set_cons_zero, List.set_cons_succ, Nat.reduceAdd, Nat.reduceSub, V.int.injEq, V.bl.injEq, V.ref.injEq, V.str.injEq, exists_eq, exists_eq', exists_eq_left, exists_eq_left', exists_and_left, exists_and_right, Option.some.injEq, List.cons.injEq, and_true, true_and, and_assoc, retV, true_or, or_true, decide_eq_true_eq, if_true, if_false, Bool.false_eq_true, Bool.not_true, Bool.not_false, Bool.not_eq_true', reduceCtorEq, eq_self, decide_true, decide_false, List.length_map, exists_const, false_and, and_false, or_false, false_or, scal, ↓reduceIte]
      by_cases hU1 : U.length = 1
      · rw [if_pos (by omega)]
        exact fun d nd => hR (.inl hU1) _ d e1 nd
      · rw [if_neg (by omega)]
        refine way_ups S hW1 fun t ht => ?_
        obtain ⟨a2, us2, rfl, ha2, hp2⟩ := ht
        have hl2 : us2.length = U.length := Paired.len hp2
        refine len_sq (.inr ha2) ?_
        try simp only [wipe, tC, tVar, tChain, rI0, rI, rU, tOp, tUn, tCall, tAnd, tOr, tNot, tNotV, tAndV, tOrV, tTest, tB, tIf, tIfS, tRet, tRetN, tNext, tSeq, tNil, tCons, tAug, ipI, tPar, tAsg, gName, tDrop, tLst, tTup, tCB, tBM, tBM0, tFld_eq, tMkE, tMake, tAugS, gSub, rEq, rAll, rMax, rSum, rAppend, rExtend, rSetL, _root_.L2.start, List.map_cons, List.map_nil, List.length_cons, List.length_nil, List.replicate_succ, List.replicate_zero, List.cons_append, List.nil_append, List.append_nil, List.getElem?_cons_zero, List.getElem?_cons_succ, List.set_cons_zero, List.set_cons_succ, Nat.reduceAdd, Nat.reduceSub, V.int.injEq, V.bl.injEq, V.ref.injEq, V.str.injEq, exists_eq, exists_eq', exists_eq_left, exists_eq_left', exists_and_left, exists_and_right, Option.some.injEq, List.cons.injEq, and_true, true_and, and_assoc, retV, true_or, or_true, decide_eq_true_eq, if_true, if_false, Bool.false_eq_true, Bool.not_true, Bool.not_false, Bool.not_eq_true', reduceCtorEq, eq_self, decide_true, decide_false, List.length_map, exists_const, false_and, and_false, or_false, false_or, ↓reduceIte]
        by_cases hU3 : 3 < U.length
        · rw [if_pos (by omega)]
          exact fun d nd => hR (.inr hU3) _ d e1 nd
        · rw [if_neg (by omega)]
          obtain ⟨hF, hG⟩ := hS (by omega)
          refine way_many S hW1 ?_
          rw [lc_call]
          try simp only [wipe, tC, tVar, tChain, rI0, rI, rU, tOp, tUn, tCall, tAnd, tOr, tNot, tNotV, tAndV, tOrV, tTest, tB, tIf, tIfS, tRet, tRetN, tNext, tSeq, tNil, tCons, tAug, ipI, tPar, tAsg, gName, tDrop, tLst, tTup, tCB, tBM, tBM0, tFld_eq, tMkE, tMake, tAugS, gSub, rEq, rAll, rMax, rSum, rAppend, rExtend, rSetL, _root_.L2.start, List.map_cons, List.map_nil, List.length_cons, List.length_nil, List.replicate_succ, List.replicate_zero, List.cons_append, List.nil_append, List.append_nil, List.getElem?_cons_zero, List.getElem?_cons_succ, List.set_cons_zero, List.set_cons_succ, Nat.reduceAdd, Nat.reduceSub, V.int.injEq, V.bl.injEq, V.ref.injEq, V.str.injEq, exists_eq, exists_eq', exists_eq_left, exists_eq_left', exists_and_left, exists_and_right, Option.some.injEq, List.cons.injEq, and_true, true_and, and_assoc, retV, true_or, or_true, decide_eq_true_eq, if_true, if_false, Bool.false_eq_true, Bool.not_true, Bool.not_false, Bool.not_eq_true', reduceCtorEq, eq_self, decide_true, decide_false, List.length_map, exists_const, false_and, and_false, or_false, false_or, ↓reduceIte]
          refine ⟨x, m, U, rfl, hW1, O, fun v H2 e2 hv => ?_⟩
          obtain ⟨pa, ps, rfl, npa, hpa, hpp⟩ := hv
          have lP : ps.length = (prs U m).length := Paired.len hpp
          have P4 : (prs U m).length ≤ 4000 := by
            have h1 := prsTo_le O U.length
            have h3 : U.length * (m * m) ≤ 24 * (12 * 12) := Nat.mul_le_mul O.2.1 (Nat.mul_le_mul O.2.2.1 O.2.2.1)
            show (prsTo U m U.length).length ≤ 4000
            omega
          refine lc_acc (gives_sq (fun Q h => h) (.inl hpa)) (Box.none (A := No) (fun _ z => z.elim)) (fun H' e => by rw [e.same _ _ hpa, hpa]) (Nat.le_trans (by omega : ps.length ≤ 4000) (by decide)) (fun A n acc H' => Paired (TpF InA No H') acc (((prs U m).take n).map List.tail))
            (fun _ _ => .nil) (fun e h => (famT_tp famT_in).p e.2.1 h) (fun _ h => h) (fun n y acc H' D N N0 hn hy e _ hA hI hN _ => ?_) fun acc H3 D e3 _ nD _ hD hI => ?_
          · obtain ⟨p, hpi, hr0⟩ := Paired.at hpp hy
            obtain ⟨ax, b, o, rfl, _⟩ := prs_mem O (List.mem_of_getElem? hpi)
            obtain ⟨t, ys, rfl, ht, hyp⟩ := hr0
            obtain rfl := ina_eq hyp
            refine g_three rfl (e.same _ _ ht) ⟨rfl, ?_⟩
            try simp only [wipe, tC, tVar, tChain, rI0, rI, rU, tOp, tUn, tCall, tAnd, tOr, tNot, tNotV, tAndV, tOrV, tTest, tB, tIf, tIfS, tRet, tRetN, tNext, tSeq, tNil, tCons, tAug, ipI, tPar, tAsg, gName, tDrop, tLst, tTup, tCB, tBM, tBM0, tFld_eq, tMkE, tMake, tAugS, gSub, rEq, rAll, rMax, rSum, rAppend, rExtend, rSetL, _root_.L2.start, List.map_cons, List.map_nil, List.length_cons, List.length_nil, List.replicate_succ, List.replicate_zero, List.cons_append, List.nil_append, List.append_nil, List.getElem?_cons_zero, List.getElem?_cons_succ, List.set_cons_zero, List.set_cons_succ, Nat.reduceAdd, Nat.reduceSub, V.int.injEq, V.bl.injEq, V.ref.injEq, V.str.injEq, exists_eq, exists_eq', exists_eq_left, exists_eq_left', exists_and_left, exists_and_right, Option.some.injEq, List.cons.injEq, and_true, true_and, and_assoc, retV, true_or, or_true, decide_eq_true_eq, if_true, if_false, Bool.false_eq_true, Bool.not_true, Bool.not_false, Bool.not_eq_true', reduceCtorEq, eq_self, decide_true, decide_false, List.length_map, exists_const, false_and, and_false, or_false, false_or, tYes, ↓reduceIte]
            refine ⟨by decide, fun q nq => ?_⟩
            refine hN _ _ (.new nq) trivial ?_
            rw [List.take_succ, hpi, Option.toList_some, List.map_append]
            exact Paired.app ((famT_tp famT_in).p (.new nq) hI) (.cons ⟨q, _, rfl, upd_same, .cons rfl (.cons rfl .nil)⟩ .nil)
          · rw [lP, List.take_length] at hI
            have e13 := e1.trans (e2.trans e3.same)
            have hW3 := same_way (e2.trans e3.same) hW1
            refine ⟨m, _, pairsOf U m, rfl, m1, O.2.2.1, ⟨D, acc, rfl, fun z => z, hD, hI⟩, by rw [pairsOf, List.length_map]; exact P4, fun p hp => ?_, fun hf => retV.2 fun H4 e4 => ?_, fun hf => (hF hf).wk e13⟩
            · obtain ⟨p', hp', rfl⟩ := List.mem_map.1 hp
              obtain ⟨ax, b, o, rfl, _, hb, ho, _⟩ := prs_mem O hp'
              exact ⟨b, o, rfl, hb, ho⟩
            · obtain ⟨hB, hQ⟩ := hG hf
              have hW4 := same_way e4 hW3
              try simp only [wipe, tC, tVar, tChain, rI0, rI, rU, tOp, tUn, tCall, tAnd, tOr, tNot, tNotV, tAndV, tOrV, tTest, tB, tIf, tIfS, tRet, tRetN, tNext, tSeq, tNil, tCons, tAug, ipI, tPar, tAsg, gName, tDrop, tLst, tTup, tCB, tBM, tBM0, tFld_eq, tMkE, tMake, tAugS, gSub, rEq, rAll, rMax, rSum, rAppend, rExtend, rSetL, _root_.L2.start, List.map_cons, List.map_nil, List.length_cons, List.length_nil, List.replicate_succ, List.replicate_zero, List.cons_append, List.nil_append, List.append_nil, List.getElem?_cons_zero, List.getElem?_cons_succ, List.set_cons_zero, List.set_cons_succ, Nat.reduceAdd, Nat.reduceSub, V.int.injEq, V.bl.injEq, V.ref.injEq, V.str.injEq, exists_eq, exists_eq', exists_eq_left, exists_eq_left', exists_and_left, exists_and_right, Option.some.injEq, List.cons.injEq, and_true, true_and, and_assoc, retV, true_or, or_true, decide_eq_true_eq, if_true, if_false, Bool.false_eq_true, Bool.not_true, Bool.not_false, Bool.not_eq_true', reduceCtorEq, eq_self, decide_true, decide_false, List.length_map, exists_const, false_and, and_false, or_false, false_or, ↓reduceIte]
              refine way_ups S hW4 fun t ht => ?_
              obtain ⟨a3, us3, rfl, ha3, hp3⟩ := ht
              have hl3 : us3.length = U.length := Paired.len hp3
              refine len_sq (.inr ha3) ?_
              try simp only [wipe, tC, tVar, tChain, rI0, rI, rU, tOp, tUn, tCall, tAnd, tOr, tNot, tNotV, tAndV, tOrV, tTest, tB, tIf, tIfS, tRet, tRetN, tNext, tSeq, tNil, tCons, tAug, ipI, tPar, tAsg, gName, tDrop, tLst, tTup, tCB, tBM, tBM0, tFld_eq, tMkE, tMake, tAugS, gSub, rEq, rAll, rMax, rSum, rAppend, rExtend, rSetL, _root_.L2.start, List.map_cons, List.map_nil, List.length_cons, List.length_nil, List.replicate_succ, List.replicate_zero, List.cons_append, List.nil_append, List.append_nil, List.getElem?_cons_zero, List.getElem?_cons_succ, List.set_cons_zero, List.set_cons_succ, Nat.reduceAdd, Nat.reduceSub, V.int.injEq, V.bl.injEq, V.ref.injEq, V.str.injEq, exists_eq, exists_eq', exists_eq_left, exists_eq_left', exists_and_left, exists_and_right, Option.some.injEq, List.cons.injEq, and_true, true_and, and_assoc, retV, true_or, or_true, decide_eq_true_eq, if_true, if_false, Bool.false_eq_true, Bool.not_true, Bool.not_false, Bool.not_eq_true', reduceCtorEq, eq_self, decide_true, decide_false, List.length_map, exists_const, false_and, and_false, or_false, false_or, ↓reduceIte]
              rw [hl3]
              refine ⟨x, m, U, rfl, hW4, O, m1, fun v H5 e5 hv => ?_⟩
              refine make_bodies (sq_ls (fun v x h => sq_ls (fun v x h => sq_ls (fun v x h => h) (fun _ z => z) h) (fun _ z => z) h) (fun _ z => z) ((fam_ls (fam_ls (fam_ls fam_in))).weak (fun _ z => z.elim) hv)) hB ?_
              exact fun v H6 e6 r => hQ v H6 (e13.trans (e4.trans (e5.trans e6))) r
end
end K76
set_option Elab.async false
set_option linter.all false
set_option maxRecDepth 100000
set_option maxHeartbeats 4000000
/-! k76: rows_along -/
namespace K76
open PySem PySem.Spec PyProof.Rows L2 He HK
abbrev Row := List (Int × Int)
abbrev Rows := List (List Int × Row)
/-- the line of a cell along an axis -/
def ln (a : Nat) (c : List Int) : List Int := c.take a ++ c.drop (a + 1)
def curR (gs : Rows) (l : List Int) : Row := ((gs.find? fun g => decide (g.1 = l)).map (·.2)).getD []
def putR (gs : Rows) (l : List Int) (r : Row) : Rows := if (gs.any fun g => decide (g.1 = l)) = true then gs.map (fun g => if g.1 = l then (g.1, r) else g) else gs ++ [(l, r)]
def addR (a : Nat) (gs : Rows) (o : Nat × List Int) : Rows := putR gs (ln a o.2) (curR gs (ln a o.2) ++ [(o.2.getD a 0, (o.1 : Int))])
def rowsOf (a : Nat) (os : List (Nat × List Int)) : Rows := os.foldl (addR a) []
def occTo (B : List (List (List Int))) (i : Nat) : List (Nat × List Int) := (List.range i).flatMap fun b => (B.getD b []).map fun c => (b, c)
def PrA (H : Hp) (v : V) (p : Int × Int) : Prop := ∃ t, v = .ref t ∧ H t = some (.tup [.int p.1, .int p.2])
def RowA (H : Hp) (kv : List L2.Key × V) (g : List Int × Row) : Prop := kv.1 = ky g.1 ∧ ∃ r vs, kv.2 = .ref r ∧ H r = some (.lst vs) ∧ Paired (PrA H) vs g.2
theorem PrA.tk {H H' : Hp} (e : Tk H H') {v : V} {p : Int × Int} (h : PrA H v p) : PrA H' v p := by
  obtain ⟨t, h1, h2⟩ := h
  exact ⟨t, h1, (e t).1 _ h2⟩
theorem RowA.same {H H' : Hp} (e : Same H H') {kv : List L2.Key × V} {g : List Int × Row} (h : RowA H kv g) : RowA H' kv g := by
  obtain ⟨h1, r, vs, h2, h3, h4⟩ := h
  exact ⟨h1, r, vs, h2, e _ _ h3, Paired.imp (fun _ _ k => k.tk (.of e)) h4⟩
theorem RowA.dT {H : Hp} {D : Addr} {xs ys : List (List L2.Key × V)} (hD : H D = some (.dT xs)) {kv : List L2.Key × V} {g : List Int × Row} (h : RowA H kv g) : RowA (upd H D (.dT ys)) kv g := by
  obtain ⟨h1, r, vs, h2, h3, h4⟩ := h
  exact ⟨h1, r, vs, h2, by rw [upd_ne (ne_of h3 hD (fun z => nomatch z))]; exact h3, Paired.imp (fun _ _ k => k.tk (.dT hD)) h4⟩
theorem rows_any {H : Hp} {l : List Int} : ∀ {kvs : List (List L2.Key × V)} {gs : Rows}, Paired (RowA H) kvs gs → (kvs.any fun kv => decide (kv.1 = ky l)) = gs.any fun g => decide (g.1 = l)
  | _, _, .nil => rfl
  | _, _, .cons r t => by
    rw [List.any_cons, List.any_cons, rows_any t]
    congr 1
    rw [r.1]
    exact decide_eq_decide.2 ⟨fun e => ky_inj e, fun e => by rw [e]⟩
theorem rows_get {H : Hp} {l : List Int} : ∀ {kvs : List (List L2.Key × V)} {gs : Rows}, Paired (RowA H) kvs gs → (valV kvs (ky l) = none ∧ curR gs l = []) ∨ ∃ r vs, valV kvs (ky l) = some (.ref r) ∧ H r = some (.lst vs) ∧ Paired (PrA H) vs (curR gs l)
  | _, _, .nil => .inl ⟨rfl, rfl⟩
  | _, _, .cons (a := kv) (b := g) r t => by
    by_cases e : g.1 = l
    · obtain ⟨r1, r2, vs, e2, e3, e4⟩ := r
      refine .inr ⟨r2, vs, ?_, e3, ?_⟩
      · rw [valV_pos (by rw [r1, e]), e2]
      · unfold curR
        rw [List.find?_cons_of_pos (by simpa using e)]
        exact e4
    · have h1 : ¬kv.1 = ky l := fun z => e (ky_inj (r.1.symm.trans z))
      rw [valV_neg h1]
      have h2 : ∀ gs : Rows, curR (g :: gs) l = curR gs l := fun gs => by
        unfold curR
        rw [List.find?_cons_of_neg (by simpa using e)]
      rw [h2]
      exact rows_get t
theorem rows_put {H : Hp} {l : List Int} {r : Addr} {vs : List V} {row : Row} (hr : H r = some (.lst vs)) (hp : Paired (PrA H) vs row) {kvs : List (List L2.Key × V)} {gs : Rows} (h : Paired (RowA H) kvs gs) : Paired (RowA H) (putK kvs (ky l) (.ref r)) (putR gs l row) := by
  unfold putK putR
  rw [rows_any h]
  by_cases e : (gs.any fun g => decide (g.1 = l)) = true
  · rw [if_pos e, if_pos e]
    clear e
    induction h with
    | nil => exact .nil
    | cons a t ih =>
      rw [List.map_cons, List.map_cons]
      refine .cons ?_ ih
      rename_i kv g _ _
      by_cases e1 : g.1 = l
      · rw [if_pos e1, if_pos (by rw [a.1, e1])]
        exact ⟨a.1, r, vs, rfl, hr, hp⟩
      · rw [if_neg e1, if_neg (fun z => e1 (ky_inj (a.1.symm.trans z)))]
        exact a
  · rw [if_neg e, if_neg e]
    exact Paired.app h (.cons ⟨rfl, r, vs, rfl, hr, hp⟩ .nil)
theorem curR_put (gs : Rows) (l l' : List Int) (r : Row) : curR (putR gs l r) l' = if l' = l then r else curR gs l' := by
  unfold putR
  by_cases e : (gs.any fun g => decide (g.1 = l)) = true
  · rw [if_pos e]
    induction gs with
    | nil => simp at e
    | cons g t ih =>
      rw [List.map_cons]
      unfold curR at ih ⊢
      by_cases e1 : g.1 = l
      · rw [if_pos e1]
        by_cases e2 : l' = l
        · rw [if_pos e2, List.find?_cons_of_pos (by simp [e1, e2])]
          rfl
        · rw [if_neg e2, List.find?_cons_of_neg (by simp only [decide_eq_true_eq]; intro z; exact e2 (z.symm.trans e1)), List.find?_cons_of_neg (by simp only [decide_eq_true_eq]; intro z; exact e2 (z.symm.trans e1))]
          by_cases e3 : (t.any fun g => decide (g.1 = l)) = true
          · have := ih e3
            rw [if_neg e2] at this
            exact this
          · have : t.map (fun g => if g.1 = l then (g.1, r) else g) = t := by
              refine (List.map_congr_left fun g hg => if_neg fun z => e3 (List.any_eq_true.2 ⟨g, hg, decide_eq_true z⟩)).trans (List.map_id t)
            rw [this]
      · rw [if_neg e1]
        have e3 : (t.any fun g => decide (g.1 = l)) = true := by
          rw [List.any_cons, decide_eq_false e1, Bool.false_or] at e
          exact e
        by_cases e2 : g.1 = l'
        · rw [List.find?_cons_of_pos (by simpa using e2), if_neg (fun z => e1 (e2.trans z)), List.find?_cons_of_pos (by simpa using e2)]
        · rw [List.find?_cons_of_neg (by simpa using e2), List.find?_cons_of_neg (by simpa using e2)]
          exact ih e3
  · rw [if_neg e]
    unfold curR
    rw [List.find?_append]
    by_cases e2 : l' = l
    · rw [if_pos e2]
      have : gs.find? (fun g => decide (g.1 = l')) = none := List.find?_eq_none.2 fun g hg z => e (List.any_eq_true.2 ⟨g, hg, by rw [← e2]; exact z⟩)
      rw [this, Option.none_or, List.find?_cons_of_pos (by simpa using e2.symm)]
      rfl
    · rw [if_neg e2, List.find?_cons_of_neg (by simp only [decide_eq_true_eq]; exact fun z => e2 z.symm), List.find?_nil, Option.or_none]
theorem rowsOf_snoc (a : Nat) (os : List (Nat × List Int)) (o : Nat × List Int) : rowsOf a (os ++ [o]) = addR a (rowsOf a os) o := by
  unfold rowsOf
  rw [List.foldl_append]
  rfl
theorem foldl_curR (a : Nat) : ∀ (os : List (Nat × List Int)) (gs : Rows) (l : List Int) (k : Nat), (curR gs l).length ≤ k → (curR (os.foldl (addR a) gs) l).length ≤ k + os.length
  | [], _, _, _, h => h
  | o :: os, gs, l, k, h => by
    rw [List.foldl_cons, List.length_cons]
    have := foldl_curR a os (addR a gs o) l (k + 1) (by
      unfold addR
      rw [curR_put]
      split
      · rename_i e
        rw [List.length_append, ← e]
        simp
        exact h
      · omega)
    omega
theorem curR_len (a : Nat) (os : List (Nat × List Int)) (l : List Int) : (curR (rowsOf a os) l).length ≤ os.length := by
  have := foldl_curR a os [] l 0 (Nat.le_refl _)
  rw [Nat.zero_add] at this
  exact this
theorem occTo_succ (B : List (List (List Int))) (i : Nat) : occTo B (i + 1) = occTo B i ++ (B.getD i []).map fun c => (i, c) := by simp [occTo, List.range_succ]
theorem occTo_len (B : List (List (List Int))) (h : ∀ b ∈ B, b.length ≤ 60) (i : Nat) : (occTo B i).length ≤ i * 60 := by
  induction i with
  | zero => simp [occTo]
  | succ i ih =>
    rw [occTo_succ, List.length_append, List.length_map]
    have : (B.getD i []).length ≤ 60 := by
      cases hb : B[i]? with
      | none => simp [List.getD, hb]
      | some b =>
        simp only [List.getD, hb, Option.getD_some]
        exact h b (List.mem_of_getElem? hb)
    omega
theorem putR_keys (gs : Rows) (l : List Int) (r : Row) : (putR gs l r).map (·.1) = if (gs.any fun g => decide (g.1 = l)) = true then gs.map (·.1) else gs.map (·.1) ++ [l] := by
  unfold putR
  split
  · rw [List.map_map]
    refine List.map_congr_left fun g hg => ?_
    show (if g.1 = l then (g.1, r) else g).1 = g.1
    split <;> rfl
  · rw [List.map_append]
    rfl
theorem putR_nodup {gs : Rows} (h : (gs.map (·.1)).Nodup) (l : List Int) (r : Row) : ((putR gs l r).map (·.1)).Nodup := by
  rw [putR_keys]
  split
  · exact h
  · rename_i e
    rw [List.nodup_append]
    refine ⟨h, List.pairwise_singleton _ _, fun x hx y hy => ?_⟩
    rw [List.mem_singleton] at hy
    subst hy
    rintro rfl
    obtain ⟨g, hg, eg⟩ := List.mem_map.1 hx
    exact e (List.any_eq_true.2 ⟨g, hg, decide_eq_true eg⟩)
theorem foldl_nodup (a : Nat) : ∀ (os : List (Nat × List Int)) (gs : Rows), (gs.map (·.1)).Nodup → ((os.foldl (addR a) gs).map (·.1)).Nodup
  | [], _, h => h
  | o :: os, gs, h => by
    rw [List.foldl_cons]
    exact foldl_nodup a os _ (putR_nodup h _ _)
theorem rowsOf_nodup (a : Nat) (os : List (Nat × List Int)) : ((rowsOf a os).map (·.1)).Nodup := foldl_nodup a os [] .nil
theorem curR_mem : ∀ {gs : Rows}, (gs.map (·.1)).Nodup → ∀ {g : List Int × Row}, g ∈ gs → curR gs g.1 = g.2
  | x :: t, h, g, hg => by
    rw [List.map_cons, List.nodup_cons] at h
    unfold curR
    by_cases e : x.1 = g.1
    · rw [List.find?_cons_of_pos (by simpa using e)]
      rcases List.mem_cons.1 hg with hg | hg
      · rw [hg]
        rfl
      · exact absurd (List.mem_map.2 ⟨g, hg, e.symm⟩) h.1
    · rw [List.find?_cons_of_neg (by simpa using e)]
      rcases List.mem_cons.1 hg with hg | hg
      · exact absurd (by rw [hg]) e
      · exact curR_mem h.2 hg
theorem RowA.off {H H5 : Hp} {D : Addr} {ws : List (List L2.Key × V)} (hD : H D = some (.dT ws)) (h5 : ∀ z o, z ≠ D → H z = some o → H5 z = some o) {kv : List L2.Key × V} {g : List Int × Row} (h : RowA H kv g) : RowA H5 kv g := by
  obtain ⟨h1, r, vs, h2, h3, h4⟩ := h
  exact ⟨h1, r, vs, h2, h5 _ _ (ne_of h3 hD (fun z => nomatch z)) h3, Paired.imp (fun v p ⟨t, k1, k2⟩ => ⟨t, k1, h5 _ _ (ne_of k2 hD (fun z => nomatch z)) k2⟩) h4⟩
/-- which pair stands there -/
def kP (H : Hp) : V → Int × Int
  | .ref t => match H t with
    | some (.tup [.int i, .int j]) => (i, j)
    | _ => (0, 0)
  | _ => (0, 0)
theorem kP_of {H : Hp} {v : V} {p : Int × Int} (h : PrA H v p) : kP H v = p := by
  obtain ⟨t, rfl, h⟩ := h
  simp only [kP, h]
theorem map_kP {H : Hp} : ∀ {vs : List V} {row : Row}, Paired (PrA H) vs row → vs.map (kP H) = row
  | _, _, .nil => rfl
  | _, _, .cons r t => by rw [List.map_cons, kP_of r, map_kP t]
/-- sorted(row) -/
theorem sorted_row {K : PySem.W.Frag} {H : Hp} {Q : VK} {r : Addr} {vs : List V} {row : Row} (hr : H r = some (.lst vs)) (hp : Paired (PrA H) vs row)
    (q : ∀ p ys row', H p = none → Paired (PrA H) ys row' → row'.Perm row → (row'.Pairwise fun x y => SrtO.lexB y x = false) → Q (.ref p) (upd H p (.lst ys))) : rSortedPO K [.ref r] H Q := by
  have each : ∀ x ∈ vs, PrA H x (kP H x) := fun x hx => by
    obtain ⟨j, hj⟩ := List.getElem?_of_mem hx
    obtain ⟨p, _, h⟩ := Paired.at hp hj
    rw [kP_of h]
    exact h
  refine ⟨r, vs, kP H, rfl, sqL_of hr, each, fun ys p hs hb np => q p ys (ys.map (kP H)) np ?_ ?_ ?_⟩
  · have : Paired (PrA H) (ys.map id) (ys.map (kP H)) := map_pr (R := PrA H) (f := id) (g := kP H) ys fun x hx => each x (hb.perm.mem_iff.1 hx)
    rwa [List.map_id] at this
  · rw [← map_kP hp]
    exact hb.perm.map _
  · exact List.pairwise_map.2 hs
/-- the rows that come out: sorted -/
def SrtRow (r g : List Int × Row) : Prop := r.1 = g.1 ∧ r.2.Perm g.2 ∧ r.2.Pairwise fun x y => SrtO.lexB y x = false
def RowsR (rows : Rows) : Hp → V → Prop := fun H v => ∃ d kvs, v = .ref d ∧ H d = some (.dT kvs) ∧ Paired (RowA H) kvs rows
/-- the bodies as they were made: B' -/
def BodX (K : PySem.W.Frag) (n : Nat) (B' : List (List (List Int))) : Hp → V → Prop := fun H v => ∃ x dx t, v = .ref x ∧ H x = some (.ins (ga K "Bodies") dx [("axes", .int n), ("bodies", t)]) ∧ TpF (TpF (TpF InA)) No H t B'
def sp_rows_along (K : PySem.W.Frag) : Sp := fun vs H Q _ => ∃ v n B' a, vs = [v, .int (a : Nat)] ∧ BodX K n B' H v ∧ a < n ∧ n ≤ 3 ∧ B'.length ≤ 12 ∧ (∀ b ∈ B', b.length ≤ 60 ∧ ∀ c ∈ b, c.length = n) ∧
  ∀ d H' rows, Same H H' → H d = none → RowsR rows H' (.ref d) → Paired SrtRow rows (rowsOf a (occTo B' B'.length)) → Q (.ref d) H'
section
variable {w : World} {K : PySem.W.Frag} {mg : Str → Option Value} {base : Heap}
theorem C_rows_along (S : Sc K mg) : Cal prg w K mg base CX0 "rows_along" 1 ["bodies", "axis"] [] (sp_rows_along K) := by
  refine S.cal (d := d_rows_along) 11 9 sc_rows_along rfl rfl rfl rfl rfl (fun _ _ _ _ _ _ us hl => match us, hl with | [_, _], _ => rfl) (fun vs H Q E h => ?_) (fun f cdv A outer s H vs Q E hr h => ?_)
  · obtain ⟨v, n, B', a, rfl, _⟩ := h
    rfl
  · obtain ⟨_, n, B', a, rfl, ⟨x, dx, t, rfl, hx, tb, us, rfl, htb, hp⟩, han, n3, B12, hB, q⟩ := h
    refine ⟨_, (pss_cons (ps_set (i := 2) sc_rows_along.nd rfl (by first | exact Or.inl rfl | exact Or.inr rfl) pe_dnewT)
      (pss_cons (ps_for PassesOwn.never rfl (pi_enS (S.free 38) (pa_cons (pe_fld (pv 0) rfl) pa_nil)) (pg_tup (by rfl) (pgs_cons (pg_name (i := 3) sc_rows_along.nd rfl (by first | exact Or.inl rfl | exact Or.inr rfl)) (pgs_cons (pg_name (i := 4) sc_rows_along.nd rfl (by first | exact Or.inl rfl | exact Or.inr rfl)) pgs_nil))) (pss_one (ps_for PassesOwn.never rfl (pi_seq (pv 4)) (pg_name (i := 5) sc_rows_along.nd rfl (by first | exact Or.inl rfl | exact Or.inr rfl)) (pss_cons (ps_set (i := 6) sc_rows_along.nd rfl (by first | exact Or.inl rfl | exact Or.inr rfl) (pe_op op_catA (pe_slice sl_tupA (pv 5) po_none (po_some (pv 1))) (pe_slice sl_tupA (pv 5) (po_some (pe_op op_add (pv 1) pe_int)) po_none)))
      (pss_one (ps_dput (hu_of hr) (pv 2) (pv 6) (pe_op op_cat (pe_dget2 (hu_of hr) (pv 2) (pv 6) (pe_lst pa_nil) ⟨rfl, rfl, rfl, rfl⟩) (pe_lst (pa_cons (pe_tup (pa_cons (pe_ix ix_tup (pv 5) (pv 1) (fun _ _ => rfl)) (pa_cons (pv 3) pa_nil))) pa_nil))) rfl))))))
      (pss_one (ps_ret (pe_lock (pe_dcT (own := [("line", 6)]) (g := (gName 6)) (tt := tYes) (hu_of hr) rfl sc_rows_along.nd (pi_keys (pv 2)) (blkOk_by (N := ["bodies", "axis", "found", "body", "cells", "cell", "line"]) (sc := defScope s_rows_along) (by decide +kernel)) (fun _ _ _ _ _ => (pg_name (i := 6) sc_rows_along.nd rfl (by first | exact Or.inl rfl | exact Or.inr rfl))) (fun _ _ _ _ _ => pts_nil) (fun _ _ _ _ _ => (pv 6)) (fun _ _ _ _ _ => (pe_callB (cK (K := K) rfl cr_sortedPO) (by rfl) (S.free 45) (by decide +kernel) (pa_cons (pe_dget (hu_of hr) (pv 2) (pv 6) (fun _ _ => rfl)) pa_nil))))))))), ?_⟩
    have hl : us.length = B'.length := Paired.len hp
    try simp only [wipe, tC, tVar, tChain, rI0, rI, rU, tOp, tUn, tCall, tAnd, tOr, tNot, tNotV, tAndV, tOrV, tTest, tB, tIf, tIfS, tRet, tRetN, tNext, tSeq, tNil, tCons, tAug, ipI, tPar, tAsg, gName, tDrop, tLst, tTup, tCB, tBM, tBM0, tFld_eq, tMkE, tMake, tAugS, gSub, rEq, rAll, rMax, rSum, rAppend, rExtend, rSetL, _root_.L2.start, List.map_cons, List.map_nil, List.length_cons, List.length_nil, List.replicate_succ, List.replicate_zero, List.cons_append, List.nil_append, List.append_nil, List.getElem?_cons_zero, List.getElem?_cons_succ, List.set_cons_zero, List.set_cons_succ, Nat.reduceAdd, Nat.reduceSub, V.int.injEq, V.bl.injEq, V.ref.injEq, V.str.injEq, exists_eq, exists_eq', exists_eq_left, exists_eq_left', exists_and_left, exists_and_right, Option.some.injEq, List.cons.injEq, and_true, true_and, and_assoc, retV, true_or, or_true, decide_eq_true_eq, if_true, if_false, Bool.false_eq_true, Bool.not_true, Bool.not_false, Bool.not_eq_true', reduceCtorEq, eq_self, decide_true, decide_false, List.length_map, exists_const, false_and, and_false, or_false, false_or, tDNewT, ↓reduceIte]
    intro D nD
    have e0 : Same H (upd H D (.dT [])) := same_new nD
    refine for_en (xs := us) (a := tb) (fun Q h => ?_) (.inr (e0 _ _ htb)) (fun i σ H' => Same H H' ∧ (∃ u3 u4 u5 u6, σ = [some (.ref x), some (.int (a : Nat)), some (.ref D), u3, u4, u5, u6]) ∧ ∃ kvs, H' D = some (.dT kvs) ∧ kvs.length ≤ i * 60 ∧ Paired (RowA H') kvs (rowsOf a (occTo B' i)))
      ⟨e0, ⟨_, _, _, _, rfl⟩, [], upd_same, Nat.zero_le _, .nil⟩ (fun i σ H' _ h => ?_) (fun i u σ H' T hi hu h nT => ?_) (fun σ H' h => ?_)
    · try simp only [wipe, tC, tVar, tChain, rI0, rI, rU, tOp, tUn, tCall, tAnd, tOr, tNot, tNotV, tAndV, tOrV, tTest, tB, tIf, tIfS, tRet, tRetN, tNext, tSeq, tNil, tCons, tAug, ipI, tPar, tAsg, gName, tDrop, tLst, tTup, tCB, tBM, tBM0, tFld_eq, tMkE, tMake, tAugS, gSub, rEq, rAll, rMax, rSum, rAppend, rExtend, rSetL, _root_.L2.start, List.map_cons, List.map_nil, List.length_cons, List.length_nil, List.replicate_succ, List.replicate_zero, List.cons_append, List.nil_append, List.append_nil, List.getElem?_cons_zero, List.getElem?_cons_succ, List.set_cons_zero, List.set_cons_succ, Nat.reduceAdd, Nat.reduceSub, V.int.injEq, V.bl.injEq, V.ref.injEq, V.str.injEq, exists_eq, exists_eq', exists_eq_left, exists_eq_left', exists_and_left, exists_and_right, Option.some.injEq, List.cons.injEq, and_true, true_and, and_assoc, retV, true_or, or_true, decide_eq_true_eq, if_true, if_false, Bool.false_eq_true, Bool.not_true, Bool.not_false, Bool.not_eq_true', reduceCtorEq, eq_self, decide_true, decide_false, List.length_map, exists_const, false_and, and_false, or_false, false_or, ↓reduceIte]
      exact fld_at (e0 _ _ hx) (S.cls 58) (S.noat 64) rfl h
    · rw [h.1 _ _ htb, e0 _ _ htb]
    · obtain ⟨e, ⟨u3, u4, u5, u6, rfl⟩, kvs, hD, hkl, hk⟩ := h
      refine g_two rfl upd_same ?_
      have eT : Same H' (upd H' T (.tup [.int (i : Nat), u])) := same_new nT
      obtain ⟨cells, hcells, b, cs, rfl, hb, hbp⟩ := Paired.at hp hu
      have hb1 := eT _ _ (e _ _ hb)
      have lc : cs.length = cells.length := Paired.len hbp
      obtain ⟨l60, hcl⟩ := hB cells (List.mem_of_getElem? hcells)
      try simp only [wipe, tC, tVar, tChain, rI0, rI, rU, tOp, tUn, tCall, tAnd, tOr, tNot, tNotV, tAndV, tOrV, tTest, tB, tIf, tIfS, tRet, tRetN, tNext, tSeq, tNil, tCons, tAug, ipI, tPar, tAsg, gName, tDrop, tLst, tTup, tCB, tBM, tBM0, tFld_eq, tMkE, tMake, tAugS, gSub, rEq, rAll, rMax, rSum, rAppend, rExtend, rSetL, _root_.L2.start, List.map_cons, List.map_nil, List.length_cons, List.length_nil, List.replicate_succ, List.replicate_zero, List.cons_append, List.nil_append, List.append_nil, List.getElem?_cons_zero, List.getElem?_cons_succ, List.set_cons_zero, List.set_cons_succ, Nat.reduceAdd, Nat.reduceSub, V.int.injEq, V.bl.injEq, V.ref.injEq, V.str.injEq, exists_eq, exists_eq', exists_eq_left, exists_eq_left', exists_and_left, exists_and_right, Option.some.injEq, List.cons.injEq, and_true, true_and, and_assoc, retV, true_or, or_true, decide_eq_true_eq, if_true, if_false, Bool.false_eq_true, Bool.not_true, Bool.not_false, Bool.not_eq_true', reduceCtorEq, eq_self, decide_true, decide_false, List.length_map, exists_const, false_and, and_false, or_false, false_or, ↓reduceIte]
      refine for_go (gives_sq (xs := cs) (a := b) (fun Q h => ⟨_, rfl, h⟩) (.inr hb1)) (fun j σ H' => Same H H' ∧ (∃ u5 u6, σ = [some (.ref x), some (.int (a : Nat)), some (.ref D), some (.int (i : Nat)), some (.ref b), u5, u6]) ∧
          ∃ kvs, H' D = some (.dT kvs) ∧ kvs.length ≤ i * 60 + j ∧ Paired (RowA H') kvs (rowsOf a (occTo B' i ++ (cells.take j).map fun c => (i, c))))
        ⟨e.trans eT, ⟨_, _, rfl⟩, kvs, eT _ _ hD, hkl, by simpa using Paired.imp (fun _ _ k => k.same eT) hk⟩ (fun j σ H' _ h => ?_) (fun j y σ H5 hj hy h => ?_) (fun σ H5 h => ?_)
      · rw [h.1 _ _ hb, hb1]
      · obtain ⟨e5, ⟨u5, u6, rfl⟩, kvs5, hD5, hkl5, hk5⟩ := h
        obtain ⟨c, hc, t5, ns, rfl, ht5, htp⟩ := Paired.at hbp hy
        obtain rfl := ina_eq htp
        have hn := hcl c (List.mem_of_getElem? hc)
        have j60 : j < 60 := by omega
        have i12 : i < 12 := by omega
        have ol := occTo_len B' (fun b hb => (hB b hb).1) i
        try simp only [wipe, tC, tVar, tChain, rI0, rI, rU, tOp, tUn, tCall, tAnd, tOr, tNot, tNotV, tAndV, tOrV, tTest, tB, tIf, tIfS, tRet, tRetN, tNext, tSeq, tNil, tCons, tAug, ipI, tPar, tAsg, gName, tDrop, tLst, tTup, tCB, tBM, tBM0, tFld_eq, tMkE, tMake, tAugS, gSub, rEq, rAll, rMax, rSum, rAppend, rExtend, rSetL, _root_.L2.start, List.map_cons, List.map_nil, List.length_cons, List.length_nil, List.replicate_succ, List.replicate_zero, List.cons_append, List.nil_append, List.append_nil, List.getElem?_cons_zero, List.getElem?_cons_succ, List.set_cons_zero, List.set_cons_succ, Nat.reduceAdd, Nat.reduceSub, V.int.injEq, V.bl.injEq, V.ref.injEq, V.str.injEq, exists_eq, exists_eq', exists_eq_left, exists_eq_left', exists_and_left, exists_and_right, Option.some.injEq, List.cons.injEq, and_true, true_and, and_assoc, retV, true_or, or_true, decide_eq_true_eq, if_true, if_false, Bool.false_eq_true, Bool.not_true, Bool.not_false, Bool.not_eq_true', reduceCtorEq, eq_self, decide_true, decide_false, List.length_map, exists_const, false_and, and_false, or_false, false_or, tSl, tNoPart, tPart, ↓reduceIte]
        refine sl_take (a := a) (e5 _ _ ht5) fun p1 H6 e6 hp1 => ?_
        refine sl_drop (a := a + 1) (e6 _ _ (e5 _ _ ht5)) fun p2 H7 e7 hp2 => ?_
        refine cat_tup (e7 _ _ hp1) hp2 (Nat.le_trans (by simp; omega : _ ≤ 100) (by decide)) fun p3 H8 e8 hp3 => ?_
        have hp3' : H8 p3 = some (.tup ((ln a c).map V.int)) := by
          rw [hp3, ln, List.map_append, List.map_take, List.map_drop]
        have e58 : Same H5 H8 := e6.trans (e7.trans e8)
        have hD8 := e58 _ _ hD5
        have hk8 : Paired (RowA H8) kvs5 _ := Paired.imp (fun _ _ k => k.same e58) hk5
        try simp only [wipe, tC, tVar, tChain, rI0, rI, rU, tOp, tUn, tCall, tAnd, tOr, tNot, tNotV, tAndV, tOrV, tTest, tB, tIf, tIfS, tRet, tRetN, tNext, tSeq, tNil, tCons, tAug, ipI, tPar, tAsg, gName, tDrop, tLst, tTup, tCB, tBM, tBM0, tFld_eq, tMkE, tMake, tAugS, gSub, rEq, rAll, rMax, rSum, rAppend, rExtend, rSetL, _root_.L2.start, List.map_cons, List.map_nil, List.length_cons, List.length_nil, List.replicate_succ, List.replicate_zero, List.cons_append, List.nil_append, List.append_nil, List.getElem?_cons_zero, List.getElem?_cons_succ, List.set_cons_zero, List.set_cons_succ, Nat.reduceAdd, Nat.reduceSub, V.int.injEq, V.bl.injEq, V.ref.injEq, V.str.injEq, exists_eq, exists_eq', exists_eq_left, exists_eq_left', exists_and_left, exists_and_right, Option.some.injEq, List.cons.injEq, and_true, true_and, and_assoc, retV, true_or, or_true, decide_eq_true_eq, if_true, if_false, Bool.false_eq_true, Bool.not_true, Bool.not_false, Bool.not_eq_true', reduceCtorEq, eq_self, decide_true, decide_false, List.length_map, exists_const, false_and, and_false, or_false, false_or, sDPut, tDGet2, ↓reduceIte]
        refine ⟨.inr ⟨kvs5, .inl hD8⟩, by decide, fun pe npe => ?_⟩
        have e9 : Same H8 (upd H8 pe (.lst [])) := same_new npe
        have hk9 : Paired (RowA (upd H8 pe (.lst []))) kvs5 _ := Paired.imp (fun _ _ k => k.same e9) hk8
        obtain ⟨r, vs, hr1, hr2, hr3⟩ : ∃ r vs, (valV kvs5 (ky (ln a c))).getD (.ref pe) = .ref r ∧ (upd H8 pe (.lst [])) r = some (.lst vs) ∧ Paired (PrA (upd H8 pe (.lst []))) vs (curR (rowsOf a (occTo B' i ++ (cells.take j).map fun c => (i, c))) (ln a c)) := by
          rcases rows_get (l := ln a c) hk9 with ⟨h1, h2⟩ | ⟨r, vs, h1, h2, h3⟩
          · exact ⟨pe, [], by rw [h1]; rfl, upd_same, by rw [h2]; exact .nil⟩
          · exact ⟨r, vs, by rw [h1]; rfl, h2, h3⟩
        have hD9 := e9 _ _ hD8
        have e59 := e58.trans e9
        have ca : (c.map V.int)[a]? = some (.int (c.getD a 0)) := by
          have : a < c.length := by omega
          rw [List.getElem?_map, List.getElem?_eq_getElem this]
          simp [List.getD, this]
        refine ⟨_, DGet.t (k := ky (ln a c)) hD9 (by rw [ky_kV]; exact e9 _ _ hp3'), ?_⟩
        refine ⟨t5, _, (a : Int), _, rfl, rfl, sqT_of (e59 _ _ (e5 _ _ ht5)), HK.atI_nat ca, ?_⟩
        refine ⟨by decide, fun pt npt => ⟨by decide, fun pl npl => ?_⟩⟩
        rw [hr1]
        have e10 := same_new (o := .tup [.int (c.getD a 0), .int (i : Int)]) npt
        have e11 := same_new (o := .lst [.ref pt]) npl
        have lvs : vs.length ≤ 1000 := by
          rw [Paired.len hr3]
          refine Nat.le_trans (curR_len _ _ _) ?_
          rw [List.length_append, List.length_map, List.length_take]
          omega
        refine ⟨r, pl, vs, [.ref pt], rfl, rfl, e11 _ _ (e10 _ _ hr2), upd_same, Nat.le_trans (by simp; omega : vs.length + [V.ref pt].length ≤ 2000) (by decide), fun pr npr => ?_⟩
        have e12 := same_new (o := .lst (vs ++ [.ref pt])) npr
        have e912 := e10.trans (e11.trans e12)
        have hD12 := e912 _ _ hD9
        refine ⟨_, DPut.t (k := ky (ln a c)) hD12 (by rw [ky_kV]; exact e912 _ _ (e9 _ _ hp3')) (Nat.lt_of_lt_of_le (by omega : kvs5.length < 5000) (by decide)), same_mut (e5.trans (e59.trans e912)) nD, _, upd_same, Nat.le_trans (length_putK _ _ _) (by omega), ?_⟩
        rw [List.take_succ, hc, Option.toList_some, List.map_append, ← List.append_assoc]
        rw [show (occTo B' i ++ (cells.take j).map fun c => (i, c)) ++ [c].map (fun c => (i, c)) = (occTo B' i ++ (cells.take j).map fun c => (i, c)) ++ [(i, c)] from rfl, rowsOf_snoc]
        refine Paired.imp (fun _ _ k => k.dT hD12) (rows_put upd_same ?_ (Paired.imp (fun _ _ k => k.same e912) hk9))
        exact Paired.app (Paired.imp (fun _ _ k => k.tk (.of e912)) hr3) (.cons ⟨pt, rfl, e12 _ _ (e11 _ _ upd_same)⟩ .nil)
      · obtain ⟨e5, ⟨u5, u6, rfl⟩, kvs5, hD5, hkl5, hk5⟩ := h
        try simp only [wipe, tC, tVar, tChain, rI0, rI, rU, tOp, tUn, tCall, tAnd, tOr, tNot, tNotV, tAndV, tOrV, tTest, tB, tIf, tIfS, tRet, tRetN, tNext, tSeq, tNil, tCons, tAug, ipI, tPar, tAsg, gName, tDrop, tLst, tTup, tCB, tBM, tBM0, tFld_eq, tMkE, tMake, tAugS, gSub, rEq, rAll, rMax, rSum, rAppend, rExtend, rSetL, _root_.L2.start, List.map_cons, List.map_nil, List.length_cons, List.length_nil, List.replicate_succ, List.replicate_zero, List.cons_append, List.nil_append, List.append_nil, List.getElem?_cons_zero, List.getElem?_cons_succ, List.set_cons_zero, List.set_cons_succ, Nat.reduceAdd, Nat.reduceSub, V.int.injEq, V.bl.injEq, V.ref.injEq, V.str.injEq, exists_eq, exists_eq', exists_eq_left, exists_eq_left', exists_and_left, exists_and_right, Option.some.injEq, List.cons.injEq, and_true, true_and, and_assoc, retV, true_or, or_true, decide_eq_true_eq, if_true, if_false, Bool.false_eq_true, Bool.not_true, Bool.not_false, Bool.not_eq_true', reduceCtorEq, eq_self, decide_true, decide_false, List.length_map, exists_const, false_and, and_false, or_false, false_or, ↓reduceIte]
        refine ⟨e5, kvs5, hD5, by omega, ?_⟩
        rw [occTo_succ, show B'.getD i [] = cells by simp [List.getD, hcells]]
        rw [lc, List.take_length] at hk5
        exact hk5
    · obtain ⟨e, ⟨u3, u4, u5, u6, rfl⟩, kvs, hD, hkl, hk⟩ := h
      try simp only [wipe, tC, tVar, tChain, rI0, rI, rU, tOp, tUn, tCall, tAnd, tOr, tNot, tNotV, tAndV, tOrV, tTest, tB, tIf, tIfS, tRet, tRetN, tNext, tSeq, tNil, tCons, tAug, ipI, tPar, tAsg, gName, tDrop, tLst, tTup, tCB, tBM, tBM0, tFld_eq, tMkE, tMake, tAugS, gSub, rEq, rAll, rMax, rSum, rAppend, rExtend, rSetL, _root_.L2.start, List.map_cons, List.map_nil, List.length_cons, List.length_nil, List.replicate_succ, List.replicate_zero, List.cons_append, List.nil_append, List.append_nil, List.getElem?_cons_zero, List.getElem?_cons_succ, List.set_cons_zero, List.set_cons_succ, Nat.reduceAdd, Nat.reduceSub, V.int.injEq, V.bl.injEq, V.ref.injEq, V.str.injEq, exists_eq, exists_eq', exists_eq_left, exists_eq_left', exists_and_left, exists_and_right, Option.some.injEq, List.cons.injEq, and_true, true_and, and_assoc, retV, true_or, or_true, decide_eq_true_eq, if_true, if_false, Bool.false_eq_true, Bool.not_true, Bool.not_false, Bool.not_eq_true', reduceCtorEq, eq_self, decide_true, decide_false, List.length_map, exists_const, false_and, and_false, or_false, false_or, tLockE, ↓reduceIte]
      refine ⟨D, _, hD, trivial, fun od => ?_⟩
      refine ⟨.ref D, rfl, D, od, rfl, .inr ⟨kvs, upd_same, fun D2 nD2 => ?_⟩⟩
      have nDD : D2 ≠ D := fun z => by rw [z, upd_same] at nD2; cases nD2
      have nD2' : H' D2 = none := by rw [upd_ne nDD] at nD2; exact nD2
      refine dcT_keys (D := D2) (H := upd H' D (.frz od (.dT kvs))) (Q := fun v H' => H' D = some (.frz od (.dT kvs)) ∧ Q v (upd H' D (.dT kvs))) (tv := tCB (rSortedPO K) (tCons (tDGet (tVar 2) (tVar 6)) tNil)) (j := 6) (vs := [6]) (σ := [some (.ref x), some (.int (a : Nat)), some (.ref D), u3, u4, u5, u6]) (fun i H5 => (∃ rows kvs2, H5 D2 = some (.dT kvs2) ∧ Paired (RowA H5) kvs2 rows ∧ Paired SrtRow rows ((rowsOf a (occTo B' B'.length)).take i)) ∧ H5 D = some (.frz od (.dT kvs)) ∧ (∀ z o, z ≠ D → H' z = some o → H5 z = some o)) (fun x => rfl) (fun x => rfl) ?_ (fun i H5 _ h => h.2.1) (fun i k v p H5 N hkv h hp5 hN => ?_) fun H5 h => ?_
      · refine ⟨⟨[], [], upd_same, .nil, .nil⟩, by rw [upd_ne nDD.symm]; exact upd_same, fun z o hz ho => ?_⟩
        rw [upd_ne (ne_of_none ho nD2'), upd_ne hz]
        exact ho
      · obtain ⟨⟨rows, kvs2, hD2, hk2, hs2⟩, hDf, hoff⟩ := h
        obtain ⟨g, hg, hkv1, _⟩ := Paired.at hk hkv
        rw [hl] at hg
        have hkv1 : k = ky g.1 := hkv1
        subst hkv1
        have hgm := List.mem_of_getElem? hg
        have hnd := rowsOf_nodup a (occTo B' B'.length)
        have hk5 : Paired (RowA H5) kvs (rowsOf a (occTo B' us.length)) := Paired.imp (fun _ _ z => z.off hD hoff) hk
        have lr : rows.length = i := by
          rw [Paired.len hs2, List.length_take]
          have := (List.getElem?_eq_some_iff.1 hg).1
          omega
        have lk2 : kvs2.length = i := (Paired.len hk2).trans lr
        have li := (List.getElem?_eq_some_iff.1 hkv).1
        have vd : valV kvs2 (ky g.1) = none := by
          rcases rows_get (l := g.1) hk2 with ⟨h1, _⟩ | ⟨r, vs, h1, _⟩
          · exact h1
          · exfalso
            have hin := valV_in h1
            obtain ⟨kv, hkvm, ekv⟩ := List.mem_map.1 hin
            obtain ⟨j, hj⟩ := List.getElem?_of_mem hkvm
            obtain ⟨row, hrow, e1, _⟩ := Paired.at hk2 hj
            obtain ⟨g2, hg2, e2, _⟩ := Paired.at hs2 hrow
            have e3 : g2.1 = g.1 := e2.symm.trans (ky_inj (e1.symm.trans ekv))
            rw [List.getElem?_take] at hg2
            split at hg2
            · rename_i hji
              have m1 : ((rowsOf a (occTo B' B'.length)).map (·.1))[j]? = some g.1 := by rw [List.getElem?_map, hg2, ← e3]; rfl
              have m2 : ((rowsOf a (occTo B' B'.length)).map (·.1))[i]? = some g.1 := by rw [List.getElem?_map, hg]; rfl
              obtain ⟨q1, q2⟩ := List.getElem?_eq_some_iff.1 m1
              obtain ⟨q3, q4⟩ := List.getElem?_eq_some_iff.1 m2
              have := (List.getElem_inj hnd).1 (q2.trans q4.symm)
              omega
            · cases hg2
        rw [hl] at hk5
        rcases rows_get (l := g.1) hk5 with ⟨h1, _⟩ | ⟨r, vs, h1, h2, h3⟩
        · exfalso
          have := rows_any (l := g.1) hk5
          rw [valV_any, h1] at this
          have h4 := List.any_eq_false.1 this.symm g hgm
          simp at h4
        · rw [curR_mem hnd hgm] at h3
          try simp only [wipe, tC, tVar, tChain, rI0, rI, rU, tOp, tUn, tCall, tAnd, tOr, tNot, tNotV, tAndV, tOrV, tTest, tB, tIf, tIfS, tRet, tRetN, tNext, tSeq, tNil, tCons, tAug, ipI, tPar, tAsg, gName, tDrop, tLst, tTup, tCB, tBM, tBM0, tFld_eq, tMkE, tMake, tAugS, gSub, rEq, rAll, rMax, rSum, rAppend, rExtend, rSetL, _root_.L2.start, List.map_cons, List.map_nil, List.length_cons, List.length_nil, List.replicate_succ, List.replicate_zero, List.cons_append, List.nil_append, List.append_nil, List.getElem?_cons_zero, List.getElem?_cons_succ, List.set_cons_zero, List.set_cons_succ, Nat.reduceAdd, Nat.reduceSub, V.int.injEq, V.bl.injEq, V.ref.injEq, V.str.injEq, exists_eq, exists_eq', exists_eq_left, exists_eq_left', exists_and_left, exists_and_right, Option.some.injEq, List.cons.injEq, and_true, true_and, and_assoc, retV, true_or, or_true, decide_eq_true_eq, if_true, if_false, Bool.false_eq_true, Bool.not_true, Bool.not_false, Bool.not_eq_true', reduceCtorEq, eq_self, decide_true, decide_false, List.length_map, exists_const, false_and, and_false, or_false, false_or, tDGet, ↓reduceIte]
          refine ⟨.ref r, by rw [← h1]; exact .inr ⟨kvs, ky g.1, p, .inr ⟨od, hDf⟩, rfl, hp5, rfl⟩, ?_⟩
          refine sorted_row h2 h3 fun p6 ys row' np6 hys hperm hsrt => ?_
          have e6 : Same H5 (upd H5 p6 (.lst ys)) := same_new np6
          refine hN _ _ kvs2 (e6 _ _ hp5) (e6 _ _ hD2) (Nat.lt_of_lt_of_le (by omega : kvs2.length < 5000) (by decide)) ?_
          have nD6 : D ≠ D2 := nDD.symm
          refine ⟨⟨rows ++ [(g.1, row')], _, upd_same, ?_, ?_⟩, by rw [upd_ne nD6]; exact e6 _ _ hDf, fun z o hz ho => ?_⟩
          · rw [putK_new _ vd]
            refine Paired.imp (fun _ _ z => z.dT (e6 _ _ hD2)) (Paired.app (Paired.imp (fun _ _ z => z.same e6) hk2) (.cons ⟨rfl, p6, ys, rfl, upd_same, Paired.imp (fun _ _ z => z.tk (.of e6)) hys⟩ .nil))
          · rw [List.take_succ, hg]
            exact Paired.app hs2 (.cons ⟨rfl, hperm, hsrt⟩ .nil)
          · rw [upd_ne (ne_of_none ho nD2')]
            exact e6 _ _ (hoff z o hz ho)
      · obtain ⟨⟨rows, kvs2, hD2, hk2, hs2⟩, hDf, hoff⟩ := h
        have lk : kvs.length = (rowsOf a (occTo B' B'.length)).length := by rw [← hl]; exact Paired.len hk
        rw [lk, List.take_length] at hs2
        refine ⟨hDf, q D2 _ rows (fun z o ho => ?_) (e.free nD2') ⟨D2, kvs2, rfl, by rw [upd_ne nDD]; exact hD2, ?_⟩ hs2⟩
        · have hz : z ≠ D := fun w => by rw [w, nD] at ho; cases ho
          rw [upd_ne hz]
          exact hoff z o hz (e _ _ ho)
        · refine Paired.imp (fun kv g z => ?_) hk2
          obtain ⟨h1, r, vs, h2, h3, h4⟩ := z
          refine ⟨h1, r, vs, h2, by rw [upd_ne (ne_of h3 hDf (fun z => nomatch z))]; exact h3, Paired.imp (fun v p ⟨t, k1, k2⟩ => ⟨t, k1, by rw [upd_ne (ne_of k2 hDf (fun z => nomatch z))]; exact k2⟩) h4⟩
end
end K76
set_option Elab.async false
set_option linter.all false
set_option maxRecDepth 100000
set_option maxHeartbeats 4000000
/-! k76: ups_along, ways_of -/
namespace K76
open PySem PySem.Spec PyProof.Rows L2 He HK
/-- within a row, up to place k: o stands behind b -/
def metRow (row : Row) (k : Nat) (b o : Int) : Prop := ∃ i, i < k ∧ ∃ x, row[i]? = some (x, b) ∧ ∃ j y, i < j ∧ row[j]? = some (y, o) ∧ o ≠ b
def metTo (rows : Rows) (r : Nat) (b o : Int) : Prop := ∃ i, i < r ∧ ∃ g, rows[i]? = some g ∧ metRow g.2 g.2.length b o
/-- all that b meets -/
def metIn (rows : Rows) (b o : Int) : Prop := metTo rows rows.length b o
def RowsIn (m : Nat) (rows : Rows) : Prop := ∀ g ∈ rows, g.2.length ≤ 1000 ∧ ∀ p ∈ g.2, ∃ b : Nat, p.2 = (b : Int) ∧ b < m
theorem mem_foldl (a : Nat) : ∀ (os : List (Nat × List Int)) (gs : Rows) (l : List Int) (p : Int × Int), p ∈ curR (os.foldl (addR a) gs) l ↔ p ∈ curR gs l ∨ ∃ o ∈ os, ln a o.2 = l ∧ p = (o.2.getD a 0, (o.1 : Int))
  | [], gs, l, p => by simp
  | o :: os, gs, l, p => by
    rw [List.foldl_cons, mem_foldl a os]
    unfold addR
    rw [curR_put]
    by_cases e : l = ln a o.2
    · subst e
      rw [if_pos rfl, List.mem_append, List.mem_singleton]
      constructor
      · rintro ((h | h) | ⟨o', h1, h2⟩)
        · exact .inl h
        · exact .inr ⟨o, List.mem_cons_self, rfl, h⟩
        · exact .inr ⟨o', List.mem_cons_of_mem _ h1, h2⟩
      · rintro (h | ⟨o', h1, h2, h3⟩)
        · exact .inl (.inl h)
        · rcases List.mem_cons.1 h1 with h1 | h1
          · subst h1
            exact .inl (.inr h3)
          · exact .inr ⟨o', h1, h2, h3⟩
    · rw [if_neg e]
      constructor
      · rintro (h | ⟨o', h1, h2⟩)
        · exact .inl h
        · exact .inr ⟨o', List.mem_cons_of_mem _ h1, h2⟩
      · rintro (h | ⟨o', h1, h2, h3⟩)
        · exact .inl h
        · rcases List.mem_cons.1 h1 with h1 | h1
          · subst h1
            exact absurd h2.symm e
          · exact .inr ⟨o', h1, h2, h3⟩
theorem mem_curR (a : Nat) (os : List (Nat × List Int)) (l : List Int) (p : Int × Int) : p ∈ curR (rowsOf a os) l ↔ ∃ o ∈ os, ln a o.2 = l ∧ p = (o.2.getD a 0, (o.1 : Int)) := by
  have := mem_foldl a os [] l p
  unfold rowsOf
  rw [this]
  exact ⟨fun h => h.elim (fun z => by cases z) id, .inr⟩
theorem mem_occ {B : List (List (List Int))} {i : Nat} {o : Nat × List Int} : o ∈ occTo B i ↔ o.1 < i ∧ o.2 ∈ B.getD o.1 [] := by
  unfold occTo
  simp only [List.mem_flatMap, List.mem_range, List.mem_map]
  constructor
  · rintro ⟨b, hb, c, hc, rfl⟩
    exact ⟨hb, hc⟩
  · intro h
    exact ⟨o.1, h.1, o.2, h.2, rfl⟩
theorem rowsIn_of {a : Nat} {B' : List (List (List Int))} {rows : Rows} (hB : ∀ b ∈ B', b.length ≤ 60) (B12 : B'.length ≤ 12) (h : Paired SrtRow rows (rowsOf a (occTo B' B'.length))) : RowsIn B'.length rows := fun g hg => by
  obtain ⟨j, hj⟩ := List.getElem?_of_mem hg
  obtain ⟨g2, hg2, e1, e2, _⟩ := Paired.at h hj
  have hm := List.mem_of_getElem? hg2
  have hc := curR_mem (rowsOf_nodup a (occTo B' B'.length)) hm
  refine ⟨?_, fun p hp => ?_⟩
  · rw [e2.length_eq, ← hc]
    refine Nat.le_trans (curR_len _ _ _) (Nat.le_trans (occTo_len B' hB _) ?_)
    omega
  · have := e2.mem_iff.1 hp
    rw [← hc, mem_curR] at this
    obtain ⟨o, ho, _, rfl⟩ := this
    exact ⟨o.1, rfl, (mem_occ.1 ho).1⟩
def DkA (H : Hp) (v : V) (l : List Int) : Prop := ∃ d, v = .ref d ∧ H d = some (.dK (dkOf l))
theorem metRow_succ (row : Row) (k : Nat) (b o : Int) : metRow row (k + 1) b o ↔ metRow row k b o ∨ ((∃ x, row[k]? = some (x, b)) ∧ ∃ j y, k < j ∧ row[j]? = some (y, o) ∧ o ≠ b) := by
  constructor
  · rintro ⟨i, hi, x, hx, j, y, hj, hy, hne⟩
    by_cases e : i = k
    · subst e
      exact .inr ⟨⟨x, hx⟩, j, y, hj, hy, hne⟩
    · exact .inl ⟨i, by omega, x, hx, j, y, hj, hy, hne⟩
  · rintro (⟨i, hi, h⟩ | ⟨⟨x, hx⟩, j, y, hj, hy, hne⟩)
    · exact ⟨i, by omega, h⟩
    · exact ⟨k, by omega, x, hx, j, y, hj, hy, hne⟩
theorem metTo_succ {rows : Rows} {r : Nat} {g : List Int × Row} (hg : rows[r]? = some g) (b o : Int) : metTo rows (r + 1) b o ↔ metTo rows r b o ∨ metRow g.2 g.2.length b o := by
  constructor
  · rintro ⟨i, hi, g', hg', h⟩
    by_cases e : i = r
    · subst e
      rw [hg] at hg'
      cases hg'
      exact .inr h
    · exact .inl ⟨i, by omega, g', hg', h⟩
  · rintro (⟨i, hi, h⟩ | h)
    · exact ⟨i, by omega, h⟩
    · exact ⟨r, by omega, g, hg, h⟩
/-- the dicts so far, by body -/
structure Dks (m : Nat) (refs : List Addr) (H0 : Hp) (C : Int → Int → Prop) (H' : Hp) : Prop where
  so : SameO (fun a => a ∈ refs) H0 H'
  at_ : ∃ L : List (List Int), L.length = m ∧ (∀ (b : Nat) (r : Addr) (l : List Int), refs[b]? = some r → L[b]? = some l → H' r = some (.dK (dkOf l))) ∧ ∀ (b : Nat) (l : List Int), L[b]? = some l → l.Nodup ∧ ∀ o, o ∈ l ↔ C (b : Int) o
theorem Dks.grow {m : Nat} {refs : List Addr} {H0 H' H'' : Hp} {C : Int → Int → Prop} (h : Dks m refs H0 C H') (e : Same H' H'') : Dks m refs H0 C H'' := by
  obtain ⟨so, L, h1, h2, h3⟩ := h
  exact ⟨so.trans (.of e), L, h1, fun b r l hr hl => e _ _ (h2 b r l hr hl), h3⟩
theorem Dks.eq {m : Nat} {refs : List Addr} {H0 H' : Hp} {C C' : Int → Int → Prop} (h : Dks m refs H0 C H') (e : ∀ b : Nat, b < m → ∀ o, C' (b : Int) o ↔ C (b : Int) o) : Dks m refs H0 C' H' := by
  obtain ⟨so, L, h1, h2, h3⟩ := h
  exact ⟨so, L, h1, h2, fun b l hl => ⟨(h3 b l hl).1, fun o => ((h3 b l hl).2 o).trans (e b (by have := (List.getElem?_eq_some_iff.1 hl).1; omega) o).symm⟩⟩
def sp_ups_along (K : PySem.W.Frag) : Sp := fun vs H Q _ => ∃ v n B' a, vs = [v, .int (a : Nat)] ∧ BodX K n B' H v ∧ a < n ∧ n ≤ 3 ∧ B'.length ≤ 12 ∧ (∀ b ∈ B', b.length ≤ 60 ∧ ∀ c ∈ b, c.length = n) ∧
  ∀ F H' refs (L : List (List Int)) rows, Same H H' → H F = none → H' F = some (.lst refs) → Paired (DkA H') refs L → Paired SrtRow rows (rowsOf a (occTo B' B'.length)) → L.length = B'.length →
    (∀ (b : Nat) (l : List Int), L[b]? = some l → l.Nodup ∧ ∀ o, o ∈ l ↔ metIn rows (b : Int) o) → Q (.ref F) H'
section
variable {w : World} {K : PySem.W.Frag} {mg : Str → Option Value} {base : Heap}
theorem C_ups_along (S : Sc K mg) : Cal prg w K mg base CX0 "ups_along" 2 ["bodies", "axis"] [] (sp_ups_along K) := by
  have C_rows_along := C_rows_along (w := w) (base := base) S
  refine S.cal (d := d_ups_along) 12 10 sc_ups_along rfl rfl rfl rfl rfl (fun _ _ _ _ _ _ us hl => match us, hl with | [_, _], _ => rfl) (fun vs H Q E h => ?_) (fun f cdv A outer s H vs Q E hr h => ?_)
  · obtain ⟨v, n, B', a, rfl, _⟩ := h
    rfl
  · obtain ⟨_, n, B', a, rfl, hX, han, n3, B12, hB, q⟩ := h
    obtain ⟨x, dx, t, rfl, hx, tb, us, rfl, htb, hp⟩ := id hX
    refine ⟨_, (pss_cons (ps_setLc (i := 2) (own := [("_", 3)]) (g := (gName 3)) (tt := tYes) rfl sc_ups_along.nd rfl rfl (sw_true rfl rfl rfl (by decide +kernel)) (pi_seq (pe_fld (pv 0) rfl)) (blkOk_by (N := ["bodies", "axis", "found", "_", "row", "at", "body", "other"]) (sc := defScope s_ups_along) (by decide +kernel)) (fun _ _ _ _ _ => (pg_name (i := 3) sc_ups_along.nd rfl (by first | exact Or.inl rfl | exact Or.inr rfl))) (fun _ _ _ _ _ => pts_nil) (fun _ _ _ _ _ => pe_dnewK))
      (pss_cons (ps_for PassesOwn.never rfl (pi_seq (pe_listVals rfl (pe_c C_rows_along (hr.mono (by omega)) pass0 (pa_cons (pv 0) (pa_cons (pv 1) pa_nil))) (S.free 42))) (pg_name (i := 4) sc_ups_along.nd rfl (by first | exact Or.inl rfl | exact Or.inr rfl)) (pss_one (ps_for PassesOwn.never rfl (pi_enS (S.free 38) (pa_cons (pv 4) pa_nil)) (pg_tup (by rfl) (pgs_cons (pg_name (i := 5) sc_ups_along.nd rfl (by first | exact Or.inl rfl | exact Or.inr rfl)) (pgs_cons (pg_tup (by rfl) (pgs_cons (pg_name (i := 3) sc_ups_along.nd rfl (by first | exact Or.inl rfl | exact Or.inr rfl)) (pgs_cons (pg_name (i := 6) sc_ups_along.nd rfl (by first | exact Or.inl rfl | exact Or.inr rfl)) pgs_nil))) pgs_nil))) (pss_one (ps_expr (pe_bm PySem.F.plainAttrs_dict PySem.F.slot_dict_update PySem.F.type_dict_update mt_updK (pe_ix ix_list (pv 2) (pv 6) (fun _ _ => rfl)) (pa_cons (pe_dc (own := [("_", 3), ("other", 7)]) (g := (gTup K 2 (gCons (gName 3) (gCons (gName 7) gNil)))) rfl sc_ups_along.nd (pi_seq (pe_slice sl_list (pv 4) (po_some (pe_op op_add (pv 5) pe_int)) po_none)) (blkOk_by (N := ["bodies", "axis", "found", "_", "row", "at", "body", "other"]) (sc := defScope s_ups_along) (by decide +kernel)) (fun _ _ _ _ _ => (pg_tup (by rfl) (pgs_cons (pg_name (i := 3) sc_ups_along.nd rfl (by first | exact Or.inl rfl | exact Or.inr rfl)) (pgs_cons (pg_name (i := 7) sc_ups_along.nd rfl (by first | exact Or.inl rfl | exact Or.inr rfl)) pgs_nil)))) (fun _ _ _ _ _ => (pts_one (pt_cmpR op_ne (pv 7) (pv 6) (nomark _)))) (fun _ _ _ _ _ => (pv 7)) (fun _ _ _ _ _ => pe_bl)) pa_nil)))))))
      (pss_one (ps_ret (pv 2))))), ?_⟩
    have hl : us.length = B'.length := Paired.len hp
    try simp only [wipe, tC, tVar, tChain, rI0, rI, rU, tOp, tUn, tCall, tAnd, tOr, tNot, tNotV, tAndV, tOrV, tTest, tB, tIf, tIfS, tRet, tRetN, tNext, tSeq, tNil, tCons, tAug, ipI, tPar, tAsg, gName, tDrop, tLst, tTup, tCB, tBM, tBM0, tFld_eq, tMkE, tMake, tAugS, gSub, rEq, rAll, rMax, rSum, rAppend, rExtend, rSetL, _root_.L2.start, List.map_cons, List.map_nil, List.length_cons, List.length_nil, List.replicate_succ, List.replicate_zero, List.cons_append, List.nil_append, List.append_nil, List.getElem?_cons_zero, List.getElem?_cons_succ, List.set_cons_zero, List.set_cons_succ, Nat.reduceAdd, Nat.reduceSub, V.int.injEq, V.bl.injEq, V.ref.injEq, V.str.injEq, exists_eq, exists_eq', exists_eq_left, exists_eq_left', exists_and_left, exists_and_right, Option.some.injEq, List.cons.injEq, and_true, true_and, and_assoc, retV, true_or, or_true, decide_eq_true_eq, if_true, if_false, Bool.false_eq_true, Bool.not_true, Bool.not_false, Bool.not_eq_true', reduceCtorEq, eq_self, decide_true, decide_false, List.length_map, exists_const, false_and, and_false, or_false, false_or, ↓reduceIte]
    refine lc_acc (gives_sq (xs := us) (a := tb) (fun Q h => ?_) (.inr htb)) (Box.none (A := Old H) (fun _ z => z)) (fun H' e => by rw [e.same _ _ htb, htb]) (Nat.le_trans (by omega : us.length ≤ 12) (by decide))
      (fun A n acc H' => ∃ refs : List Addr, acc = refs.map V.ref ∧ refs.Nodup ∧ refs.length = n ∧ ∀ r ∈ refs, ¬A r ∧ H' r = some (.dK [])) (fun D H' => ⟨[], rfl, .nil, rfl, fun r z => by cases z⟩)
      (fun e ⟨refs, h1, h2, h3, h4⟩ => ⟨refs, h1, h2, h3, fun r hr => ⟨(h4 r hr).1, e.1 _ _ (h4 r hr).1 (h4 r hr).2⟩⟩) (fun w ⟨refs, h1, h2, h3, h4⟩ => ⟨refs, h1, h2, h3, fun r hr => ⟨fun z => (h4 r hr).1 (w r z), (h4 r hr).2⟩⟩)
      (fun n y acc H' D N N0 hn hy e _ hA hI hN _ => ?_) fun acc H2 F e2 _ nF nAF hF hI => ?_
    · try simp only [wipe, tC, tVar, tChain, rI0, rI, rU, tOp, tUn, tCall, tAnd, tOr, tNot, tNotV, tAndV, tOrV, tTest, tB, tIf, tIfS, tRet, tRetN, tNext, tSeq, tNil, tCons, tAug, ipI, tPar, tAsg, gName, tDrop, tLst, tTup, tCB, tBM, tBM0, tFld_eq, tMkE, tMake, tAugS, gSub, rEq, rAll, rMax, rSum, rAppend, rExtend, rSetL, _root_.L2.start, List.map_cons, List.map_nil, List.length_cons, List.length_nil, List.replicate_succ, List.replicate_zero, List.cons_append, List.nil_append, List.append_nil, List.getElem?_cons_zero, List.getElem?_cons_succ, List.set_cons_zero, List.set_cons_succ, Nat.reduceAdd, Nat.reduceSub, V.int.injEq, V.bl.injEq, V.ref.injEq, V.str.injEq, exists_eq, exists_eq', exists_eq_left, exists_eq_left', exists_and_left, exists_and_right, Option.some.injEq, List.cons.injEq, and_true, true_and, and_assoc, retV, true_or, or_true, decide_eq_true_eq, if_true, if_false, Bool.false_eq_true, Bool.not_true, Bool.not_false, Bool.not_eq_true', reduceCtorEq, eq_self, decide_true, decide_false, List.length_map, exists_const, false_and, and_false, or_false, false_or, ↓reduceIte]
      exact fld_at hx (S.cls 58) (S.noat 64) rfl h
    · refine ⟨rfl, ?_⟩
      try simp only [wipe, tC, tVar, tChain, rI0, rI, rU, tOp, tUn, tCall, tAnd, tOr, tNot, tNotV, tAndV, tOrV, tTest, tB, tIf, tIfS, tRet, tRetN, tNext, tSeq, tNil, tCons, tAug, ipI, tPar, tAsg, gName, tDrop, tLst, tTup, tCB, tBM, tBM0, tFld_eq, tMkE, tMake, tAugS, gSub, rEq, rAll, rMax, rSum, rAppend, rExtend, rSetL, _root_.L2.start, List.map_cons, List.map_nil, List.length_cons, List.length_nil, List.replicate_succ, List.replicate_zero, List.cons_append, List.nil_append, List.append_nil, List.getElem?_cons_zero, List.getElem?_cons_succ, List.set_cons_zero, List.set_cons_succ, Nat.reduceAdd, Nat.reduceSub, V.int.injEq, V.bl.injEq, V.ref.injEq, V.str.injEq, exists_eq, exists_eq', exists_eq_left, exists_eq_left', exists_and_left, exists_and_right, Option.some.injEq, List.cons.injEq, and_true, true_and, and_assoc, retV, true_or, or_true, decide_eq_true_eq, if_true, if_false, Bool.false_eq_true, Bool.not_true, Bool.not_false, Bool.not_eq_true', reduceCtorEq, eq_self, decide_true, decide_false, List.length_map, exists_const, false_and, and_false, or_false, false_or, tYes, tDNewK, ↓reduceIte]
      intro p np
      obtain ⟨refs, h1, h2, h3, h4⟩ := hI
      refine hN _ _ (.new np) trivial ⟨refs ++ [p], by rw [h1, List.map_append]; rfl, ?_, by simp [h3], fun r hr => ?_⟩
      · rw [List.nodup_append]
        refine ⟨h2, List.pairwise_singleton _ p, fun x hx y hy => ?_⟩
        rw [List.mem_singleton] at hy
        subst hy
        intro z
        subst z
        rw [(h4 x hx).2] at np
        cases np
      · rw [List.mem_append, List.mem_singleton] at hr
        rcases hr with hr | hr
        · exact ⟨(h4 r hr).1, by rw [upd_ne (fun z => by have k := (h4 r hr).2; rw [z, np] at k; cases k)]; exact (h4 r hr).2⟩
        · subst hr
          exact ⟨fun z => hA _ z np, upd_same⟩
    · obtain ⟨refs, h1, h2, h3, h4⟩ := hI
      rw [hl] at h3
      have e02 := e2.same
      try simp only [wipe, tC, tVar, tChain, rI0, rI, rU, tOp, tUn, tCall, tAnd, tOr, tNot, tNotV, tAndV, tOrV, tTest, tB, tIf, tIfS, tRet, tRetN, tNext, tSeq, tNil, tCons, tAug, ipI, tPar, tAsg, gName, tDrop, tLst, tTup, tCB, tBM, tBM0, tFld_eq, tMkE, tMake, tAugS, gSub, rEq, rAll, rMax, rSum, rAppend, rExtend, rSetL, _root_.L2.start, List.map_cons, List.map_nil, List.length_cons, List.length_nil, List.replicate_succ, List.replicate_zero, List.cons_append, List.nil_append, List.append_nil, List.getElem?_cons_zero, List.getElem?_cons_succ, List.set_cons_zero, List.set_cons_succ, Nat.reduceAdd, Nat.reduceSub, V.int.injEq, V.bl.injEq, V.ref.injEq, V.str.injEq, exists_eq, exists_eq', exists_eq_left, exists_eq_left', exists_and_left, exists_and_right, Option.some.injEq, List.cons.injEq, and_true, true_and, and_assoc, retV, true_or, or_true, decide_eq_true_eq, if_true, if_false, Bool.false_eq_true, Bool.not_true, Bool.not_false, Bool.not_eq_true', reduceCtorEq, eq_self, decide_true, decide_false, List.length_map, exists_const, false_and, and_false, or_false, false_or, ↓reduceIte]
      rw [for_call]
      try simp only [wipe, tC, tVar, tChain, rI0, rI, rU, tOp, tUn, tCall, tAnd, tOr, tNot, tNotV, tAndV, tOrV, tTest, tB, tIf, tIfS, tRet, tRetN, tNext, tSeq, tNil, tCons, tAug, ipI, tPar, tAsg, gName, tDrop, tLst, tTup, tCB, tBM, tBM0, tFld_eq, tMkE, tMake, tAugS, gSub, rEq, rAll, rMax, rSum, rAppend, rExtend, rSetL, _root_.L2.start, List.map_cons, List.map_nil, List.length_cons, List.length_nil, List.replicate_succ, List.replicate_zero, List.cons_append, List.nil_append, List.append_nil, List.getElem?_cons_zero, List.getElem?_cons_succ, List.set_cons_zero, List.set_cons_succ, Nat.reduceAdd, Nat.reduceSub, V.int.injEq, V.bl.injEq, V.ref.injEq, V.str.injEq, exists_eq, exists_eq', exists_eq_left, exists_eq_left', exists_and_left, exists_and_right, Option.some.injEq, List.cons.injEq, and_true, true_and, and_assoc, retV, true_or, or_true, decide_eq_true_eq, if_true, if_false, Bool.false_eq_true, Bool.not_true, Bool.not_false, Bool.not_eq_true', reduceCtorEq, eq_self, decide_true, decide_false, List.length_map, exists_const, false_and, and_false, or_false, false_or, tListVals, ↓reduceIte]
      refine ⟨.ref x, n, B', a, rfl, ⟨x, dx, _, rfl, e02 _ _ hx, tb, us, rfl, e02 _ _ htb, (famT_tp (famT_tp famT_in)).p (.of e02) hp⟩, han, n3, B12, hB, fun d H3 rows e3 nd hR hS => ?_⟩
      obtain ⟨d', kvs, ed, hd, hk⟩ := hR
      obtain rfl := V.ref.inj ed
      try simp only [wipe, tC, tVar, tChain, rI0, rI, rU, tOp, tUn, tCall, tAnd, tOr, tNot, tNotV, tAndV, tOrV, tTest, tB, tIf, tIfS, tRet, tRetN, tNext, tSeq, tNil, tCons, tAug, ipI, tPar, tAsg, gName, tDrop, tLst, tTup, tCB, tBM, tBM0, tFld_eq, tMkE, tMake, tAugS, gSub, rEq, rAll, rMax, rSum, rAppend, rExtend, rSetL, _root_.L2.start, List.map_cons, List.map_nil, List.length_cons, List.length_nil, List.replicate_succ, List.replicate_zero, List.cons_append, List.nil_append, List.append_nil, List.getElem?_cons_zero, List.getElem?_cons_succ, List.set_cons_zero, List.set_cons_succ, Nat.reduceAdd, Nat.reduceSub, V.int.injEq, V.bl.injEq, V.ref.injEq, V.str.injEq, exists_eq, exists_eq', exists_eq_left, exists_eq_left', exists_and_left, exists_and_right, Option.some.injEq, List.cons.injEq, and_true, true_and, and_assoc, retV, true_or, or_true, decide_eq_true_eq, if_true, if_false, Bool.false_eq_true, Bool.not_true, Bool.not_false, Bool.not_eq_true', reduceCtorEq, eq_self, decide_true, decide_false, List.length_map, exists_const, false_and, and_false, or_false, false_or, ↓reduceIte]
      refine ⟨kvs, hd, fun p np => ?_⟩
      have hRI := rowsIn_of (fun b hb => (hB b hb).1) B12 hS
      have e2p : Same H2 (upd H3 p (.lst (kvs.map (·.2)))) := e3.trans (same_new np)
      have e3p : Same H3 (upd H3 p (.lst (kvs.map (·.2)))) := same_new np
      have lkr : kvs.length = rows.length := Paired.len hk
      have hrl : refs.length = B'.length := h3
      have nrH : ∀ r ∈ refs, H r = none := fun r hr => Classical.byContradiction fun z => (h4 r hr).1 z
      generalize hH3 : upd H3 p (.lst (kvs.map (·.2))) = H3p at e2p e3p
      have hp3 : H3p p = some (.lst (kvs.map (·.2))) := by rw [← hH3]; exact upd_same
      have e03 : Same H H3p := e02.trans e2p
      have offT : ∀ {H' : Hp} {z : Addr} {o : HO}, SameO (fun a => a ∈ refs) H3p H' → H3p z = some o → (∀ ks, o ≠ .dK ks) → H' z = some o := fun so ho hne => so.1 _ _ (fun zr => by
        rw [e2p _ _ (h4 _ zr).2] at ho
        exact hne _ (Option.some.inj ho).symm) ho
      have same0 : ∀ {H' : Hp}, SameO (fun a => a ∈ refs) H3p H' → Same H H' := fun so z o ho => so.1 z o (fun zr => by rw [nrH z zr] at ho; cases ho) (e03 z o ho)
      refine for_go (gives_sq (xs := kvs.map (·.2)) (a := p) (fun Q h => h) (.inl hp3)) (fun r σ H' => (∃ u3 u4 u5 u6 u7, σ = [some (.ref x), some (.int (a : Nat)), some (.ref F), u3, u4, u5, u6, u7]) ∧ Dks B'.length refs H3p (metTo rows r) H')
        ⟨⟨_, _, _, _, _, rfl⟩, SameO.refl _ _, List.replicate B'.length [], List.length_replicate, fun b r l hr hl' => ?_, fun b l hl' => ?_⟩ (fun r σ H' _ h => ?_) (fun r y σ H' hi hy h => ?_) (fun σ H' h => ?_)
      · obtain rfl : l = [] := by
          have := List.mem_of_getElem? hl'
          exact List.eq_of_mem_replicate this
        exact e2p _ _ (h4 r (List.mem_of_getElem? hr)).2
      · obtain rfl : l = [] := by
          have := List.mem_of_getElem? hl'
          exact List.eq_of_mem_replicate this
        exact ⟨.nil, fun o => ⟨fun z => absurd z List.not_mem_nil, fun ⟨i, hi, _⟩ => absurd hi (Nat.not_lt_zero _)⟩⟩
      · rw [offT h.2.so hp3 (fun ks z => nomatch z), hp3]
      · obtain ⟨⟨u3, u4, u5, u6, u7, rfl⟩, hDk⟩ := h
        rw [List.length_map] at hi
        rw [List.getElem?_map] at hy
        obtain ⟨kv, hkv⟩ := getI hi
        rw [hkv] at hy
        obtain ⟨g, hg, _, rr, vs, e5, hrr, hvs⟩ := Paired.at hk hkv
        have hy1 : y = .ref rr := by rw [← e5]; exact (Option.some.inj hy).symm
        subst hy1
        have hgm := List.mem_of_getElem? hg
        obtain ⟨g1000, hgin⟩ := hRI g hgm
        have lvs : vs.length = g.2.length := Paired.len hvs
        have hrr3 := e3p _ _ hrr
        have hrr' := offT hDk.so hrr3 (fun ks z => nomatch z)
        show tFor _ _ _ _ _ _
        refine for_en (xs := vs) (a := rr) (fun Q h => ⟨_, rfl, h⟩) (.inl hrr') (fun k σ H' => (∃ u3 u5 u6 u7, σ = [some (.ref x), some (.int (a : Nat)), some (.ref F), u3, some (.ref rr), u5, u6, u7]) ∧ Dks B'.length refs H3p (fun b o => metTo rows r b o ∨ metRow g.2 k b o) H')
          ⟨⟨_, _, _, _, rfl⟩, hDk.eq fun b _ o => Iff.intro (fun z => z.elim id (fun ⟨i, hi, _⟩ => absurd hi (Nat.not_lt_zero _))) Or.inl⟩ (fun k σ H5 _ h => ?_) (fun k z σ H5 T hkl hz h nT => ?_) (fun σ H5 h => ?_)
        · rw [offT h.2.so hrr3 (fun ks z => nomatch z), hrr']
        · obtain ⟨⟨u3, u5, u6, u7, rfl⟩, hDk5⟩ := h
          obtain ⟨pp, hpp, t5, rfl, ht5⟩ := Paired.at hvs hz
          obtain ⟨px, pb⟩ := pp
          obtain ⟨bb, hbb, hbm⟩ := hgin _ (List.mem_of_getElem? hpp)
          have hbb : pb = (bb : Int) := hbb
          subst hbb
          have eT : Same H5 (upd H5 T (.tup [.int (k : Nat), .ref t5])) := same_new nT
          have hDkT := hDk5.grow eT
          have ht5' := offT hDkT.so (e3p _ _ ht5) (fun ks z => nomatch z)
          refine g_nest rfl rfl upd_same ht5' ?_
          obtain ⟨rb, hrb⟩ := getI (xs := refs) (i := bb) (by omega)
          obtain ⟨soT, L, g1, g2, g3⟩ := id hDkT
          obtain ⟨l, hlb⟩ := getI (xs := L) (i := bb) (by omega)
          have hrbT := g2 bb rb l hrb hlb
          have hFT : (upd H5 T (.tup [.int (k : Nat), .ref t5])) F = some (.lst (refs.map V.ref)) := offT soT (e2p _ _ (by rw [hF, h1])) (fun ks z => nomatch z)
          have hrrT := offT soT hrr3 (fun ks z => nomatch z)
          try simp only [wipe, tC, tVar, tChain, rI0, rI, rU, tOp, tUn, tCall, tAnd, tOr, tNot, tNotV, tAndV, tOrV, tTest, tB, tIf, tIfS, tRet, tRetN, tNext, tSeq, tNil, tCons, tAug, ipI, tPar, tAsg, gName, tDrop, tLst, tTup, tCB, tBM, tBM0, tFld_eq, tMkE, tMake, tAugS, gSub, rEq, rAll, rMax, rSum, rAppend, rExtend, rSetL, _root_.L2.start, List.map_cons, List.map_nil, List.length_cons, List.length_nil, List.replicate_succ, List.replicate_zero, List.cons_append, List.nil_append, List.append_nil, List.getElem?_cons_zero, List.getElem?_cons_succ, List.set_cons_zero, List.set_cons_succ, Nat.reduceAdd, Nat.reduceSub, V.int.injEq, V.bl.injEq, V.ref.injEq, V.str.injEq, exists_eq, exists_eq', exists_eq_left, exists_eq_left', exists_and_left, exists_and_right, Option.some.injEq, List.cons.injEq, and_true, true_and, and_assoc, retV, true_or, or_true, decide_eq_true_eq, if_true, if_false, Bool.false_eq_true, Bool.not_true, Bool.not_false, Bool.not_eq_true', reduceCtorEq, eq_self, decide_true, decide_false, List.length_map, exists_const, false_and, and_false, or_false, false_or, ↓reduceIte]
          refine ix_at hFT (b := bb) (v := .ref rb) (by rw [List.getElem?_map, hrb]; rfl) ?_
          refine ⟨.inr (.inr (.inl ⟨rfl, .inl ⟨_, hrbT⟩⟩)), ?_⟩
          rw [dc_call]
          try simp only [wipe, tC, tVar, tChain, rI0, rI, rU, tOp, tUn, tCall, tAnd, tOr, tNot, tNotV, tAndV, tOrV, tTest, tB, tIf, tIfS, tRet, tRetN, tNext, tSeq, tNil, tCons, tAug, ipI, tPar, tAsg, gName, tDrop, tLst, tTup, tCB, tBM, tBM0, tFld_eq, tMkE, tMake, tAugS, gSub, rEq, rAll, rMax, rSum, rAppend, rExtend, rSetL, _root_.L2.start, List.map_cons, List.map_nil, List.length_cons, List.length_nil, List.replicate_succ, List.replicate_zero, List.cons_append, List.nil_append, List.append_nil, List.getElem?_cons_zero, List.getElem?_cons_succ, List.set_cons_zero, List.set_cons_succ, Nat.reduceAdd, Nat.reduceSub, V.int.injEq, V.bl.injEq, V.ref.injEq, V.str.injEq, exists_eq, exists_eq', exists_eq_left, exists_eq_left', exists_and_left, exists_and_right, Option.some.injEq, List.cons.injEq, and_true, true_and, and_assoc, retV, true_or, or_true, decide_eq_true_eq, if_true, if_false, Bool.false_eq_true, Bool.not_true, Bool.not_false, Bool.not_eq_true', reduceCtorEq, eq_self, decide_true, decide_false, List.length_map, exists_const, false_and, and_false, or_false, false_or, tSl, tPart, tNoPart, ↓reduceIte]
          refine sl_listDrop (a := k + 1) hrrT fun p6 np6 => ?_
          have e6 : Same (upd H5 T (.tup [.int (k : Nat), .ref t5])) (upd (upd H5 T (.tup [.int (k : Nat), .ref t5])) p6 (.lst (vs.drop (k + 1)))) := same_new np6
          have hDk6 := hDkT.grow e6
          refine dcK_set (gives_sq (fun Q h => h) (.inl upd_same)) (fun H' e => by rw [upd_same]; exact e _ _ upd_same) (by rw [List.length_drop]; exact Nat.le_trans (by omega : vs.length - (k + 1) ≤ 1000) (by decide)) ((g.2.drop (k + 1)).map fun p => if p.2 ≠ (bb : Int) then some p.2 else none) (by simp [lvs]) (fun n y ko H7 N N0 hy hko e7 hN hN0 => ?_) fun H7 D e7 nD hD => ?_
          · rw [List.getElem?_drop] at hy
            rw [List.getElem?_map, List.getElem?_drop] at hko
            obtain ⟨⟨qx, qo⟩, hq, t7, rfl, ht7⟩ := Paired.at hvs hy
            rw [hq] at hko
            have hko := (Option.some.inj hko).symm
            have ht7' := offT (hDk6.grow e7).so (e3p _ _ ht7) (fun ks z => nomatch z)
            refine g_two rfl ht7' ⟨rfl, ?_⟩
            try simp only [wipe, tC, tVar, tChain, rI0, rI, rU, tOp, tUn, tCall, tAnd, tOr, tNot, tNotV, tAndV, tOrV, tTest, tB, tIf, tIfS, tRet, tRetN, tNext, tSeq, tNil, tCons, tAug, ipI, tPar, tAsg, gName, tDrop, tLst, tTup, tCB, tBM, tBM0, tFld_eq, tMkE, tMake, tAugS, gSub, rEq, rAll, rMax, rSum, rAppend, rExtend, rSetL, _root_.L2.start, List.map_cons, List.map_nil, List.length_cons, List.length_nil, List.replicate_succ, List.replicate_zero, List.cons_append, List.nil_append, List.append_nil, List.getElem?_cons_zero, List.getElem?_cons_succ, List.set_cons_zero, List.set_cons_succ, Nat.reduceAdd, Nat.reduceSub, V.int.injEq, V.bl.injEq, V.ref.injEq, V.str.injEq, exists_eq, exists_eq', exists_eq_left, exists_eq_left', exists_and_left, exists_and_right, Option.some.injEq, List.cons.injEq, and_true, true_and, and_assoc, retV, true_or, or_true, decide_eq_true_eq, if_true, if_false, Bool.false_eq_true, Bool.not_true, Bool.not_false, Bool.not_eq_true', reduceCtorEq, eq_self, decide_true, decide_false, List.length_map, exists_const, false_and, and_false, or_false, false_or, rNe, scal, ↓reduceIte]
            by_cases ho : qo = (bb : Int)
            · rw [if_neg (by simpa using ho)]
              refine hN0 ?_ _ (Same.refl _)
              rw [hko]
              exact if_neg (by simpa using ho)
            · rw [if_pos (by simpa using ho)]
              refine hN qo ?_ _ (Same.refl _)
              rw [hko]
              exact if_pos (by simpa using ho)
          · try simp only [wipe, tC, tVar, tChain, rI0, rI, rU, tOp, tUn, tCall, tAnd, tOr, tNot, tNotV, tAndV, tOrV, tTest, tB, tIf, tIfS, tRet, tRetN, tNext, tSeq, tNil, tCons, tAug, ipI, tPar, tAsg, gName, tDrop, tLst, tTup, tCB, tBM, tBM0, tFld_eq, tMkE, tMake, tAugS, gSub, rEq, rAll, rMax, rSum, rAppend, rExtend, rSetL, _root_.L2.start, List.map_cons, List.map_nil, List.length_cons, List.length_nil, List.replicate_succ, List.replicate_zero, List.cons_append, List.nil_append, List.append_nil, List.getElem?_cons_zero, List.getElem?_cons_succ, List.set_cons_zero, List.set_cons_succ, Nat.reduceAdd, Nat.reduceSub, V.int.injEq, V.bl.injEq, V.ref.injEq, V.str.injEq, exists_eq, exists_eq', exists_eq_left, exists_eq_left', exists_and_left, exists_and_right, Option.some.injEq, List.cons.injEq, and_true, true_and, and_assoc, retV, true_or, or_true, decide_eq_true_eq, if_true, if_false, Bool.false_eq_true, Bool.not_true, Bool.not_false, Bool.not_eq_true', reduceCtorEq, eq_self, decide_true, decide_false, List.length_map, exists_const, false_and, and_false, or_false, false_or, ↓reduceIte]
            have e67 := e6.trans e7
            have hrb7 := e67 _ _ hrbT
            have rbm := List.mem_of_getElem? hrb
            have nDD : rb ≠ D := fun z => by
              have := e6 _ _ hrbT
              rw [z, nD] at this
              cases this
            have hlnd := g3 bb l hlb
            have l12 : l.length ≤ B'.length := by
              refine nodup_le B'.length l hlnd.1 fun o ho => ?_
              have met : ∃ gg ∈ rows, ∃ p ∈ gg.2, p.2 = o := by
                rcases (hlnd.2 o).1 ho with ⟨i, _, gg, hgg, i2, _, _, _, j, y, _, hy, _⟩ | ⟨i2, _, _, _, j, y, _, hy, _⟩
                · exact ⟨gg, List.mem_of_getElem? hgg, (y, o), List.mem_of_getElem? hy, rfl⟩
                · exact ⟨g, hgm, (y, o), List.mem_of_getElem? hy, rfl⟩
              obtain ⟨gg, hgg, p, hpp, rfl⟩ := met
              obtain ⟨z, hz1, hz2⟩ := (hRI gg hgg).2 p hpp
              omega
            have M1000 := len_addO ((g.2.drop (k + 1)).map fun p => if p.2 ≠ (bb : Int) then some p.2 else none) []
            rw [List.length_map, List.length_drop, List.length_nil] at M1000
            refine ⟨rb, D, dkOf l, _, rfl, rfl, hrb7, hD, nDD, ?_, ?_⟩
            · rw [dkOf_len, dkOf_len]
              exact Nat.le_trans (by omega : l.length + _ ≤ 2000) (by decide)
            · rw [merge_dk, foldl_addI]
              refine ⟨((hDkT.grow e67).so).trans (.dK hrb7 rbm), L.set bb (((((g.2.drop (k + 1)).map fun p => if p.2 ≠ (bb : Int) then some p.2 else none).foldl addO []).map some).foldl addO l), by rw [List.length_set, g1], fun b r l2 hr2 hl2 => ?_, fun b l2 hl2 => ?_⟩
              · by_cases eb : b = bb
                · subst eb
                  obtain rfl : r = rb := by rw [hrb] at hr2; exact (Option.some.inj hr2).symm
                  rw [List.getElem?_set_self (by omega)] at hl2
                  rw [upd_same, Option.some.inj hl2]
                · have nr : r ≠ rb := fun z => eb (by
                    subst z
                    obtain ⟨i1, e1⟩ := List.getElem?_eq_some_iff.1 hr2
                    obtain ⟨i2, e2⟩ := List.getElem?_eq_some_iff.1 hrb
                    exact (List.getElem_inj h2).1 (e1.trans e2.symm))
                  rw [List.getElem?_set_ne (fun z => eb z.symm)] at hl2
                  rw [upd_ne nr]
                  exact e67 _ _ (g2 b r l2 hr2 hl2)
              · by_cases eb : b = bb
                · subst eb
                  rw [List.getElem?_set_self (by omega)] at hl2
                  obtain rfl := Option.some.inj hl2
                  refine ⟨nodup_addO _ hlnd.1, fun o => ?_⟩
                  rw [mem_addO, metRow_succ, hlnd.2 o]
                  have hM : some o ∈ ((((g.2.drop (k + 1)).map fun p => if p.2 ≠ (b : Int) then some p.2 else none).foldl addO []).map some) ↔ ((∃ x, g.2[k]? = some (x, (b : Int))) ∧ ∃ j y, k < j ∧ g.2[j]? = some (y, o) ∧ o ≠ (b : Int)) := by
                    rw [List.mem_map]
                    constructor
                    · rintro ⟨z, hz, ez⟩
                      obtain rfl := Option.some.inj ez
                      rw [mem_addO] at hz
                      rcases hz with hz | hz
                      · exact absurd hz List.not_mem_nil
                      · obtain ⟨p, hpm, hpe⟩ := List.mem_map.1 hz
                        obtain ⟨n, hn⟩ := List.getElem?_of_mem hpm
                        rw [List.getElem?_drop] at hn
                        by_cases hpb : p.2 ≠ (b : Int)
                        · rw [if_pos hpb] at hpe
                          obtain rfl := Option.some.inj hpe
                          exact ⟨⟨px, hpp⟩, k + 1 + n, p.1, by omega, hn, hpb⟩
                        · rw [if_neg hpb] at hpe
                          cases hpe
                    · rintro ⟨_, j, y, hj, hy, hne⟩
                      refine ⟨o, ?_, rfl⟩
                      rw [mem_addO]
                      refine .inr (List.mem_map.2 ⟨(y, o), ?_, if_pos hne⟩)
                      refine List.mem_of_getElem? (i := j - (k + 1)) ?_
                      rw [List.getElem?_drop, show k + 1 + (j - (k + 1)) = j from by omega]
                      exact hy
                  rw [hM]
                  exact or_assoc
                · rw [List.getElem?_set_ne (fun z => eb z.symm)] at hl2
                  refine ⟨(g3 b l2 hl2).1, fun o => ((g3 b l2 hl2).2 o).trans ?_⟩
                  rw [metRow_succ]
                  refine ⟨fun h => h.elim .inl fun h => .inr (.inl h), fun h => h.elim .inl fun h => h.elim .inr fun ⟨⟨x, hx⟩, _⟩ => ?_⟩
                  rw [hpp] at hx
                  have := congrArg Prod.snd (Option.some.inj hx)
                  exact absurd (show (bb : Int) = b from this) (by omega)
        · obtain ⟨⟨u3, u5, u6, u7, rfl⟩, hDk5⟩ := h
          refine ⟨⟨_, _, _, _, _, rfl⟩, hDk5.eq fun b _ o => ?_⟩
          rw [lvs]
          exact metTo_succ hg (b : Int) o
      · obtain ⟨⟨u3, u4, u5, u6, u7, rfl⟩, hDk⟩ := h
        rw [List.length_map, lkr] at hDk
        try simp only [wipe, tC, tVar, tChain, rI0, rI, rU, tOp, tUn, tCall, tAnd, tOr, tNot, tNotV, tAndV, tOrV, tTest, tB, tIf, tIfS, tRet, tRetN, tNext, tSeq, tNil, tCons, tAug, ipI, tPar, tAsg, gName, tDrop, tLst, tTup, tCB, tBM, tBM0, tFld_eq, tMkE, tMake, tAugS, gSub, rEq, rAll, rMax, rSum, rAppend, rExtend, rSetL, _root_.L2.start, List.map_cons, List.map_nil, List.length_cons, List.length_nil, List.replicate_succ, List.replicate_zero, List.cons_append, List.nil_append, List.append_nil, List.getElem?_cons_zero, List.getElem?_cons_succ, List.set_cons_zero, List.set_cons_succ, Nat.reduceAdd, Nat.reduceSub, V.int.injEq, V.bl.injEq, V.ref.injEq, V.str.injEq, exists_eq, exists_eq', exists_eq_left, exists_eq_left', exists_and_left, exists_and_right, Option.some.injEq, List.cons.injEq, and_true, true_and, and_assoc, retV, true_or, or_true, decide_eq_true_eq, if_true, if_false, Bool.false_eq_true, Bool.not_true, Bool.not_false, Bool.not_eq_true', reduceCtorEq, eq_self, decide_true, decide_false, List.length_map, exists_const, false_and, and_false, or_false, false_or, ↓reduceIte]
        obtain ⟨so, L, g1, g2, g3⟩ := hDk
        refine q F H' (refs.map V.ref) L rows (same0 so) nF (offT so (e2p _ _ (by rw [hF, h1])) (fun ks z => nomatch z)) (paired_ix (by rw [List.length_map, g1, hrl]) fun b v l hv hlb => ?_) hS g1 g3
        rw [List.getElem?_map] at hv
        cases hrb : refs[b]? with
        | none =>
          rw [hrb] at hv
          cases hv
        | some r =>
          rw [hrb] at hv
          obtain rfl := Option.some.inj hv
          exact ⟨r, rfl, g2 b r l hrb hlb⟩
end
end K76
set_option Elab.async false
set_option linter.all false
set_option maxRecDepth 100000
set_option maxHeartbeats 4000000
/-! k76: ways_of -/
namespace K76
open PySem PySem.Spec PyProof.Rows L2 He HK
/-- the bodies B' meet as U says -/
def Meets (n m : Nat) (B' : List (List (List Int))) (U : Ups) : Prop := U.length = n ∧ ∀ a, a < n → ∀ rows, Paired SrtRow rows (rowsOf a (occTo B' m)) → ∀ b : Nat, b < m → ∀ o, metIn rows (b : Int) o ↔ o ∈ lotAt U a b
/-- every lot ascends -/
def UpsAsc (U : Ups) : Prop := ∀ u ∈ U, ∀ l ∈ u, l.Pairwise (· ≤ ·)
def sp_ways_of (K : PySem.W.Frag) : Sp := fun vs H Q _ => ∃ v n B' U, vs = [v] ∧ BodX K n B' H v ∧ n ≤ 3 ∧ 1 ≤ B'.length ∧ B'.length ≤ 12 ∧ (∀ b ∈ B', b.length ≤ 60 ∧ ∀ c ∈ b, c.length = n) ∧ UpsOk B'.length U ∧ UpsAsc U ∧ Meets n B'.length B' U ∧ Ret (WayO K B'.length U) H Q
/-- one axis, some order in the lots -/
def UpLike (m : Nat) (U : Ups) (a : Nat) (u : List (List Int)) : Prop := u.length = m ∧ ∀ (b : Nat) (l : List Int), u[b]? = some l → l.Nodup ∧ ∀ o, o ∈ l ↔ o ∈ lotAt U a b
theorem lotAt_get {m : Nat} {U : Ups} (O : UpsOk m U) {a b : Nat} (ha : a < U.length) (hb : b < m) : ∃ u l, U[a]? = some u ∧ u[b]? = some l ∧ lotAt U a b = l := by
  obtain ⟨u, hu⟩ := getI (xs := U) ha
  have ou := O.2.2.2 u (List.mem_of_getElem? hu)
  obtain ⟨l, hl⟩ := getI (xs := u) (i := b) (by have := ou.1; omega)
  exact ⟨u, l, hu, hl, lotAt_of hu hl⟩
theorem like_up {m : Nat} {U : Ups} (O : UpsOk m U) {a : Nat} (ha : a < U.length) {u2 : List (List Int)} (h : UpLike m U a u2) : UpOk m u2 := by
  refine ⟨h.1, fun b l hl => ?_⟩
  have hb : b < m := by have := (List.getElem?_eq_some_iff.1 hl).1; have := h.1; omega
  obtain ⟨u, l', hu, hl', e⟩ := lotAt_get O ha hb
  obtain ⟨h1, h2⟩ := h.2 b l hl
  refine ⟨h1, fun x hx => ?_⟩
  rw [h2, e] at hx
  exact ((O.2.2.2 u (List.mem_of_getElem? hu)).2 b l' hl').2 x hx
theorem perm_of_nodup {l l' : List Int} (h : l.Nodup) (h' : l'.Nodup) (e : ∀ o, o ∈ l ↔ o ∈ l') : l.Perm l' := by
  refine List.perm_iff_count.2 fun x => ?_
  rw [h.count, h'.count]
  simp only [e]
theorem like_srt {m : Nat} {U : Ups} (O : UpsOk m U) (As : UpsAsc U) {a : Nat} {u : List (List Int)} (hu : U[a]? = some u) {u2 : List (List Int)} (h : UpLike m U a u2) : u2.map srt = u := by
  have ou := O.2.2.2 u (List.mem_of_getElem? hu)
  refine List.ext_getElem? fun b => ?_
  rw [List.getElem?_map]
  cases hb : u2[b]? with
  | none =>
    have : u.length ≤ b := by
      have := List.getElem?_eq_none_iff.1 hb
      have := h.1
      have := ou.1
      omega
    rw [List.getElem?_eq_none this]
    rfl
  | some l =>
    have hbl : b < u.length := by
      have := (List.getElem?_eq_some_iff.1 hb).1
      have := h.1
      have := ou.1
      omega
    obtain ⟨l', hl'⟩ := getI (xs := u) hbl
    obtain ⟨h1, h2⟩ := h.2 b l hb
    rw [hl']
    have e : lotAt U a b = l' := lotAt_of hu hl'
    have hp : l'.Perm l := perm_of_nodup (ou.2 b l' hl').1 h1 fun o => by rw [h2, e]
    show some (srt l) = some l'
    rw [srt_only hp (As u (List.mem_of_getElem? hu) l' (List.mem_of_getElem? hl'))]
section
variable {w : World} {K : PySem.W.Frag} {mg : Str → Option Value} {base : Heap}
theorem C_ways_of (S : Sc K mg) : Cal prg w K mg base CX0 "ways_of" 8 ["bodies"] [] (sp_ways_of K) := by
  have C_ups_along := C_ups_along (w := w) (base := base) S
  have C_Ways := C_Ways (w := w) (base := base) S
  refine S.cal (d := d_ways_of) 18 14 sc_ways_of rfl rfl rfl rfl rfl (fun _ _ _ _ _ _ us hl => match us, hl with | [_], _ => rfl) (fun vs H Q E h => ?_) (fun f cdv A outer s H vs Q E hr h => ?_)
  · obtain ⟨v, n, B', U, rfl, _⟩ := h
    rfl
  · obtain ⟨_, n, B', U, rfl, hX, n3, B1, B12, hB, O, As, ⟨hUn, hM⟩, q⟩ := h
    obtain ⟨x, dx, t, rfl, hx, tb, us, rfl, htb, hp⟩ := id hX
    refine ⟨_, (pss_cons (ps_if (pt_not (pt_val (pe_callB call_isi (by rfl) (S.free 40) (by decide +kernel) (pa_cons (pv 0) (pa_cons (pe_gc (S.glo 57)) pa_nil))))) (pss_one ps_never) pss_nil)
      (pss_cons (ps_set (i := 1) sc_ways_of.nd rfl (by first | exact Or.inl rfl | exact Or.inr rfl) (pe_callB cr_lenA (by rfl) (S.free 41) (by decide +kernel) (pa_cons (pe_fld (pv 0) rfl) pa_nil)))
      (pss_one (ps_ret (pe_m C_Ways (hr.mono (by omega)) pass0 (pa_cons (pv 1) (pa_cons (pe_lc (own := [("axis", 3)]) (g := (gName 3)) (tt := tYes) rfl sc_ways_of.nd (pi_range1 rfl (S.free 44) (pa_cons (pe_fld (pv 0) rfl) pa_nil)) (blkOk_by (N := ["bodies", "many", "lot", "axis"]) (sc := defScope s_ways_of) (by decide +kernel)) (fun _ _ _ _ _ => (pg_name (i := 3) sc_ways_of.nd rfl (by first | exact Or.inl rfl | exact Or.inr rfl))) (fun _ _ _ _ _ => pts_nil) (fun _ _ _ _ _ => (pe_lc (own := [("lot", 2)]) (g := (gName 2)) (tt := tYes) rfl sc_ways_of.nd (pi_seqK (K := K) rfl (pe_c C_ups_along (hr.mono (by omega)) pass0 (pa_cons (pv 0) (pa_cons (pv 3) pa_nil)))) (blkOk_by (by kernel_rfl)) (fun _ _ _ _ _ => (pg_name (i := 2) sc_ways_of.nd rfl (by first | exact Or.inl rfl | exact Or.inr rfl))) (fun _ _ _ _ _ => pts_nil) (fun _ _ _ _ _ => (pe_callTy (cr_dkL rfl) (by rfl) (S.free 42) (by decide +kernel) (pa_cons (pv 2) pa_nil)))))) pa_nil))))))), ?_⟩
    have hl : us.length = B'.length := Paired.len hp
    try simp only [wipe, tC, tVar, tChain, rI0, rI, rU, tOp, tUn, tCall, tAnd, tOr, tNot, tNotV, tAndV, tOrV, tTest, tB, tIf, tIfS, tRet, tRetN, tNext, tSeq, tNil, tCons, tAug, ipI, tPar, tAsg, gName, tDrop, tLst, tTup, tCB, tBM, tBM0, tFld_eq, tMkE, tMake, tAugS, gSub, rEq, rAll, rMax, rSum, rAppend, rExtend, rSetL, _root_.L2.start, List.map_cons, List.map_nil, List.length_cons, List.length_nil, List.replicate_succ, List.replicate_zero, List.cons_append, List.nil_append, List.append_nil, List.getElem?_cons_zero, List.getElem?_cons_succ, List.set_cons_zero, List.set_cons_succ, Nat.reduceAdd, Nat.reduceSub, V.int.injEq, V.bl.injEq, V.ref.injEq, V.str.injEq, exists_eq, exists_eq', exists_eq_left, exists_eq_left', exists_and_left, exists_and_right, Option.some.injEq, List.cons.injEq, and_true, true_and, and_assoc, retV, true_or, or_true, decide_eq_true_eq, if_true, if_false, Bool.false_eq_true, Bool.not_true, Bool.not_false, Bool.not_eq_true', reduceCtorEq, eq_self, decide_true, decide_false, List.length_map, exists_const, false_and, and_false, or_false, false_or, ↓reduceIte]
    refine isi_own (own_Bodies S) hx ?_
    try simp only [wipe, tC, tVar, tChain, rI0, rI, rU, tOp, tUn, tCall, tAnd, tOr, tNot, tNotV, tAndV, tOrV, tTest, tB, tIf, tIfS, tRet, tRetN, tNext, tSeq, tNil, tCons, tAug, ipI, tPar, tAsg, gName, tDrop, tLst, tTup, tCB, tBM, tBM0, tFld_eq, tMkE, tMake, tAugS, gSub, rEq, rAll, rMax, rSum, rAppend, rExtend, rSetL, _root_.L2.start, List.map_cons, List.map_nil, List.length_cons, List.length_nil, List.replicate_succ, List.replicate_zero, List.cons_append, List.nil_append, List.append_nil, List.getElem?_cons_zero, List.getElem?_cons_succ, List.set_cons_zero, List.set_cons_succ, Nat.reduceAdd, Nat.reduceSub, V.int.injEq, V.bl.injEq, V.ref.injEq, V.str.injEq, exists_eq, exists_eq', exists_eq_left, exists_eq_left', exists_and_left, exists_and_right, Option.some.injEq, List.cons.injEq, and_true, true_and, and_assoc, retV, true_or, or_true, decide_eq_true_eq, if_true, if_false, Bool.false_eq_true, Bool.not_true, Bool.not_false, Bool.not_eq_true', reduceCtorEq, eq_self, decide_true, decide_false, List.length_map, exists_const, false_and, and_false, or_false, false_or, ↓reduceIte]
    refine fld_at hx (S.cls 58) (S.noat 64) rfl (len_sq (.inr htb) ?_)
    try simp only [wipe, tC, tVar, tChain, rI0, rI, rU, tOp, tUn, tCall, tAnd, tOr, tNot, tNotV, tAndV, tOrV, tTest, tB, tIf, tIfS, tRet, tRetN, tNext, tSeq, tNil, tCons, tAug, ipI, tPar, tAsg, gName, tDrop, tLst, tTup, tCB, tBM, tBM0, tFld_eq, tMkE, tMake, tAugS, gSub, rEq, rAll, rMax, rSum, rAppend, rExtend, rSetL, _root_.L2.start, List.map_cons, List.map_nil, List.length_cons, List.length_nil, List.replicate_succ, List.replicate_zero, List.cons_append, List.nil_append, List.append_nil, List.getElem?_cons_zero, List.getElem?_cons_succ, List.set_cons_zero, List.set_cons_succ, Nat.reduceAdd, Nat.reduceSub, V.int.injEq, V.bl.injEq, V.ref.injEq, V.str.injEq, exists_eq, exists_eq', exists_eq_left, exists_eq_left', exists_and_left, exists_and_right, Option.some.injEq, List.cons.injEq, and_true, true_and, and_assoc, retV, true_or, or_true, decide_eq_true_eq, if_true, if_false, Bool.false_eq_true, Bool.not_true, Bool.not_false, Bool.not_eq_true', reduceCtorEq, eq_self, decide_true, decide_false, List.length_map, exists_const, false_and, and_false, or_false, false_or, ↓reduceIte]
    refine lc_acc (gives_rng1 (j := n) (fun Q h => ?_)) (Box.none (A := No) (fun _ z => z.elim)) (fun _ _ => trivial) (by rw [rngV_len, Int.toNat_natCast]; exact Nat.le_trans n3 (by decide))
      (fun A k acc H' => ∃ U2 : Ups, Paired (LsF (LsF InA) A H') acc U2 ∧ U2.length = k ∧ ∀ (a : Nat) (u : List (List Int)), U2[a]? = some u → UpLike B'.length U a u) (fun D H' => ⟨[], .nil, rfl, fun a u z => by cases z⟩)
      (fun e ⟨U2, h1, h2, h3⟩ => ⟨U2, (fam_ls (fam_ls fam_in)).monoP e h1, h2, h3⟩) (fun wk ⟨U2, h1, h2, h3⟩ => ⟨U2, (fam_ls (fam_ls fam_in)).weakP wk h1, h2, h3⟩)
      (fun k y acc H' D N N0 hk hy e _ hA hI hN _ => ?_) fun acc H2 D e2 _ nD _ hD hI => ?_
    · try simp only [wipe, tC, tVar, tChain, rI0, rI, rU, tOp, tUn, tCall, tAnd, tOr, tNot, tNotV, tAndV, tOrV, tTest, tB, tIf, tIfS, tRet, tRetN, tNext, tSeq, tNil, tCons, tAug, ipI, tPar, tAsg, gName, tDrop, tLst, tTup, tCB, tBM, tBM0, tFld_eq, tMkE, tMake, tAugS, gSub, rEq, rAll, rMax, rSum, rAppend, rExtend, rSetL, _root_.L2.start, List.map_cons, List.map_nil, List.length_cons, List.length_nil, List.replicate_succ, List.replicate_zero, List.cons_append, List.nil_append, List.append_nil, List.getElem?_cons_zero, List.getElem?_cons_succ, List.set_cons_zero, List.set_cons_succ, Nat.reduceAdd, Nat.reduceSub, V.int.injEq, V.bl.injEq, V.ref.injEq, V.str.injEq, exists_eq, exists_eq', exists_eq_left, exists_eq_left', exists_and_left, exists_and_right, Option.some.injEq, List.cons.injEq, and_true, true_and, and_assoc, retV, true_or, or_true, decide_eq_true_eq, if_true, if_false, Bool.false_eq_true, Bool.not_true, Bool.not_false, Bool.not_eq_true', reduceCtorEq, eq_self, decide_true, decide_false, List.length_map, exists_const, false_and, and_false, or_false, false_or, ↓reduceIte]
      exact fld_at hx (S.cls 58) (S.noat 63) rfl h
    · rw [rngV_len, Int.toNat_natCast] at hk
      rw [Int.toNat_natCast, rngV_get hk] at hy
      obtain rfl := Option.some.inj hy
      refine ⟨rfl, ?_⟩
      try simp only [wipe, tC, tVar, tChain, rI0, rI, rU, tOp, tUn, tCall, tAnd, tOr, tNot, tNotV, tAndV, tOrV, tTest, tB, tIf, tIfS, tRet, tRetN, tNext, tSeq, tNil, tCons, tAug, ipI, tPar, tAsg, gName, tDrop, tLst, tTup, tCB, tBM, tBM0, tFld_eq, tMkE, tMake, tAugS, gSub, rEq, rAll, rMax, rSum, rAppend, rExtend, rSetL, _root_.L2.start, List.map_cons, List.map_nil, List.length_cons, List.length_nil, List.replicate_succ, List.replicate_zero, List.cons_append, List.nil_append, List.append_nil, List.getElem?_cons_zero, List.getElem?_cons_succ, List.set_cons_zero, List.set_cons_succ, Nat.reduceAdd, Nat.reduceSub, V.int.injEq, V.bl.injEq, V.ref.injEq, V.str.injEq, exists_eq, exists_eq', exists_eq_left, exists_eq_left', exists_and_left, exists_and_right, Option.some.injEq, List.cons.injEq, and_true, true_and, and_assoc, retV, true_or, or_true, decide_eq_true_eq, if_true, if_false, Bool.false_eq_true, Bool.not_true, Bool.not_false, Bool.not_eq_true', reduceCtorEq, eq_self, decide_true, decide_false, List.length_map, exists_const, false_and, and_false, or_false, false_or, tYes, ↓reduceIte]
      rw [lc_call]
      try simp only [wipe, tC, tVar, tChain, rI0, rI, rU, tOp, tUn, tCall, tAnd, tOr, tNot, tNotV, tAndV, tOrV, tTest, tB, tIf, tIfS, tRet, tRetN, tNext, tSeq, tNil, tCons, tAug, ipI, tPar, tAsg, gName, tDrop, tLst, tTup, tCB, tBM, tBM0, tFld_eq, tMkE, tMake, tAugS, gSub, rEq, rAll, rMax, rSum, rAppend, rExtend, rSetL, _root_.L2.start, List.map_cons, List.map_nil, List.length_cons, List.length_nil, List.replicate_succ, List.replicate_zero, List.cons_append, List.nil_append, List.append_nil, List.getElem?_cons_zero, List.getElem?_cons_succ, List.set_cons_zero, List.set_cons_succ, Nat.reduceAdd, Nat.reduceSub, V.int.injEq, V.bl.injEq, V.ref.injEq, V.str.injEq, exists_eq, exists_eq', exists_eq_left, exists_eq_left', exists_and_left, exists_and_right, Option.some.injEq, List.cons.injEq, and_true, true_and, and_assoc, retV, true_or, or_true, decide_eq_true_eq, if_true, if_false, Bool.false_eq_true, Bool.not_true, Bool.not_false, Bool.not_eq_true', reduceCtorEq, eq_self, decide_true, decide_false, List.length_map, exists_const, false_and, and_false, or_false, false_or, ↓reduceIte]
      refine ⟨.ref x, n, B', k, by simp, ⟨x, dx, _, rfl, e.same _ _ hx, tb, us, rfl, e.same _ _ htb, (famT_tp (famT_tp famT_in)).p (.of e.same) hp⟩, hk, n3, B12, hB, fun F H3 refs L rows e3 nF hF hrefs hS hLl hL => ?_⟩
      obtain ⟨U2, h1, h2, h3⟩ := hI
      have lr : refs.length = L.length := Paired.len hrefs
      refine lc_map (O := No) (A := Or1 No D) (I := fun _ => True) (gives_sq (xs := refs) (a := F) (fun Q h => h) (.inl hF)) ⟨fun _ z => z.elim, fun a ha => fun z => hA a ha (e3.free z), fun _ _ _ _ _ => trivial, trivial⟩ (fun H' e => by rw [e.same _ _ hF, hF]) (Nat.le_trans (by omega : refs.length ≤ 12) (by decide)) (fun x => rfl) (fam_ls fam_in) L lr.symm id (fun j y l H7 D7 N7 hy hlj e7 _ hA7 hN7 => ?_) fun zs H8 D8 e8 _ nD8 nA8 hD8 hp8 => ?_
      · obtain ⟨d, rfl, hd⟩ := Paired.both hrefs hy hlj
        try simp only [wipe, tC, tVar, tChain, rI0, rI, rU, tOp, tUn, tCall, tAnd, tOr, tNot, tNotV, tAndV, tOrV, tTest, tB, tIf, tIfS, tRet, tRetN, tNext, tSeq, tNil, tCons, tAug, ipI, tPar, tAsg, gName, tDrop, tLst, tTup, tCB, tBM, tBM0, tFld_eq, tMkE, tMake, tAugS, gSub, rEq, rAll, rMax, rSum, rAppend, rExtend, rSetL, _root_.L2.start, List.map_cons, List.map_nil, List.length_cons, List.length_nil, List.replicate_succ, List.replicate_zero, List.cons_append, List.nil_append, List.append_nil, List.getElem?_cons_zero, List.getElem?_cons_succ, List.set_cons_zero, List.set_cons_succ, Nat.reduceAdd, Nat.reduceSub, V.int.injEq, V.bl.injEq, V.ref.injEq, V.str.injEq, exists_eq, exists_eq', exists_eq_left, exists_eq_left', exists_and_left, exists_and_right, Option.some.injEq, List.cons.injEq, and_true, true_and, and_assoc, retV, true_or, or_true, decide_eq_true_eq, if_true, if_false, Bool.false_eq_true, Bool.not_true, Bool.not_false, Bool.not_eq_true', reduceCtorEq, eq_self, decide_true, decide_false, List.length_map, exists_const, false_and, and_false, or_false, false_or, ↓reduceIte]
        refine list_dk (e7.same _ _ hd) fun p np => ?_
        exact hN7 _ _ (.new np) trivial ⟨p, _, rfl, fun z => hA7 p z np, upd_same, ina_of l⟩
      · rw [List.map_id] at hp8
        refine hN _ _ (.of (e3.trans e8.same)) trivial ⟨U2 ++ [L], Paired.app ((fam_ls (fam_ls fam_in)).monoP (.of (e3.trans e8.same)) h1) (.cons ⟨D8, zs, rfl, nA8, hD8, hp8⟩ .nil), by rw [List.length_append, h2]; rfl, fun a u hu => ?_⟩
        by_cases ha : a < U2.length
        · rw [List.getElem?_append_left ha] at hu
          exact h3 a u hu
        · have ha' : a = k := by
            have := (List.getElem?_eq_some_iff.1 hu).1
            rw [List.length_append] at this
            simp at this
            omega
          subst ha'
          rw [List.getElem?_append_right (by omega), h2, Nat.sub_self] at hu
          obtain rfl : L = u := Option.some.inj hu
          refine ⟨hLl, fun b l hl => ⟨(hL b l hl).1, fun o => ((hL b l hl).2 o).trans ?_⟩⟩
          exact hM a hk rows hS b (by have := (List.getElem?_eq_some_iff.1 hl).1; omega) o
    · obtain ⟨U2, h1, h2, h3⟩ := hI
      rw [rngV_len, Int.toNat_natCast] at h2
      try simp only [wipe, tC, tVar, tChain, rI0, rI, rU, tOp, tUn, tCall, tAnd, tOr, tNot, tNotV, tAndV, tOrV, tTest, tB, tIf, tIfS, tRet, tRetN, tNext, tSeq, tNil, tCons, tAug, ipI, tPar, tAsg, gName, tDrop, tLst, tTup, tCB, tBM, tBM0, tFld_eq, tMkE, tMake, tAugS, gSub, rEq, rAll, rMax, rSum, rAppend, rExtend, rSetL, _root_.L2.start, List.map_cons, List.map_nil, List.length_cons, List.length_nil, List.replicate_succ, List.replicate_zero, List.cons_append, List.nil_append, List.append_nil, List.getElem?_cons_zero, List.getElem?_cons_succ, List.set_cons_zero, List.set_cons_succ, Nat.reduceAdd, Nat.reduceSub, V.int.injEq, V.bl.injEq, V.ref.injEq, V.str.injEq, exists_eq, exists_eq', exists_eq_left, exists_eq_left', exists_and_left, exists_and_right, Option.some.injEq, List.cons.injEq, and_true, true_and, and_assoc, retV, true_or, or_true, decide_eq_true_eq, if_true, if_false, Bool.false_eq_true, Bool.not_true, Bool.not_false, Bool.not_eq_true', reduceCtorEq, eq_self, decide_true, decide_false, List.length_map, exists_const, false_and, and_false, or_false, false_or, ↓reduceIte]
      rw [hl]
      have hU2 : srtU U2 = U := by
        refine List.ext_getElem? fun a => ?_
        unfold srtU
        rw [List.getElem?_map]
        cases ha : U2[a]? with
        | none =>
          have := List.getElem?_eq_none_iff.1 ha
          rw [List.getElem?_eq_none (by omega)]
          rfl
        | some u2 =>
          obtain ⟨u, hu⟩ := getI (xs := U) (i := a) (by have := (List.getElem?_eq_some_iff.1 ha).1; omega)
          rw [hu]
          exact congrArg some (like_srt O As hu (h3 a u2 ha))
      have OK2 : UpsOk B'.length U2 := by
        refine ⟨by have := O.1; omega, by have := O.2.1; omega, O.2.2.1, fun u hu => ?_⟩
        obtain ⟨a, ha⟩ := List.getElem?_of_mem hu
        exact like_up O (by have := (List.getElem?_eq_some_iff.1 ha).1; omega) (h3 a u ha)
      refine make_ways (U := U2) (sq_ls (fun v x h => sq_ls (fun v x h => sq_ls (fun v x h => h) (fun _ z => z) h) (fun _ z => z) h) (fun _ z => z) ⟨D, acc, rfl, fun z => z, hD, h1⟩) B1 OK2 (by rw [hU2]; exact fun v H5 e5 r => q v H5 (e2.same.trans e5) r)
end
end K76
set_option Elab.async false
set_option linter.all false
set_option maxRecDepth 100000
set_option maxHeartbeats 4000000
/-! k76: the law's box -/
namespace K76
open PySem PySem.Spec PyProof.Rows L2 He HK
def sp_draw : Sp := fun vs H Q _ => ∃ (b d : Addr) (m : Int), vs = [.ref b, .int m] ∧ BoxAt b d H ∧ 0 < m ∧ m ≤ 10000000 ∧ RetB b d (fun v => ∃ r, v = .int r ∧ 0 ≤ r ∧ r < m) H Q
section
variable {w : World} {K : PySem.W.Frag} {mg : Str → Option Value} {base : Heap}
theorem C__law_draw (S : Sc K mg) : Cal prg w K mg base CX0 "_law_draw" 1 ["box", "many"] [] sp_draw := by
  refine S.cal (d := d__law_draw) 24 20 sc__law_draw rfl rfl rfl rfl rfl (fun _ _ _ _ _ _ us hl => match us, hl with | [_, _], _ => rfl) (fun vs H Q E h => ?_) (fun f cdv A outer s H vs Q E hr h => ?_)
  · obtain ⟨b, d, m, rfl, _⟩ := h
    rfl
  · obtain ⟨b, d, m, rfl, hb, m0, m7, q⟩ := h
    refine ⟨_, (pss_cons (ps_if (pt_cmpR (op_neD hr.units) (pe_ix ix_list (pv 0) pe_int (fun _ _ => rfl)) (pe_lst pa_nil) (nomark _)) (pss_cons (ps_set (i := 2) sc__law_draw.nd rfl (by first | exact Or.inl rfl | exact Or.inr rfl) (pe_callTy call_int1 (by rfl) (S.free 39) (by decide +kernel) (pa_cons (pe_bm PySem.F.plainAttrs_list PySem.F.slot_list_pop PySem.F.type_list_pop mt_popAt (pe_ix ix_list (pv 0) pe_int (fun _ _ => rfl)) (pa_cons pe_int pa_nil)) pa_nil)))
      (pss_cons (ps_if (pt_cmpR op_gt (pe_op op_fdiv (pv 2) (pv 1)) pe_int (nomark _)) (pss_one (ps_expr (pe_bm PySem.F.plainAttrs_list PySem.F.slot_list_insert PySem.F.type_list_insert mt_insert (pe_ix ix_list (pv 0) pe_int (fun _ _ => rfl)) (pa_cons pe_int (pa_cons (pe_op op_fdiv (pv 2) (pv 1)) pa_nil))))) pss_nil)
      (pss_one (ps_ret (pe_op op_mod (pe_callTy call_int1 (by rfl) (S.free 39) (by decide +kernel) (pa_cons (pv 2) pa_nil)) (pv 1)))))) pss_nil)
      (pss_cons (ps_asg (pe_op op_mod (pe_callTy call_int1 (by rfl) (S.free 39) (by decide +kernel) (pa_cons (pe_op op_add (pe_op op_mul (pe_ix ix_list (pv 0) pe_int (fun _ _ => rfl)) pe_int) pe_int) pa_nil)) pe_int) (pg_sub (pv 0) pe_int set_list))
      (pss_cons (ps_set (i := 3) sc__law_draw.nd rfl (by first | exact Or.inl rfl | exact Or.inr rfl) (pe_ix ix_list (pv 0) pe_int (fun _ _ => rfl)))
      (pss_cons (ps_if (pt_cmpR op_gt (pv 1) (pe_op op_pow pe_int pe_int) (nomark _)) (pss_one ps_never) pss_nil)
      (pss_one (ps_ret (pe_op op_mod (pe_callTy call_int1 (by rfl) (S.free 39) (by decide +kernel) (pa_cons (pe_op op_fdiv (pv 3) pe_int) pa_nil)) (pv 1)))))))), ?_⟩
    obtain ⟨ds, st, h1, h2, h3, h4, h5, h6⟩ := hb.at_
    try simp only [wipe, tC, tVar, tChain, rI0, rI, rU, tOp, tUn, tCall, tAnd, tOr, tNot, tNotV, tAndV, tOrV, tTest, tB, tIf, tIfS, tRet, tRetN, tNext, tSeq, tNil, tCons, tAug, ipI, tPar, tAsg, gName, tDrop, tLst, tTup, tCB, tBM, tBM0, tFld_eq, tMkE, tMake, tAugS, gSub, rEq, rAll, rMax, rSum, rAppend, rExtend, rSetL, _root_.L2.start, List.map_cons, List.map_nil, List.length_cons, List.length_nil, List.replicate_succ, List.replicate_zero, List.cons_append, List.nil_append, List.append_nil, List.getElem?_cons_zero, List.getElem?_cons_succ, List.set_cons_zero, List.set_cons_succ, Nat.reduceAdd, Nat.reduceSub, V.int.injEq, V.bl.injEq, V.ref.injEq, V.str.injEq, exists_eq, exists_eq', exists_eq_left, exists_eq_left', exists_and_left, exists_and_right, Option.some.injEq, List.cons.injEq, and_true, true_and, and_assoc, retV, true_or, or_true, decide_eq_true_eq, if_true, if_false, Bool.false_eq_true, Bool.not_true, Bool.not_false, Bool.not_eq_true', reduceCtorEq, eq_self, decide_true, decide_false, List.length_map, exists_const, false_and, and_false, or_false, false_or, ↓reduceIte]
    refine ix_at h1 (b := 0) rfl ⟨by decide, fun p np => ?_⟩
    have e1 : Same H (upd H p (.lst [])) := same_new np
    generalize hH1 : upd H p (.lst []) = H1 at e1
    have hp1 : H1 p = some (.lst []) := by rw [← hH1]; exact upd_same
    refine ne_nil (e1 _ _ h2) hp1 ?_
    have hb1 := e1 _ _ h1
    have hd1 := e1 _ _ h2
    try simp only [wipe, tC, tVar, tChain, rI0, rI, rU, tOp, tUn, tCall, tAnd, tOr, tNot, tNotV, tAndV, tOrV, tTest, tB, tIf, tIfS, tRet, tRetN, tNext, tSeq, tNil, tCons, tAug, ipI, tPar, tAsg, gName, tDrop, tLst, tTup, tCB, tBM, tBM0, tFld_eq, tMkE, tMake, tAugS, gSub, rEq, rAll, rMax, rSum, rAppend, rExtend, rSetL, _root_.L2.start, List.map_cons, List.map_nil, List.length_cons, List.length_nil, List.replicate_succ, List.replicate_zero, List.cons_append, List.nil_append, List.append_nil, List.getElem?_cons_zero, List.getElem?_cons_succ, List.set_cons_zero, List.set_cons_succ, Nat.reduceAdd, Nat.reduceSub, V.int.injEq, V.bl.injEq, V.ref.injEq, V.str.injEq, exists_eq, exists_eq', exists_eq_left, exists_eq_left', exists_and_left, exists_and_right, Option.some.injEq, List.cons.injEq, and_true, true_and, and_assoc, retV, true_or, or_true, decide_eq_true_eq, if_true, if_false, Bool.false_eq_true, Bool.not_true, Bool.not_false, Bool.not_eq_true', reduceCtorEq, eq_self, decide_true, decide_false, List.length_map, exists_const, false_and, and_false, or_false, false_or, ↓reduceIte]
    cases ds with
    | cons x t =>
      have x0 := h3 x List.mem_cons_self
      rw [if_pos (by simp)]
      refine ix_at hb1 (b := 0) rfl ⟨.inl ⟨rfl, _, sqL_of hd1⟩, ?_⟩
      refine ⟨d, _, 0, 0, .int x, rfl, rfl, hd1, by decide, by decide, by simp [seqIndex?], rfl, .inl ⟨x, rfl, ⟨m0, by omega⟩, ?_⟩⟩
      have e2 : SameO (BoxO b d) H1 (upd H1 d (.lst (((x :: t).map V.int).eraseIdx 0))) := .lst hd1 (.inr rfl)
      have hd2 : (upd H1 d (.lst (((x :: t).map V.int).eraseIdx 0))) d = some (.lst (t.map V.int)) := upd_same
      have hb2 : (upd H1 d (.lst (((x :: t).map V.int).eraseIdx 0))) b = some (.lst [.ref d, .int st]) := by rw [upd_ne hb.ne]; exact hb1
      have ht : ∀ y ∈ t, 0 ≤ y := fun y hy => h3 y (List.mem_cons_of_mem _ hy)
      rw [List.length_cons] at h4
      have r0 := Int.emod_nonneg x (by omega : m ≠ 0)
      have r1 := Int.emod_lt_of_pos x m0
      by_cases hx : 0 < x / m
      · rw [if_pos hx]
        refine ix_at hb2 (b := 0) rfl ⟨.inl ⟨rfl, _, sqL_of hd2⟩, ⟨m0, by omega⟩, d, rfl, _, hd2, Nat.lt_of_lt_of_le (by rw [List.length_map]; omega : _ < 100) (by decide), by decide, by decide, m0, ?_⟩
        refine q _ _ ((SameO.of e1).trans (e2.trans (.lst hd2 (.inr rfl)))) ⟨hb.ne, x / m :: t, st, by rw [upd_ne hb.ne]; exact hb2, by rw [upd_same]; rfl, fun y hy => ?_, by rw [List.length_cons]; omega, h5, h6⟩ ⟨_, rfl, r0, r1⟩
        rcases List.mem_cons.1 hy with hy | hy
        · rw [hy]
          exact Int.le_of_lt hx
        · exact ht y hy
      · rw [if_neg hx]
        exact ⟨m0, q _ _ ((SameO.of e1).trans e2) ⟨hb.ne, t, st, hb2, hd2, ht, by omega, h5, h6⟩ ⟨_, rfl, r0, r1⟩⟩
    | nil =>
      rw [if_neg (by simp)]
      try simp only [wipe, tC, tVar, tChain, rI0, rI, rU, tOp, tUn, tCall, tAnd, tOr, tNot, tNotV, tAndV, tOrV, tTest, tB, tIf, tIfS, tRet, tRetN, tNext, tSeq, tNil, tCons, tAug, ipI, tPar, tAsg, gName, tDrop, tLst, tTup, tCB, tBM, tBM0, tFld_eq, tMkE, tMake, tAugS, gSub, rEq, rAll, rMax, rSum, rAppend, rExtend, rSetL, _root_.L2.start, List.map_cons, List.map_nil, List.length_cons, List.length_nil, List.replicate_succ, List.replicate_zero, List.cons_append, List.nil_append, List.append_nil, List.getElem?_cons_zero, List.getElem?_cons_succ, List.set_cons_zero, List.set_cons_succ, Nat.reduceAdd, Nat.reduceSub, V.int.injEq, V.bl.injEq, V.ref.injEq, V.str.injEq, exists_eq, exists_eq', exists_eq_left, exists_eq_left', exists_and_left, exists_and_right, Option.some.injEq, List.cons.injEq, and_true, true_and, and_assoc, retV, true_or, or_true, decide_eq_true_eq, if_true, if_false, Bool.false_eq_true, Bool.not_true, Bool.not_false, Bool.not_eq_true', reduceCtorEq, eq_self, decide_true, decide_false, List.length_map, exists_const, false_and, and_false, or_false, false_or, ↓reduceIte]
      refine ix_at hb1 (b := 1) rfl ⟨st, rfl, .inr ⟨by decide, by decide⟩, by decide, ?_⟩
      refine ⟨_, hb1, 1, rfl, ?_⟩
      have hb2 : (upd H1 b (.lst ([V.ref d, .int st].set 1 (.int ((st * 16807 + 41) % 2147483647))))) b = some (.lst [.ref d, .int ((st * 16807 + 41) % 2147483647)]) := upd_same
      have hd2 : (upd H1 b (.lst ([V.ref d, .int st].set 1 (.int ((st * 16807 + 41) % 2147483647))))) d = some (.lst ([].map V.int)) := by rw [upd_ne hb.ne.symm]; exact hd1
      refine ix_at hb2 (b := 1) rfl ?_
      try simp only [wipe, tC, tVar, tChain, rI0, rI, rU, tOp, tUn, tCall, tAnd, tOr, tNot, tNotV, tAndV, tOrV, tTest, tB, tIf, tIfS, tRet, tRetN, tNext, tSeq, tNil, tCons, tAug, ipI, tPar, tAsg, gName, tDrop, tLst, tTup, tCB, tBM, tBM0, tFld_eq, tMkE, tMake, tAugS, gSub, rEq, rAll, rMax, rSum, rAppend, rExtend, rSetL, _root_.L2.start, List.map_cons, List.map_nil, List.length_cons, List.length_nil, List.replicate_succ, List.replicate_zero, List.cons_append, List.nil_append, List.append_nil, List.getElem?_cons_zero, List.getElem?_cons_succ, List.set_cons_zero, List.set_cons_succ, Nat.reduceAdd, Nat.reduceSub, V.int.injEq, V.bl.injEq, V.ref.injEq, V.str.injEq, exists_eq, exists_eq', exists_eq_left, exists_eq_left', exists_and_left, exists_and_right, Option.some.injEq, List.cons.injEq, and_true, true_and, and_assoc, retV, true_or, or_true, decide_eq_true_eq, if_true, if_false, Bool.false_eq_true, Bool.not_true, Bool.not_false, Bool.not_eq_true', reduceCtorEq, eq_self, decide_true, decide_false, List.length_map, exists_const, false_and, and_false, or_false, false_or, ↓reduceIte]
      refine ⟨⟨by decide, by decide, by decide⟩, ?_⟩
      rw [if_neg (by
        have : (10 : Int) ^ (7 : Int).toNat = 10000000 := by decide
        omega)]
      have s0 := Int.emod_nonneg (st * 16807 + 41) (by decide : (2147483647 : Int) ≠ 0)
      have s1 := Int.emod_lt_of_pos (st * 16807 + 41) (by decide : (0 : Int) < 2147483647)
      refine ⟨⟨by decide, by decide⟩, m0, q _ _ ((SameO.of e1).trans (.lst hb1 (.inl rfl))) ⟨hb.ne, [], _, hb2, hd2, fun y hy => absurd hy List.not_mem_nil, Nat.zero_le _, s0, s1⟩ ⟨_, rfl, Int.emod_nonneg _ (by omega), Int.emod_lt_of_pos _ m0⟩⟩
def sp_pick : Sp := fun vs H Q _ => ∃ (b d p : Addr) (xs : List V), vs = [.ref b, .ref p] ∧ BoxAt b d H ∧ H p = some (.lst xs) ∧ ¬BoxO b d p ∧ 0 < xs.length ∧ xs.length ≤ 1000 ∧ RetB b d (fun v => v ∈ xs) H Q
theorem C__law_pick (S : Sc K mg) : Cal prg w K mg base CX0 "_law_pick" 2 ["box", "some"] [] sp_pick := by
  have C__law_draw := C__law_draw (w := w) (base := base) S
  refine S.cal (d := d__law_pick) 25 21 sc__law_pick rfl rfl rfl rfl rfl (fun _ _ _ _ _ _ us hl => match us, hl with | [_, _], _ => rfl) (fun vs H Q E h => ?_) (fun f cdv A outer s H vs Q E hr h => ?_)
  · obtain ⟨b, d, p, xs, rfl, _⟩ := h
    rfl
  · obtain ⟨b, d, p, xs, rfl, hb, hp, np, l0, l1, q⟩ := h
    refine ⟨_, (pss_one (ps_ret (pe_ix ix_list (pv 1) (pe_c C__law_draw (hr.mono (by omega)) pass0 (pa_cons (pv 0) (pa_cons (pe_callB cr_lenA (by rfl) (S.free 41) (by decide +kernel) (pa_cons (pv 1) pa_nil)) pa_nil))) (fun _ _ => rfl)))), ?_⟩
    try simp only [wipe, tC, tVar, tChain, rI0, rI, rU, tOp, tUn, tCall, tAnd, tOr, tNot, tNotV, tAndV, tOrV, tTest, tB, tIf, tIfS, tRet, tRetN, tNext, tSeq, tNil, tCons, tAug, ipI, tPar, tAsg, gName, tDrop, tLst, tTup, tCB, tBM, tBM0, tFld_eq, tMkE, tMake, tAugS, gSub, rEq, rAll, rMax, rSum, rAppend, rExtend, rSetL, _root_.L2.start, List.map_cons, List.map_nil, List.length_cons, List.length_nil, List.replicate_succ, List.replicate_zero, List.cons_append, List.nil_append, List.append_nil, List.getElem?_cons_zero, List.getElem?_cons_succ, List.set_cons_zero, List.set_cons_succ, Nat.reduceAdd, Nat.reduceSub, V.int.injEq, V.bl.injEq, V.ref.injEq, V.str.injEq, exists_eq, exists_eq', exists_eq_left, exists_eq_left', exists_and_left, exists_and_right, Option.some.injEq, List.cons.injEq, and_true, true_and, and_assoc, retV, true_or, or_true, decide_eq_true_eq, if_true, if_false, Bool.false_eq_true, Bool.not_true, Bool.not_false, Bool.not_eq_true', reduceCtorEq, eq_self, decide_true, decide_false, List.length_map, exists_const, false_and, and_false, or_false, false_or, ↓reduceIte]
    refine len_sq (.inl hp) ?_
    try simp only [wipe, tC, tVar, tChain, rI0, rI, rU, tOp, tUn, tCall, tAnd, tOr, tNot, tNotV, tAndV, tOrV, tTest, tB, tIf, tIfS, tRet, tRetN, tNext, tSeq, tNil, tCons, tAug, ipI, tPar, tAsg, gName, tDrop, tLst, tTup, tCB, tBM, tBM0, tFld_eq, tMkE, tMake, tAugS, gSub, rEq, rAll, rMax, rSum, rAppend, rExtend, rSetL, _root_.L2.start, List.map_cons, List.map_nil, List.length_cons, List.length_nil, List.replicate_succ, List.replicate_zero, List.cons_append, List.nil_append, List.append_nil, List.getElem?_cons_zero, List.getElem?_cons_succ, List.set_cons_zero, List.set_cons_succ, Nat.reduceAdd, Nat.reduceSub, V.int.injEq, V.bl.injEq, V.ref.injEq, V.str.injEq, exists_eq, exists_eq', exists_eq_left, exists_eq_left', exists_and_left, exists_and_right, Option.some.injEq, List.cons.injEq, and_true, true_and, and_assoc, retV, true_or, or_true, decide_eq_true_eq, if_true, if_false, Bool.false_eq_true, Bool.not_true, Bool.not_false, Bool.not_eq_true', reduceCtorEq, eq_self, decide_true, decide_false, List.length_map, exists_const, false_and, and_false, or_false, false_or, ↓reduceIte]
    refine ⟨b, d, xs.length, rfl, hb, by omega, by omega, fun v H1 e1 b1 ⟨r, er, r0, r1⟩ => ?_⟩
    subst er
    obtain ⟨y, hy⟩ := getI (xs := xs) (i := r.toNat) (by omega)
    have hp1 := e1.1 _ _ np hp
    have er : (r.toNat : Int) = r := Int.toNat_of_nonneg r0
    rw [← er]
    exact ix_at hp1 hy (q _ _ e1 b1 (List.mem_of_getElem? hy))
def sp_chance : Sp := fun vs H Q _ => ∃ (b d : Addr) (s : Int), vs = [.ref b, .int s] ∧ BoxAt b d H ∧ RetB b d (fun v => ∃ k, v = .bl k) H Q
theorem C__law_chance (S : Sc K mg) : Cal prg w K mg base CX0 "_law_chance" 2 ["box", "share"] [] sp_chance := by
  have C__law_draw := C__law_draw (w := w) (base := base) S
  refine S.cal (d := d__law_chance) 26 22 sc__law_chance rfl rfl rfl rfl rfl (fun _ _ _ _ _ _ us hl => match us, hl with | [_, _], _ => rfl) (fun vs H Q E h => ?_) (fun f cdv A outer s H vs Q E hr h => ?_)
  · obtain ⟨b, d, s, rfl, _⟩ := h
    rfl
  · obtain ⟨b, d, sh, rfl, hb, q⟩ := h
    refine ⟨_, (pss_one (ps_ret (pe_cmpR op_lt (pe_c C__law_draw (hr.mono (by omega)) pass0 (pa_cons (pv 0) (pa_cons pe_int pa_nil))) (pv 1) (nomark _)))), ?_⟩
    try simp only [wipe, tC, tVar, tChain, rI0, rI, rU, tOp, tUn, tCall, tAnd, tOr, tNot, tNotV, tAndV, tOrV, tTest, tB, tIf, tIfS, tRet, tRetN, tNext, tSeq, tNil, tCons, tAug, ipI, tPar, tAsg, gName, tDrop, tLst, tTup, tCB, tBM, tBM0, tFld_eq, tMkE, tMake, tAugS, gSub, rEq, rAll, rMax, rSum, rAppend, rExtend, rSetL, _root_.L2.start, List.map_cons, List.map_nil, List.length_cons, List.length_nil, List.replicate_succ, List.replicate_zero, List.cons_append, List.nil_append, List.append_nil, List.getElem?_cons_zero, List.getElem?_cons_succ, List.set_cons_zero, List.set_cons_succ, Nat.reduceAdd, Nat.reduceSub, V.int.injEq, V.bl.injEq, V.ref.injEq, V.str.injEq, exists_eq, exists_eq', exists_eq_left, exists_eq_left', exists_and_left, exists_and_right, Option.some.injEq, List.cons.injEq, and_true, true_and, and_assoc, retV, true_or, or_true, decide_eq_true_eq, if_true, if_false, Bool.false_eq_true, Bool.not_true, Bool.not_false, Bool.not_eq_true', reduceCtorEq, eq_self, decide_true, decide_false, List.length_map, exists_const, false_and, and_false, or_false, false_or, ↓reduceIte]
    refine ⟨b, d, 10, rfl, hb, by omega, by omega, fun v H1 e1 b1 ⟨r, er, r0, r1⟩ => ?_⟩
    subst er
    try simp only [wipe, tC, tVar, tChain, rI0, rI, rU, tOp, tUn, tCall, tAnd, tOr, tNot, tNotV, tAndV, tOrV, tTest, tB, tIf, tIfS, tRet, tRetN, tNext, tSeq, tNil, tCons, tAug, ipI, tPar, tAsg, gName, tDrop, tLst, tTup, tCB, tBM, tBM0, tFld_eq, tMkE, tMake, tAugS, gSub, rEq, rAll, rMax, rSum, rAppend, rExtend, rSetL, _root_.L2.start, List.map_cons, List.map_nil, List.length_cons, List.length_nil, List.replicate_succ, List.replicate_zero, List.cons_append, List.nil_append, List.append_nil, List.getElem?_cons_zero, List.getElem?_cons_succ, List.set_cons_zero, List.set_cons_succ, Nat.reduceAdd, Nat.reduceSub, V.int.injEq, V.bl.injEq, V.ref.injEq, V.str.injEq, exists_eq, exists_eq', exists_eq_left, exists_eq_left', exists_and_left, exists_and_right, Option.some.injEq, List.cons.injEq, and_true, true_and, and_assoc, retV, true_or, or_true, decide_eq_true_eq, if_true, if_false, Bool.false_eq_true, Bool.not_true, Bool.not_false, Bool.not_eq_true', reduceCtorEq, eq_self, decide_true, decide_false, List.length_map, exists_const, false_and, and_false, or_false, false_or, ↓reduceIte]
    exact q _ _ e1 b1 ⟨_, rfl⟩
end
end K76
set_option Elab.async false
set_option linter.all false
set_option maxRecDepth 100000
set_option maxHeartbeats 4000000
/-! k76: _law_loose, _law_made -/
namespace K76
open PySem PySem.Spec PyProof.Rows L2 He HK
def sp_loose {α : Type} (R S : RlA α) (ok : α → Prop) : Sp := fun vs H Q _ => ∃ (b d : Addr) (v : V) (x : α), vs = [.ref b, v] ∧ BoxAt b d H ∧ R No H v x ∧ ok x ∧ ∀ v' H', SameO (BoxO b d) H H' → BoxAt b d H' → S (fun a => BoxO b d a ∨ Old H a) H' v' x → Q v' H'
section
variable {w : World} {K : PySem.W.Frag} {mg : Str → Option Value} {base : Heap}
theorem C__law_loose0 (S : Sc K mg) : Cal prg w K mg base CX0 "_law_loose" 1 ["box", "value"] [] (sp_loose InA InA fun _ => True) := by
  refine S.cal (d := d__law_loose) 29 25 sc__law_loose rfl rfl rfl rfl rfl (fun _ _ _ _ _ _ us hl => match us, hl with | [_, _], _ => rfl) (fun vs H Q E h => ?_) (fun f cdv A outer s H vs Q E hr h => ?_)
  · obtain ⟨b, d, v, x, rfl, _⟩ := h
    rfl
  · obtain ⟨b, d, v, x, rfl, hb, ev, _, q⟩ := h
    obtain rfl : v = .int x := ev
    refine ⟨_, (pss_cons (ps_if (PW.pt (pw_or (pt_val (pe_callB call_isi (by rfl) (S.free 40) (by decide +kernel) (pa_cons (pv 1) (pa_cons (pe_ty (n := "list") (S.free 42) (by decide +kernel)) pa_nil)))) (pw_or1 (pt_val (pe_callB call_isi (by rfl) (S.free 40) (by decide +kernel) (pa_cons (pv 1) (pa_cons (pe_ty (n := "tuple") (S.free 49) (by decide +kernel)) pa_nil))))))) (pss_cons ps_never
      (pss_one ps_never)) pss_nil)
      (pss_one (ps_ret (pv 1)))), ?_⟩
    try simp only [wipe, tC, tVar, tChain, rI0, rI, rU, tOp, tUn, tCall, tAnd, tOr, tNot, tNotV, tAndV, tOrV, tTest, tB, tIf, tIfS, tRet, tRetN, tNext, tSeq, tNil, tCons, tAug, ipI, tPar, tAsg, gName, tDrop, tLst, tTup, tCB, tBM, tBM0, tFld_eq, tMkE, tMake, tAugS, gSub, rEq, rAll, rMax, rSum, rAppend, rExtend, rSetL, _root_.L2.start, List.map_cons, List.map_nil, List.length_cons, List.length_nil, List.replicate_succ, List.replicate_zero, List.cons_append, List.nil_append, List.append_nil, List.getElem?_cons_zero, List.getElem?_cons_succ, List.set_cons_zero, List.set_cons_succ, Nat.reduceAdd, Nat.reduceSub, V.int.injEq, V.bl.injEq, V.ref.injEq, V.str.injEq, exists_eq, exists_eq', exists_eq_left, exists_eq_left', exists_and_left, exists_and_right, Option.some.injEq, List.cons.injEq, and_true, true_and, and_assoc, retV, true_or, or_true, decide_eq_true_eq, if_true, if_false, Bool.false_eq_true, Bool.not_true, Bool.not_false, Bool.not_eq_true', reduceCtorEq, eq_self, decide_true, decide_false, List.length_map, exists_const, false_and, and_false, or_false, false_or, ↓reduceIte]
    refine isi_of (b := false) ?_ (.base (.int x)) (.ty _) (kit_ty (by decide +kernel))
    try simp only [wipe, tC, tVar, tChain, rI0, rI, rU, tOp, tUn, tCall, tAnd, tOr, tNot, tNotV, tAndV, tOrV, tTest, tB, tIf, tIfS, tRet, tRetN, tNext, tSeq, tNil, tCons, tAug, ipI, tPar, tAsg, gName, tDrop, tLst, tTup, tCB, tBM, tBM0, tFld_eq, tMkE, tMake, tAugS, gSub, rEq, rAll, rMax, rSum, rAppend, rExtend, rSetL, _root_.L2.start, List.map_cons, List.map_nil, List.length_cons, List.length_nil, List.replicate_succ, List.replicate_zero, List.cons_append, List.nil_append, List.append_nil, List.getElem?_cons_zero, List.getElem?_cons_succ, List.set_cons_zero, List.set_cons_succ, Nat.reduceAdd, Nat.reduceSub, V.int.injEq, V.bl.injEq, V.ref.injEq, V.str.injEq, exists_eq, exists_eq', exists_eq_left, exists_eq_left', exists_and_left, exists_and_right, Option.some.injEq, List.cons.injEq, and_true, true_and, and_assoc, retV, true_or, or_true, decide_eq_true_eq, if_true, if_false, Bool.false_eq_true, Bool.not_true, Bool.not_false, Bool.not_eq_true', reduceCtorEq, eq_self, decide_true, decide_false, List.length_map, exists_const, false_and, and_false, or_false, false_or, ↓reduceIte]
    refine isi_of (b := false) ?_ (.base (.int x)) (.ty _) (kit_ty (by decide +kernel))
    try simp only [wipe, tC, tVar, tChain, rI0, rI, rU, tOp, tUn, tCall, tAnd, tOr, tNot, tNotV, tAndV, tOrV, tTest, tB, tIf, tIfS, tRet, tRetN, tNext, tSeq, tNil, tCons, tAug, ipI, tPar, tAsg, gName, tDrop, tLst, tTup, tCB, tBM, tBM0, tFld_eq, tMkE, tMake, tAugS, gSub, rEq, rAll, rMax, rSum, rAppend, rExtend, rSetL, _root_.L2.start, List.map_cons, List.map_nil, List.length_cons, List.length_nil, List.replicate_succ, List.replicate_zero, List.cons_append, List.nil_append, List.append_nil, List.getElem?_cons_zero, List.getElem?_cons_succ, List.set_cons_zero, List.set_cons_succ, Nat.reduceAdd, Nat.reduceSub, V.int.injEq, V.bl.injEq, V.ref.injEq, V.str.injEq, exists_eq, exists_eq', exists_eq_left, exists_eq_left', exists_and_left, exists_and_right, Option.some.injEq, List.cons.injEq, and_true, true_and, and_assoc, retV, true_or, or_true, decide_eq_true_eq, if_true, if_false, Bool.false_eq_true, Bool.not_true, Bool.not_false, Bool.not_eq_true', reduceCtorEq, eq_self, decide_true, decide_false, List.length_map, exists_const, false_and, and_false, or_false, false_or, ↓reduceIte]
    exact q _ _ (SameO.refl _ _) hb rfl
theorem C__law_loose1 (S : Sc K mg) {α : Type} {R T : RlA α} {ok : α → Prop} (FR : FamT R) (FT : Fam T) {k : Nat} (hk : 1 ≤ k) (C__law_loose : Cal prg w K mg base CX0 "_law_loose" k ["box", "value"] [] (sp_loose R T ok)) :
    Cal prg w K mg base CX0 "_law_loose" (k + 1) ["box", "value"] [] (sp_loose (TpF R) (SqF T) fun xs => xs.length ≤ 1000 ∧ ∀ x ∈ xs, ok x) := by
  have C__law_draw := C__law_draw (w := w) (base := base) S
  refine S.cal (d := d__law_loose) 29 25 sc__law_loose rfl rfl rfl rfl rfl (fun _ _ _ _ _ _ us hl => match us, hl with | [_, _], _ => rfl) (fun vs H Q E h => ?_) (fun f cdv A outer s H vs Q E hr h => ?_)
  · obtain ⟨b, d, v, x, rfl, _⟩ := h
    rfl
  · obtain ⟨b, d, _, zs, rfl, hb, ⟨a, xs, rfl, ha, hp⟩, ⟨l1, hok⟩, q⟩ := h
    refine ⟨_, (pss_cons (ps_if (PW.pt (pw_or (pt_val (pe_callB call_isi (by rfl) (S.free 40) (by decide +kernel) (pa_cons (pv 1) (pa_cons (pe_ty (n := "list") (S.free 42) (by decide +kernel)) pa_nil)))) (pw_or1 (pt_val (pe_callB call_isi (by rfl) (S.free 40) (by decide +kernel) (pa_cons (pv 1) (pa_cons (pe_ty (n := "tuple") (S.free 49) (by decide +kernel)) pa_nil))))))) (pss_cons (ps_setLc (i := 2) (own := [("part", 3)]) (g := (gName 3)) (tt := tYes) rfl sc__law_loose.nd rfl rfl (sw_true rfl rfl rfl (by decide +kernel)) (pi_seq (pv 1)) (blkOk_by (N := ["box", "value", "parts", "part"]) (sc := defScope s__law_loose) (by decide +kernel)) (fun _ _ _ _ _ => (pg_name (i := 3) sc__law_loose.nd rfl (by first | exact Or.inl rfl | exact Or.inr rfl))) (fun _ _ _ _ _ => pts_nil) (fun _ _ _ _ _ => (pe_c C__law_loose (hr.mono (by omega)) pass0 (pa_cons (pv 0) (pa_cons (pv 3) pa_nil)))))
      (pss_one (ps_ret (pe_ifExp (pt_cmpR op_eq (pe_c C__law_draw (hr.mono (by omega)) pass0 (pa_cons (pv 0) (pa_cons pe_int pa_nil))) pe_int (nomark _)) (pv 2) (pe_callTy cr_tupA (by rfl) (S.free 49) (by decide +kernel) (pa_cons (pv 2) pa_nil)))))) pss_nil)
      (pss_one (ps_ret (pv 1)))), ?_⟩
    have hl : xs.length = zs.length := Paired.len hp
    try simp only [wipe, tC, tVar, tChain, rI0, rI, rU, tOp, tUn, tCall, tAnd, tOr, tNot, tNotV, tAndV, tOrV, tTest, tB, tIf, tIfS, tRet, tRetN, tNext, tSeq, tNil, tCons, tAug, ipI, tPar, tAsg, gName, tDrop, tLst, tTup, tCB, tBM, tBM0, tFld_eq, tMkE, tMake, tAugS, gSub, rEq, rAll, rMax, rSum, rAppend, rExtend, rSetL, _root_.L2.start, List.map_cons, List.map_nil, List.length_cons, List.length_nil, List.replicate_succ, List.replicate_zero, List.cons_append, List.nil_append, List.append_nil, List.getElem?_cons_zero, List.getElem?_cons_succ, List.set_cons_zero, List.set_cons_succ, Nat.reduceAdd, Nat.reduceSub, V.int.injEq, V.bl.injEq, V.ref.injEq, V.str.injEq, exists_eq, exists_eq', exists_eq_left, exists_eq_left', exists_and_left, exists_and_right, Option.some.injEq, List.cons.injEq, and_true, true_and, and_assoc, retV, true_or, or_true, decide_eq_true_eq, if_true, if_false, Bool.false_eq_true, Bool.not_true, Bool.not_false, Bool.not_eq_true', reduceCtorEq, eq_self, decide_true, decide_false, List.length_map, exists_const, false_and, and_false, or_false, false_or, ↓reduceIte]
    refine isi_of (b := false) ?_ (.base (.tup ha)) (.ty _) (kit_ty (by decide +kernel))
    try simp only [wipe, tC, tVar, tChain, rI0, rI, rU, tOp, tUn, tCall, tAnd, tOr, tNot, tNotV, tAndV, tOrV, tTest, tB, tIf, tIfS, tRet, tRetN, tNext, tSeq, tNil, tCons, tAug, ipI, tPar, tAsg, gName, tDrop, tLst, tTup, tCB, tBM, tBM0, tFld_eq, tMkE, tMake, tAugS, gSub, rEq, rAll, rMax, rSum, rAppend, rExtend, rSetL, _root_.L2.start, List.map_cons, List.map_nil, List.length_cons, List.length_nil, List.replicate_succ, List.replicate_zero, List.cons_append, List.nil_append, List.append_nil, List.getElem?_cons_zero, List.getElem?_cons_succ, List.set_cons_zero, List.set_cons_succ, Nat.reduceAdd, Nat.reduceSub, V.int.injEq, V.bl.injEq, V.ref.injEq, V.str.injEq, exists_eq, exists_eq', exists_eq_left, exists_eq_left', exists_and_left, exists_and_right, Option.some.injEq, List.cons.injEq, and_true, true_and, and_assoc, retV, true_or, or_true, decide_eq_true_eq, if_true, if_false, Bool.false_eq_true, Bool.not_true, Bool.not_false, Bool.not_eq_true', reduceCtorEq, eq_self, decide_true, decide_false, List.length_map, exists_const, false_and, and_false, or_false, false_or, ↓reduceIte]
    refine isi_of (b := true) ?_ (.base (.tup ha)) (.ty _) (kit_ty (by decide +kernel))
    try simp only [wipe, tC, tVar, tChain, rI0, rI, rU, tOp, tUn, tCall, tAnd, tOr, tNot, tNotV, tAndV, tOrV, tTest, tB, tIf, tIfS, tRet, tRetN, tNext, tSeq, tNil, tCons, tAug, ipI, tPar, tAsg, gName, tDrop, tLst, tTup, tCB, tBM, tBM0, tFld_eq, tMkE, tMake, tAugS, gSub, rEq, rAll, rMax, rSum, rAppend, rExtend, rSetL, _root_.L2.start, List.map_cons, List.map_nil, List.length_cons, List.length_nil, List.replicate_succ, List.replicate_zero, List.cons_append, List.nil_append, List.append_nil, List.getElem?_cons_zero, List.getElem?_cons_succ, List.set_cons_zero, List.set_cons_succ, Nat.reduceAdd, Nat.reduceSub, V.int.injEq, V.bl.injEq, V.ref.injEq, V.str.injEq, exists_eq, exists_eq', exists_eq_left, exists_eq_left', exists_and_left, exists_and_right, Option.some.injEq, List.cons.injEq, and_true, true_and, and_assoc, retV, true_or, or_true, decide_eq_true_eq, if_true, if_false, Bool.false_eq_true, Bool.not_true, Bool.not_false, Bool.not_eq_true', reduceCtorEq, eq_self, decide_true, decide_false, List.length_map, exists_const, false_and, and_false, or_false, false_or, ↓reduceIte]
    refine lc_map (O := BoxO b d) (A := fun a => BoxO b d a ∨ Old H a) (I := BoxAt b d) (gives_sq (xs := xs) (a := a) (fun Q h => ⟨_, rfl, h⟩) (.inr ha)) (hb.boxA fun _ z => z) (fun H' e => by rw [(e.2.1 a).1 _ ha, ha]) (Nat.le_trans (by omega : xs.length ≤ 1000) (by decide)) (fun x => rfl) FT zs hl.symm id (fun n x z H1 D N hx hz e1 b1 hA hN => ?_) fun ys H1 D e1 b1 nD nA hD hys => ?_
    · try simp only [wipe, tC, tVar, tChain, rI0, rI, rU, tOp, tUn, tCall, tAnd, tOr, tNot, tNotV, tAndV, tOrV, tTest, tB, tIf, tIfS, tRet, tRetN, tNext, tSeq, tNil, tCons, tAug, ipI, tPar, tAsg, gName, tDrop, tLst, tTup, tCB, tBM, tBM0, tFld_eq, tMkE, tMake, tAugS, gSub, rEq, rAll, rMax, rSum, rAppend, rExtend, rSetL, _root_.L2.start, List.map_cons, List.map_nil, List.length_cons, List.length_nil, List.replicate_succ, List.replicate_zero, List.cons_append, List.nil_append, List.append_nil, List.getElem?_cons_zero, List.getElem?_cons_succ, List.set_cons_zero, List.set_cons_succ, Nat.reduceAdd, Nat.reduceSub, V.int.injEq, V.bl.injEq, V.ref.injEq, V.str.injEq, exists_eq, exists_eq', exists_eq_left, exists_eq_left', exists_and_left, exists_and_right, Option.some.injEq, List.cons.injEq, and_true, true_and, and_assoc, retV, true_or, or_true, decide_eq_true_eq, if_true, if_false, Bool.false_eq_true, Bool.not_true, Bool.not_false, Bool.not_eq_true', reduceCtorEq, eq_self, decide_true, decide_false, List.length_map, exists_const, false_and, and_false, or_false, false_or, ↓reduceIte]
      refine ⟨b, d, x, z, rfl, b1, FR.tk e1.2.1 (Paired.both hp hx hz), hok z (List.mem_of_getElem? hz), fun v' H2 e2 b2 r => hN _ _ e2 b2 (FT.weak (fun a ha => ?_) r)⟩
      rcases ha with (ha | ha) | ha
      · exact .inl ha
      · exact .inr (e1.2.2 a ha)
      · exact .inr (hA a (.inr ha))
    · rw [List.map_id] at hys
      refine ⟨b, d, 2, rfl, b1, by omega, by omega, fun v H2 e2 b2 ⟨r, er, r0, r1⟩ => ?_⟩
      subst er
      have nbD : ¬BoxO b d D := fun z => nA (.inl z)
      have hD2 := e2.1 _ _ nbD hD
      have hys2 := FT.monoP (e2.wk fun a ha => .inl ha) hys
      have e02 := e1.trans e2
      try simp only [wipe, tC, tVar, tChain, rI0, rI, rU, tOp, tUn, tCall, tAnd, tOr, tNot, tNotV, tAndV, tOrV, tTest, tB, tIf, tIfS, tRet, tRetN, tNext, tSeq, tNil, tCons, tAug, ipI, tPar, tAsg, gName, tDrop, tLst, tTup, tCB, tBM, tBM0, tFld_eq, tMkE, tMake, tAugS, gSub, rEq, rAll, rMax, rSum, rAppend, rExtend, rSetL, _root_.L2.start, List.map_cons, List.map_nil, List.length_cons, List.length_nil, List.replicate_succ, List.replicate_zero, List.cons_append, List.nil_append, List.append_nil, List.getElem?_cons_zero, List.getElem?_cons_succ, List.set_cons_zero, List.set_cons_succ, Nat.reduceAdd, Nat.reduceSub, V.int.injEq, V.bl.injEq, V.ref.injEq, V.str.injEq, exists_eq, exists_eq', exists_eq_left, exists_eq_left', exists_and_left, exists_and_right, Option.some.injEq, List.cons.injEq, and_true, true_and, and_assoc, retV, true_or, or_true, decide_eq_true_eq, if_true, if_false, Bool.false_eq_true, Bool.not_true, Bool.not_false, Bool.not_eq_true', reduceCtorEq, eq_self, decide_true, decide_false, List.length_map, exists_const, false_and, and_false, or_false, false_or, scal, ↓reduceIte]
      by_cases hr0 : r = 0
      · rw [if_pos hr0]
        exact q _ _ e02 b2 ⟨D, ys, rfl, nA, .inl hD2, hys2⟩
      · rw [if_neg hr0]
        refine ⟨D, ys, rfl, .inl ⟨sqL_of hD2, fun p np => ?_⟩⟩
        have e3 : Same H2 (upd H2 p (.tup ys)) := same_new np
        refine q _ _ (e02.trans (.of e3)) (b2.same e3) ⟨p, ys, rfl, fun z => ?_, .inr upd_same, FT.monoP (.of e3) hys2⟩
        rcases z with z | z
        · exact b2.off np z
        · exact e02.2.2 p z np
abbrev OkU (U : Ups) : Prop := U.length ≤ 1000 ∧ ∀ u ∈ U, u.length ≤ 1000 ∧ ∀ l ∈ u, l.length ≤ 1000 ∧ ∀ x ∈ l, True
theorem okU_of {m : Nat} {U : Ups} (O : UpsOk m U) : OkU U := by
  have h1 := O.2.1
  have h2 := O.2.2.1
  refine ⟨by omega, fun u hu => ?_⟩
  have ou := O.2.2.2 u hu
  refine ⟨by have := ou.1; omega, fun l hl => ?_⟩
  obtain ⟨b, hb⟩ := List.getElem?_of_mem hl
  exact ⟨by have := ou.le hb; omega, fun _ _ => trivial⟩
def sp_loose3 : Sp := sp_loose (TpF (TpF (TpF InA))) (SqF (SqF (SqF InA))) OkU
theorem C__law_loose (S : Sc K mg) : Cal prg w K mg base CX0 "_law_loose" 4 ["box", "value"] [] sp_loose3 :=
  C__law_loose1 S (famT_tp (famT_tp famT_in)) (fam_sq (fam_sq fam_in)) (by decide) (C__law_loose1 S (famT_tp famT_in) (fam_sq fam_in) (by decide) (C__law_loose1 S famT_in fam_in (by decide) (C__law_loose0 S)))
/-- (many, ups) -/
def WyR (m : Nat) (U : Ups) : Hp → V → Prop := fun H v => ∃ t u, v = .ref t ∧ H t = some (.tup [.int m, u]) ∧ UpsR U H u
theorem wyR_tk {m : Nat} {U : Ups} {H H' : Hp} {v : V} (e : Tk H H') (h : WyR m U H v) : WyR m U H' v := by
  obtain ⟨t, u, h1, h2, h3⟩ := h
  exact ⟨t, u, h1, (e t).1 _ h2, famT_ups e h3⟩
def sp_made (K : PySem.W.Frag) : Sp := fun vs H Q _ => ∃ (b d : Addr) (v : V) (m : Nat) (U : Ups), vs = [.ref b, v] ∧ BoxAt b d H ∧ WyR m U H v ∧ 1 ≤ m ∧ UpsOk m U ∧ ∀ v' H', SameO (BoxO b d) H H' → BoxAt b d H' → WayO K m (srtU U) H' v' → Q v' H'
theorem C__law_made (S : Sc K mg) : Cal prg w K mg base CX0 "_law_made" 8 ["box", "ways"] [] (sp_made K) := by
  have C__law_loose := C__law_loose (w := w) (base := base) S
  have C_Ways := C_Ways (w := w) (base := base) S
  refine S.cal (d := d__law_made) 32 28 sc__law_made rfl rfl rfl rfl rfl (fun _ _ _ _ _ _ us hl => match us, hl with | [_, _], _ => rfl) (fun vs H Q E h => ?_) (fun f cdv A outer s H vs Q E hr h => ?_)
  · obtain ⟨b, d, v, m, U, rfl, _⟩ := h
    rfl
  · obtain ⟨b, d, _, m, U, rfl, hb, ⟨t, u, rfl, ht, hu⟩, m1, O, q⟩ := h
    refine ⟨_, (pss_one (ps_ret (pe_m C_Ways (hr.mono (by omega)) pass0 (pa_cons (pe_ix ix_tup (pv 1) pe_int (fun _ _ => rfl)) (pa_cons (pe_c C__law_loose (hr.mono (by omega)) pass0 (pa_cons (pv 0) (pa_cons (pe_ix ix_tup (pv 1) pe_int (fun _ _ => rfl)) pa_nil))) pa_nil))))), ?_⟩
    try simp only [wipe, tC, tVar, tChain, rI0, rI, rU, tOp, tUn, tCall, tAnd, tOr, tNot, tNotV, tAndV, tOrV, tTest, tB, tIf, tIfS, tRet, tRetN, tNext, tSeq, tNil, tCons, tAug, ipI, tPar, tAsg, gName, tDrop, tLst, tTup, tCB, tBM, tBM0, tFld_eq, tMkE, tMake, tAugS, gSub, rEq, rAll, rMax, rSum, rAppend, rExtend, rSetL, _root_.L2.start, List.map_cons, List.map_nil, List.length_cons, List.length_nil, List.replicate_succ, List.replicate_zero, List.cons_append, List.nil_append, List.append_nil, List.getElem?_cons_zero, List.getElem?_cons_succ, List.set_cons_zero, List.set_cons_succ, Nat.reduceAdd, Nat.reduceSub, V.int.injEq, V.bl.injEq, V.ref.injEq, V.str.injEq, exists_eq, exists_eq', exists_eq_left, exists_eq_left', exists_and_left, exists_and_right, Option.some.injEq, List.cons.injEq, and_true, true_and, and_assoc, retV, true_or, or_true, decide_eq_true_eq, if_true, if_false, Bool.false_eq_true, Bool.not_true, Bool.not_false, Bool.not_eq_true', reduceCtorEq, eq_self, decide_true, decide_false, List.length_map, exists_const, false_and, and_false, or_false, false_or, ↓reduceIte]
    refine ixt_at ht (b := 0) rfl (ixt_at ht (b := 1) rfl ?_)
    refine ⟨b, d, u, U, rfl, hb, hu, okU_of O, fun v' H1 e1 b1 r => ?_⟩
    try simp only [wipe, tC, tVar, tChain, rI0, rI, rU, tOp, tUn, tCall, tAnd, tOr, tNot, tNotV, tAndV, tOrV, tTest, tB, tIf, tIfS, tRet, tRetN, tNext, tSeq, tNil, tCons, tAug, ipI, tPar, tAsg, gName, tDrop, tLst, tTup, tCB, tBM, tBM0, tFld_eq, tMkE, tMake, tAugS, gSub, rEq, rAll, rMax, rSum, rAppend, rExtend, rSetL, _root_.L2.start, List.map_cons, List.map_nil, List.length_cons, List.length_nil, List.replicate_succ, List.replicate_zero, List.cons_append, List.nil_append, List.append_nil, List.getElem?_cons_zero, List.getElem?_cons_succ, List.set_cons_zero, List.set_cons_succ, Nat.reduceAdd, Nat.reduceSub, V.int.injEq, V.bl.injEq, V.ref.injEq, V.str.injEq, exists_eq, exists_eq', exists_eq_left, exists_eq_left', exists_and_left, exists_and_right, Option.some.injEq, List.cons.injEq, and_true, true_and, and_assoc, retV, true_or, or_true, decide_eq_true_eq, if_true, if_false, Bool.false_eq_true, Bool.not_true, Bool.not_false, Bool.not_eq_true', reduceCtorEq, eq_self, decide_true, decide_false, List.length_map, exists_const, false_and, and_false, or_false, false_or, ↓reduceIte]
    refine make_ways ((fam_sq (fam_sq (fam_sq fam_in))).weak (fun _ z => z.elim) r) m1 O fun v2 H2 e2 r2 => q _ _ (e1.trans (.of e2)) (b1.same e2) r2
end
end K76
set_option Elab.async false
set_option linter.all false
set_option maxRecDepth 100000
set_option maxHeartbeats 4000000
/-! k76: _law_is_int, _law_same -/
namespace K76
open PySem PySem.Spec PyProof.Rows L2 He HK
theorem op_isIB {X : Cx} : OpR X (compareOp .Is) (fun x y H Q => ∃ i b, x = .int i ∧ y = .bl b ∧ Q (.bl false) H) := by
  intro pins s σ H x y v u Q I rx ry h
  obtain ⟨i, b, rfl, rfl, q⟩ := h
  obtain ⟨t, rfl⟩ := rx
  cases (show u = Value.bool b from ry)
  exact wpAny_is_other rfl (fun z => nomatch z) ⟨.bl false, H, I, rfl, q⟩
def sp_same {α : Type} (R : RlA α) (ok : α → Prop) : Sp := fun vs H Q _ => ∃ (v u : V) (x : α), vs = [v, u] ∧ R No H v x ∧ R No H u x ∧ ok x ∧ RetV (.bl true) H Q
section
variable {w : World} {K : PySem.W.Frag} {mg : Str → Option Value} {base : Heap}
theorem C__law_is_int (S : Sc K mg) : Cal prg w K mg base CX0 "_law_is_int" 1 ["value"] [] sp_is_integer := by
  refine S.cal (d := d__law_is_int) 27 23 sc__law_is_int rfl rfl rfl rfl rfl (fun _ _ _ _ _ _ us hl => match us, hl with | [_], _ => rfl) (fun vs H Q E h => ?_) (fun f cdv A outer s H vs Q E hr h => ?_)
  · obtain ⟨i, rfl, _⟩ := h
    rfl
  · obtain ⟨i, rfl, q⟩ := h
    refine ⟨_, (pss_one (ps_ret (pe_and (pe_callB call_isi (by rfl) (S.free 40) (by decide +kernel) (pa_cons (pv 0) (pa_cons (pe_ty (n := "int") (S.free 39) (by decide +kernel)) pa_nil))) (pe_one (pe_not (pe_callB call_isi (by rfl) (S.free 40) (by decide +kernel) (pa_cons (pv 0) (pa_cons (pe_ty (n := "bool") (S.free 37) (by decide +kernel)) pa_nil)))))))), ?_⟩
    try simp only [wipe, tC, tVar, tChain, rI0, rI, rU, tOp, tUn, tCall, tAnd, tOr, tNot, tNotV, tAndV, tOrV, tTest, tB, tIf, tIfS, tRet, tRetN, tNext, tSeq, tNil, tCons, tAug, ipI, tPar, tAsg, gName, tDrop, tLst, tTup, tCB, tBM, tBM0, tFld_eq, tMkE, tMake, tAugS, gSub, rEq, rAll, rMax, rSum, rAppend, rExtend, rSetL, _root_.L2.start, List.map_cons, List.map_nil, List.length_cons, List.length_nil, List.replicate_succ, List.replicate_zero, List.cons_append, List.nil_append, List.append_nil, List.getElem?_cons_zero, List.getElem?_cons_succ, List.set_cons_zero, List.set_cons_succ, Nat.reduceAdd, Nat.reduceSub, V.int.injEq, V.bl.injEq, V.ref.injEq, V.str.injEq, exists_eq, exists_eq', exists_eq_left, exists_eq_left', exists_and_left, exists_and_right, Option.some.injEq, List.cons.injEq, and_true, true_and, and_assoc, retV, true_or, or_true, decide_eq_true_eq, if_true, if_false, Bool.false_eq_true, Bool.not_true, Bool.not_false, Bool.not_eq_true', reduceCtorEq, eq_self, decide_true, decide_false, List.length_map, exists_const, false_and, and_false, or_false, false_or, ↓reduceIte]
    refine isi_ii ?_
    try simp only [wipe, tC, tVar, tChain, rI0, rI, rU, tOp, tUn, tCall, tAnd, tOr, tNot, tNotV, tAndV, tOrV, tTest, tB, tIf, tIfS, tRet, tRetN, tNext, tSeq, tNil, tCons, tAug, ipI, tPar, tAsg, gName, tDrop, tLst, tTup, tCB, tBM, tBM0, tFld_eq, tMkE, tMake, tAugS, gSub, rEq, rAll, rMax, rSum, rAppend, rExtend, rSetL, _root_.L2.start, List.map_cons, List.map_nil, List.length_cons, List.length_nil, List.replicate_succ, List.replicate_zero, List.cons_append, List.nil_append, List.append_nil, List.getElem?_cons_zero, List.getElem?_cons_succ, List.set_cons_zero, List.set_cons_succ, Nat.reduceAdd, Nat.reduceSub, V.int.injEq, V.bl.injEq, V.ref.injEq, V.str.injEq, exists_eq, exists_eq', exists_eq_left, exists_eq_left', exists_and_left, exists_and_right, Option.some.injEq, List.cons.injEq, and_true, true_and, and_assoc, retV, true_or, or_true, decide_eq_true_eq, if_true, if_false, Bool.false_eq_true, Bool.not_true, Bool.not_false, Bool.not_eq_true', reduceCtorEq, eq_self, decide_true, decide_false, List.length_map, exists_const, false_and, and_false, or_false, false_or, ↓reduceIte]
    refine isi_ib ?_
    try simp only [wipe, tC, tVar, tChain, rI0, rI, rU, tOp, tUn, tCall, tAnd, tOr, tNot, tNotV, tAndV, tOrV, tTest, tB, tIf, tIfS, tRet, tRetN, tNext, tSeq, tNil, tCons, tAug, ipI, tPar, tAsg, gName, tDrop, tLst, tTup, tCB, tBM, tBM0, tFld_eq, tMkE, tMake, tAugS, gSub, rEq, rAll, rMax, rSum, rAppend, rExtend, rSetL, _root_.L2.start, List.map_cons, List.map_nil, List.length_cons, List.length_nil, List.replicate_succ, List.replicate_zero, List.cons_append, List.nil_append, List.append_nil, List.getElem?_cons_zero, List.getElem?_cons_succ, List.set_cons_zero, List.set_cons_succ, Nat.reduceAdd, Nat.reduceSub, V.int.injEq, V.bl.injEq, V.ref.injEq, V.str.injEq, exists_eq, exists_eq', exists_eq_left, exists_eq_left', exists_and_left, exists_and_right, Option.some.injEq, List.cons.injEq, and_true, true_and, and_assoc, retV, true_or, or_true, decide_eq_true_eq, if_true, if_false, Bool.false_eq_true, Bool.not_true, Bool.not_false, Bool.not_eq_true', reduceCtorEq, eq_self, decide_true, decide_false, List.length_map, exists_const, false_and, and_false, or_false, false_or, ↓reduceIte]
    exact q.go (Same.refl _) rfl
theorem C__law_same0 (S : Sc K mg) : Cal prg w K mg base CX0 "_law_same" 2 ["value", "due"] [] (sp_same InA fun _ => True) := by
  have C__law_is_int := C__law_is_int (w := w) (base := base) S
  refine S.cal (d := d__law_same) 30 26 sc__law_same rfl rfl rfl rfl rfl (fun _ _ _ _ _ _ us hl => match us, hl with | [_, _], _ => rfl) (fun vs H Q E h => ?_) (fun f cdv A outer s H vs Q E hr h => ?_)
  · obtain ⟨v, u, x, rfl, _⟩ := h
    rfl
  · obtain ⟨v, u, x, rfl, ev, eu, _, q⟩ := h
    obtain rfl : v = .int x := ev
    obtain rfl : u = .int x := eu
    refine ⟨_, (pss_cons (ps_if (pt_val (pe_callB call_isi (by rfl) (S.free 40) (by decide +kernel) (pa_cons (pv 1) (pa_cons (pe_ty (n := "tuple") (S.free 49) (by decide +kernel)) pa_nil)))) (pss_cons ps_never (pss_cons ps_never (pss_one ps_never))) pss_nil)
      (pss_cons (ps_if (pt_cmpR op_isN (pv 1) pe_non (nomark _)) (pss_one ps_never) pss_nil)
      (pss_cons (ps_if (PW.pt (pw_or (pt_cmpR op_isIB (pv 1) pe_bl (nomark _)) (pw_or1 (pt_cmpR op_isIB (pv 1) pe_bl (nomark _))))) (pss_one ps_never) pss_nil)
      (pss_cons (ps_if (pt_val (pe_callB call_isi (by rfl) (S.free 40) (by decide +kernel) (pa_cons (pv 1) (pa_cons (pe_ty (n := "str") (S.free 46) (by decide +kernel)) pa_nil)))) (pss_one ps_never) pss_nil)
      (pss_one (ps_ret (pe_and (pe_c C__law_is_int (hr.mono (by omega)) pass0 (pa_cons (pv 0) pa_nil)) (pe_one (pe_cmpR op_eq (pv 0) (pv 1) (nomark _)))))))))), ?_⟩
    try simp only [wipe, tC, tVar, tChain, rI0, rI, rU, tOp, tUn, tCall, tAnd, tOr, tNot, tNotV, tAndV, tOrV, tTest, tB, tIf, tIfS, tRet, tRetN, tNext, tSeq, tNil, tCons, tAug, ipI, tPar, tAsg, gName, tDrop, tLst, tTup, tCB, tBM, tBM0, tFld_eq, tMkE, tMake, tAugS, gSub, rEq, rAll, rMax, rSum, rAppend, rExtend, rSetL, _root_.L2.start, List.map_cons, List.map_nil, List.length_cons, List.length_nil, List.replicate_succ, List.replicate_zero, List.cons_append, List.nil_append, List.append_nil, List.getElem?_cons_zero, List.getElem?_cons_succ, List.set_cons_zero, List.set_cons_succ, Nat.reduceAdd, Nat.reduceSub, V.int.injEq, V.bl.injEq, V.ref.injEq, V.str.injEq, exists_eq, exists_eq', exists_eq_left, exists_eq_left', exists_and_left, exists_and_right, Option.some.injEq, List.cons.injEq, and_true, true_and, and_assoc, retV, true_or, or_true, decide_eq_true_eq, if_true, if_false, Bool.false_eq_true, Bool.not_true, Bool.not_false, Bool.not_eq_true', reduceCtorEq, eq_self, decide_true, decide_false, List.length_map, exists_const, false_and, and_false, or_false, false_or, ↓reduceIte]
    refine isi_of (b := false) ?_ (.base (.int x)) (.ty _) (kit_ty (by decide +kernel))
    try simp only [wipe, tC, tVar, tChain, rI0, rI, rU, tOp, tUn, tCall, tAnd, tOr, tNot, tNotV, tAndV, tOrV, tTest, tB, tIf, tIfS, tRet, tRetN, tNext, tSeq, tNil, tCons, tAug, ipI, tPar, tAsg, gName, tDrop, tLst, tTup, tCB, tBM, tBM0, tFld_eq, tMkE, tMake, tAugS, gSub, rEq, rAll, rMax, rSum, rAppend, rExtend, rSetL, _root_.L2.start, List.map_cons, List.map_nil, List.length_cons, List.length_nil, List.replicate_succ, List.replicate_zero, List.cons_append, List.nil_append, List.append_nil, List.getElem?_cons_zero, List.getElem?_cons_succ, List.set_cons_zero, List.set_cons_succ, Nat.reduceAdd, Nat.reduceSub, V.int.injEq, V.bl.injEq, V.ref.injEq, V.str.injEq, exists_eq, exists_eq', exists_eq_left, exists_eq_left', exists_and_left, exists_and_right, Option.some.injEq, List.cons.injEq, and_true, true_and, and_assoc, retV, true_or, or_true, decide_eq_true_eq, if_true, if_false, Bool.false_eq_true, Bool.not_true, Bool.not_false, Bool.not_eq_true', reduceCtorEq, eq_self, decide_true, decide_false, List.length_map, exists_const, false_and, and_false, or_false, false_or, ↓reduceIte]
    refine isi_of (b := false) ?_ (.base (.int x)) (.ty _) (kit_ty (by decide +kernel))
    try simp only [wipe, tC, tVar, tChain, rI0, rI, rU, tOp, tUn, tCall, tAnd, tOr, tNot, tNotV, tAndV, tOrV, tTest, tB, tIf, tIfS, tRet, tRetN, tNext, tSeq, tNil, tCons, tAug, ipI, tPar, tAsg, gName, tDrop, tLst, tTup, tCB, tBM, tBM0, tFld_eq, tMkE, tMake, tAugS, gSub, rEq, rAll, rMax, rSum, rAppend, rExtend, rSetL, _root_.L2.start, List.map_cons, List.map_nil, List.length_cons, List.length_nil, List.replicate_succ, List.replicate_zero, List.cons_append, List.nil_append, List.append_nil, List.getElem?_cons_zero, List.getElem?_cons_succ, List.set_cons_zero, List.set_cons_succ, Nat.reduceAdd, Nat.reduceSub, V.int.injEq, V.bl.injEq, V.ref.injEq, V.str.injEq, exists_eq, exists_eq', exists_eq_left, exists_eq_left', exists_and_left, exists_and_right, Option.some.injEq, List.cons.injEq, and_true, true_and, and_assoc, retV, true_or, or_true, decide_eq_true_eq, if_true, if_false, Bool.false_eq_true, Bool.not_true, Bool.not_false, Bool.not_eq_true', reduceCtorEq, eq_self, decide_true, decide_false, List.length_map, exists_const, false_and, and_false, or_false, false_or, sp_is_integer, scal, ↓reduceIte]
    intro H1 e1
    exact q.go e1 rfl
theorem C__law_same1 (S : Sc K mg) {α : Type} {R : RlA α} {ok : α → Prop} (FR : FamT R) {k : Nat} (hk : 1 ≤ k) (C__law_same : Cal prg w K mg base CX0 "_law_same" k ["value", "due"] [] (sp_same R ok)) :
    Cal prg w K mg base CX0 "_law_same" (k + 1) ["value", "due"] [] (sp_same (TpF R) fun xs => xs.length ≤ 1000 ∧ ∀ x ∈ xs, ok x) := by
  refine S.cal (d := d__law_same) 30 26 sc__law_same rfl rfl rfl rfl rfl (fun _ _ _ _ _ _ us hl => match us, hl with | [_, _], _ => rfl) (fun vs H Q E h => ?_) (fun f cdv A outer s H vs Q E hr h => ?_)
  · obtain ⟨v, u, x, rfl, _⟩ := h
    rfl
  · obtain ⟨_, _, zs, rfl, ⟨a, xs, rfl, ha, hp⟩, ⟨b, ys, rfl, hb, hq⟩, ⟨l1, hok⟩, q⟩ := h
    refine ⟨_, (pss_cons (ps_if (pt_val (pe_callB call_isi (by rfl) (S.free 40) (by decide +kernel) (pa_cons (pv 1) (pa_cons (pe_ty (n := "tuple") (S.free 49) (by decide +kernel)) pa_nil)))) (pss_cons (ps_if (PW.pt (pw_or (pt_not (pt_val (pe_callB call_isi (by rfl) (S.free 40) (by decide +kernel) (pa_cons (pv 0) (pa_cons (pe_ty (n := "tuple") (S.free 49) (by decide +kernel)) pa_nil))))) (pw_or1 (pt_cmpR op_ne (pe_callB cr_lenA (by rfl) (S.free 41) (by decide +kernel) (pa_cons (pv 0) pa_nil)) (pe_callB cr_lenA (by rfl) (S.free 41) (by decide +kernel) (pa_cons (pv 1) pa_nil)) (nomark _))))) (pss_one (ps_ret pe_bl)) pss_nil)
      (pss_cons (ps_for PassesOwn.never rfl (pi_range1 rfl (S.free 44) (pa_cons (pe_callB cr_lenA (by rfl) (S.free 41) (by decide +kernel) (pa_cons (pv 1) pa_nil)) pa_nil)) (pg_name (i := 2) sc__law_same.nd rfl (by first | exact Or.inl rfl | exact Or.inr rfl)) (pss_one (ps_if (pt_not (pt_val (pe_c C__law_same (hr.mono (by omega)) pass0 (pa_cons (pe_ix ix_tup (pv 0) (pv 2) (fun _ _ => rfl)) (pa_cons (pe_ix ix_tup (pv 1) (pv 2) (fun _ _ => rfl)) pa_nil))))) (pss_one (ps_ret pe_bl)) pss_nil)))
      (pss_one (ps_ret pe_bl)))) pss_nil)
      (pss_cons ps_never
      (pss_cons ps_never
      (pss_cons ps_never
      (pss_one ps_never))))), ?_⟩
    have lx : xs.length = zs.length := Paired.len hp
    have ly : ys.length = zs.length := Paired.len hq
    try simp only [wipe, tC, tVar, tChain, rI0, rI, rU, tOp, tUn, tCall, tAnd, tOr, tNot, tNotV, tAndV, tOrV, tTest, tB, tIf, tIfS, tRet, tRetN, tNext, tSeq, tNil, tCons, tAug, ipI, tPar, tAsg, gName, tDrop, tLst, tTup, tCB, tBM, tBM0, tFld_eq, tMkE, tMake, tAugS, gSub, rEq, rAll, rMax, rSum, rAppend, rExtend, rSetL, _root_.L2.start, List.map_cons, List.map_nil, List.length_cons, List.length_nil, List.replicate_succ, List.replicate_zero, List.cons_append, List.nil_append, List.append_nil, List.getElem?_cons_zero, List.getElem?_cons_succ, List.set_cons_zero, List.set_cons_succ, Nat.reduceAdd, Nat.reduceSub, V.int.injEq, V.bl.injEq, V.ref.injEq, V.str.injEq, exists_eq, exists_eq', exists_eq_left, exists_eq_left', exists_and_left, exists_and_right, Option.some.injEq, List.cons.injEq, and_true, true_and, and_assoc, retV, true_or, or_true, decide_eq_true_eq, if_true, if_false, Bool.false_eq_true, Bool.not_true, Bool.not_false, Bool.not_eq_true', reduceCtorEq, eq_self, decide_true, decide_false, List.length_map, exists_const, false_and, and_false, or_false, false_or, ↓reduceIte]
    refine isi_of (b := true) ?_ (.base (.tup hb)) (.ty _) (kit_ty (by decide +kernel))
    try simp only [wipe, tC, tVar, tChain, rI0, rI, rU, tOp, tUn, tCall, tAnd, tOr, tNot, tNotV, tAndV, tOrV, tTest, tB, tIf, tIfS, tRet, tRetN, tNext, tSeq, tNil, tCons, tAug, ipI, tPar, tAsg, gName, tDrop, tLst, tTup, tCB, tBM, tBM0, tFld_eq, tMkE, tMake, tAugS, gSub, rEq, rAll, rMax, rSum, rAppend, rExtend, rSetL, _root_.L2.start, List.map_cons, List.map_nil, List.length_cons, List.length_nil, List.replicate_succ, List.replicate_zero, List.cons_append, List.nil_append, List.append_nil, List.getElem?_cons_zero, List.getElem?_cons_succ, List.set_cons_zero, List.set_cons_succ, Nat.reduceAdd, Nat.reduceSub, V.int.injEq, V.bl.injEq, V.ref.injEq, V.str.injEq, exists_eq, exists_eq', exists_eq_left, exists_eq_left', exists_and_left, exists_and_right, Option.some.injEq, List.cons.injEq, and_true, true_and, and_assoc, retV, true_or, or_true, decide_eq_true_eq, if_true, if_false, Bool.false_eq_true, Bool.not_true, Bool.not_false, Bool.not_eq_true', reduceCtorEq, eq_self, decide_true, decide_false, List.length_map, exists_const, false_and, and_false, or_false, false_or, ↓reduceIte]
    refine isi_of (b := true) ?_ (.base (.tup ha)) (.ty _) (kit_ty (by decide +kernel))
    try simp only [wipe, tC, tVar, tChain, rI0, rI, rU, tOp, tUn, tCall, tAnd, tOr, tNot, tNotV, tAndV, tOrV, tTest, tB, tIf, tIfS, tRet, tRetN, tNext, tSeq, tNil, tCons, tAug, ipI, tPar, tAsg, gName, tDrop, tLst, tTup, tCB, tBM, tBM0, tFld_eq, tMkE, tMake, tAugS, gSub, rEq, rAll, rMax, rSum, rAppend, rExtend, rSetL, _root_.L2.start, List.map_cons, List.map_nil, List.length_cons, List.length_nil, List.replicate_succ, List.replicate_zero, List.cons_append, List.nil_append, List.append_nil, List.getElem?_cons_zero, List.getElem?_cons_succ, List.set_cons_zero, List.set_cons_succ, Nat.reduceAdd, Nat.reduceSub, V.int.injEq, V.bl.injEq, V.ref.injEq, V.str.injEq, exists_eq, exists_eq', exists_eq_left, exists_eq_left', exists_and_left, exists_and_right, Option.some.injEq, List.cons.injEq, and_true, true_and, and_assoc, retV, true_or, or_true, decide_eq_true_eq, if_true, if_false, Bool.false_eq_true, Bool.not_true, Bool.not_false, Bool.not_eq_true', reduceCtorEq, eq_self, decide_true, decide_false, List.length_map, exists_const, false_and, and_false, or_false, false_or, ↓reduceIte]
    refine len_sq (.inr ha) (len_sq (.inr hb) ?_)
    try simp only [wipe, tC, tVar, tChain, rI0, rI, rU, tOp, tUn, tCall, tAnd, tOr, tNot, tNotV, tAndV, tOrV, tTest, tB, tIf, tIfS, tRet, tRetN, tNext, tSeq, tNil, tCons, tAug, ipI, tPar, tAsg, gName, tDrop, tLst, tTup, tCB, tBM, tBM0, tFld_eq, tMkE, tMake, tAugS, gSub, rEq, rAll, rMax, rSum, rAppend, rExtend, rSetL, _root_.L2.start, List.map_cons, List.map_nil, List.length_cons, List.length_nil, List.replicate_succ, List.replicate_zero, List.cons_append, List.nil_append, List.append_nil, List.getElem?_cons_zero, List.getElem?_cons_succ, List.set_cons_zero, List.set_cons_succ, Nat.reduceAdd, Nat.reduceSub, V.int.injEq, V.bl.injEq, V.ref.injEq, V.str.injEq, exists_eq, exists_eq', exists_eq_left, exists_eq_left', exists_and_left, exists_and_right, Option.some.injEq, List.cons.injEq, and_true, true_and, and_assoc, retV, true_or, or_true, decide_eq_true_eq, if_true, if_false, Bool.false_eq_true, Bool.not_true, Bool.not_false, Bool.not_eq_true', reduceCtorEq, eq_self, decide_true, decide_false, List.length_map, exists_const, false_and, and_false, or_false, false_or, rNe, scal, ↓reduceIte]
    rw [if_neg (by rw [lx, ly]; simp)]
    refine for_go (gives_rng1 (j := ys.length) (fun Q h => ?_) (by omega) (by omega)) (fun i σ H' => (∃ u, σ = [some (.ref a), some (.ref b), u]) ∧ Same H H') ⟨⟨_, rfl⟩, Same.refl _⟩ (fun _ _ _ _ _ => trivial) (fun i y σ H1 hi hy h => ?_) (fun σ H1 h => ?_)
    · try simp only [wipe, tC, tVar, tChain, rI0, rI, rU, tOp, tUn, tCall, tAnd, tOr, tNot, tNotV, tAndV, tOrV, tTest, tB, tIf, tIfS, tRet, tRetN, tNext, tSeq, tNil, tCons, tAug, ipI, tPar, tAsg, gName, tDrop, tLst, tTup, tCB, tBM, tBM0, tFld_eq, tMkE, tMake, tAugS, gSub, rEq, rAll, rMax, rSum, rAppend, rExtend, rSetL, _root_.L2.start, List.map_cons, List.map_nil, List.length_cons, List.length_nil, List.replicate_succ, List.replicate_zero, List.cons_append, List.nil_append, List.append_nil, List.getElem?_cons_zero, List.getElem?_cons_succ, List.set_cons_zero, List.set_cons_succ, Nat.reduceAdd, Nat.reduceSub, V.int.injEq, V.bl.injEq, V.ref.injEq, V.str.injEq, exists_eq, exists_eq', exists_eq_left, exists_eq_left', exists_and_left, exists_and_right, Option.some.injEq, List.cons.injEq, and_true, true_and, and_assoc, retV, true_or, or_true, decide_eq_true_eq, if_true, if_false, Bool.false_eq_true, Bool.not_true, Bool.not_false, Bool.not_eq_true', reduceCtorEq, eq_self, decide_true, decide_false, List.length_map, exists_const, false_and, and_false, or_false, false_or, ↓reduceIte]
      exact len_sq (.inr hb) h
    · obtain ⟨⟨u, rfl⟩, e1⟩ := h
      rw [rngV_len, Int.toNat_natCast] at hi
      rw [Int.toNat_natCast, rngV_get hi, Int.zero_add] at hy
      obtain rfl := Option.some.inj hy
      obtain ⟨yv, hyv⟩ := getI (xs := ys) hi
      obtain ⟨xv, hxv⟩ := getI (xs := xs) (i := i) (by omega)
      obtain ⟨z, hz⟩ := getI (xs := zs) (i := i) (by omega)
      try simp only [wipe, tC, tVar, tChain, rI0, rI, rU, tOp, tUn, tCall, tAnd, tOr, tNot, tNotV, tAndV, tOrV, tTest, tB, tIf, tIfS, tRet, tRetN, tNext, tSeq, tNil, tCons, tAug, ipI, tPar, tAsg, gName, tDrop, tLst, tTup, tCB, tBM, tBM0, tFld_eq, tMkE, tMake, tAugS, gSub, rEq, rAll, rMax, rSum, rAppend, rExtend, rSetL, _root_.L2.start, List.map_cons, List.map_nil, List.length_cons, List.length_nil, List.replicate_succ, List.replicate_zero, List.cons_append, List.nil_append, List.append_nil, List.getElem?_cons_zero, List.getElem?_cons_succ, List.set_cons_zero, List.set_cons_succ, Nat.reduceAdd, Nat.reduceSub, V.int.injEq, V.bl.injEq, V.ref.injEq, V.str.injEq, exists_eq, exists_eq', exists_eq_left, exists_eq_left', exists_and_left, exists_and_right, Option.some.injEq, List.cons.injEq, and_true, true_and, and_assoc, retV, true_or, or_true, decide_eq_true_eq, if_true, if_false, Bool.false_eq_true, Bool.not_true, Bool.not_false, Bool.not_eq_true', reduceCtorEq, eq_self, decide_true, decide_false, List.length_map, exists_const, false_and, and_false, or_false, false_or, ↓reduceIte]
      refine ixt_at (e1 _ _ ha) hxv (ixt_at (e1 _ _ hb) hyv ?_)
      refine ⟨xv, yv, z, rfl, FR.tk (.of e1) (Paired.both hp hxv hz), FR.tk (.of e1) (Paired.both hq hyv hz), hok z (List.mem_of_getElem? hz), retV.2 fun H2 e2 => ?_⟩
      try simp only [wipe, tC, tVar, tChain, rI0, rI, rU, tOp, tUn, tCall, tAnd, tOr, tNot, tNotV, tAndV, tOrV, tTest, tB, tIf, tIfS, tRet, tRetN, tNext, tSeq, tNil, tCons, tAug, ipI, tPar, tAsg, gName, tDrop, tLst, tTup, tCB, tBM, tBM0, tFld_eq, tMkE, tMake, tAugS, gSub, rEq, rAll, rMax, rSum, rAppend, rExtend, rSetL, _root_.L2.start, List.map_cons, List.map_nil, List.length_cons, List.length_nil, List.replicate_succ, List.replicate_zero, List.cons_append, List.nil_append, List.append_nil, List.getElem?_cons_zero, List.getElem?_cons_succ, List.set_cons_zero, List.set_cons_succ, Nat.reduceAdd, Nat.reduceSub, V.int.injEq, V.bl.injEq, V.ref.injEq, V.str.injEq, exists_eq, exists_eq', exists_eq_left, exists_eq_left', exists_and_left, exists_and_right, Option.some.injEq, List.cons.injEq, and_true, true_and, and_assoc, retV, true_or, or_true, decide_eq_true_eq, if_true, if_false, Bool.false_eq_true, Bool.not_true, Bool.not_false, Bool.not_eq_true', reduceCtorEq, eq_self, decide_true, decide_false, List.length_map, exists_const, false_and, and_false, or_false, false_or, ↓reduceIte]
      exact e1.trans e2
    · obtain ⟨⟨u, rfl⟩, e1⟩ := h
      try simp only [wipe, tC, tVar, tChain, rI0, rI, rU, tOp, tUn, tCall, tAnd, tOr, tNot, tNotV, tAndV, tOrV, tTest, tB, tIf, tIfS, tRet, tRetN, tNext, tSeq, tNil, tCons, tAug, ipI, tPar, tAsg, gName, tDrop, tLst, tTup, tCB, tBM, tBM0, tFld_eq, tMkE, tMake, tAugS, gSub, rEq, rAll, rMax, rSum, rAppend, rExtend, rSetL, _root_.L2.start, List.map_cons, List.map_nil, List.length_cons, List.length_nil, List.replicate_succ, List.replicate_zero, List.cons_append, List.nil_append, List.append_nil, List.getElem?_cons_zero, List.getElem?_cons_succ, List.set_cons_zero, List.set_cons_succ, Nat.reduceAdd, Nat.reduceSub, V.int.injEq, V.bl.injEq, V.ref.injEq, V.str.injEq, exists_eq, exists_eq', exists_eq_left, exists_eq_left', exists_and_left, exists_and_right, Option.some.injEq, List.cons.injEq, and_true, true_and, and_assoc, retV, true_or, or_true, decide_eq_true_eq, if_true, if_false, Bool.false_eq_true, Bool.not_true, Bool.not_false, Bool.not_eq_true', reduceCtorEq, eq_self, decide_true, decide_false, List.length_map, exists_const, false_and, and_false, or_false, false_or, ↓reduceIte]
      exact q.go e1 rfl
def sp_same3 : Sp := sp_same (TpF (TpF (TpF InA))) OkU
theorem C__law_same (S : Sc K mg) : Cal prg w K mg base CX0 "_law_same" 5 ["value", "due"] [] sp_same3 :=
  C__law_same1 S (famT_tp (famT_tp famT_in)) (by decide) (C__law_same1 S (famT_tp famT_in) (by decide) (C__law_same1 S famT_in (by decide) (C__law_same0 S)))
end
end K76
set_option Elab.async false
set_option linter.all false
set_option maxRecDepth 100000
set_option maxHeartbeats 4000000
/-! k76: _law_counts -/
namespace K76
open PySem PySem.Spec PyProof.Rows L2 He HK
/-- the numbers of meetings as the law counts them -/
def cntsTo (U : Ups) (m i : Nat) : List (List Int) := (prsTo U m i).map List.tail
def sp_counts : Sp := fun vs H Q _ => ∃ (v : V) (m : Nat) (U : Ups), vs = [v] ∧ WyR m U H v ∧ 1 ≤ m ∧ UpsOk m U ∧ ∀ p H', Same H H' → H' p = some (.lst ((toldU U m).map V.int)) → Q (.ref p) H'
section
variable {w : World} {K : PySem.W.Frag} {mg : Str → Option Value} {base : Heap}
theorem C__law_counts (S : Sc K mg) : Cal prg w K mg base CX0 "_law_counts" 1 ["ways"] [] sp_counts := by
  refine S.cal (d := d__law_counts) 35 31 sc__law_counts rfl rfl rfl rfl rfl (fun _ _ _ _ _ _ us hl => match us, hl with | [_], _ => rfl) (fun vs H Q E h => ?_) (fun f cdv A outer s H vs Q E hr h => ?_)
  · obtain ⟨v, m, U, rfl, _⟩ := h
    rfl
  · obtain ⟨_, m, U, rfl, ⟨t, u, rfl, ht, ua, us, rfl, hua, hp⟩, m1, O, q⟩ := h
    refine ⟨_, (pss_cons (ps_setLc (i := 1) (own := [("body", 2)]) (g := (gName 2)) (tt := tYes) rfl sc__law_counts.nd rfl rfl (sw_true rfl rfl rfl (by decide +kernel)) (pi_range1 rfl (S.free 44) (pa_cons (pe_ix ix_tup (pv 0) pe_int (fun _ _ => rfl)) pa_nil)) (blkOk_by (N := ["ways", "found", "body", "up", "other", "count"]) (sc := defScope s__law_counts) (by decide +kernel)) (fun _ _ _ _ _ => (pg_name (i := 2) sc__law_counts.nd rfl (by first | exact Or.inl rfl | exact Or.inr rfl))) (fun _ _ _ _ _ => pts_nil) (fun _ _ _ _ _ => pe_int))
      (pss_cons (ps_for PassesOwn.never rfl (pi_seq (pe_ix ix_tup (pv 0) pe_int (fun _ _ => rfl))) (pg_name (i := 3) sc__law_counts.nd rfl (by first | exact Or.inl rfl | exact Or.inr rfl)) (pss_one (ps_for PassesOwn.never rfl (pi_range1 rfl (S.free 44) (pa_cons (pe_ix ix_tup (pv 0) pe_int (fun _ _ => rfl)) pa_nil)) (pg_name (i := 2) sc__law_counts.nd rfl (by first | exact Or.inl rfl | exact Or.inr rfl)) (pss_one (ps_for PassesOwn.never rfl (pi_seq (pe_ix ix_tup (pv 3) (pv 2) (fun _ _ => rfl))) (pg_name (i := 4) sc__law_counts.nd rfl (by first | exact Or.inl rfl | exact Or.inr rfl)) (pss_one (ps_asg (pe_tup (pa_cons (pe_op op_add (pe_ix ix_list (pv 1) (pv 2) (fun _ _ => rfl)) pe_int) (pa_cons (pe_op op_add (pe_ix ix_list (pv 1) (pv 4) (fun _ _ => rfl)) pe_int) pa_nil))) (pg_tup (by rfl) (pgs_cons (pg_sub (pv 1) (pv 2) set_list) (pgs_cons (pg_sub (pv 1) (pv 4) set_list) pgs_nil))))))))))
      (pss_one (ps_ret (pe_lc (own := [("count", 5)]) (g := (gName 5)) (tt := tYes) rfl sc__law_counts.nd (pi_seq (pv 1)) (blkOk_by (N := ["ways", "found", "body", "up", "other", "count"]) (sc := defScope s__law_counts) (by decide +kernel)) (fun _ _ _ _ _ => (pg_name (i := 5) sc__law_counts.nd rfl (by first | exact Or.inl rfl | exact Or.inr rfl))) (fun _ _ _ _ _ => pts_nil) (fun _ _ _ _ _ => (pe_callB (cK (K := K) rfl (cr_max rfl)) (by rfl) (S.free 43) (by decide +kernel) (pa_cons (pe_lst (pa_cons pe_int (pa_cons (pv 5) pa_nil))) pa_nil)))))))), ?_⟩
    have hl : us.length = U.length := Paired.len hp
    have m12 := O.2.2.1
    try simp only [wipe, tC, tVar, tChain, rI0, rI, rU, tOp, tUn, tCall, tAnd, tOr, tNot, tNotV, tAndV, tOrV, tTest, tB, tIf, tIfS, tRet, tRetN, tNext, tSeq, tNil, tCons, tAug, ipI, tPar, tAsg, gName, tDrop, tLst, tTup, tCB, tBM, tBM0, tFld_eq, tMkE, tMake, tAugS, gSub, rEq, rAll, rMax, rSum, rAppend, rExtend, rSetL, _root_.L2.start, List.map_cons, List.map_nil, List.length_cons, List.length_nil, List.replicate_succ, List.replicate_zero, List.cons_append, List.nil_append, List.append_nil, List.getElem?_cons_zero, List.getElem?_cons_succ, List.set_cons_zero, List.set_cons_succ, Nat.reduceAdd, Nat.reduceSub, V.int.injEq, V.bl.injEq, V.ref.injEq, V.str.injEq, exists_eq, exists_eq', exists_eq_left, exists_eq_left', exists_and_left, exists_and_right, Option.some.injEq, List.cons.injEq, and_true, true_and, and_assoc, retV, true_or, or_true, decide_eq_true_eq, if_true, if_false, Bool.false_eq_true, Bool.not_true, Bool.not_false, Bool.not_eq_true', reduceCtorEq, eq_self, decide_true, decide_false, List.length_map, exists_const, false_and, and_false, or_false, false_or, ↓reduceIte]
    refine lc_map (gives_rng1 (j := m) (fun Q h => ?_)) (Box.none (A := No) (fun _ z => z.elim)) (fun _ _ => trivial) (by rw [rngV_len, Int.toNat_natCast]; exact Nat.le_trans m12 (by decide)) (fun x => rfl) fam_in (List.range m) (by rw [rngV_len, Int.toNat_natCast, List.length_range]) (fun _ => (0 : Int)) (fun n y z H6 D6 N6 hy hz e6 _ _ hN6 => ?_) fun zs H1 C e1 _ nC _ hC hpC => ?_
    · try simp only [wipe, tC, tVar, tChain, rI0, rI, rU, tOp, tUn, tCall, tAnd, tOr, tNot, tNotV, tAndV, tOrV, tTest, tB, tIf, tIfS, tRet, tRetN, tNext, tSeq, tNil, tCons, tAug, ipI, tPar, tAsg, gName, tDrop, tLst, tTup, tCB, tBM, tBM0, tFld_eq, tMkE, tMake, tAugS, gSub, rEq, rAll, rMax, rSum, rAppend, rExtend, rSetL, _root_.L2.start, List.map_cons, List.map_nil, List.length_cons, List.length_nil, List.replicate_succ, List.replicate_zero, List.cons_append, List.nil_append, List.append_nil, List.getElem?_cons_zero, List.getElem?_cons_succ, List.set_cons_zero, List.set_cons_succ, Nat.reduceAdd, Nat.reduceSub, V.int.injEq, V.bl.injEq, V.ref.injEq, V.str.injEq, exists_eq, exists_eq', exists_eq_left, exists_eq_left', exists_and_left, exists_and_right, Option.some.injEq, List.cons.injEq, and_true, true_and, and_assoc, retV, true_or, or_true, decide_eq_true_eq, if_true, if_false, Bool.false_eq_true, Bool.not_true, Bool.not_false, Bool.not_eq_true', reduceCtorEq, eq_self, decide_true, decide_false, List.length_map, exists_const, false_and, and_false, or_false, false_or, ↓reduceIte]
      exact ixt_at ht (b := 0) rfl h
    · try simp only [wipe, tC, tVar, tChain, rI0, rI, rU, tOp, tUn, tCall, tAnd, tOr, tNot, tNotV, tAndV, tOrV, tTest, tB, tIf, tIfS, tRet, tRetN, tNext, tSeq, tNil, tCons, tAug, ipI, tPar, tAsg, gName, tDrop, tLst, tTup, tCB, tBM, tBM0, tFld_eq, tMkE, tMake, tAugS, gSub, rEq, rAll, rMax, rSum, rAppend, rExtend, rSetL, _root_.L2.start, List.map_cons, List.map_nil, List.length_cons, List.length_nil, List.replicate_succ, List.replicate_zero, List.cons_append, List.nil_append, List.append_nil, List.getElem?_cons_zero, List.getElem?_cons_succ, List.set_cons_zero, List.set_cons_succ, Nat.reduceAdd, Nat.reduceSub, V.int.injEq, V.bl.injEq, V.ref.injEq, V.str.injEq, exists_eq, exists_eq', exists_eq_left, exists_eq_left', exists_and_left, exists_and_right, Option.some.injEq, List.cons.injEq, and_true, true_and, and_assoc, retV, true_or, or_true, decide_eq_true_eq, if_true, if_false, Bool.false_eq_true, Bool.not_true, Bool.not_false, Bool.not_eq_true', reduceCtorEq, eq_self, decide_true, decide_false, List.length_map, exists_const, false_and, and_false, or_false, false_or, ↓reduceIte]
      exact hN6 _ _ (SameO.refl _ _) trivial rfl
    · obtain rfl := ina_eq hpC
      have e01 := e1.same
      try simp only [wipe, tC, tVar, tChain, rI0, rI, rU, tOp, tUn, tCall, tAnd, tOr, tNot, tNotV, tAndV, tOrV, tTest, tB, tIf, tIfS, tRet, tRetN, tNext, tSeq, tNil, tCons, tAug, ipI, tPar, tAsg, gName, tDrop, tLst, tTup, tCB, tBM, tBM0, tFld_eq, tMkE, tMake, tAugS, gSub, rEq, rAll, rMax, rSum, rAppend, rExtend, rSetL, _root_.L2.start, List.map_cons, List.map_nil, List.length_cons, List.length_nil, List.replicate_succ, List.replicate_zero, List.cons_append, List.nil_append, List.append_nil, List.getElem?_cons_zero, List.getElem?_cons_succ, List.set_cons_zero, List.set_cons_succ, Nat.reduceAdd, Nat.reduceSub, V.int.injEq, V.bl.injEq, V.ref.injEq, V.str.injEq, exists_eq, exists_eq', exists_eq_left, exists_eq_left', exists_and_left, exists_and_right, Option.some.injEq, List.cons.injEq, and_true, true_and, and_assoc, retV, true_or, or_true, decide_eq_true_eq, if_true, if_false, Bool.false_eq_true, Bool.not_true, Bool.not_false, Bool.not_eq_true', reduceCtorEq, eq_self, decide_true, decide_false, List.length_map, exists_const, false_and, and_false, or_false, false_or, ↓reduceIte]
      have hC0 : H1 C = some (.lst ((cntL m ((prsTo U m 0).map List.tail)).map V.int)) := by
        rw [hC]
        congr 2
      refine for_go (gives_sq (xs := us) (a := ua) (fun Q h => ?_) (.inr (e01 _ _ hua))) (fun i σ H' => (∃ u2 u3 u4 u5, σ = [some (.ref t), some (.ref C), u2, u3, u4, u5]) ∧ Same H H' ∧ H' C = some (.lst ((cntL m ((prsTo U m i).map List.tail)).map V.int)))
        ⟨⟨_, _, _, _, rfl⟩, e01, hC0⟩ (fun i σ H' _ h => ?_) (fun i y σ H2 hi hy h => ?_) (fun σ H2 h => ?_)
      · try simp only [wipe, tC, tVar, tChain, rI0, rI, rU, tOp, tUn, tCall, tAnd, tOr, tNot, tNotV, tAndV, tOrV, tTest, tB, tIf, tIfS, tRet, tRetN, tNext, tSeq, tNil, tCons, tAug, ipI, tPar, tAsg, gName, tDrop, tLst, tTup, tCB, tBM, tBM0, tFld_eq, tMkE, tMake, tAugS, gSub, rEq, rAll, rMax, rSum, rAppend, rExtend, rSetL, _root_.L2.start, List.map_cons, List.map_nil, List.length_cons, List.length_nil, List.replicate_succ, List.replicate_zero, List.cons_append, List.nil_append, List.append_nil, List.getElem?_cons_zero, List.getElem?_cons_succ, List.set_cons_zero, List.set_cons_succ, Nat.reduceAdd, Nat.reduceSub, V.int.injEq, V.bl.injEq, V.ref.injEq, V.str.injEq, exists_eq, exists_eq', exists_eq_left, exists_eq_left', exists_and_left, exists_and_right, Option.some.injEq, List.cons.injEq, and_true, true_and, and_assoc, retV, true_or, or_true, decide_eq_true_eq, if_true, if_false, Bool.false_eq_true, Bool.not_true, Bool.not_false, Bool.not_eq_true', reduceCtorEq, eq_self, decide_true, decide_false, List.length_map, exists_const, false_and, and_false, or_false, false_or, ↓reduceIte]
        exact ixt_at (e01 _ _ ht) (b := 1) rfl h
      · rw [h.2.1 _ _ hua, e01 _ _ hua]
      · obtain ⟨⟨u2, u3, u4, u5, rfl⟩, e2, hC2⟩ := h
        obtain ⟨row, hrow, ra, ls, rfl, hra, hrp⟩ := Paired.at hp hy
        have orow := O.2.2.2 row (List.mem_of_getElem? hrow)
        have lr : ls.length = row.length := Paired.len hrp
        show tFor _ _ _ _ _ _
        refine for_go (gives_rng1 (j := m) (fun Q h => ?_)) (fun j σ H' => (∃ u2 u4 u5, σ = [some (.ref t), some (.ref C), u2, some (.ref ra), u4, u5]) ∧ Same H H' ∧ H' C = some (.lst ((cntL m ((prsTo U m i ++ prsB U i j).map List.tail)).map V.int)))
          ⟨⟨_, _, _, rfl⟩, e2, by rw [show prsB U i 0 = [] from rfl, List.append_nil]; exact hC2⟩ (fun _ _ _ _ _ => trivial) (fun j y σ H3 hj hy h => ?_) (fun σ H3 h => ?_)
        · try simp only [wipe, tC, tVar, tChain, rI0, rI, rU, tOp, tUn, tCall, tAnd, tOr, tNot, tNotV, tAndV, tOrV, tTest, tB, tIf, tIfS, tRet, tRetN, tNext, tSeq, tNil, tCons, tAug, ipI, tPar, tAsg, gName, tDrop, tLst, tTup, tCB, tBM, tBM0, tFld_eq, tMkE, tMake, tAugS, gSub, rEq, rAll, rMax, rSum, rAppend, rExtend, rSetL, _root_.L2.start, List.map_cons, List.map_nil, List.length_cons, List.length_nil, List.replicate_succ, List.replicate_zero, List.cons_append, List.nil_append, List.append_nil, List.getElem?_cons_zero, List.getElem?_cons_succ, List.set_cons_zero, List.set_cons_succ, Nat.reduceAdd, Nat.reduceSub, V.int.injEq, V.bl.injEq, V.ref.injEq, V.str.injEq, exists_eq, exists_eq', exists_eq_left, exists_eq_left', exists_and_left, exists_and_right, Option.some.injEq, List.cons.injEq, and_true, true_and, and_assoc, retV, true_or, or_true, decide_eq_true_eq, if_true, if_false, Bool.false_eq_true, Bool.not_true, Bool.not_false, Bool.not_eq_true', reduceCtorEq, eq_self, decide_true, decide_false, List.length_map, exists_const, false_and, and_false, or_false, false_or, ↓reduceIte]
          exact ixt_at (e2 _ _ ht) (b := 0) rfl h
        · obtain ⟨⟨u2, u4, u5, rfl⟩, e3, hC3⟩ := h
          rw [rngV_len, Int.toNat_natCast] at hj
          rw [Int.toNat_natCast, rngV_get hj, Int.zero_add] at hy
          obtain rfl := Option.some.inj hy
          obtain ⟨lv, hlv⟩ := getI (xs := ls) (i := j) (by have := orow.1; omega)
          obtain ⟨lot, hlot, c, cs, rfl, hc, hcp⟩ := Paired.at hrp hlv
          obtain rfl := ina_eq hcp
          obtain ⟨lnd, lin⟩ := orow.2 j lot hlot
          show tFor _ _ _ _ _ _
          refine for_go (gives_sq (xs := lot.map V.int) (a := c) (fun Q h => ?_) (.inr (e3 _ _ hc))) (fun k σ H' => (∃ u4 u5, σ = [some (.ref t), some (.ref C), some (.int (j : Nat)), some (.ref ra), u4, u5]) ∧ Same H H' ∧ H' C = some (.lst ((cntL m ((prsTo U m i ++ prsB U i j ++ (lot.take k).map fun o => [(i : Int), (j : Int), o]).map List.tail)).map V.int)))
            ⟨⟨_, _, rfl⟩, e3, by simpa using hC3⟩ (fun i σ H' _ h => ?_) (fun k y σ H4 hk hy h => ?_) (fun σ H4 h => ?_)
          · try simp only [wipe, tC, tVar, tChain, rI0, rI, rU, tOp, tUn, tCall, tAnd, tOr, tNot, tNotV, tAndV, tOrV, tTest, tB, tIf, tIfS, tRet, tRetN, tNext, tSeq, tNil, tCons, tAug, ipI, tPar, tAsg, gName, tDrop, tLst, tTup, tCB, tBM, tBM0, tFld_eq, tMkE, tMake, tAugS, gSub, rEq, rAll, rMax, rSum, rAppend, rExtend, rSetL, _root_.L2.start, List.map_cons, List.map_nil, List.length_cons, List.length_nil, List.replicate_succ, List.replicate_zero, List.cons_append, List.nil_append, List.append_nil, List.getElem?_cons_zero, List.getElem?_cons_succ, List.set_cons_zero, List.set_cons_succ, Nat.reduceAdd, Nat.reduceSub, V.int.injEq, V.bl.injEq, V.ref.injEq, V.str.injEq, exists_eq, exists_eq', exists_eq_left, exists_eq_left', exists_and_left, exists_and_right, Option.some.injEq, List.cons.injEq, and_true, true_and, and_assoc, retV, true_or, or_true, decide_eq_true_eq, if_true, if_false, Bool.false_eq_true, Bool.not_true, Bool.not_false, Bool.not_eq_true', reduceCtorEq, eq_self, decide_true, decide_false, List.length_map, exists_const, false_and, and_false, or_false, false_or, ↓reduceIte]
            exact ixt_at (e3 _ _ hra) hlv h
          · rw [h.2.1 _ _ hc, e3 _ _ hc]
          · obtain ⟨⟨u4, u5, rfl⟩, e4, hC4⟩ := h
            rw [List.length_map] at hk
            rw [List.getElem?_map, List.getElem?_eq_getElem hk] at hy
            obtain rfl := Option.some.inj hy
            obtain ⟨o0, o1, o2⟩ := lin lot[k] (List.getElem_mem hk)
            obtain ⟨o, eo⟩ : ∃ o : Nat, lot[k] = (o : Int) := ⟨lot[k].toNat, (Int.toNat_of_nonneg o0).symm⟩
            have hko : lot[k]? = some (o : Int) := by rw [List.getElem?_eq_getElem hk, eo]
            rw [eo] at o1 o2 ⊢
            generalize hP : (prsTo U m i ++ prsB U i j ++ (lot.take k).map fun o => [(i : Int), (j : Int), o]).map List.tail = P at hC4
            have l0 : (cntL m P).length = m := by simp [cntL]
            have gb : ((cntL m P).map V.int)[j]? = some (.int (cntOf P j : Int)) := by simp [cntL, hj]
            have go' : ((cntL m P).map V.int)[o]? = some (.int (cntOf P o : Int)) := by
              have : o < m := by omega
              simp [cntL, this]
            try simp only [wipe, tC, tVar, tChain, rI0, rI, rU, tOp, tUn, tCall, tAnd, tOr, tNot, tNotV, tAndV, tOrV, tTest, tB, tIf, tIfS, tRet, tRetN, tNext, tSeq, tNil, tCons, tAug, ipI, tPar, tAsg, gName, tDrop, tLst, tTup, tCB, tBM, tBM0, tFld_eq, tMkE, tMake, tAugS, gSub, rEq, rAll, rMax, rSum, rAppend, rExtend, rSetL, _root_.L2.start, List.map_cons, List.map_nil, List.length_cons, List.length_nil, List.replicate_succ, List.replicate_zero, List.cons_append, List.nil_append, List.append_nil, List.getElem?_cons_zero, List.getElem?_cons_succ, List.set_cons_zero, List.set_cons_succ, Nat.reduceAdd, Nat.reduceSub, V.int.injEq, V.bl.injEq, V.ref.injEq, V.str.injEq, exists_eq, exists_eq', exists_eq_left, exists_eq_left', exists_and_left, exists_and_right, Option.some.injEq, List.cons.injEq, and_true, true_and, and_assoc, retV, true_or, or_true, decide_eq_true_eq, if_true, if_false, Bool.false_eq_true, Bool.not_true, Bool.not_false, Bool.not_eq_true', reduceCtorEq, eq_self, decide_true, decide_false, List.length_map, exists_const, false_and, and_false, or_false, false_or, ↓reduceIte]
            refine ix_at hC4 gb ⟨_, rfl, ix_at hC4 go' ⟨_, rfl, by decide, fun p np => ?_⟩⟩
            have e5 : Same H4 (upd H4 p (.tup [.int ((cntOf P j : Int) + 1), .int ((cntOf P o : Int) + 1)])) := same_new np
            refine ⟨p, _, rfl, sqT_of upd_same, rfl, _, _, rfl, ?_⟩
            have hC5 := e5 _ _ hC4
            try simp only [wipe, tC, tVar, tChain, rI0, rI, rU, tOp, tUn, tCall, tAnd, tOr, tNot, tNotV, tAndV, tOrV, tTest, tB, tIf, tIfS, tRet, tRetN, tNext, tSeq, tNil, tCons, tAug, ipI, tPar, tAsg, gName, tDrop, tLst, tTup, tCB, tBM, tBM0, tFld_eq, tMkE, tMake, tAugS, gSub, rEq, rAll, rMax, rSum, rAppend, rExtend, rSetL, _root_.L2.start, List.map_cons, List.map_nil, List.length_cons, List.length_nil, List.replicate_succ, List.replicate_zero, List.cons_append, List.nil_append, List.append_nil, List.getElem?_cons_zero, List.getElem?_cons_succ, List.set_cons_zero, List.set_cons_succ, Nat.reduceAdd, Nat.reduceSub, V.int.injEq, V.bl.injEq, V.ref.injEq, V.str.injEq, exists_eq, exists_eq', exists_eq_left, exists_eq_left', exists_and_left, exists_and_right, Option.some.injEq, List.cons.injEq, and_true, true_and, and_assoc, retV, true_or, or_true, decide_eq_true_eq, if_true, if_false, Bool.false_eq_true, Bool.not_true, Bool.not_false, Bool.not_eq_true', reduceCtorEq, eq_self, decide_true, decide_false, List.length_map, exists_const, false_and, and_false, or_false, false_or, ↓reduceIte]
            refine ⟨_, hC5, j, HK.ixN_nat (by rw [List.length_map, l0]; exact hj), ?_⟩
            rw [← List.map_set]
            refine ⟨_, _, rfl, ?_⟩
            try simp only [wipe, tC, tVar, tChain, rI0, rI, rU, tOp, tUn, tCall, tAnd, tOr, tNot, tNotV, tAndV, tOrV, tTest, tB, tIf, tIfS, tRet, tRetN, tNext, tSeq, tNil, tCons, tAug, ipI, tPar, tAsg, gName, tDrop, tLst, tTup, tCB, tBM, tBM0, tFld_eq, tMkE, tMake, tAugS, gSub, rEq, rAll, rMax, rSum, rAppend, rExtend, rSetL, _root_.L2.start, List.map_cons, List.map_nil, List.length_cons, List.length_nil, List.replicate_succ, List.replicate_zero, List.cons_append, List.nil_append, List.append_nil, List.getElem?_cons_zero, List.getElem?_cons_succ, List.set_cons_zero, List.set_cons_succ, Nat.reduceAdd, Nat.reduceSub, V.int.injEq, V.bl.injEq, V.ref.injEq, V.str.injEq, exists_eq, exists_eq', exists_eq_left, exists_eq_left', exists_and_left, exists_and_right, Option.some.injEq, List.cons.injEq, and_true, true_and, and_assoc, retV, true_or, or_true, decide_eq_true_eq, if_true, if_false, Bool.false_eq_true, Bool.not_true, Bool.not_false, Bool.not_eq_true', reduceCtorEq, eq_self, decide_true, decide_false, List.length_map, exists_const, false_and, and_false, or_false, false_or, ↓reduceIte]
            have l1 : ((cntL m P).set j ((cntOf P j : Int) + 1)).length = m := by rw [List.length_set, l0]
            refine ⟨_, upd_same, o, HK.ixN_nat (by rw [List.length_map, l1]; omega), ⟨rfl, ?_⟩⟩
            rw [← List.map_set]
            have om : o < m := by omega
            have st : cntL m ((prsTo U m i ++ prsB U i j ++ (lot.take (k + 1)).map fun o => [(i : Int), (j : Int), o]).map List.tail) = ((cntL m P).set j ((cntOf P j : Int) + 1)).set o ((cntOf P o : Int) + 1) := by
              rw [List.take_succ, hko, Option.toList_some, List.map_append (f := fun o => [(i : Int), (j : Int), o]), ← List.append_assoc, List.map_append (f := List.tail), hP]
              show cntL m (P ++ [[(j : Int), (o : Int)]]) = _
              rw [cntL_step hj om, List.getElem?_set_ne (by omega)]
              simp [cntL, om]
            refine ⟨⟨_, _, rfl⟩, same_mut (same_mut (e4.trans e5) nC) nC, ?_⟩
            rw [upd_same, st]
          · obtain ⟨⟨u4, u5, rfl⟩, e4, hC4⟩ := h
            refine ⟨⟨_, _, _, rfl⟩, e4, ?_⟩
            rw [prsB_succ, ← List.append_assoc, lotAt_of hrow hlot]
            rw [List.length_map, List.take_length] at hC4
            exact hC4
        · obtain ⟨⟨u2, u4, u5, rfl⟩, e3, hC3⟩ := h
          refine ⟨⟨_, _, _, _, rfl⟩, e3, ?_⟩
          rw [rngV_len, Int.toNat_natCast] at hC3
          rw [prsTo_succ]
          exact hC3
      · obtain ⟨⟨u2, u3, u4, u5, rfl⟩, e2, hC2⟩ := h
        rw [hl] at hC2
        try simp only [wipe, tC, tVar, tChain, rI0, rI, rU, tOp, tUn, tCall, tAnd, tOr, tNot, tNotV, tAndV, tOrV, tTest, tB, tIf, tIfS, tRet, tRetN, tNext, tSeq, tNil, tCons, tAug, ipI, tPar, tAsg, gName, tDrop, tLst, tTup, tCB, tBM, tBM0, tFld_eq, tMkE, tMake, tAugS, gSub, rEq, rAll, rMax, rSum, rAppend, rExtend, rSetL, _root_.L2.start, List.map_cons, List.map_nil, List.length_cons, List.length_nil, List.replicate_succ, List.replicate_zero, List.cons_append, List.nil_append, List.append_nil, List.getElem?_cons_zero, List.getElem?_cons_succ, List.set_cons_zero, List.set_cons_succ, Nat.reduceAdd, Nat.reduceSub, V.int.injEq, V.bl.injEq, V.ref.injEq, V.str.injEq, exists_eq, exists_eq', exists_eq_left, exists_eq_left', exists_and_left, exists_and_right, Option.some.injEq, List.cons.injEq, and_true, true_and, and_assoc, retV, true_or, or_true, decide_eq_true_eq, if_true, if_false, Bool.false_eq_true, Bool.not_true, Bool.not_false, Bool.not_eq_true', reduceCtorEq, eq_self, decide_true, decide_false, List.length_map, exists_const, false_and, and_false, or_false, false_or, ↓reduceIte]
        refine lc_map (gives_sq (fun Q h => ⟨_, rfl, h⟩) (.inl hC2)) (Box.none (A := No) (fun _ z => z.elim)) (fun H' e => by rw [e.same _ _ hC2, hC2]) (by rw [List.length_map]; exact Nat.le_trans (by simp [cntL]; omega : _ ≤ 12) (by decide)) (fun x => rfl) fam_in (cntL m (pairsOf U m)) (by simp [pairsOf, prs]) atLeast1 (fun n y o H6 D6 N6 hy ho e6 _ _ hN6 => ?_) fun zs H7 D7 e7 nO7 nD7 _ hD7 hp7 => ?_
        · rw [List.getElem?_map] at hy
          have ho' : (cntL m ((prsTo U m U.length).map List.tail))[n]? = some o := ho
          rw [ho'] at hy
          obtain rfl := Option.some.inj hy
          try simp only [wipe, tC, tVar, tChain, rI0, rI, rU, tOp, tUn, tCall, tAnd, tOr, tNot, tNotV, tAndV, tOrV, tTest, tB, tIf, tIfS, tRet, tRetN, tNext, tSeq, tNil, tCons, tAug, ipI, tPar, tAsg, gName, tDrop, tLst, tTup, tCB, tBM, tBM0, tFld_eq, tMkE, tMake, tAugS, gSub, rEq, rAll, rMax, rSum, rAppend, rExtend, rSetL, _root_.L2.start, List.map_cons, List.map_nil, List.length_cons, List.length_nil, List.replicate_succ, List.replicate_zero, List.cons_append, List.nil_append, List.append_nil, List.getElem?_cons_zero, List.getElem?_cons_succ, List.set_cons_zero, List.set_cons_succ, Nat.reduceAdd, Nat.reduceSub, V.int.injEq, V.bl.injEq, V.ref.injEq, V.str.injEq, exists_eq, exists_eq', exists_eq_left, exists_eq_left', exists_and_left, exists_and_right, Option.some.injEq, List.cons.injEq, and_true, true_and, and_assoc, retV, true_or, or_true, decide_eq_true_eq, if_true, if_false, Bool.false_eq_true, Bool.not_true, Bool.not_false, Bool.not_eq_true', reduceCtorEq, eq_self, decide_true, decide_false, List.length_map, exists_const, false_and, and_false, or_false, false_or, ↓reduceIte]
          refine ⟨by decide, fun p np => ⟨[1, o], sqL_of upd_same, Nat.zero_lt_succ _, fun M hM hle => ?_⟩⟩
          have e8 := same_new (o := .lst [.int 1, .int o]) np
          have hM2 : M = atLeast1 o := by
            unfold atLeast1
            have h1 := hle 1 (by simp)
            have h2 := hle o (by simp)
            simp only [List.mem_cons, List.not_mem_nil, or_false] at hM
            split <;> omega
          rw [hM2]
          exact hN6 _ _ (.of e8) trivial rfl
        · obtain rfl := ina_eq hp7
          exact q _ _ (e2.trans e7.same) hD7
end
end K76
set_option Elab.async false
set_option linter.all false
set_option maxRecDepth 100000
set_option maxHeartbeats 4000000
/-! k76: _law_ways -/
namespace K76
open PySem PySem.Spec PyProof.Rows L2 He HK
theorem sameO_mut {A : Addr → Prop} {H H' : Hp} {p : Addr} {o : HO} (e : SameO A H H') (h : H p = none) : SameO A H (upd H' p o) := by
  have ne : ∀ {a : Addr} {u : HO}, H a = some u → a ≠ p := fun ha z => by rw [z, h] at ha; cases ha
  refine ⟨fun a u n ha => by rw [upd_ne (ne ha)]; exact e.1 a u n ha, fun a => ⟨fun xs ha => by rw [upd_ne (ne ha)]; exact (e.2.1 a).1 xs ha, fun o u ha => by rw [upd_ne (ne ha)]; exact (e.2.1 a).2 o u ha⟩, fun a ha => ?_⟩
  by_cases q : a = p
  · rw [q, upd_same]
    exact fun z => nomatch z
  · rw [upd_ne q]
    exact e.2.2 a ha
structure Good (n m : Nat) (U : Ups) : Prop where
  len : U.length = n
  ok : UpsOk m U
  asc : UpsAsc U
/-- one axis' lots so far -/
def RowGood (m : Nat) (u : List (List Int)) : Prop := ∀ (b : Nat) (l : List Int), u[b]? = some l → l.Pairwise (· < ·) ∧ ∀ x ∈ l, 0 ≤ x ∧ x < (m : Int) ∧ x ≠ (b : Int)
theorem rowGood_snoc {m : Nat} {u : List (List Int)} {l : List Int} (h : RowGood m u) (hl : l.Pairwise (· < ·) ∧ ∀ x ∈ l, 0 ≤ x ∧ x < (m : Int) ∧ x ≠ (u.length : Int)) : RowGood m (u ++ [l]) := fun b k hk => by
  by_cases e : b < u.length
  · rw [List.getElem?_append_left e] at hk
    exact h b k hk
  · have e2 : b = u.length := by
      have := (List.getElem?_eq_some_iff.1 hk).1
      rw [List.length_append] at this
      simp at this
      omega
    subst e2
    rw [List.getElem?_append_right (Nat.le_refl _), Nat.sub_self] at hk
    obtain rfl := Option.some.inj hk
    exact hl
theorem good_of {n m : Nat} {U : Ups} (n1 : 1 ≤ n) (n24 : n ≤ 24) (m12 : m ≤ 12) (hl : U.length = n) (h : ∀ u ∈ U, u.length = m ∧ RowGood m u) : Good n m U := by
  refine ⟨hl, ⟨by omega, by omega, m12, fun u hu => ⟨(h u hu).1, fun b l hb => ?_⟩⟩, fun u hu l hm => ?_⟩
  · obtain ⟨h1, h2⟩ := (h u hu).2 b l hb
    exact ⟨h1.imp fun h => Int.ne_of_lt h, h2⟩
  · obtain ⟨b, hb⟩ := List.getElem?_of_mem hm
    exact ((h u hu).2 b l hb).1.imp fun h => Int.le_of_lt h
def sp_ways : Sp := fun vs H Q _ => ∃ (b d : Addr) (m n : Nat), vs = [.ref b, .int m, .int n] ∧ BoxAt b d H ∧ m ≤ 12 ∧ 1 ≤ n ∧ n ≤ 24 ∧ ∀ v H' U, SameO (BoxO b d) H H' → BoxAt b d H' → WyR m U H' v → Good n m U → Q v H'
section
variable {w : World} {K : PySem.W.Frag} {mg : Str → Option Value} {base : Heap}
theorem C__law_ways (S : Sc K mg) : Cal prg w K mg base CX0 "_law_ways" 3 ["box", "many", "axes"] [] sp_ways := by
  have C__law_pick := C__law_pick (w := w) (base := base) S
  have C__law_chance := C__law_chance (w := w) (base := base) S
  refine S.cal (d := d__law_ways) 31 27 sc__law_ways rfl rfl rfl rfl rfl (fun _ _ _ _ _ _ us hl => match us, hl with | [_, _, _], _ => rfl) (fun vs H Q E h => ?_) (fun f cdv A outer s H vs Q E hr h => ?_)
  · obtain ⟨b, d, m, n, rfl, _⟩ := h
    rfl
  · obtain ⟨b, d, m, n, rfl, hb, m12, n1, n24, q⟩ := h
    refine ⟨_, (pss_cons (ps_set (i := 3) sc__law_ways.nd rfl (by first | exact Or.inl rfl | exact Or.inr rfl) (pe_lst pa_nil))
      (pss_cons (ps_for PassesOwn.never rfl (pi_range1 rfl (S.free 44) (pa_cons (pv 2) pa_nil)) (pg_name (i := 4) sc__law_ways.nd rfl (by first | exact Or.inl rfl | exact Or.inr rfl)) (pss_cons (ps_asg (pe_tup (pa_cons (pe_c C__law_pick (hr.mono (by omega)) pass0 (pa_cons (pv 0) (pa_cons (pe_lst (pa_cons pe_int (pa_cons pe_int (pa_cons pe_int (pa_cons pe_int pa_nil))))) pa_nil))) (pa_cons (pe_lst pa_nil) pa_nil))) (pg_tup (by rfl) (pgs_cons (pg_name (i := 5) sc__law_ways.nd rfl (by first | exact Or.inl rfl | exact Or.inr rfl)) (pgs_cons (pg_name (i := 6) sc__law_ways.nd rfl (by first | exact Or.inl rfl | exact Or.inr rfl)) pgs_nil))))
      (pss_cons (ps_for PassesOwn.never rfl (pi_range1 rfl (S.free 44) (pa_cons (pv 1) pa_nil)) (pg_name (i := 7) sc__law_ways.nd rfl (by first | exact Or.inl rfl | exact Or.inr rfl)) (pss_one (ps_expr (pe_bm PySem.F.plainAttrs_list PySem.F.slot_list_append PySem.F.type_list_append mt_append (pv 6) (pa_cons (pe_callTy cr_tupA (by rfl) (S.free 49) (by decide +kernel) (pa_cons (pe_lc (own := [("other", 8)]) (g := (gName 8)) rfl sc__law_ways.nd (pi_range1 rfl (S.free 44) (pa_cons (pv 1) pa_nil)) (blkOk_by (N := ["box", "many", "axes", "ups", "axis", "share", "up", "body", "other"]) (sc := defScope s__law_ways) (by decide +kernel)) (fun _ _ _ _ _ => (pg_name (i := 8) sc__law_ways.nd rfl (by first | exact Or.inl rfl | exact Or.inr rfl))) (fun _ _ _ _ _ => (pts_one (PW.pt (pw_and (pt_cmpR op_ne (pv 8) (pv 7) (nomark _)) (pw_and1 (pt_val (pe_c C__law_chance (hr.mono (by omega)) pass0 (pa_cons (pv 0) (pa_cons (pv 5) pa_nil))))))))) (fun _ _ _ _ _ => (pv 8))) pa_nil)) pa_nil)))))
      (pss_one (ps_expr (pe_bm PySem.F.plainAttrs_list PySem.F.slot_list_append PySem.F.type_list_append mt_append (pv 3) (pa_cons (pe_callTy cr_tupA (by rfl) (S.free 49) (by decide +kernel) (pa_cons (pv 6) pa_nil)) pa_nil)))))))
      (pss_one (ps_ret (pe_tup (pa_cons (pv 1) (pa_cons (pe_callTy cr_tupA (by rfl) (S.free 49) (by decide +kernel) (pa_cons (pv 3) pa_nil)) pa_nil))))))), ?_⟩
    try simp only [wipe, tC, tVar, tChain, rI0, rI, rU, tOp, tUn, tCall, tAnd, tOr, tNot, tNotV, tAndV, tOrV, tTest, tB, tIf, tIfS, tRet, tRetN, tNext, tSeq, tNil, tCons, tAug, ipI, tPar, tAsg, gName, tDrop, tLst, tTup, tCB, tBM, tBM0, tFld_eq, tMkE, tMake, tAugS, gSub, rEq, rAll, rMax, rSum, rAppend, rExtend, rSetL, _root_.L2.start, List.map_cons, List.map_nil, List.length_cons, List.length_nil, List.replicate_succ, List.replicate_zero, List.cons_append, List.nil_append, List.append_nil, List.getElem?_cons_zero, List.getElem?_cons_succ, List.set_cons_zero, List.set_cons_succ, Nat.reduceAdd, Nat.reduceSub, V.int.injEq, V.bl.injEq, V.ref.injEq, V.str.injEq, exists_eq, exists_eq', exists_eq_left, exists_eq_left', exists_and_left, exists_and_right, Option.some.injEq, List.cons.injEq, and_true, true_and, and_assoc, retV, true_or, or_true, decide_eq_true_eq, if_true, if_false, Bool.false_eq_true, Bool.not_true, Bool.not_false, Bool.not_eq_true', reduceCtorEq, eq_self, decide_true, decide_false, List.length_map, exists_const, false_and, and_false, or_false, false_or, ↓reduceIte]
    refine ⟨by decide, fun F nF => ?_⟩
    have nFb : ¬BoxO b d F := hb.off nF
    refine for_go (gives_rng1 (j := n) (fun Q h => ⟨_, rfl, h⟩)) (fun i σ H' => (∃ u4 u5 u6 u7 u8, σ = [some (.ref b), some (.int (m : Nat)), some (.int (n : Nat)), some (.ref F), u4, u5, u6, u7, u8]) ∧ SameO (BoxO b d) H H' ∧ BoxAt b d H' ∧
        ∃ vs U, H' F = some (.lst vs) ∧ Paired (TpF (TpF InA) No H') vs U ∧ U.length = i ∧ ∀ u ∈ U, u.length = m ∧ RowGood m u)
      ⟨⟨_, _, _, _, _, rfl⟩, .new nF, hb.upd nFb, [], [], upd_same, .nil, rfl, fun u z => absurd z List.not_mem_nil⟩ (fun _ _ _ _ _ => trivial) (fun i y σ H1 hi hy h => ?_) (fun σ H1 h => ?_)
    · obtain ⟨⟨u4, u5, u6, u7, u8, rfl⟩, e1, b1, vs, U, hF, hU, lU, gU⟩ := h
      try simp only [wipe, tC, tVar, tChain, rI0, rI, rU, tOp, tUn, tCall, tAnd, tOr, tNot, tNotV, tAndV, tOrV, tTest, tB, tIf, tIfS, tRet, tRetN, tNext, tSeq, tNil, tCons, tAug, ipI, tPar, tAsg, gName, tDrop, tLst, tTup, tCB, tBM, tBM0, tFld_eq, tMkE, tMake, tAugS, gSub, rEq, rAll, rMax, rSum, rAppend, rExtend, rSetL, _root_.L2.start, List.map_cons, List.map_nil, List.length_cons, List.length_nil, List.replicate_succ, List.replicate_zero, List.cons_append, List.nil_append, List.append_nil, List.getElem?_cons_zero, List.getElem?_cons_succ, List.set_cons_zero, List.set_cons_succ, Nat.reduceAdd, Nat.reduceSub, V.int.injEq, V.bl.injEq, V.ref.injEq, V.str.injEq, exists_eq, exists_eq', exists_eq_left, exists_eq_left', exists_and_left, exists_and_right, Option.some.injEq, List.cons.injEq, and_true, true_and, and_assoc, retV, true_or, or_true, decide_eq_true_eq, if_true, if_false, Bool.false_eq_true, Bool.not_true, Bool.not_false, Bool.not_eq_true', reduceCtorEq, eq_self, decide_true, decide_false, List.length_map, exists_const, false_and, and_false, or_false, false_or, ↓reduceIte]
      refine ⟨by decide, fun p np => ?_⟩
      have e2 : Same H1 (upd H1 p (.lst [.int 1, .int 2, .int 4, .int 7])) := same_new np
      refine ⟨b, d, p, _, rfl, b1.same e2, upd_same, b1.off np, by decide, by decide, fun v H2 e3 b2 hv => ?_⟩
      obtain ⟨sh, rfl⟩ : ∃ sh : Int, v = .int sh := by
        simp only [List.mem_cons, List.not_mem_nil, or_false] at hv
        rcases hv with h | h | h | h <;> exact ⟨_, h⟩
      try simp only [wipe, tC, tVar, tChain, rI0, rI, rU, tOp, tUn, tCall, tAnd, tOr, tNot, tNotV, tAndV, tOrV, tTest, tB, tIf, tIfS, tRet, tRetN, tNext, tSeq, tNil, tCons, tAug, ipI, tPar, tAsg, gName, tDrop, tLst, tTup, tCB, tBM, tBM0, tFld_eq, tMkE, tMake, tAugS, gSub, rEq, rAll, rMax, rSum, rAppend, rExtend, rSetL, _root_.L2.start, List.map_cons, List.map_nil, List.length_cons, List.length_nil, List.replicate_succ, List.replicate_zero, List.cons_append, List.nil_append, List.append_nil, List.getElem?_cons_zero, List.getElem?_cons_succ, List.set_cons_zero, List.set_cons_succ, Nat.reduceAdd, Nat.reduceSub, V.int.injEq, V.bl.injEq, V.ref.injEq, V.str.injEq, exists_eq, exists_eq', exists_eq_left, exists_eq_left', exists_and_left, exists_and_right, Option.some.injEq, List.cons.injEq, and_true, true_and, and_assoc, retV, true_or, or_true, decide_eq_true_eq, if_true, if_false, Bool.false_eq_true, Bool.not_true, Bool.not_false, Bool.not_eq_true', reduceCtorEq, eq_self, decide_true, decide_false, List.length_map, exists_const, false_and, and_false, or_false, false_or, ↓reduceIte]
      refine ⟨by decide, fun up nup => ⟨by decide, fun pt npt => ?_⟩⟩
      refine g_two rfl upd_same ?_
      have e4 : Same H2 (upd H2 up (.lst [])) := same_new nup
      have e5 : Same (upd H2 up (.lst [])) (upd (upd H2 up (.lst [])) pt (.tup [.int sh, .ref up])) := same_new npt
      have e13 : SameO (BoxO b d) H1 (upd (upd H2 up (.lst [])) pt (.tup [.int sh, .ref up])) := (SameO.of e2).trans (e3.trans (.of (e4.trans e5)))
      have b3 := b2.same (e4.trans e5)
      have hup3 := e5 _ _ (upd_same (H := H2) (a := up) (o := .lst []))
      generalize upd (upd H2 up (.lst [])) pt (.tup [.int sh, .ref up]) = H3 at e13 b3 hup3
      have nup1 : H1 up = none := e2.free (Classical.byContradiction fun z => e3.2.2 up z nup)
      have nupb : ¬BoxO b d up := b1.off nup1
      show tFor _ _ _ _ _ _
      refine for_go (gives_rng1 (j := m) (fun Q h => ⟨_, rfl, h⟩)) (fun j σ H' => (∃ u7 u8, σ = [some (.ref b), some (.int (m : Nat)), some (.int (n : Nat)), some (.ref F), some y, some (.int sh), some (.ref up), u7, u8]) ∧ SameO (BoxO b d) H1 H' ∧ BoxAt b d H' ∧
          ∃ ws u, H' up = some (.lst ws) ∧ Paired (TpF InA No H') ws u ∧ u.length = j ∧ RowGood m u)
        ⟨⟨_, _, rfl⟩, e13, b3, [], [], hup3, .nil, rfl, fun b l z => by cases z⟩ (fun _ _ _ _ _ => trivial) (fun j z σ H4 hj hz h => ?_) (fun σ H4 h => ?_)
      · obtain ⟨⟨u7, u8, rfl⟩, e14, b4, ws, u, hup, hu, lu, gu⟩ := h
        rw [rngV_len, Int.toNat_natCast] at hj
        rw [Int.toNat_natCast, rngV_get hj, Int.zero_add] at hz
        obtain rfl := Option.some.inj hz
        try simp only [wipe, tC, tVar, tChain, rI0, rI, rU, tOp, tUn, tCall, tAnd, tOr, tNot, tNotV, tAndV, tOrV, tTest, tB, tIf, tIfS, tRet, tRetN, tNext, tSeq, tNil, tCons, tAug, ipI, tPar, tAsg, gName, tDrop, tLst, tTup, tCB, tBM, tBM0, tFld_eq, tMkE, tMake, tAugS, gSub, rEq, rAll, rMax, rSum, rAppend, rExtend, rSetL, _root_.L2.start, List.map_cons, List.map_nil, List.length_cons, List.length_nil, List.replicate_succ, List.replicate_zero, List.cons_append, List.nil_append, List.append_nil, List.getElem?_cons_zero, List.getElem?_cons_succ, List.set_cons_zero, List.set_cons_succ, Nat.reduceAdd, Nat.reduceSub, V.int.injEq, V.bl.injEq, V.ref.injEq, V.str.injEq, exists_eq, exists_eq', exists_eq_left, exists_eq_left', exists_and_left, exists_and_right, Option.some.injEq, List.cons.injEq, and_true, true_and, and_assoc, retV, true_or, or_true, decide_eq_true_eq, if_true, if_false, Bool.false_eq_true, Bool.not_true, Bool.not_false, Bool.not_eq_true', reduceCtorEq, eq_self, decide_true, decide_false, List.length_map, exists_const, false_and, and_false, or_false, false_or, ↓reduceIte]
        refine ⟨.inl ⟨rfl, ws, sqL_of hup⟩, ?_⟩
        refine lc_acc (gives_rng1 (j := m) (fun Q h => ⟨_, rfl, h⟩)) b4.box (fun _ _ => trivial) (by rw [rngV_len, Int.toNat_natCast]; exact Nat.le_trans m12 (by decide))
          (fun A k acc H' => ∃ l : List Int, acc = l.map V.int ∧ l.Pairwise (· < ·) ∧ ∀ x ∈ l, 0 ≤ x ∧ x < (k : Int) ∧ x ≠ (j : Int)) (fun _ _ => ⟨[], rfl, .nil, fun x z => absurd z List.not_mem_nil⟩) (fun _ h => h) (fun _ h => h)
          (fun k z acc H' D N N0 hk hz e bb hA hI hN hN0 => ?_) fun acc H5 D e5 b5 nD nA hD hI => ?_
        · rw [rngV_len, Int.toNat_natCast] at hk
          rw [Int.toNat_natCast, rngV_get hk, Int.zero_add] at hz
          obtain rfl := Option.some.inj hz
          obtain ⟨l, rfl, l1, l2⟩ := hI
          refine ⟨rfl, ?_⟩
          have l3 : ∀ x ∈ l, 0 ≤ x ∧ x < ((k + 1 : Nat) : Int) ∧ x ≠ (j : Int) := fun x hx => ⟨(l2 x hx).1, by have := (l2 x hx).2.1; omega, (l2 x hx).2.2⟩
          try simp only [wipe, tC, tVar, tChain, rI0, rI, rU, tOp, tUn, tCall, tAnd, tOr, tNot, tNotV, tAndV, tOrV, tTest, tB, tIf, tIfS, tRet, tRetN, tNext, tSeq, tNil, tCons, tAug, ipI, tPar, tAsg, gName, tDrop, tLst, tTup, tCB, tBM, tBM0, tFld_eq, tMkE, tMake, tAugS, gSub, rEq, rAll, rMax, rSum, rAppend, rExtend, rSetL, _root_.L2.start, List.map_cons, List.map_nil, List.length_cons, List.length_nil, List.replicate_succ, List.replicate_zero, List.cons_append, List.nil_append, List.append_nil, List.getElem?_cons_zero, List.getElem?_cons_succ, List.set_cons_zero, List.set_cons_succ, Nat.reduceAdd, Nat.reduceSub, V.int.injEq, V.bl.injEq, V.ref.injEq, V.str.injEq, exists_eq, exists_eq', exists_eq_left, exists_eq_left', exists_and_left, exists_and_right, Option.some.injEq, List.cons.injEq, and_true, true_and, and_assoc, retV, true_or, or_true, decide_eq_true_eq, if_true, if_false, Bool.false_eq_true, Bool.not_true, Bool.not_false, Bool.not_eq_true', reduceCtorEq, eq_self, decide_true, decide_false, List.length_map, exists_const, false_and, and_false, or_false, false_or, rNe, scal, ↓reduceIte]
          by_cases hkj : (k : Int) = (j : Int)
          · rw [if_neg (by simpa using hkj)]
            exact hN0 _ (SameO.refl _ _) bb ⟨l, rfl, l1, l3⟩
          · rw [if_pos (by simpa using hkj)]
            refine ⟨b, d, sh, rfl, bb, fun v H6 e6 b6 hv => ?_⟩
            obtain ⟨kk, rfl⟩ := hv
            try simp only [wipe, tC, tVar, tChain, rI0, rI, rU, tOp, tUn, tCall, tAnd, tOr, tNot, tNotV, tAndV, tOrV, tTest, tB, tIf, tIfS, tRet, tRetN, tNext, tSeq, tNil, tCons, tAug, ipI, tPar, tAsg, gName, tDrop, tLst, tTup, tCB, tBM, tBM0, tFld_eq, tMkE, tMake, tAugS, gSub, rEq, rAll, rMax, rSum, rAppend, rExtend, rSetL, _root_.L2.start, List.map_cons, List.map_nil, List.length_cons, List.length_nil, List.replicate_succ, List.replicate_zero, List.cons_append, List.nil_append, List.append_nil, List.getElem?_cons_zero, List.getElem?_cons_succ, List.set_cons_zero, List.set_cons_succ, Nat.reduceAdd, Nat.reduceSub, V.int.injEq, V.bl.injEq, V.ref.injEq, V.str.injEq, exists_eq, exists_eq', exists_eq_left, exists_eq_left', exists_and_left, exists_and_right, Option.some.injEq, List.cons.injEq, and_true, true_and, and_assoc, retV, true_or, or_true, decide_eq_true_eq, if_true, if_false, Bool.false_eq_true, Bool.not_true, Bool.not_false, Bool.not_eq_true', reduceCtorEq, eq_self, decide_true, decide_false, List.length_map, exists_const, false_and, and_false, or_false, false_or, ↓reduceIte]
            cases kk with
            | true =>
              rw [if_pos rfl]
              refine hN _ _ e6 b6 ⟨l ++ [(k : Int)], by rw [List.map_append]; rfl, ?_, fun x hx => ?_⟩
              · rw [List.pairwise_append]
                refine ⟨l1, List.pairwise_singleton _ _, fun x hx y hy => ?_⟩
                rw [List.mem_singleton] at hy
                subst hy
                exact (l2 x hx).2.1
              · rw [List.mem_append, List.mem_singleton] at hx
                rcases hx with hx | hx
                · exact l3 x hx
                · subst hx
                  exact ⟨by omega, by omega, hkj⟩
            | false =>
              rw [if_neg (by decide)]
              exact hN0 _ e6 b6 ⟨l, rfl, l1, l3⟩
        · obtain ⟨l, rfl, l1, l2⟩ := hI
          rw [rngV_len, Int.toNat_natCast] at l2
          try simp only [wipe, tC, tVar, tChain, rI0, rI, rU, tOp, tUn, tCall, tAnd, tOr, tNot, tNotV, tAndV, tOrV, tTest, tB, tIf, tIfS, tRet, tRetN, tNext, tSeq, tNil, tCons, tAug, ipI, tPar, tAsg, gName, tDrop, tLst, tTup, tCB, tBM, tBM0, tFld_eq, tMkE, tMake, tAugS, gSub, rEq, rAll, rMax, rSum, rAppend, rExtend, rSetL, _root_.L2.start, List.map_cons, List.map_nil, List.length_cons, List.length_nil, List.replicate_succ, List.replicate_zero, List.cons_append, List.nil_append, List.append_nil, List.getElem?_cons_zero, List.getElem?_cons_succ, List.set_cons_zero, List.set_cons_succ, Nat.reduceAdd, Nat.reduceSub, V.int.injEq, V.bl.injEq, V.ref.injEq, V.str.injEq, exists_eq, exists_eq', exists_eq_left, exists_eq_left', exists_and_left, exists_and_right, Option.some.injEq, List.cons.injEq, and_true, true_and, and_assoc, retV, true_or, or_true, decide_eq_true_eq, if_true, if_false, Bool.false_eq_true, Bool.not_true, Bool.not_false, Bool.not_eq_true', reduceCtorEq, eq_self, decide_true, decide_false, List.length_map, exists_const, false_and, and_false, or_false, false_or, ↓reduceIte]
          refine tup_sq (.inl hD) fun p6 H6 e6 hp6 => ?_
          have hup6 := e6 _ _ (e5.1 _ _ nupb hup)
          have tk6 : Tk H4 (upd H6 up (.lst (ws ++ [.ref p6]))) := e5.2.1.trans ((Tk.of e6).trans (.lst hup6))
          refine ⟨ws, hup6, Nat.lt_of_lt_of_le (by rw [Paired.len hu]; omega : ws.length < 12) (by decide), sameO_mut (e14.trans (e5.trans (.of e6))) nup1, (b5.same e6).upd nupb, _, upd_same, u ++ [l], ?_, by rw [List.length_append, lu]; rfl, ?_⟩
          · exact Paired.app ((famT_tp famT_in).p tk6 hu) (.cons ⟨p6, _, rfl, (Tk.lst hup6 p6).1 _ hp6, ina_of l⟩ .nil)
          · exact rowGood_snoc gu ⟨l1, fun x hx => by rw [lu]; exact l2 x hx⟩
      · obtain ⟨⟨u7, u8, rfl⟩, e14, b4, ws, u, hup, hu, lu, gu⟩ := h
        rw [rngV_len, Int.toNat_natCast] at lu
        try simp only [wipe, tC, tVar, tChain, rI0, rI, rU, tOp, tUn, tCall, tAnd, tOr, tNot, tNotV, tAndV, tOrV, tTest, tB, tIf, tIfS, tRet, tRetN, tNext, tSeq, tNil, tCons, tAug, ipI, tPar, tAsg, gName, tDrop, tLst, tTup, tCB, tBM, tBM0, tFld_eq, tMkE, tMake, tAugS, gSub, rEq, rAll, rMax, rSum, rAppend, rExtend, rSetL, _root_.L2.start, List.map_cons, List.map_nil, List.length_cons, List.length_nil, List.replicate_succ, List.replicate_zero, List.cons_append, List.nil_append, List.append_nil, List.getElem?_cons_zero, List.getElem?_cons_succ, List.set_cons_zero, List.set_cons_succ, Nat.reduceAdd, Nat.reduceSub, V.int.injEq, V.bl.injEq, V.ref.injEq, V.str.injEq, exists_eq, exists_eq', exists_eq_left, exists_eq_left', exists_and_left, exists_and_right, Option.some.injEq, List.cons.injEq, and_true, true_and, and_assoc, retV, true_or, or_true, decide_eq_true_eq, if_true, if_false, Bool.false_eq_true, Bool.not_true, Bool.not_false, Bool.not_eq_true', reduceCtorEq, eq_self, decide_true, decide_false, List.length_map, exists_const, false_and, and_false, or_false, false_or, ↓reduceIte]
        have hF4 := e14.1 _ _ nFb hF
        refine ⟨.inl ⟨rfl, vs, sqL_of hF4⟩, ?_⟩
        refine tup_sq (.inl hup) fun p6 H6 e6 hp6 => ?_
        have hF6 := e6 _ _ hF4
        rw [rngV_len, Int.toNat_natCast] at hi
        have tk6 : Tk H1 (upd H6 F (.lst (vs ++ [.ref p6]))) := e14.2.1.trans ((Tk.of e6).trans (.lst hF6))
        refine ⟨vs, hF6, Nat.lt_of_lt_of_le (by rw [Paired.len hU]; omega : vs.length < 24) (by decide), sameO_mut (e1.trans (e14.trans (.of e6))) nF, (b4.same e6).upd nFb, _, upd_same, U ++ [u], ?_, by rw [List.length_append, lU]; rfl, fun u' hu' => ?_⟩
        · refine Paired.app ((famT_tp (famT_tp famT_in)).p tk6 hU) (.cons ⟨p6, ws, rfl, (Tk.lst hF6 p6).1 _ hp6, ?_⟩ .nil)
          exact (famT_tp famT_in).p ((Tk.of e6).trans (.lst hF6)) hu
        · rw [List.mem_append, List.mem_singleton] at hu'
          rcases hu' with hu' | hu'
          · exact gU u' hu'
          · subst hu'
            exact ⟨lu, gu⟩
    · obtain ⟨⟨u4, u5, u6, u7, u8, rfl⟩, e1, b1, vs, U, hF, hU, lU, gU⟩ := h
      rw [rngV_len, Int.toNat_natCast] at lU
      try simp only [wipe, tC, tVar, tChain, rI0, rI, rU, tOp, tUn, tCall, tAnd, tOr, tNot, tNotV, tAndV, tOrV, tTest, tB, tIf, tIfS, tRet, tRetN, tNext, tSeq, tNil, tCons, tAug, ipI, tPar, tAsg, gName, tDrop, tLst, tTup, tCB, tBM, tBM0, tFld_eq, tMkE, tMake, tAugS, gSub, rEq, rAll, rMax, rSum, rAppend, rExtend, rSetL, _root_.L2.start, List.map_cons, List.map_nil, List.length_cons, List.length_nil, List.replicate_succ, List.replicate_zero, List.cons_append, List.nil_append, List.append_nil, List.getElem?_cons_zero, List.getElem?_cons_succ, List.set_cons_zero, List.set_cons_succ, Nat.reduceAdd, Nat.reduceSub, V.int.injEq, V.bl.injEq, V.ref.injEq, V.str.injEq, exists_eq, exists_eq', exists_eq_left, exists_eq_left', exists_and_left, exists_and_right, Option.some.injEq, List.cons.injEq, and_true, true_and, and_assoc, retV, true_or, or_true, decide_eq_true_eq, if_true, if_false, Bool.false_eq_true, Bool.not_true, Bool.not_false, Bool.not_eq_true', reduceCtorEq, eq_self, decide_true, decide_false, List.length_map, exists_const, false_and, and_false, or_false, false_or, ↓reduceIte]
      refine tup_sq (.inl hF) fun p5 H5 e5 hp5 => ⟨by decide, fun p np => ?_⟩
      have e6 := same_new (o := .tup [.int (m : Int), .ref p5]) np
      exact q _ _ U (e1.trans (.of (e5.trans e6))) (b1.same (e5.trans e6)) ⟨p, _, rfl, upd_same, p5, vs, rfl, e6 _ _ hp5, (famT_tp (famT_tp famT_in)).p (.of (e5.trans e6)) hU⟩ (good_of n1 n24 m12 lU gU)
end
end K76
set_option Elab.async false
set_option linter.all false
set_option maxRecDepth 100000
set_option maxHeartbeats 4000000
/-! k76: _law_cells_ups -/
namespace K76
open PySem PySem.Spec PyProof.Rows L2 He HK
/-- xs == [] -/
theorem eq_nil {K : PySem.W.Frag} {H : Hp} {Q : VK} {a p : Addr} {ns : List Int} (h : H a = some (.lst (ns.map V.int))) (hp : H p = some (.lst [])) (q : Q (.bl (decide (ns = []))) H) : rEqD K (.ref a) (.ref p) H Q := by
  refine ⟨_, _, dp_ints h, dp_ints (ns := []) hp, shaped_ints ns, shaped_ints [], ?_⟩
  cases ns with
  | nil => simpa [PyData.eqv, PyData.eqvAll] using q
  | cons n t => simpa [PyData.eqv, PyData.eqvAll] using q
/-- the axes along which two cells differ, but a -/
def diffs (a : Nat) (c d : List Int) (k : Nat) : List Int := ((List.range k).filter fun t => decide (t ≠ a) && decide (d.getD t 0 ≠ c.getD t 0)).map fun t => ((t : Nat) : Int)
/-- d stands above c along a -/
def bel (n a : Nat) (c d : List Int) : Bool := decide (c.getD a 0 < d.getD a 0) && decide (diffs a c d n = [])
def hitTo (n a : Nat) (cs ds : List (List Int)) (i j : Nat) : Bool := ((cs.take i).any fun c => ds.any fun d => bel n a c d) || ((ds.take j).any fun d => bel n a (cs.getD i []) d)
def hit (n a : Nat) (cs ds : List (List Int)) : Bool := cs.any fun c => ds.any fun d => bel n a c d
def metL (n : Nat) (B' : List (List (List Int))) (a b k : Nat) : List Int := ((List.range k).filter fun o => decide (o ≠ b) && hit n a (B'.getD b []) (B'.getD o [])).map fun o => ((o : Nat) : Int)
def cuRow (n : Nat) (B' : List (List (List Int))) (a j : Nat) : List (List Int) := (List.range j).map fun b => metL n B' a b B'.length
def cu (n : Nat) (B' : List (List (List Int))) (i : Nat) : Ups := (List.range i).map fun a => cuRow n B' a B'.length
theorem metL_succ (n : Nat) (B' : List (List (List Int))) (a b k : Nat) : metL n B' a b (k + 1) = metL n B' a b k ++ if (decide (k ≠ b) && hit n a (B'.getD b []) (B'.getD k [])) = true then [(k : Int)] else [] := by
  unfold metL
  rw [List.range_succ, List.filter_append, List.map_append]
  congr 1
  rw [List.filter_cons]
  split <;> rfl
theorem diffs_succ (a : Nat) (c d : List Int) (k : Nat) : diffs a c d (k + 1) = diffs a c d k ++ if (decide (k ≠ a) && decide (d.getD k 0 ≠ c.getD k 0)) = true then [(k : Int)] else [] := by
  unfold diffs
  rw [List.range_succ, List.filter_append, List.map_append]
  congr 1
  rw [List.filter_cons]
  split <;> rfl
theorem metL_lt {n : Nat} {B' : List (List (List Int))} {a b k : Nat} : (k : Int) ∉ metL n B' a b k := fun h => by
  obtain ⟨o, ho, e⟩ := List.mem_map.1 h
  have := List.mem_range.1 (List.mem_filter.1 ho).1
  have e : ((o : Nat) : Int) = (k : Int) := e
  omega
theorem hitTo_zero (n a : Nat) (cs ds : List (List Int)) : hitTo n a cs ds 0 0 = false := rfl
theorem hitTo_row (n a : Nat) {cs ds : List (List Int)} {i : Nat} {c : List Int} (hc : cs[i]? = some c) : hitTo n a cs ds (i + 1) 0 = hitTo n a cs ds i ds.length := by
  unfold hitTo
  rw [List.take_succ, hc, List.any_append, List.take_length]
  simp [List.getD, hc]
theorem hitTo_step (n a : Nat) {cs ds : List (List Int)} {i j : Nat} {c d : List Int} (hc : cs[i]? = some c) (hd : ds[j]? = some d) : hitTo n a cs ds i (j + 1) = (hitTo n a cs ds i j || bel n a c d) := by
  unfold hitTo
  rw [List.take_succ, hd, List.any_append]
  simp [List.getD, hc, Bool.or_assoc]
theorem hitTo_all (n a : Nat) (cs ds : List (List Int)) : hitTo n a cs ds cs.length 0 = hit n a cs ds := by
  unfold hitTo hit
  rw [List.take_length]
  simp
def metAt (L : List Int) (o : Nat) (h : Bool) : List Int := L ++ if h = true then [(o : Int)] else []
theorem metL_len (n : Nat) (B' : List (List (List Int))) (a b k : Nat) : (metL n B' a b k).length ≤ k := by
  unfold metL
  rw [List.length_map]
  exact Nat.le_trans (List.length_filter_le _ _) (by rw [List.length_range]; exact Nat.le_refl _)
def sp_cells_ups : Sp := fun vs H Q _ => ∃ (n : Nat) (t : V) (B' : List (List (List Int))), vs = [.int n, t] ∧ TpF (TpF (TpF InA)) No H t B' ∧ n ≤ 3 ∧ B'.length ≤ 12 ∧ (∀ b ∈ B', b.length ≤ 60 ∧ ∀ c ∈ b, c.length = n) ∧ Ret (UpsR (cu n B' n)) H Q
section
variable {w : World} {K : PySem.W.Frag} {mg : Str → Option Value} {base : Heap}
theorem C__law_cells_ups (S : Sc K mg) : Cal prg w K mg base CX0 "_law_cells_ups" 1 ["axes", "bodies"] [] sp_cells_ups := by
  refine S.cal (d := d__law_cells_ups) 33 29 sc__law_cells_ups rfl rfl rfl rfl rfl (fun _ _ _ _ _ _ us hl => match us, hl with | [_, _], _ => rfl) (fun vs H Q E h => ?_) (fun f cdv A outer s H vs Q E hr h => ?_)
  · obtain ⟨n, t, B', rfl, _⟩ := h
    rfl
  · obtain ⟨n, _, B', rfl, ⟨t, bs, rfl, ht, hp⟩, n3, B12, hB, q⟩ := h
    refine ⟨_, (pss_cons (ps_set (i := 2) sc__law_cells_ups.nd rfl (by first | exact Or.inl rfl | exact Or.inr rfl) (pe_lst pa_nil))
      (pss_cons (ps_for PassesOwn.never rfl (pi_range1 rfl (S.free 44) (pa_cons (pv 0) pa_nil)) (pg_name (i := 3) sc__law_cells_ups.nd rfl (by first | exact Or.inl rfl | exact Or.inr rfl)) (pss_cons (ps_set (i := 4) sc__law_cells_ups.nd rfl (by first | exact Or.inl rfl | exact Or.inr rfl) (pe_lst pa_nil))
      (pss_cons (ps_for PassesOwn.never rfl (pi_range1 rfl (S.free 44) (pa_cons (pe_callB cr_lenA (by rfl) (S.free 41) (by decide +kernel) (pa_cons (pv 1) pa_nil)) pa_nil)) (pg_name (i := 5) sc__law_cells_ups.nd rfl (by first | exact Or.inl rfl | exact Or.inr rfl)) (pss_cons (ps_set (i := 6) sc__law_cells_ups.nd rfl (by first | exact Or.inl rfl | exact Or.inr rfl) (pe_lst pa_nil))
      (pss_cons (ps_for PassesOwn.never rfl (pi_range1 rfl (S.free 44) (pa_cons (pe_callB cr_lenA (by rfl) (S.free 41) (by decide +kernel) (pa_cons (pv 1) pa_nil)) pa_nil)) (pg_name (i := 7) sc__law_cells_ups.nd rfl (by first | exact Or.inl rfl | exact Or.inr rfl)) (pss_one (ps_if (PW.pt (pw_and (pt_cmpR op_ne (pv 7) (pv 5) (nomark _)) (pw_and1 (pt_cmpR op_notIn_seq (pv 7) (pv 6) (by rfl))))) (pss_one (ps_for PassesOwn.never rfl (pi_seq (pe_ix ix_tup (pv 1) (pv 5) (fun _ _ => rfl))) (pg_name (i := 8) sc__law_cells_ups.nd rfl (by first | exact Or.inl rfl | exact Or.inr rfl)) (pss_one (ps_for PassesOwn.never rfl (pi_seq (pe_ix ix_tup (pv 1) (pv 7) (fun _ _ => rfl))) (pg_name (i := 9) sc__law_cells_ups.nd rfl (by first | exact Or.inl rfl | exact Or.inr rfl)) (pss_one (ps_if (PW.pt (pw_and (pt_cmpR op_gt (pe_ix ix_tup (pv 9) (pv 3) (fun _ _ => rfl)) (pe_ix ix_tup (pv 8) (pv 3) (fun _ _ => rfl)) (nomark _)) (pw_and (pt_cmpR (op_eqD hr.units) (pe_lc (own := [("at", 10)]) (g := (gName 10)) rfl sc__law_cells_ups.nd (pi_range1 rfl (S.free 44) (pa_cons (pv 0) pa_nil)) (blkOk_by (N := ["axes", "bodies", "ups", "axis", "up", "body", "met", "other", "cell", "more", "at"]) (sc := defScope s__law_cells_ups) (by decide +kernel)) (fun _ _ _ _ _ => (pg_name (i := 10) sc__law_cells_ups.nd rfl (by first | exact Or.inl rfl | exact Or.inr rfl))) (fun _ _ _ _ _ => (pts_one (PW.pt (pw_and (pt_cmpR op_ne (pv 10) (pv 3) (nomark _)) (pw_and1 (pt_cmpR op_ne (pe_ix (iK (K := K) rfl ix_tup) (pv 9) (pv 10) (fun _ _ => rfl)) (pe_ix (iK (K := K) rfl ix_tup) (pv 8) (pv 10) (fun _ _ => rfl)) (nomark _))))))) (fun _ _ _ _ _ => (pv 10))) (pe_lst pa_nil) (nomark _)) (pw_and1 (pt_cmpR op_notIn_seq (pv 7) (pv 6) (by rfl)))))) (pss_one (ps_expr (pe_bm PySem.F.plainAttrs_list PySem.F.slot_list_append PySem.F.type_list_append mt_append (pv 6) (pa_cons (pv 7) pa_nil)))) pss_nil)))))) pss_nil)))
      (pss_one (ps_expr (pe_bm PySem.F.plainAttrs_list PySem.F.slot_list_append PySem.F.type_list_append mt_append (pv 4) (pa_cons (pe_callTy cr_tupA (by rfl) (S.free 49) (by decide +kernel) (pa_cons (pv 6) pa_nil)) pa_nil)))))))
      (pss_one (ps_expr (pe_bm PySem.F.plainAttrs_list PySem.F.slot_list_append PySem.F.type_list_append mt_append (pv 2) (pa_cons (pe_callTy cr_tupA (by rfl) (S.free 49) (by decide +kernel) (pa_cons (pv 4) pa_nil)) pa_nil)))))))
      (pss_one (ps_ret (pe_callTy cr_tupA (by rfl) (S.free 49) (by decide +kernel) (pa_cons (pv 2) pa_nil)))))), ?_⟩
    have hl : bs.length = B'.length := Paired.len hp
    try simp only [wipe, tC, tVar, tChain, rI0, rI, rU, tOp, tUn, tCall, tAnd, tOr, tNot, tNotV, tAndV, tOrV, tTest, tB, tIf, tIfS, tRet, tRetN, tNext, tSeq, tNil, tCons, tAug, ipI, tPar, tAsg, gName, tDrop, tLst, tTup, tCB, tBM, tBM0, tFld_eq, tMkE, tMake, tAugS, gSub, rEq, rAll, rMax, rSum, rAppend, rExtend, rSetL, _root_.L2.start, List.map_cons, List.map_nil, List.length_cons, List.length_nil, List.replicate_succ, List.replicate_zero, List.cons_append, List.nil_append, List.append_nil, List.getElem?_cons_zero, List.getElem?_cons_succ, List.set_cons_zero, List.set_cons_succ, Nat.reduceAdd, Nat.reduceSub, V.int.injEq, V.bl.injEq, V.ref.injEq, V.str.injEq, exists_eq, exists_eq', exists_eq_left, exists_eq_left', exists_and_left, exists_and_right, Option.some.injEq, List.cons.injEq, and_true, true_and, and_assoc, retV, true_or, or_true, decide_eq_true_eq, if_true, if_false, Bool.false_eq_true, Bool.not_true, Bool.not_false, Bool.not_eq_true', reduceCtorEq, eq_self, decide_true, decide_false, List.length_map, exists_const, false_and, and_false, or_false, false_or, ↓reduceIte]
    refine ⟨by decide, fun F nF => ?_⟩
    refine for_go (gives_rng1 (j := n) (fun Q h => ⟨_, rfl, h⟩)) (fun a σ H' => (∃ u3 u4 u5 u6 u7 u8 u9 u10, σ = [some (.int (n : Nat)), some (.ref t), some (.ref F), u3, u4, u5, u6, u7, u8, u9, u10]) ∧ Same H H' ∧
        ∃ vs, H' F = some (.lst vs) ∧ Paired (TpF (TpF InA) No H') vs (cu n B' a))
      ⟨⟨_, _, _, _, _, _, _, _, rfl⟩, same_new nF, [], upd_same, .nil⟩ (fun _ _ _ _ _ => trivial) (fun a y σ H1 ha hy h => ?_) (fun σ H1 h => ?_)
    · obtain ⟨⟨u3, u4, u5, u6, u7, u8, u9, u10, rfl⟩, e1, vs, hF, hU⟩ := h
      rw [rngV_len, Int.toNat_natCast] at ha
      rw [Int.toNat_natCast, rngV_get ha, Int.zero_add] at hy
      obtain rfl := Option.some.inj hy
      try simp only [wipe, tC, tVar, tChain, rI0, rI, rU, tOp, tUn, tCall, tAnd, tOr, tNot, tNotV, tAndV, tOrV, tTest, tB, tIf, tIfS, tRet, tRetN, tNext, tSeq, tNil, tCons, tAug, ipI, tPar, tAsg, gName, tDrop, tLst, tTup, tCB, tBM, tBM0, tFld_eq, tMkE, tMake, tAugS, gSub, rEq, rAll, rMax, rSum, rAppend, rExtend, rSetL, _root_.L2.start, List.map_cons, List.map_nil, List.length_cons, List.length_nil, List.replicate_succ, List.replicate_zero, List.cons_append, List.nil_append, List.append_nil, List.getElem?_cons_zero, List.getElem?_cons_succ, List.set_cons_zero, List.set_cons_succ, Nat.reduceAdd, Nat.reduceSub, V.int.injEq, V.bl.injEq, V.ref.injEq, V.str.injEq, exists_eq, exists_eq', exists_eq_left, exists_eq_left', exists_and_left, exists_and_right, Option.some.injEq, List.cons.injEq, and_true, true_and, and_assoc, retV, true_or, or_true, decide_eq_true_eq, if_true, if_false, Bool.false_eq_true, Bool.not_true, Bool.not_false, Bool.not_eq_true', reduceCtorEq, eq_self, decide_true, decide_false, List.length_map, exists_const, false_and, and_false, or_false, false_or, ↓reduceIte]
      refine ⟨by decide, fun G nG => ?_⟩
      have nGH : H G = none := e1.free nG
      have e2 : Same H1 (upd H1 G (.lst [])) := same_new nG
      refine for_go (gives_rng1 (j := B'.length) (fun Q h => ?_)) (fun b σ H' => (∃ u5 u6 u7 u8 u9 u10, σ = [some (.int (n : Nat)), some (.ref t), some (.ref F), some (.int (a : Nat)), some (.ref G), u5, u6, u7, u8, u9, u10]) ∧ Same H1 H' ∧
          ∃ ws, H' G = some (.lst ws) ∧ Paired (TpF InA No H') ws (cuRow n B' a b))
        ⟨⟨_, _, _, _, _, _, rfl⟩, e2, [], upd_same, .nil⟩ (fun _ _ _ _ _ => trivial) (fun b y σ H2 hb hy h => ?_) (fun σ H2 h => ?_)
      · try simp only [wipe, tC, tVar, tChain, rI0, rI, rU, tOp, tUn, tCall, tAnd, tOr, tNot, tNotV, tAndV, tOrV, tTest, tB, tIf, tIfS, tRet, tRetN, tNext, tSeq, tNil, tCons, tAug, ipI, tPar, tAsg, gName, tDrop, tLst, tTup, tCB, tBM, tBM0, tFld_eq, tMkE, tMake, tAugS, gSub, rEq, rAll, rMax, rSum, rAppend, rExtend, rSetL, _root_.L2.start, List.map_cons, List.map_nil, List.length_cons, List.length_nil, List.replicate_succ, List.replicate_zero, List.cons_append, List.nil_append, List.append_nil, List.getElem?_cons_zero, List.getElem?_cons_succ, List.set_cons_zero, List.set_cons_succ, Nat.reduceAdd, Nat.reduceSub, V.int.injEq, V.bl.injEq, V.ref.injEq, V.str.injEq, exists_eq, exists_eq', exists_eq_left, exists_eq_left', exists_and_left, exists_and_right, Option.some.injEq, List.cons.injEq, and_true, true_and, and_assoc, retV, true_or, or_true, decide_eq_true_eq, if_true, if_false, Bool.false_eq_true, Bool.not_true, Bool.not_false, Bool.not_eq_true', reduceCtorEq, eq_self, decide_true, decide_false, List.length_map, exists_const, false_and, and_false, or_false, false_or, ↓reduceIte]
        rw [← hl] at h
        exact len_sq (.inr ((e1.trans e2) _ _ ht)) h
      · obtain ⟨⟨u5, u6, u7, u8, u9, u10, rfl⟩, e12, ws, hG, hu⟩ := h
        rw [rngV_len, Int.toNat_natCast] at hb
        rw [Int.toNat_natCast, rngV_get hb, Int.zero_add] at hy
        obtain rfl := Option.some.inj hy
        try simp only [wipe, tC, tVar, tChain, rI0, rI, rU, tOp, tUn, tCall, tAnd, tOr, tNot, tNotV, tAndV, tOrV, tTest, tB, tIf, tIfS, tRet, tRetN, tNext, tSeq, tNil, tCons, tAug, ipI, tPar, tAsg, gName, tDrop, tLst, tTup, tCB, tBM, tBM0, tFld_eq, tMkE, tMake, tAugS, gSub, rEq, rAll, rMax, rSum, rAppend, rExtend, rSetL, _root_.L2.start, List.map_cons, List.map_nil, List.length_cons, List.length_nil, List.replicate_succ, List.replicate_zero, List.cons_append, List.nil_append, List.append_nil, List.getElem?_cons_zero, List.getElem?_cons_succ, List.set_cons_zero, List.set_cons_succ, Nat.reduceAdd, Nat.reduceSub, V.int.injEq, V.bl.injEq, V.ref.injEq, V.str.injEq, exists_eq, exists_eq', exists_eq_left, exists_eq_left', exists_and_left, exists_and_right, Option.some.injEq, List.cons.injEq, and_true, true_and, and_assoc, retV, true_or, or_true, decide_eq_true_eq, if_true, if_false, Bool.false_eq_true, Bool.not_true, Bool.not_false, Bool.not_eq_true', reduceCtorEq, eq_self, decide_true, decide_false, List.length_map, exists_const, false_and, and_false, or_false, false_or, ↓reduceIte]
        refine ⟨by decide, fun M nM => ?_⟩
        have e3 : Same H2 (upd H2 M (.lst [])) := same_new nM
        refine for_go (gives_rng1 (j := B'.length) (fun Q h => ?_)) (fun o σ H' => (∃ u7 u8 u9 u10, σ = [some (.int (n : Nat)), some (.ref t), some (.ref F), some (.int (a : Nat)), some (.ref G), some (.int (b : Nat)), some (.ref M), u7, u8, u9, u10]) ∧ Same H2 H' ∧
            H' M = some (.lst ((metL n B' a b o).map V.int)))
          ⟨⟨_, _, _, _, rfl⟩, e3, upd_same⟩ (fun _ _ _ _ _ => trivial) (fun o y σ H3 ho hy h => ?_) (fun σ H3 h => ?_)
        · try simp only [wipe, tC, tVar, tChain, rI0, rI, rU, tOp, tUn, tCall, tAnd, tOr, tNot, tNotV, tAndV, tOrV, tTest, tB, tIf, tIfS, tRet, tRetN, tNext, tSeq, tNil, tCons, tAug, ipI, tPar, tAsg, gName, tDrop, tLst, tTup, tCB, tBM, tBM0, tFld_eq, tMkE, tMake, tAugS, gSub, rEq, rAll, rMax, rSum, rAppend, rExtend, rSetL, _root_.L2.start, List.map_cons, List.map_nil, List.length_cons, List.length_nil, List.replicate_succ, List.replicate_zero, List.cons_append, List.nil_append, List.append_nil, List.getElem?_cons_zero, List.getElem?_cons_succ, List.set_cons_zero, List.set_cons_succ, Nat.reduceAdd, Nat.reduceSub, V.int.injEq, V.bl.injEq, V.ref.injEq, V.str.injEq, exists_eq, exists_eq', exists_eq_left, exists_eq_left', exists_and_left, exists_and_right, Option.some.injEq, List.cons.injEq, and_true, true_and, and_assoc, retV, true_or, or_true, decide_eq_true_eq, if_true, if_false, Bool.false_eq_true, Bool.not_true, Bool.not_false, Bool.not_eq_true', reduceCtorEq, eq_self, decide_true, decide_false, List.length_map, exists_const, false_and, and_false, or_false, false_or, ↓reduceIte]
          rw [← hl] at h
          exact len_sq (.inr ((e1.trans (e12.trans e3)) _ _ ht)) h
        · obtain ⟨⟨u7, u8, u9, u10, rfl⟩, e23, hM⟩ := h
          rw [rngV_len, Int.toNat_natCast] at ho
          rw [Int.toNat_natCast, rngV_get ho, Int.zero_add] at hy
          obtain rfl := Option.some.inj hy
          obtain ⟨vb, hvb⟩ := getI (xs := bs) (i := b) (by omega)
          obtain ⟨vo, hvo⟩ := getI (xs := bs) (i := o) (by omega)
          obtain ⟨cs, hcs, ab, xb, rfl, hab, hxb⟩ := Paired.at hp hvb
          obtain ⟨ds, hds, ao, xo, rfl, hao, hxo⟩ := Paired.at hp hvo
          have gcs : B'.getD b [] = cs := by simp [List.getD, hcs]
          have gds : B'.getD o [] = ds := by simp [List.getD, hds]
          have hn : (o : Int) ∉ metL n B' a b o := metL_lt
          have e13 := e12.trans e23
          have e03 := e1.trans e13
          try simp only [wipe, tC, tVar, tChain, rI0, rI, rU, tOp, tUn, tCall, tAnd, tOr, tNot, tNotV, tAndV, tOrV, tTest, tB, tIf, tIfS, tRet, tRetN, tNext, tSeq, tNil, tCons, tAug, ipI, tPar, tAsg, gName, tDrop, tLst, tTup, tCB, tBM, tBM0, tFld_eq, tMkE, tMake, tAugS, gSub, rEq, rAll, rMax, rSum, rAppend, rExtend, rSetL, _root_.L2.start, List.map_cons, List.map_nil, List.length_cons, List.length_nil, List.replicate_succ, List.replicate_zero, List.cons_append, List.nil_append, List.append_nil, List.getElem?_cons_zero, List.getElem?_cons_succ, List.set_cons_zero, List.set_cons_succ, Nat.reduceAdd, Nat.reduceSub, V.int.injEq, V.bl.injEq, V.ref.injEq, V.str.injEq, exists_eq, exists_eq', exists_eq_left, exists_eq_left', exists_and_left, exists_and_right, Option.some.injEq, List.cons.injEq, and_true, true_and, and_assoc, retV, true_or, or_true, decide_eq_true_eq, if_true, if_false, Bool.false_eq_true, Bool.not_true, Bool.not_false, Bool.not_eq_true', reduceCtorEq, eq_self, decide_true, decide_false, List.length_map, exists_const, false_and, and_false, or_false, false_or, rNe, scal, ↓reduceIte]
          by_cases hob : o = b
          · rw [if_neg (by simp [hob])]
            refine ⟨e23, ?_⟩
            rw [metL_succ, if_neg (by simp [hob]), List.append_nil]
            exact hM
          · rw [if_pos (by simp; omega)]
            refine notin_sq (.inl hM) ?_
            rw [decide_eq_false hn]
            try simp only [wipe, tC, tVar, tChain, rI0, rI, rU, tOp, tUn, tCall, tAnd, tOr, tNot, tNotV, tAndV, tOrV, tTest, tB, tIf, tIfS, tRet, tRetN, tNext, tSeq, tNil, tCons, tAug, ipI, tPar, tAsg, gName, tDrop, tLst, tTup, tCB, tBM, tBM0, tFld_eq, tMkE, tMake, tAugS, gSub, rEq, rAll, rMax, rSum, rAppend, rExtend, rSetL, _root_.L2.start, List.map_cons, List.map_nil, List.length_cons, List.length_nil, List.replicate_succ, List.replicate_zero, List.cons_append, List.nil_append, List.append_nil, List.getElem?_cons_zero, List.getElem?_cons_succ, List.set_cons_zero, List.set_cons_succ, Nat.reduceAdd, Nat.reduceSub, V.int.injEq, V.bl.injEq, V.ref.injEq, V.str.injEq, exists_eq, exists_eq', exists_eq_left, exists_eq_left', exists_and_left, exists_and_right, Option.some.injEq, List.cons.injEq, and_true, true_and, and_assoc, retV, true_or, or_true, decide_eq_true_eq, if_true, if_false, Bool.false_eq_true, Bool.not_true, Bool.not_false, Bool.not_eq_true', reduceCtorEq, eq_self, decide_true, decide_false, List.length_map, exists_const, false_and, and_false, or_false, false_or, ↓reduceIte]
            refine for_go (gives_sq (xs := xb) (a := ab) (fun Q h => ?_) (.inr (e03 _ _ hab))) (fun i σ H' => (∃ u8 u9 u10, σ = [some (.int (n : Nat)), some (.ref t), some (.ref F), some (.int (a : Nat)), some (.ref G), some (.int (b : Nat)), some (.ref M), some (.int (o : Nat)), u8, u9, u10]) ∧ Same H2 H' ∧
                H' M = some (.lst ((metAt (metL n B' a b o) o (hitTo n a cs ds i 0)).map V.int)))
              ⟨⟨_, _, _, rfl⟩, e23, by rw [hitTo_zero, metAt, if_neg (by decide), List.append_nil]; exact hM⟩ (fun i σ H' _ h => ?_) (fun i y σ H4 hi hy h => ?_) (fun σ H4 h => ?_)
            · try simp only [wipe, tC, tVar, tChain, rI0, rI, rU, tOp, tUn, tCall, tAnd, tOr, tNot, tNotV, tAndV, tOrV, tTest, tB, tIf, tIfS, tRet, tRetN, tNext, tSeq, tNil, tCons, tAug, ipI, tPar, tAsg, gName, tDrop, tLst, tTup, tCB, tBM, tBM0, tFld_eq, tMkE, tMake, tAugS, gSub, rEq, rAll, rMax, rSum, rAppend, rExtend, rSetL, _root_.L2.start, List.map_cons, List.map_nil, List.length_cons, List.length_nil, List.replicate_succ, List.replicate_zero, List.cons_append, List.nil_append, List.append_nil, List.getElem?_cons_zero, List.getElem?_cons_succ, List.set_cons_zero, List.set_cons_succ, Nat.reduceAdd, Nat.reduceSub, V.int.injEq, V.bl.injEq, V.ref.injEq, V.str.injEq, exists_eq, exists_eq', exists_eq_left, exists_eq_left', exists_and_left, exists_and_right, Option.some.injEq, List.cons.injEq, and_true, true_and, and_assoc, retV, true_or, or_true, decide_eq_true_eq, if_true, if_false, Bool.false_eq_true, Bool.not_true, Bool.not_false, Bool.not_eq_true', reduceCtorEq, eq_self, decide_true, decide_false, List.length_map, exists_const, false_and, and_false, or_false, false_or, ↓reduceIte]
              exact ixt_at (e03 _ _ ht) hvb h
            · rw [(e1.trans (e12.trans h.2.1)) _ _ hab, e03 _ _ hab]
            · obtain ⟨⟨u8, u9, u10, rfl⟩, e24, hM4⟩ := h
              obtain ⟨c, hc, tc, nc, rfl, htc, hcp⟩ := Paired.at hxb hy
              obtain rfl := ina_eq hcp
              have e04 := e1.trans (e12.trans e24)
              have lc := (hB cs (List.mem_of_getElem? hcs)).2 c (List.mem_of_getElem? hc)
              show tFor _ _ _ _ _ _
              refine for_go (gives_sq (xs := xo) (a := ao) (fun Q h => ?_) (.inr (e04 _ _ hao))) (fun j σ H' => (∃ u9 u10, σ = [some (.int (n : Nat)), some (.ref t), some (.ref F), some (.int (a : Nat)), some (.ref G), some (.int (b : Nat)), some (.ref M), some (.int (o : Nat)), some (.ref tc), u9, u10]) ∧ Same H2 H' ∧
                  H' M = some (.lst ((metAt (metL n B' a b o) o (hitTo n a cs ds i j)).map V.int)))
                ⟨⟨_, _, rfl⟩, e24, hM4⟩ (fun i σ H' _ h => ?_) (fun j y σ H5 hj hy5 h => ?_) (fun σ H5 h => ?_)
              · try simp only [wipe, tC, tVar, tChain, rI0, rI, rU, tOp, tUn, tCall, tAnd, tOr, tNot, tNotV, tAndV, tOrV, tTest, tB, tIf, tIfS, tRet, tRetN, tNext, tSeq, tNil, tCons, tAug, ipI, tPar, tAsg, gName, tDrop, tLst, tTup, tCB, tBM, tBM0, tFld_eq, tMkE, tMake, tAugS, gSub, rEq, rAll, rMax, rSum, rAppend, rExtend, rSetL, _root_.L2.start, List.map_cons, List.map_nil, List.length_cons, List.length_nil, List.replicate_succ, List.replicate_zero, List.cons_append, List.nil_append, List.append_nil, List.getElem?_cons_zero, List.getElem?_cons_succ, List.set_cons_zero, List.set_cons_succ, Nat.reduceAdd, Nat.reduceSub, V.int.injEq, V.bl.injEq, V.ref.injEq, V.str.injEq, exists_eq, exists_eq', exists_eq_left, exists_eq_left', exists_and_left, exists_and_right, Option.some.injEq, List.cons.injEq, and_true, true_and, and_assoc, retV, true_or, or_true, decide_eq_true_eq, if_true, if_false, Bool.false_eq_true, Bool.not_true, Bool.not_false, Bool.not_eq_true', reduceCtorEq, eq_self, decide_true, decide_false, List.length_map, exists_const, false_and, and_false, or_false, false_or, ↓reduceIte]
                exact ixt_at (e04 _ _ ht) hvo h
              · rw [(e1.trans (e12.trans h.2.1)) _ _ hao, e04 _ _ hao]
              · obtain ⟨⟨u9, u10, rfl⟩, e25, hM5⟩ := h
                obtain ⟨d, hd, td, nd, rfl, htd, hdp⟩ := Paired.at hxo hy5
                obtain rfl := ina_eq hdp
                have e05 := e1.trans (e12.trans e25)
                have ld := (hB ds (List.mem_of_getElem? hds)).2 d (List.mem_of_getElem? hd)
                have htc5 := e05 _ _ htc
                have htd5 := e05 _ _ htd
                have at_ : ∀ {z : List Int} {k : Nat}, z.length = n → k < n → (z.map V.int)[k]? = some (.int (z.getD k 0)) := fun {z k} hz hk => by
                  have : k < z.length := by omega
                  rw [List.getElem?_map, List.getElem?_eq_getElem this]
                  simp [List.getD, this]
                try simp only [wipe, tC, tVar, tChain, rI0, rI, rU, tOp, tUn, tCall, tAnd, tOr, tNot, tNotV, tAndV, tOrV, tTest, tB, tIf, tIfS, tRet, tRetN, tNext, tSeq, tNil, tCons, tAug, ipI, tPar, tAsg, gName, tDrop, tLst, tTup, tCB, tBM, tBM0, tFld_eq, tMkE, tMake, tAugS, gSub, rEq, rAll, rMax, rSum, rAppend, rExtend, rSetL, _root_.L2.start, List.map_cons, List.map_nil, List.length_cons, List.length_nil, List.replicate_succ, List.replicate_zero, List.cons_append, List.nil_append, List.append_nil, List.getElem?_cons_zero, List.getElem?_cons_succ, List.set_cons_zero, List.set_cons_succ, Nat.reduceAdd, Nat.reduceSub, V.int.injEq, V.bl.injEq, V.ref.injEq, V.str.injEq, exists_eq, exists_eq', exists_eq_left, exists_eq_left', exists_and_left, exists_and_right, Option.some.injEq, List.cons.injEq, and_true, true_and, and_assoc, retV, true_or, or_true, decide_eq_true_eq, if_true, if_false, Bool.false_eq_true, Bool.not_true, Bool.not_false, Bool.not_eq_true', reduceCtorEq, eq_self, decide_true, decide_false, List.length_map, exists_const, false_and, and_false, or_false, false_or, ↓reduceIte]
                refine ixt_at htd5 (at_ ld ha) (ixt_at htc5 (at_ lc ha) ?_)
                try simp only [wipe, tC, tVar, tChain, rI0, rI, rU, tOp, tUn, tCall, tAnd, tOr, tNot, tNotV, tAndV, tOrV, tTest, tB, tIf, tIfS, tRet, tRetN, tNext, tSeq, tNil, tCons, tAug, ipI, tPar, tAsg, gName, tDrop, tLst, tTup, tCB, tBM, tBM0, tFld_eq, tMkE, tMake, tAugS, gSub, rEq, rAll, rMax, rSum, rAppend, rExtend, rSetL, _root_.L2.start, List.map_cons, List.map_nil, List.length_cons, List.length_nil, List.replicate_succ, List.replicate_zero, List.cons_append, List.nil_append, List.append_nil, List.getElem?_cons_zero, List.getElem?_cons_succ, List.set_cons_zero, List.set_cons_succ, Nat.reduceAdd, Nat.reduceSub, V.int.injEq, V.bl.injEq, V.ref.injEq, V.str.injEq, exists_eq, exists_eq', exists_eq_left, exists_eq_left', exists_and_left, exists_and_right, Option.some.injEq, List.cons.injEq, and_true, true_and, and_assoc, retV, true_or, or_true, decide_eq_true_eq, if_true, if_false, Bool.false_eq_true, Bool.not_true, Bool.not_false, Bool.not_eq_true', reduceCtorEq, eq_self, decide_true, decide_false, List.length_map, exists_const, false_and, and_false, or_false, false_or, ↓reduceIte]
                have stp := hitTo_step n a hc hd
                by_cases hlt : c.getD a 0 < d.getD a 0
                · rw [if_pos hlt]
                  refine lc_acc (gives_rng1 (j := n) (fun Q h => ⟨_, rfl, h⟩)) (Box.none (A := No) (fun _ z => z.elim)) (fun _ _ => trivial) (by rw [rngV_len, Int.toNat_natCast]; exact Nat.le_trans n3 (by decide))
                    (fun A k acc H' => acc = (diffs a c d k).map V.int) (fun _ _ => rfl) (fun _ h => h) (fun _ h => h)
                    (fun k z acc H' D N N0 hk hz e _ hA hI hN hN0 => ?_) fun acc H6 D e6 _ nD _ hD hI => ?_
                  · rw [rngV_len, Int.toNat_natCast] at hk
                    rw [Int.toNat_natCast, rngV_get hk, Int.zero_add] at hz
                    obtain rfl := Option.some.inj hz
                    subst hI
                    refine ⟨rfl, ?_⟩
                    try simp only [wipe, tC, tVar, tChain, rI0, rI, rU, tOp, tUn, tCall, tAnd, tOr, tNot, tNotV, tAndV, tOrV, tTest, tB, tIf, tIfS, tRet, tRetN, tNext, tSeq, tNil, tCons, tAug, ipI, tPar, tAsg, gName, tDrop, tLst, tTup, tCB, tBM, tBM0, tFld_eq, tMkE, tMake, tAugS, gSub, rEq, rAll, rMax, rSum, rAppend, rExtend, rSetL, _root_.L2.start, List.map_cons, List.map_nil, List.length_cons, List.length_nil, List.replicate_succ, List.replicate_zero, List.cons_append, List.nil_append, List.append_nil, List.getElem?_cons_zero, List.getElem?_cons_succ, List.set_cons_zero, List.set_cons_succ, Nat.reduceAdd, Nat.reduceSub, V.int.injEq, V.bl.injEq, V.ref.injEq, V.str.injEq, exists_eq, exists_eq', exists_eq_left, exists_eq_left', exists_and_left, exists_and_right, Option.some.injEq, List.cons.injEq, and_true, true_and, and_assoc, retV, true_or, or_true, decide_eq_true_eq, if_true, if_false, Bool.false_eq_true, Bool.not_true, Bool.not_false, Bool.not_eq_true', reduceCtorEq, eq_self, decide_true, decide_false, List.length_map, exists_const, false_and, and_false, or_false, false_or, rNe, scal, ↓reduceIte]
                    by_cases hka : (k : Int) = (a : Int)
                    · rw [if_neg (by simp [hka])]
                      refine hN0 _ (SameO.refl _ _) trivial ?_
                      rw [diffs_succ, if_neg (by simp; omega), List.append_nil]
                    · rw [if_pos (by simpa using hka)]
                      refine ixt_at (e.same _ _ htd5) (at_ ld hk) (ixt_at (e.same _ _ htc5) (at_ lc hk) ?_)
                      try simp only [wipe, tC, tVar, tChain, rI0, rI, rU, tOp, tUn, tCall, tAnd, tOr, tNot, tNotV, tAndV, tOrV, tTest, tB, tIf, tIfS, tRet, tRetN, tNext, tSeq, tNil, tCons, tAug, ipI, tPar, tAsg, gName, tDrop, tLst, tTup, tCB, tBM, tBM0, tFld_eq, tMkE, tMake, tAugS, gSub, rEq, rAll, rMax, rSum, rAppend, rExtend, rSetL, _root_.L2.start, List.map_cons, List.map_nil, List.length_cons, List.length_nil, List.replicate_succ, List.replicate_zero, List.cons_append, List.nil_append, List.append_nil, List.getElem?_cons_zero, List.getElem?_cons_succ, List.set_cons_zero, List.set_cons_succ, Nat.reduceAdd, Nat.reduceSub, V.int.injEq, V.bl.injEq, V.ref.injEq, V.str.injEq, exists_eq, exists_eq', exists_eq_left, exists_eq_left', exists_and_left, exists_and_right, Option.some.injEq, List.cons.injEq, and_true, true_and, and_assoc, retV, true_or, or_true, decide_eq_true_eq, if_true, if_false, Bool.false_eq_true, Bool.not_true, Bool.not_false, Bool.not_eq_true', reduceCtorEq, eq_self, decide_true, decide_false, List.length_map, exists_const, false_and, and_false, or_false, false_or, scal, ↓reduceIte]
                      by_cases hdc : d.getD k 0 = c.getD k 0
                      · rw [if_neg (by simp only [hdc]; simp)]
                        refine hN0 _ (SameO.refl _ _) trivial ?_
                        rw [diffs_succ, if_neg (by rw [hdc]; simp), List.append_nil]
                      · rw [if_pos (by simpa using hdc)]
                        refine hN _ _ (SameO.refl _ _) trivial ?_
                        rw [diffs_succ, if_pos (by simp only [ne_eq, decide_not, Bool.and_eq_true, Bool.not_eq_true', decide_eq_false_iff_not]; exact ⟨by omega, hdc⟩), List.map_append]
                        rfl
                  · subst hI
                    rw [rngV_len, Int.toNat_natCast] at hD
                    try simp only [wipe, tC, tVar, tChain, rI0, rI, rU, tOp, tUn, tCall, tAnd, tOr, tNot, tNotV, tAndV, tOrV, tTest, tB, tIf, tIfS, tRet, tRetN, tNext, tSeq, tNil, tCons, tAug, ipI, tPar, tAsg, gName, tDrop, tLst, tTup, tCB, tBM, tBM0, tFld_eq, tMkE, tMake, tAugS, gSub, rEq, rAll, rMax, rSum, rAppend, rExtend, rSetL, _root_.L2.start, List.map_cons, List.map_nil, List.length_cons, List.length_nil, List.replicate_succ, List.replicate_zero, List.cons_append, List.nil_append, List.append_nil, List.getElem?_cons_zero, List.getElem?_cons_succ, List.set_cons_zero, List.set_cons_succ, Nat.reduceAdd, Nat.reduceSub, V.int.injEq, V.bl.injEq, V.ref.injEq, V.str.injEq, exists_eq, exists_eq', exists_eq_left, exists_eq_left', exists_and_left, exists_and_right, Option.some.injEq, List.cons.injEq, and_true, true_and, and_assoc, retV, true_or, or_true, decide_eq_true_eq, if_true, if_false, Bool.false_eq_true, Bool.not_true, Bool.not_false, Bool.not_eq_true', reduceCtorEq, eq_self, decide_true, decide_false, List.length_map, exists_const, false_and, and_false, or_false, false_or, ↓reduceIte]
                    refine ⟨by decide, fun p np => ?_⟩
                    have e7 := same_new (o := .lst []) np
                    have e57 := e6.same.trans e7
                    refine eq_nil (e7 _ _ hD) upd_same ?_
                    have hM7 := e57 _ _ hM5
                    try simp only [wipe, tC, tVar, tChain, rI0, rI, rU, tOp, tUn, tCall, tAnd, tOr, tNot, tNotV, tAndV, tOrV, tTest, tB, tIf, tIfS, tRet, tRetN, tNext, tSeq, tNil, tCons, tAug, ipI, tPar, tAsg, gName, tDrop, tLst, tTup, tCB, tBM, tBM0, tFld_eq, tMkE, tMake, tAugS, gSub, rEq, rAll, rMax, rSum, rAppend, rExtend, rSetL, _root_.L2.start, List.map_cons, List.map_nil, List.length_cons, List.length_nil, List.replicate_succ, List.replicate_zero, List.cons_append, List.nil_append, List.append_nil, List.getElem?_cons_zero, List.getElem?_cons_succ, List.set_cons_zero, List.set_cons_succ, Nat.reduceAdd, Nat.reduceSub, V.int.injEq, V.bl.injEq, V.ref.injEq, V.str.injEq, exists_eq, exists_eq', exists_eq_left, exists_eq_left', exists_and_left, exists_and_right, Option.some.injEq, List.cons.injEq, and_true, true_and, and_assoc, retV, true_or, or_true, decide_eq_true_eq, if_true, if_false, Bool.false_eq_true, Bool.not_true, Bool.not_false, Bool.not_eq_true', reduceCtorEq, eq_self, decide_true, decide_false, List.length_map, exists_const, false_and, and_false, or_false, false_or, ↓reduceIte]
                    by_cases hdf : diffs a c d n = []
                    · rw [if_pos hdf]
                      have hbel : bel n a c d = true := by unfold bel; rw [decide_eq_true hlt, decide_eq_true hdf]; rfl
                      refine notin_sq (.inl hM7) ?_
                      try simp only [wipe, tC, tVar, tChain, rI0, rI, rU, tOp, tUn, tCall, tAnd, tOr, tNot, tNotV, tAndV, tOrV, tTest, tB, tIf, tIfS, tRet, tRetN, tNext, tSeq, tNil, tCons, tAug, ipI, tPar, tAsg, gName, tDrop, tLst, tTup, tCB, tBM, tBM0, tFld_eq, tMkE, tMake, tAugS, gSub, rEq, rAll, rMax, rSum, rAppend, rExtend, rSetL, _root_.L2.start, List.map_cons, List.map_nil, List.length_cons, List.length_nil, List.replicate_succ, List.replicate_zero, List.cons_append, List.nil_append, List.append_nil, List.getElem?_cons_zero, List.getElem?_cons_succ, List.set_cons_zero, List.set_cons_succ, Nat.reduceAdd, Nat.reduceSub, V.int.injEq, V.bl.injEq, V.ref.injEq, V.str.injEq, exists_eq, exists_eq', exists_eq_left, exists_eq_left', exists_and_left, exists_and_right, Option.some.injEq, List.cons.injEq, and_true, true_and, and_assoc, retV, true_or, or_true, decide_eq_true_eq, if_true, if_false, Bool.false_eq_true, Bool.not_true, Bool.not_false, Bool.not_eq_true', reduceCtorEq, eq_self, decide_true, decide_false, List.length_map, exists_const, false_and, and_false, or_false, false_or, ↓reduceIte]
                      cases hh : hitTo n a cs ds i j with
                      | true =>
                        have hin : (o : Int) ∈ metAt (metL n B' a b o) o true := by simp [metAt]
                        rw [hh] at hM7
                        rw [if_neg (by simp [hin])]
                        refine ⟨e25.trans e57, ?_⟩
                        rw [stp, hh]
                        exact hM7
                      | false =>
                        have hout : (o : Int) ∉ metAt (metL n B' a b o) o false := by simpa [metAt] using hn
                        rw [hh] at hM7
                        rw [if_pos (by simp [hout])]
                        refine ⟨.inl ⟨rfl, _, sqL_of hM7⟩, _, hM7, Nat.lt_of_lt_of_le (by have := metL_len n B' a b o; simp [metAt]; omega : _ < 100) (by decide), same_mut (e25.trans e57) nM, ?_⟩
                        rw [upd_same, stp, hh, hbel]
                        simp [metAt]
                    · rw [if_neg hdf]
                      have hbel : bel n a c d = false := by unfold bel; rw [decide_eq_false hdf, Bool.and_false]
                      refine ⟨e25.trans e57, ?_⟩
                      rw [stp, hbel, Bool.or_false]
                      exact hM7
                · rw [if_neg hlt]
                  have hbel : bel n a c d = false := by unfold bel; rw [decide_eq_false hlt, Bool.false_and]
                  refine ⟨e25, ?_⟩
                  rw [stp, hbel, Bool.or_false]
                  exact hM5
              · obtain ⟨⟨u9, u10, rfl⟩, e25, hM5⟩ := h
                refine ⟨⟨_, _, _, rfl⟩, e25, ?_⟩
                rw [Paired.len hxo] at hM5
                rw [hitTo_row n a hc]
                exact hM5
            · obtain ⟨⟨u8, u9, u10, rfl⟩, e24, hM4⟩ := h
              rw [Paired.len hxb, hitTo_all] at hM4
              refine ⟨⟨_, _, _, _, rfl⟩, e24, ?_⟩
              rw [metL_succ, gcs, gds]
              have : (decide (o ≠ b) && hit n a cs ds) = hit n a cs ds := by simp [hob]
              rw [this]
              exact hM4
        · obtain ⟨⟨u7, u8, u9, u10, rfl⟩, e23, hM⟩ := h
          rw [rngV_len, Int.toNat_natCast] at hM
          try simp only [wipe, tC, tVar, tChain, rI0, rI, rU, tOp, tUn, tCall, tAnd, tOr, tNot, tNotV, tAndV, tOrV, tTest, tB, tIf, tIfS, tRet, tRetN, tNext, tSeq, tNil, tCons, tAug, ipI, tPar, tAsg, gName, tDrop, tLst, tTup, tCB, tBM, tBM0, tFld_eq, tMkE, tMake, tAugS, gSub, rEq, rAll, rMax, rSum, rAppend, rExtend, rSetL, _root_.L2.start, List.map_cons, List.map_nil, List.length_cons, List.length_nil, List.replicate_succ, List.replicate_zero, List.cons_append, List.nil_append, List.append_nil, List.getElem?_cons_zero, List.getElem?_cons_succ, List.set_cons_zero, List.set_cons_succ, Nat.reduceAdd, Nat.reduceSub, V.int.injEq, V.bl.injEq, V.ref.injEq, V.str.injEq, exists_eq, exists_eq', exists_eq_left, exists_eq_left', exists_and_left, exists_and_right, Option.some.injEq, List.cons.injEq, and_true, true_and, and_assoc, retV, true_or, or_true, decide_eq_true_eq, if_true, if_false, Bool.false_eq_true, Bool.not_true, Bool.not_false, Bool.not_eq_true', reduceCtorEq, eq_self, decide_true, decide_false, List.length_map, exists_const, false_and, and_false, or_false, false_or, ↓reduceIte]
          have hG3 := e23 _ _ hG
          refine ⟨.inl ⟨rfl, ws, sqL_of hG3⟩, tup_sq (.inl hM) fun p6 H6 e6 hp6 => ?_⟩
          have hG6 := e6 _ _ hG3
          have tk6 : Tk H2 (upd H6 G (.lst (ws ++ [.ref p6]))) := (Tk.of (e23.trans e6)).trans (.lst hG6)
          refine ⟨ws, hG6, Nat.lt_of_lt_of_le (by rw [Paired.len hu, cuRow, List.length_map, List.length_range]; omega : ws.length < 12) (by decide), same_mut (e12.trans (e23.trans e6)) nG, _, upd_same, ?_⟩
          have st : cuRow n B' a (b + 1) = cuRow n B' a b ++ [metL n B' a b B'.length] := by simp [cuRow, List.range_succ]
          rw [st]
          exact Paired.app ((famT_tp famT_in).p tk6 hu) (.cons ⟨p6, _, rfl, (Tk.lst hG6 p6).1 _ hp6, ina_of _⟩ .nil)
      · obtain ⟨⟨u5, u6, u7, u8, u9, u10, rfl⟩, e12, ws, hG, hu⟩ := h
        rw [rngV_len, Int.toNat_natCast] at hu
        try simp only [wipe, tC, tVar, tChain, rI0, rI, rU, tOp, tUn, tCall, tAnd, tOr, tNot, tNotV, tAndV, tOrV, tTest, tB, tIf, tIfS, tRet, tRetN, tNext, tSeq, tNil, tCons, tAug, ipI, tPar, tAsg, gName, tDrop, tLst, tTup, tCB, tBM, tBM0, tFld_eq, tMkE, tMake, tAugS, gSub, rEq, rAll, rMax, rSum, rAppend, rExtend, rSetL, _root_.L2.start, List.map_cons, List.map_nil, List.length_cons, List.length_nil, List.replicate_succ, List.replicate_zero, List.cons_append, List.nil_append, List.append_nil, List.getElem?_cons_zero, List.getElem?_cons_succ, List.set_cons_zero, List.set_cons_succ, Nat.reduceAdd, Nat.reduceSub, V.int.injEq, V.bl.injEq, V.ref.injEq, V.str.injEq, exists_eq, exists_eq', exists_eq_left, exists_eq_left', exists_and_left, exists_and_right, Option.some.injEq, List.cons.injEq, and_true, true_and, and_assoc, retV, true_or, or_true, decide_eq_true_eq, if_true, if_false, Bool.false_eq_true, Bool.not_true, Bool.not_false, Bool.not_eq_true', reduceCtorEq, eq_self, decide_true, decide_false, List.length_map, exists_const, false_and, and_false, or_false, false_or, ↓reduceIte]
        have hF2 := e12 _ _ hF
        refine ⟨.inl ⟨rfl, vs, sqL_of hF2⟩, tup_sq (.inl hG) fun p6 H6 e6 hp6 => ?_⟩
        have hF6 := e6 _ _ hF2
        have tk6 : Tk H1 (upd H6 F (.lst (vs ++ [.ref p6]))) := (Tk.of (e12.trans e6)).trans (.lst hF6)
        refine ⟨vs, hF6, Nat.lt_of_lt_of_le (by rw [Paired.len hU, cu, List.length_map, List.length_range]; omega : vs.length < 12) (by decide), same_mut (e1.trans (e12.trans e6)) nF, _, upd_same, ?_⟩
        have st : cu n B' (a + 1) = cu n B' a ++ [cuRow n B' a B'.length] := by simp [cu, List.range_succ]
        rw [st]
        exact Paired.app ((famT_tp (famT_tp famT_in)).p tk6 hU) (.cons ⟨p6, ws, rfl, (Tk.lst hF6 p6).1 _ hp6, (famT_tp famT_in).p ((Tk.of e6).trans (.lst hF6)) hu⟩ .nil)
    · obtain ⟨⟨u3, u4, u5, u6, u7, u8, u9, u10, rfl⟩, e1, vs, hF, hU⟩ := h
      rw [rngV_len, Int.toNat_natCast] at hU
      try simp only [wipe, tC, tVar, tChain, rI0, rI, rU, tOp, tUn, tCall, tAnd, tOr, tNot, tNotV, tAndV, tOrV, tTest, tB, tIf, tIfS, tRet, tRetN, tNext, tSeq, tNil, tCons, tAug, ipI, tPar, tAsg, gName, tDrop, tLst, tTup, tCB, tBM, tBM0, tFld_eq, tMkE, tMake, tAugS, gSub, rEq, rAll, rMax, rSum, rAppend, rExtend, rSetL, _root_.L2.start, List.map_cons, List.map_nil, List.length_cons, List.length_nil, List.replicate_succ, List.replicate_zero, List.cons_append, List.nil_append, List.append_nil, List.getElem?_cons_zero, List.getElem?_cons_succ, List.set_cons_zero, List.set_cons_succ, Nat.reduceAdd, Nat.reduceSub, V.int.injEq, V.bl.injEq, V.ref.injEq, V.str.injEq, exists_eq, exists_eq', exists_eq_left, exists_eq_left', exists_and_left, exists_and_right, Option.some.injEq, List.cons.injEq, and_true, true_and, and_assoc, retV, true_or, or_true, decide_eq_true_eq, if_true, if_false, Bool.false_eq_true, Bool.not_true, Bool.not_false, Bool.not_eq_true', reduceCtorEq, eq_self, decide_true, decide_false, List.length_map, exists_const, false_and, and_false, or_false, false_or, ↓reduceIte]
      exact tup_sq (.inl hF) fun p H5 e5 hp5 => q.go (e1.trans e5) ⟨p, vs, rfl, hp5, (famT_tp (famT_tp famT_in)).p (.of e5) hU⟩
end
end K76
set_option Elab.async false
set_option linter.all false
set_option maxRecDepth 100000
set_option maxHeartbeats 4000000
/-! HKHot: defs that let nothing out, called where an exception is handled (no word about its context). -/
namespace HK
open PySem PySem.Spec PyProof.Rows L2 He
/-- what such a def promises there -/
structure FnJ (P : Program) (w : World) (K : PySem.W.Frag) (mg : Str → Option Value) (base : Heap) (k : Nat) (f : Addr) (fd : FuncData) (ps : List Str) (sp : Sp) : Prop where
  len : ∀ vs H Q E, sp vs H Q E → vs.length = ps.length
  go : ∀ (A : Around) (outer : List Env) (s : Shared) (H : Hp) (args : Args) (us : List Value) (vs : List V) (Q : VK), L2H.RoomH k A → Env0 P w K mg base A outer s H → BindsTo s fd args (ps.zip us) → Vals vs us → sp vs H Q E0 →
    codeAny (model P w) A (.call (.ref f) args) (CR CX0 outer P w H s Q E0) s
/-- its body's context -/
def cxJ (P : Program) (w : World) (K : PySem.W.Frag) (mg : Str → Option Value) (base : Heap) (N : List Str) (qual : Str) (scope : Scope) (f : Addr) (cd : Value) (A : Around) (outer : List Env) (s : Shared) (H : Hp) : Cx :=
  { cxOf CX0 P w K mg base N qual scope f cd A outer s H E0 with calm := false }
/-- nothing handled -/
def cool (A : Around) : Around := { A with handled := none }
section
variable {P : Program} {w : World} {K : PySem.W.Frag} {mg : Str → Option Value} {base : Heap} {N ps : List Str} {qual : Str} {scope : Scope} {f : Addr} {cd : Value} {A : Around} {outer : List Env} {s s1 : Shared} {H : Hp}
theorem env0_cool (e : Env0 P w K mg base A outer s H) : Env0 P w K mg base (cool A) outer s H := ⟨e.frames, e.mod, e.bs, e.bsz, e.funs, e.frf, e.hok, e.bare⟩
theorem inv_warm {pins : List (Addr × Obj)} {σ : L2.St} (hf : A.frames = some outer) (I : Inv (cxOf CX0 P w K mg base N qual scope f cd (cool A) outer s H E0) pins σ H s1) : Inv (cxJ P w K mg base N qual scope f cd A outer s H) pins σ H s1 :=
  ⟨⟨I.ok.mod, I.ok.kind, I.ok.glob, I.ok.blt, I.ok.above, I.ok.inj, I.ok.has, I.ok.cab, fun z => Bool.noConfusion (show false = true from z), Around.frames_deeper hf, I.ok.stk, I.ok.exf, I.ok.bs, I.ok.bsz, I.ok.noex, I.ok.exfs, I.ok.funs, I.ok.frf⟩,
    I.os, I.bare, I.base, I.loc, I.cell, I.free, I.freeC, I.pin, I.hok, I.len⟩
end
section
variable {P : Program} {w : World} {K : PySem.W.Frag} {mg : Str → Option Value} {base : Heap} {k : Nat} {f : Addr} {name qual : Str} {params : Arguments} {body : List Stmt} {scope : Scope} {dV kV doc pm cdv ct oc : Value} {an od : Option Addr} {osl : Array (Option Value)} {N ps : List Str} {sp : Sp}
theorem fn_ofJ (lk : K.lookup f = some ⟨oc, od, .func (PySem.W.fnOf name qual params body scope dV kV doc pm an cdv ct), osl⟩) (hcd : PySem.W.codeIn K cdv qual = true) (S : FnScope N ps scope) (len : ∀ vs H Q E, sp vs H Q E → vs.length = ps.length)
    (hbody : ∀ (A : Around) (outer : List Env) (s : Shared) (H : Hp) (vs : List V) (Q : VK), L2H.RoomH k (A.deeper (envOfC qual scope s.heap.objs.size f cdv)) → sp vs H Q E0 →
      ∃ t, PSs (cxJ P w K mg base N qual scope f cdv A outer s H) body t ∧ t { nx := fun _ H' => Q .non H', rt := Q } (L2.start N vs) H) :
    FnJ P w K mg base (k + 1) f (PySem.W.fnOf name qual params body scope dV kV doc pm an cdv ct) ps sp := by
  refine ⟨len, fun A outer s H args us vs Q room e0 bnd r hsp => ?_⟩
  have inH : K.In s.heap := e0.mod.kin.keeps fun b o e => (e0.bs b o e).1
  have noL : s.heap.NoLimit := e0.mod.nolimit.keeps fun b o e => (e0.bs b o e).1
  have kinds : ∀ y ∈ ps.zip us, scope.names.lookup y.1 = some .local ∨ (scope.names.lookup y.1 = some .cell ∧ ((cellsFrom (s.heap.objs.size + 1) scope.names []).lookup y.1).isSome = true) := by
    rintro ⟨nm, v⟩ hy
    exact (S.par nm (List.of_mem_zip hy).1).imp id fun q => ⟨q, PySem.W.cellsFrom_some _ _ _ (.inl q)⟩
  refine codeAny_call_function room.depth (inH _ _ lk) rfl S.co S.gen rfl (PySem.W.codeRec_of inH hcd) (bnd _ _ _ _ (wpAny_newFunctionEnv_cells S.kind kinds fun env he s2 x => ?_))
  subst he
  refine ⟨noL.keeps x.toInCall.keep, codeAny_func ?_⟩
  obtain ⟨t, ht, q0⟩ := hbody A outer s H vs Q (room.deeper _) hsp
  have I : Inv (cxJ P w K mg base N qual scope f cdv A outer s H) [] (L2.start N vs) H s2 := inv_warm e0.frames (inv_start S rfl (env0_cool e0) (len _ _ _ _ hsp) r x)
  refine wpAny_mono (ht.run [] s2 (L2.start N vs) H _ I q0) (fun fl s' hs => ?_) fun e s' hs => hs
  have last : ∀ {σ' : L2.St} {H' : Hp} {v : V} {u : Value}, Inv (cxJ P w K mg base N qual scope f cdv A outer s H) [] σ' H' s' → RelV v u → Q v H' → CE outer P w H s Q u s' := fun {σ' H' v u} J rv q => ⟨v, H', J.os, J.bare, J.base, J.hok, rv, q⟩
  cases fl with
  | ret u =>
    obtain ⟨v, σ', H', J, rv, q⟩ := hs
    exact last J rv q
  | next =>
    obtain ⟨σ', H', J, q⟩ := hs
    exact last (v := V.non) (u := Value.none) J rfl q
  | brk => exact hs.elim fun _ z => z.elim fun _ z => z.2.elim
  | cont => exact hs.elim fun _ z => z.elim fun _ z => z.2.elim
end
/-- as its callers see it -/
structure CalJ (P : Program) (w : World) (K : PySem.W.Frag) (mg : Str → Option Value) (base : Heap) (x : Str) (k : Nat) (ps : List Str) (sp : Sp) : Prop where
  ex : ∃ (f : Addr) (fd : FuncData), mg x = some (.ref f) ∧ FnJ P w K mg base k f fd ps sp ∧ PySem.W.keepIn K (.ref f) = true ∧ Binds K fd ps []
theorem Src.calJ {P : Program} {w : World} {base : Heap} {fx : List (PySem.W.Frag → Bool)} {fa : List Fa} {fn : List DefD} {er : List ErD} {K : PySem.W.Frag} {mg : Str → Option Value} {d : DefD} {N ps : List Str} {k : Nat} {sp : Sp} (S : Src P fx fa fn er K mg) (i j : Nat) (Sc : FnScope N ps d.scope) (hd : fn[i]? = some d) (hj : fa[j]? = some (.glo d.name)) (hat : d.at_ = (d.name, none)) (hds : d.dfl = []) (hkw : d.kwd = [])
    (hb : ∀ (kV doc pm : Value) (an : Option Addr) (cdv ct : Value) (us : List Value), us.length = ps.length → bindArgs (PySem.W.fnOf d.name d.qual d.params d.body d.scope .none kV doc pm an cdv ct) ⟨us, []⟩ = pure (ps.zip us))
    (len : ∀ vs H Q E, sp vs H Q E → vs.length = ps.length)
    (hbody : ∀ (f : Addr) (cdv : Value) (A : Around) (outer : List Env) (s : Shared) (H : Hp) (vs : List V) (Q : VK), L2H.RoomH k (A.deeper (envOfC d.qual d.scope s.heap.objs.size f cdv)) → sp vs H Q E0 →
      ∃ t, PSs (cxJ P w K mg base N d.qual d.scope f cdv A outer s H) d.body t ∧ t { nx := fun _ H' => Q .non H', rt := Q } (L2.start N vs) H) : CalJ P w K mg base d.name (k + 1) ps sp := by
  obtain ⟨fd, F⟩ := S.def_ i hd
  have e1 : d.dvs K = [] := by unfold DefD.dvs; rw [hds]; rfl
  have e2 : d.kws K = [] := by unfold DefD.kws; rw [hkw]; rfl
  rw [e1, e2, hat] at F
  have bnd := FunD.bindsN F hb
  obtain ⟨oc, od, dV, kV, doc, pm, an, cdv, ct, osl, rfl, lk, hcd, _, _⟩ := F.ex
  exact ⟨_, _, S.glo j hj, fn_ofJ lk hcd Sc len fun A outer s H vs Q hr h => hbody _ cdv A outer s H vs Q hr h, F.kp, bnd⟩
section
variable {X : Cx} {x : Str} {k : Nat} {ps : List Str} {sp : Sp} {e : Expr} {es : List Expr} {t : TA} {p pos : Pos}
theorem pe_j (c : CalJ X.prog X.w X.K X.mg X.base x k ps sp) (hr : L2H.RoomH k X.A) (ha : PA X (e :: es) t) (hg : Gl X x := by rfl) (hdb : (x == ("__debug__" : Str)) = false := by decide)
    (he : starEach (e :: es) X.env = (false, eval e X.env) :: starEach es X.env := by rfl) (hpl : (backTo pos (starEach es X.env)).any (·.1) = false := by rfl) : PE X (.Call (.Name x p) (e :: es) [] pos) (tCall sp [] E0 t) := by
  obtain ⟨f, fd, hm, F, hk, hb⟩ := c.ex
  refine ⟨fun pins s σ H Q I h => wpAny_Call_Name_kw (ld_glob I hg hm ?_ hdb)⟩
  refine PySem.W.callWith_K (h₀ := X.base) I.ok.mod.kin hk (thn (ha.run pos pins s σ H _ I h) fun us s2 ⟨vs, H1, I1, r, q⟩ => ⟨I1.kIn, ?_⟩) he hpl
  have q := show sp (vs ++ []) H1 Q E0 from q
  rw [List.append_nil] at q
  show wpAny _ _ (call (Value.ref f) us) _ _ _
  have nl : us.length = ps.length := r.length.symm.trans (F.len _ _ _ _ q)
  have bn := hb s2 us I1.kIn (by simpa using nl)
  rw [List.append_nil] at bn
  refine wpAny_call (codeAny_mono (F.go X.A X.stack s2 H1 ⟨us, []⟩ us vs Q hr I1.env0 bn r q) fun z s' hq => ?_)
  cases z with
  | error e => exact hq.elim
  | ok fl =>
    cases fl with
    | ret u => exact I1.after hq
    | next => exact hq.elim
    | brk => exact hq.elim
    | cont => exact hq.elim
end
end HK
set_option Elab.async false
set_option linter.all false
set_option maxRecDepth 100000
set_option maxHeartbeats 4000000
/-! k76: _law_place, _law_heard -/
namespace K76
open PySem PySem.Spec PyProof.Rows L2 He HK
theorem pe_cs {X : Cx} {CX : CXT} {x : Str} {k : Nat} {ps : List Str} {sp : Sp} {E : L2.St → XK} {e : Expr} {es : List Expr} {t : TA} {p pos : Pos} (c : Cal X.prog X.w X.K X.mg X.base CX x k ps [] sp) (hr : Room k X.A) (hx : ∀ σ, PassesAt CX X σ (E σ)) (ha : PA X (e :: es) t) (hg : Gl X x := by rfl) (hdb : (x == ("__debug__" : Str)) = false := by decide)
    (he : starEach (e :: es) X.env = (false, eval e X.env) :: starEach es X.env := by rfl) (hpl : (backTo pos (starEach es X.env)).any (·.1) = false := by rfl) : PE X (.Call (.Name x p) (e :: es) [] pos) (tCallS sp E t) := by
  obtain ⟨f, fd, ds, hm, F, hk, hd, hb⟩ := c.ex
  cases hd
  exact pe_callS F hr hg hm hk hb hx ha hdb he hpl
def IntOrStr (v : V) : Prop := (∃ i, v = .int i) ∨ ∃ s, v = .str s
def sp_isint2 : Sp := fun vs H Q _ => ∃ v, vs = [v] ∧ ((∃ i, v = .int i ∧ RetV (.bl true) H Q) ∨ ∃ s, v = .str s ∧ RetV (.bl false) H Q)
def sp_place : Sp := fun vs H Q _ => ∃ v, vs = [v] ∧ IntOrStr v ∧ RetV v H Q
section
variable {w : World} {K : PySem.W.Frag} {mg : Str → Option Value} {base : Heap}
theorem J__law_is_int (S : Sc K mg) : CalJ prg w K mg base "_law_is_int" 1 ["value"] sp_isint2 := by
  refine S.calJ (d := d__law_is_int) 27 23 sc__law_is_int rfl rfl rfl rfl rfl (fun _ _ _ _ _ _ us hl => match us, hl with | [_], _ => rfl) (fun vs H Q E h => ?_) (fun f cdv A outer s H vs Q hr h => ?_)
  · obtain ⟨v, rfl, _⟩ := h
    rfl
  · obtain ⟨v, rfl, h⟩ := h
    refine ⟨_, (pss_one (ps_ret (pe_and (pe_callB call_isi (by rfl) (S.free 40) (by decide +kernel) (pa_cons (pv 0) (pa_cons (pe_ty (n := "int") (S.free 39) (by decide +kernel)) pa_nil))) (pe_one (pe_not (pe_callB call_isi (by rfl) (S.free 40) (by decide +kernel) (pa_cons (pv 0) (pa_cons (pe_ty (n := "bool") (S.free 37) (by decide +kernel)) pa_nil)))))))), ?_⟩
    rcases h with ⟨i, rfl, q⟩ | ⟨x, rfl, q⟩
    · try simp only [wipe, tC, tVar, tChain, rI0, rI, rU, tOp, tUn, tCall, tAnd, tOr, tNot, tNotV, tAndV, tOrV, tTest, tB, tIf, tIfS, tRet, tRetN, tNext, tSeq, tNil, tCons, tAug, ipI, tPar, tAsg, gName, tDrop, tLst, tTup, tCB, tBM, tBM0, tFld_eq, tMkE, tMake, tAugS, gSub, rEq, rAll, rMax, rSum, rAppend, rExtend, rSetL, _root_.L2.start, List.map_cons, List.map_nil, List.length_cons, List.length_nil, List.replicate_succ, List.replicate_zero, List.cons_append, List.nil_append, List.append_nil, List.getElem?_cons_zero, List.getElem?_cons_succ, List.set_cons_zero, List.set_cons_succ, Nat.reduceAdd, Nat.reduceSub, V.int.injEq, V.bl.injEq, V.ref.injEq, V.str.injEq, exists_eq, exists_eq', exists_eq_left, exists_eq_left', exists_and_left, exists_and_right, Option.some.injEq, List.cons.injEq, and_true, true_and, and_assoc, retV, true_or, or_true, decide_eq_true_eq, if_true, if_false, Bool.false_eq_true, Bool.not_true, Bool.not_false, Bool.not_eq_true', reduceCtorEq, eq_self, decide_true, decide_false, List.length_map, exists_const, false_and, and_false, or_false, false_or, ↓reduceIte]
      refine isi_ii ?_
      try simp only [wipe, tC, tVar, tChain, rI0, rI, rU, tOp, tUn, tCall, tAnd, tOr, tNot, tNotV, tAndV, tOrV, tTest, tB, tIf, tIfS, tRet, tRetN, tNext, tSeq, tNil, tCons, tAug, ipI, tPar, tAsg, gName, tDrop, tLst, tTup, tCB, tBM, tBM0, tFld_eq, tMkE, tMake, tAugS, gSub, rEq, rAll, rMax, rSum, rAppend, rExtend, rSetL, _root_.L2.start, List.map_cons, List.map_nil, List.length_cons, List.length_nil, List.replicate_succ, List.replicate_zero, List.cons_append, List.nil_append, List.append_nil, List.getElem?_cons_zero, List.getElem?_cons_succ, List.set_cons_zero, List.set_cons_succ, Nat.reduceAdd, Nat.reduceSub, V.int.injEq, V.bl.injEq, V.ref.injEq, V.str.injEq, exists_eq, exists_eq', exists_eq_left, exists_eq_left', exists_and_left, exists_and_right, Option.some.injEq, List.cons.injEq, and_true, true_and, and_assoc, retV, true_or, or_true, decide_eq_true_eq, if_true, if_false, Bool.false_eq_true, Bool.not_true, Bool.not_false, Bool.not_eq_true', reduceCtorEq, eq_self, decide_true, decide_false, List.length_map, exists_const, false_and, and_false, or_false, false_or, ↓reduceIte]
      refine isi_ib ?_
      try simp only [wipe, tC, tVar, tChain, rI0, rI, rU, tOp, tUn, tCall, tAnd, tOr, tNot, tNotV, tAndV, tOrV, tTest, tB, tIf, tIfS, tRet, tRetN, tNext, tSeq, tNil, tCons, tAug, ipI, tPar, tAsg, gName, tDrop, tLst, tTup, tCB, tBM, tBM0, tFld_eq, tMkE, tMake, tAugS, gSub, rEq, rAll, rMax, rSum, rAppend, rExtend, rSetL, _root_.L2.start, List.map_cons, List.map_nil, List.length_cons, List.length_nil, List.replicate_succ, List.replicate_zero, List.cons_append, List.nil_append, List.append_nil, List.getElem?_cons_zero, List.getElem?_cons_succ, List.set_cons_zero, List.set_cons_succ, Nat.reduceAdd, Nat.reduceSub, V.int.injEq, V.bl.injEq, V.ref.injEq, V.str.injEq, exists_eq, exists_eq', exists_eq_left, exists_eq_left', exists_and_left, exists_and_right, Option.some.injEq, List.cons.injEq, and_true, true_and, and_assoc, retV, true_or, or_true, decide_eq_true_eq, if_true, if_false, Bool.false_eq_true, Bool.not_true, Bool.not_false, Bool.not_eq_true', reduceCtorEq, eq_self, decide_true, decide_false, List.length_map, exists_const, false_and, and_false, or_false, false_or, ↓reduceIte]
      exact q.go (Same.refl _) rfl
    · try simp only [wipe, tC, tVar, tChain, rI0, rI, rU, tOp, tUn, tCall, tAnd, tOr, tNot, tNotV, tAndV, tOrV, tTest, tB, tIf, tIfS, tRet, tRetN, tNext, tSeq, tNil, tCons, tAug, ipI, tPar, tAsg, gName, tDrop, tLst, tTup, tCB, tBM, tBM0, tFld_eq, tMkE, tMake, tAugS, gSub, rEq, rAll, rMax, rSum, rAppend, rExtend, rSetL, _root_.L2.start, List.map_cons, List.map_nil, List.length_cons, List.length_nil, List.replicate_succ, List.replicate_zero, List.cons_append, List.nil_append, List.append_nil, List.getElem?_cons_zero, List.getElem?_cons_succ, List.set_cons_zero, List.set_cons_succ, Nat.reduceAdd, Nat.reduceSub, V.int.injEq, V.bl.injEq, V.ref.injEq, V.str.injEq, exists_eq, exists_eq', exists_eq_left, exists_eq_left', exists_and_left, exists_and_right, Option.some.injEq, List.cons.injEq, and_true, true_and, and_assoc, retV, true_or, or_true, decide_eq_true_eq, if_true, if_false, Bool.false_eq_true, Bool.not_true, Bool.not_false, Bool.not_eq_true', reduceCtorEq, eq_self, decide_true, decide_false, List.length_map, exists_const, false_and, and_false, or_false, false_or, ↓reduceIte]
      refine isi_of (b := false) ?_ (.base (.str x)) (.ty _) (kit_ty (by decide +kernel))
      try simp only [wipe, tC, tVar, tChain, rI0, rI, rU, tOp, tUn, tCall, tAnd, tOr, tNot, tNotV, tAndV, tOrV, tTest, tB, tIf, tIfS, tRet, tRetN, tNext, tSeq, tNil, tCons, tAug, ipI, tPar, tAsg, gName, tDrop, tLst, tTup, tCB, tBM, tBM0, tFld_eq, tMkE, tMake, tAugS, gSub, rEq, rAll, rMax, rSum, rAppend, rExtend, rSetL, _root_.L2.start, List.map_cons, List.map_nil, List.length_cons, List.length_nil, List.replicate_succ, List.replicate_zero, List.cons_append, List.nil_append, List.append_nil, List.getElem?_cons_zero, List.getElem?_cons_succ, List.set_cons_zero, List.set_cons_succ, Nat.reduceAdd, Nat.reduceSub, V.int.injEq, V.bl.injEq, V.ref.injEq, V.str.injEq, exists_eq, exists_eq', exists_eq_left, exists_eq_left', exists_and_left, exists_and_right, Option.some.injEq, List.cons.injEq, and_true, true_and, and_assoc, retV, true_or, or_true, decide_eq_true_eq, if_true, if_false, Bool.false_eq_true, Bool.not_true, Bool.not_false, Bool.not_eq_true', reduceCtorEq, eq_self, decide_true, decide_false, List.length_map, exists_const, false_and, and_false, or_false, false_or, ↓reduceIte]
      exact q.go (Same.refl _) rfl
theorem J__law_place (S : Sc K mg) : CalJ prg w K mg base "_law_place" 2 ["value"] sp_place := by
  have C__law_is_int := J__law_is_int (w := w) (base := base) S
  refine S.calJ (d := d__law_place) 28 24 sc__law_place rfl rfl rfl rfl rfl (fun _ _ _ _ _ _ us hl => match us, hl with | [_], _ => rfl) (fun vs H Q E h => ?_) (fun f cdv A outer s H vs Q hr h => ?_)
  · obtain ⟨v, rfl, _⟩ := h
    rfl
  · obtain ⟨v, rfl, h, q⟩ := h
    refine ⟨_, (pss_one (ps_ret (pe_ifExp (PW.pt (pw_or (pt_val (pe_j C__law_is_int (hr.mono (by omega)) (pa_cons (pv 0) pa_nil))) (pw_or1 (pt_val (pe_callB call_isi (by rfl) (S.free 40) (by decide +kernel) (pa_cons (pv 0) (pa_cons (pe_ty (n := "str") (S.free 46) (by decide +kernel)) pa_nil))))))) (pv 0) (pe_tup (pa_cons pe_str pa_nil))))), ?_⟩
    rcases h with ⟨i, rfl⟩ | ⟨x, rfl⟩
    · try simp only [wipe, tC, tVar, tChain, rI0, rI, rU, tOp, tUn, tCall, tAnd, tOr, tNot, tNotV, tAndV, tOrV, tTest, tB, tIf, tIfS, tRet, tRetN, tNext, tSeq, tNil, tCons, tAug, ipI, tPar, tAsg, gName, tDrop, tLst, tTup, tCB, tBM, tBM0, tFld_eq, tMkE, tMake, tAugS, gSub, rEq, rAll, rMax, rSum, rAppend, rExtend, rSetL, _root_.L2.start, List.map_cons, List.map_nil, List.length_cons, List.length_nil, List.replicate_succ, List.replicate_zero, List.cons_append, List.nil_append, List.append_nil, List.getElem?_cons_zero, List.getElem?_cons_succ, List.set_cons_zero, List.set_cons_succ, Nat.reduceAdd, Nat.reduceSub, V.int.injEq, V.bl.injEq, V.ref.injEq, V.str.injEq, exists_eq, exists_eq', exists_eq_left, exists_eq_left', exists_and_left, exists_and_right, Option.some.injEq, List.cons.injEq, and_true, true_and, and_assoc, retV, true_or, or_true, decide_eq_true_eq, if_true, if_false, Bool.false_eq_true, Bool.not_true, Bool.not_false, Bool.not_eq_true', reduceCtorEq, eq_self, decide_true, decide_false, List.length_map, exists_const, false_and, and_false, or_false, false_or, ↓reduceIte]
      refine ⟨_, rfl, .inl ⟨i, rfl, retV.2 fun H1 e1 => ?_⟩⟩
      try simp only [wipe, tC, tVar, tChain, rI0, rI, rU, tOp, tUn, tCall, tAnd, tOr, tNot, tNotV, tAndV, tOrV, tTest, tB, tIf, tIfS, tRet, tRetN, tNext, tSeq, tNil, tCons, tAug, ipI, tPar, tAsg, gName, tDrop, tLst, tTup, tCB, tBM, tBM0, tFld_eq, tMkE, tMake, tAugS, gSub, rEq, rAll, rMax, rSum, rAppend, rExtend, rSetL, _root_.L2.start, List.map_cons, List.map_nil, List.length_cons, List.length_nil, List.replicate_succ, List.replicate_zero, List.cons_append, List.nil_append, List.append_nil, List.getElem?_cons_zero, List.getElem?_cons_succ, List.set_cons_zero, List.set_cons_succ, Nat.reduceAdd, Nat.reduceSub, V.int.injEq, V.bl.injEq, V.ref.injEq, V.str.injEq, exists_eq, exists_eq', exists_eq_left, exists_eq_left', exists_and_left, exists_and_right, Option.some.injEq, List.cons.injEq, and_true, true_and, and_assoc, retV, true_or, or_true, decide_eq_true_eq, if_true, if_false, Bool.false_eq_true, Bool.not_true, Bool.not_false, Bool.not_eq_true', reduceCtorEq, eq_self, decide_true, decide_false, List.length_map, exists_const, false_and, and_false, or_false, false_or, ↓reduceIte]
      exact q.go e1 rfl
    · try simp only [wipe, tC, tVar, tChain, rI0, rI, rU, tOp, tUn, tCall, tAnd, tOr, tNot, tNotV, tAndV, tOrV, tTest, tB, tIf, tIfS, tRet, tRetN, tNext, tSeq, tNil, tCons, tAug, ipI, tPar, tAsg, gName, tDrop, tLst, tTup, tCB, tBM, tBM0, tFld_eq, tMkE, tMake, tAugS, gSub, rEq, rAll, rMax, rSum, rAppend, rExtend, rSetL, _root_.L2.start, List.map_cons, List.map_nil, List.length_cons, List.length_nil, List.replicate_succ, List.replicate_zero, List.cons_append, List.nil_append, List.append_nil, List.getElem?_cons_zero, List.getElem?_cons_succ, List.set_cons_zero, List.set_cons_succ, Nat.reduceAdd, Nat.reduceSub, V.int.injEq, V.bl.injEq, V.ref.injEq, V.str.injEq, exists_eq, exists_eq', exists_eq_left, exists_eq_left', exists_and_left, exists_and_right, Option.some.injEq, List.cons.injEq, and_true, true_and, and_assoc, retV, true_or, or_true, decide_eq_true_eq, if_true, if_false, Bool.false_eq_true, Bool.not_true, Bool.not_false, Bool.not_eq_true', reduceCtorEq, eq_self, decide_true, decide_false, List.length_map, exists_const, false_and, and_false, or_false, false_or, ↓reduceIte]
      refine ⟨_, rfl, .inr ⟨x, rfl, retV.2 fun H1 e1 => ?_⟩⟩
      try simp only [wipe, tC, tVar, tChain, rI0, rI, rU, tOp, tUn, tCall, tAnd, tOr, tNot, tNotV, tAndV, tOrV, tTest, tB, tIf, tIfS, tRet, tRetN, tNext, tSeq, tNil, tCons, tAug, ipI, tPar, tAsg, gName, tDrop, tLst, tTup, tCB, tBM, tBM0, tFld_eq, tMkE, tMake, tAugS, gSub, rEq, rAll, rMax, rSum, rAppend, rExtend, rSetL, _root_.L2.start, List.map_cons, List.map_nil, List.length_cons, List.length_nil, List.replicate_succ, List.replicate_zero, List.cons_append, List.nil_append, List.append_nil, List.getElem?_cons_zero, List.getElem?_cons_succ, List.set_cons_zero, List.set_cons_succ, Nat.reduceAdd, Nat.reduceSub, V.int.injEq, V.bl.injEq, V.ref.injEq, V.str.injEq, exists_eq, exists_eq', exists_eq_left, exists_eq_left', exists_and_left, exists_and_right, Option.some.injEq, List.cons.injEq, and_true, true_and, and_assoc, retV, true_or, or_true, decide_eq_true_eq, if_true, if_false, Bool.false_eq_true, Bool.not_true, Bool.not_false, Bool.not_eq_true', reduceCtorEq, eq_self, decide_true, decide_false, List.length_map, exists_const, false_and, and_false, or_false, false_or, ↓reduceIte]
      refine isi_of (b := true) ?_ (.base (.str x)) (.ty _) (kit_ty (by decide +kernel))
      try simp only [wipe, tC, tVar, tChain, rI0, rI, rU, tOp, tUn, tCall, tAnd, tOr, tNot, tNotV, tAndV, tOrV, tTest, tB, tIf, tIfS, tRet, tRetN, tNext, tSeq, tNil, tCons, tAug, ipI, tPar, tAsg, gName, tDrop, tLst, tTup, tCB, tBM, tBM0, tFld_eq, tMkE, tMake, tAugS, gSub, rEq, rAll, rMax, rSum, rAppend, rExtend, rSetL, _root_.L2.start, List.map_cons, List.map_nil, List.length_cons, List.length_nil, List.replicate_succ, List.replicate_zero, List.cons_append, List.nil_append, List.append_nil, List.getElem?_cons_zero, List.getElem?_cons_succ, List.set_cons_zero, List.set_cons_succ, Nat.reduceAdd, Nat.reduceSub, V.int.injEq, V.bl.injEq, V.ref.injEq, V.str.injEq, exists_eq, exists_eq', exists_eq_left, exists_eq_left', exists_and_left, exists_and_right, Option.some.injEq, List.cons.injEq, and_true, true_and, and_assoc, retV, true_or, or_true, decide_eq_true_eq, if_true, if_false, Bool.false_eq_true, Bool.not_true, Bool.not_false, Bool.not_eq_true', reduceCtorEq, eq_self, decide_true, decide_false, List.length_map, exists_const, false_and, and_false, or_false, false_or, ↓reduceIte]
      exact q.go e1 rfl
/-- what is heard of bodies_for -/
def sp_heard (w : World) (K : PySem.W.Frag) : Sp := fun vs H Q _ => ∃ x, vs = [x] ∧ ((Alien K H x ∧ ∀ p H', Same H H' → H' p = some (.tup [.str "ways", .int (-1)]) → Q (.ref p) H') ∨ ∃ m U, WayO K m U H x ∧ UpsOk m U ∧ 1 ≤ m ∧
  ((U.length = 1 ∨ 3 < U.length) → ∀ p H', Same H H' → H' p = some (.tup [.str "refused", .int (-1)]) → Q (.ref p) H') ∧ (¬(U.length = 1 ∨ 3 < U.length) → (¬Few (toldU U m) → ∀ p H', Same H H' → H' p = some (.tup [.str "size", .str "cells"]) → Q (.ref p) H') ∧
    (Few (toldU U m) → BodOk w U.length (cellsOf U m) ∧ ∀ p H', Same H H' → H' p = some (.tup [.str "told", .int (U.length : Nat)]) → Q (.ref p) H')))
theorem C__law_heard (S : Sc K mg) : Cal prg w K mg base CX0 "_law_heard" 9 ["ways"] [] (sp_heard w K) := by
  have C_bodies_for := C_bodies_for (w := w) (base := base) S
  have J__law_place := J__law_place (w := w) (base := base) S
  refine S.cal (d := d__law_heard) 34 30 sc__law_heard rfl rfl rfl rfl rfl (fun _ _ _ _ _ _ us hl => match us, hl with | [_], _ => rfl) (fun vs H Q E h => ?_) (fun f cdv A outer s H vs Q E hr h => ?_)
  · obtain ⟨x, rfl, _⟩ := h
    rfl
  · obtain ⟨x, rfl, h⟩ := h
    have hrJ : L2H.RoomH 2 (A.deeper (envOfC d__law_heard.qual d__law_heard.scope s.heap.objs.size f cdv)) := ⟨by have := hr.dp; omega, by have := hr.un; omega⟩
    have xInvalidWays : XfC K (ga K "InvalidWays") := (S.err 3 (e := e_InvalidWays) rfl).xf
    have nInvalidWays : PySem.W.findIn K (.ref (ga K "InvalidWays")) "at" = some none := (S.err 3 (e := e_InvalidWays) rfl).txt.noF
    have xInvalidSize : XfC K (ga K "InvalidSize") := (S.err 4 (e := e_InvalidSize) rfl).xf
    have nInvalidSize : PySem.W.findIn K (.ref (ga K "InvalidSize")) "word" = some none := (S.err 4 (e := e_InvalidSize) rfl).txt.noF
    have xRefused : XfC K (ga K "Refused") := (S.err 5 (e := e_Refused) rfl).xf
    have nRefused : PySem.W.findIn K (.ref (ga K "Refused")) "at" = some none := (S.err 5 (e := e_Refused) rfl).txt.noF
    refine ⟨_, (pss_one (ps_try_manyA (Wout := fun _ _ _ _ => False) rfl rfl sc__law_heard.nd takes0
      (fun W pn xe tk hp => pss_one (ps_ret (pe_tup (pa_cons pe_str (pa_cons (pe_fldK (K := K) rfl (pe_cs C_bodies_for (hr.mono (by omega)) (fun σ => passAt tk σ) (pa_cons (pv 0) pa_nil)) rfl) pa_nil)))))
      (.cons (i := 1) rfl rfl ⟨rfl, by decide, Or.inl (S.glo 70)⟩ (fun a oe cls d pn hz hf => pss_one (ps_ret (pe_tup (pa_cons pe_str (pa_cons (pe_j J__law_place ⟨hrJ.dp, hrJ.un⟩ (pa_cons (pe_xf xInvalidWays nInvalidWays hz hf (pv 1)) pa_nil)) pa_nil)))))
      (.cons (i := 1) rfl rfl ⟨rfl, by decide, Or.inl (S.glo 71)⟩ (fun a oe cls d pn hz hf => pss_one (ps_ret (pe_tup (pa_cons pe_str (pa_cons (pe_j J__law_place ⟨hrJ.dp, hrJ.un⟩ (pa_cons (pe_xf xInvalidSize nInvalidSize hz hf (pv 1)) pa_nil)) pa_nil)))))
      (.cons (i := 1) rfl rfl ⟨rfl, by decide, Or.inl (S.glo 72)⟩ (fun a oe cls d pn hz hf => pss_one (ps_ret (pe_tup (pa_cons pe_str (pa_cons (pe_j J__law_place ⟨hrJ.dp, hrJ.un⟩ (pa_cons (pe_xf xRefused nRefused hz hf (pv 1)) pa_nil)) pa_nil)))))
      .nil))))), ?_⟩
    try simp only [wipe, tC, tVar, tChain, rI0, rI, rU, tOp, tUn, tCall, tAnd, tOr, tNot, tNotV, tAndV, tOrV, tTest, tB, tIf, tIfS, tRet, tRetN, tNext, tSeq, tNil, tCons, tAug, ipI, tPar, tAsg, gName, tDrop, tLst, tTup, tCB, tBM, tBM0, tFld_eq, tMkE, tMake, tAugS, gSub, rEq, rAll, rMax, rSum, rAppend, rExtend, rSetL, _root_.L2.start, List.map_cons, List.map_nil, List.length_cons, List.length_nil, List.replicate_succ, List.replicate_zero, List.cons_append, List.nil_append, List.append_nil, List.getElem?_cons_zero, List.getElem?_cons_succ, List.set_cons_zero, List.set_cons_succ, Nat.reduceAdd, Nat.reduceSub, V.int.injEq, V.bl.injEq, V.ref.injEq, V.str.injEq, exists_eq, exists_eq', exists_eq_left, exists_eq_left', exists_and_left, exists_and_right, Option.some.injEq, List.cons.injEq, and_true, true_and, and_assoc, retV, true_or, or_true, decide_eq_true_eq, if_true, if_false, Bool.false_eq_true, Bool.not_true, Bool.not_false, Bool.not_eq_true', reduceCtorEq, eq_self, decide_true, decide_false, List.length_map, exists_const, false_and, and_false, or_false, false_or, tCallS, ↓reduceIte]
    refine ⟨x, rfl, ?_⟩
    rcases h with ⟨hA, q⟩ | ⟨m, U, hW, O, m1, q1, q2⟩
    · refine .inl ⟨hA, fun H1 d e1 nd => ?_⟩
      refine ⟨true, (S.exm 94), fun _ a na => ?_, fun z => by cases z⟩
      try simp only [wipe, tC, tVar, tChain, rI0, rI, rU, tOp, tUn, tCall, tAnd, tOr, tNot, tNotV, tAndV, tOrV, tTest, tB, tIf, tIfS, tRet, tRetN, tNext, tSeq, tNil, tCons, tAug, ipI, tPar, tAsg, gName, tDrop, tLst, tTup, tCB, tBM, tBM0, tFld_eq, tMkE, tMake, tAugS, gSub, rEq, rAll, rMax, rSum, rAppend, rExtend, rSetL, _root_.L2.start, List.map_cons, List.map_nil, List.length_cons, List.length_nil, List.replicate_succ, List.replicate_zero, List.cons_append, List.nil_append, List.append_nil, List.getElem?_cons_zero, List.getElem?_cons_succ, List.set_cons_zero, List.set_cons_succ, Nat.reduceAdd, Nat.reduceSub, V.int.injEq, V.bl.injEq, V.ref.injEq, V.str.injEq, exists_eq, exists_eq', exists_eq_left, exists_eq_left', exists_and_left, exists_and_right, Option.some.injEq, List.cons.injEq, and_true, true_and, and_assoc, retV, true_or, or_true, decide_eq_true_eq, if_true, if_false, Bool.false_eq_true, Bool.not_true, Bool.not_false, Bool.not_eq_true', reduceCtorEq, eq_self, decide_true, decide_false, List.length_map, exists_const, false_and, and_false, or_false, false_or, tXf, unEnds, ↓reduceIte]
      refine ⟨_, upd_same, _, rfl, _, rfl, .inl ⟨_, rfl⟩, retV.2 fun H2 e2 => ⟨by decide, fun p np => q p _ ((e1.trans (same_new nd)).trans (e2.trans (same_new np))) upd_same⟩⟩
    · refine .inr ⟨m, U, hW, O, m1, fun hU H1 d e1 nd => ?_, fun hU => ⟨fun hF H1 d e1 nd => ?_, fun hF => ⟨((q2 hU).2 hF).1, fun v H1 e1 hv => ?_⟩⟩⟩
      · refine ⟨false, (S.exm 106), (fun z => by cases z), fun _ => ⟨false, (S.exm 107), (fun z => by cases z), fun _ => ⟨true, (S.exm 108), fun _ a na => ?_, fun z => by cases z⟩⟩⟩
        try simp only [wipe, tC, tVar, tChain, rI0, rI, rU, tOp, tUn, tCall, tAnd, tOr, tNot, tNotV, tAndV, tOrV, tTest, tB, tIf, tIfS, tRet, tRetN, tNext, tSeq, tNil, tCons, tAug, ipI, tPar, tAsg, gName, tDrop, tLst, tTup, tCB, tBM, tBM0, tFld_eq, tMkE, tMake, tAugS, gSub, rEq, rAll, rMax, rSum, rAppend, rExtend, rSetL, _root_.L2.start, List.map_cons, List.map_nil, List.length_cons, List.length_nil, List.replicate_succ, List.replicate_zero, List.cons_append, List.nil_append, List.append_nil, List.getElem?_cons_zero, List.getElem?_cons_succ, List.set_cons_zero, List.set_cons_succ, Nat.reduceAdd, Nat.reduceSub, V.int.injEq, V.bl.injEq, V.ref.injEq, V.str.injEq, exists_eq, exists_eq', exists_eq_left, exists_eq_left', exists_and_left, exists_and_right, Option.some.injEq, List.cons.injEq, and_true, true_and, and_assoc, retV, true_or, or_true, decide_eq_true_eq, if_true, if_false, Bool.false_eq_true, Bool.not_true, Bool.not_false, Bool.not_eq_true', reduceCtorEq, eq_self, decide_true, decide_false, List.length_map, exists_const, false_and, and_false, or_false, false_or, tXf, unEnds, ↓reduceIte]
        refine ⟨_, upd_same, _, rfl, _, rfl, .inl ⟨_, rfl⟩, retV.2 fun H2 e2 => ⟨by decide, fun p np => q1 hU p _ ((e1.trans (same_new nd)).trans (e2.trans (same_new np))) upd_same⟩⟩
      · refine ⟨false, (S.exm 100), (fun z => by cases z), fun _ => ⟨true, (S.exm 101), fun _ a na => ?_, fun z => by cases z⟩⟩
        try simp only [wipe, tC, tVar, tChain, rI0, rI, rU, tOp, tUn, tCall, tAnd, tOr, tNot, tNotV, tAndV, tOrV, tTest, tB, tIf, tIfS, tRet, tRetN, tNext, tSeq, tNil, tCons, tAug, ipI, tPar, tAsg, gName, tDrop, tLst, tTup, tCB, tBM, tBM0, tFld_eq, tMkE, tMake, tAugS, gSub, rEq, rAll, rMax, rSum, rAppend, rExtend, rSetL, _root_.L2.start, List.map_cons, List.map_nil, List.length_cons, List.length_nil, List.replicate_succ, List.replicate_zero, List.cons_append, List.nil_append, List.append_nil, List.getElem?_cons_zero, List.getElem?_cons_succ, List.set_cons_zero, List.set_cons_succ, Nat.reduceAdd, Nat.reduceSub, V.int.injEq, V.bl.injEq, V.ref.injEq, V.str.injEq, exists_eq, exists_eq', exists_eq_left, exists_eq_left', exists_and_left, exists_and_right, Option.some.injEq, List.cons.injEq, and_true, true_and, and_assoc, retV, true_or, or_true, decide_eq_true_eq, if_true, if_false, Bool.false_eq_true, Bool.not_true, Bool.not_false, Bool.not_eq_true', reduceCtorEq, eq_self, decide_true, decide_false, List.length_map, exists_const, false_and, and_false, or_false, false_or, tXf, unEnds, ↓reduceIte]
        refine ⟨_, upd_same, _, rfl, _, rfl, .inr ⟨_, rfl⟩, retV.2 fun H2 e2 => ⟨by decide, fun p np => (q2 hU).1 hF p _ ((e1.trans (same_new nd)).trans (e2.trans (same_new np))) upd_same⟩⟩
      · refine bod_axes S hv ⟨by decide, fun p np => ?_⟩
        exact ((q2 hU).2 hF).2 p _ (e1.trans (same_new np)) upd_same
end
end K76
set_option Elab.async false
set_option linter.all false
set_option maxRecDepth 100000
set_option maxHeartbeats 4000000
/-! k76: _law_case_fine -/
namespace K76
open PySem PySem.Spec PyProof.Rows L2 He HK
/-- a pair of values, data beside -/
theorem dp_two {K : PySem.W.Frag} {H : Hp} {p : Addr} {x y : V} {dx dy : PyData} (h : H p = some (.tup [x, y])) (hx : Dp K H x dx) (hy : Dp K H y dy) : Dp K H (.ref p) (.tuple [dx, dy]) := .tup (sqT_of h) (.cons hx (.cons hy .nil))
theorem lay_two {dx dy : PyData} (hx : dx.canLay0 = true) (hy : dy.canLay0 = true) : (PyData.tuple [dx, dy]).canLay0 = true := by
  simp only [PyData.canLay0, PyData.canLayAll0, hx, hy]
  rfl
theorem shaped_two {dx dy : PyData} (hx : dx.canLay0 = true) (hy : dy.canLay0 = true) (h0 : dx.depth = 0) (h1 : dy.depth = 0) : SeqAt.shaped (.tuple [dx, dy]) = true := by
  unfold SeqAt.shaped
  rw [lay_two hx hy]
  simp only [PyData.depth, PyData.depthAll, h0, h1]
  rfl
section
variable {K : PySem.W.Frag} {H : Hp} {Q : VK} {p q : Addr} {x y : V} {dx dy : PyData}
theorem eq_two (h : H p = some (.tup [x, y])) (h' : H q = some (.tup [x, y])) (hx : Dp K H x dx) (hy : Dp K H y dy) (lx : dx.canLay0 = true) (ly : dy.canLay0 = true) (d0 : dx.depth = 0) (d1 : dy.depth = 0) (k : Q (.bl true) H) : rEqD K (.ref p) (.ref q) H Q := by
  refine ⟨_, _, dp_two h hx hy, dp_two h' hx hy, shaped_two lx ly d0 d1, shaped_two lx ly d0 d1, ?_⟩
  rw [SeqAt.eqv_refl _ (lay_two lx ly)]
  exact k
theorem ne_two (h : H p = some (.tup [x, y])) (h' : H q = some (.tup [x, y])) (hx : Dp K H x dx) (hy : Dp K H y dy) (lx : dx.canLay0 = true) (ly : dy.canLay0 = true) (d0 : dx.depth = 0) (d1 : dy.depth = 0) (k : Q (.bl false) H) : rNeD K (.ref p) (.ref q) H Q := by
  refine ⟨_, _, dp_two h hx hy, dp_two h' hx hy, shaped_two lx ly d0 d1, shaped_two lx ly d0 d1, ?_⟩
  rw [SeqAt.eqv_refl _ (lay_two lx ly)]
  exact k
theorem eq_way {m : Nat} {U : Ups} {g : Bool → Bool} {u v : V} (h : WayO K m U H u) (h' : WayO K m U H v) (k : ∀ H', Same H H' → Q (.bl (g true)) H') : rEqI (ga K "Ways") (sp_Ways_eq K) g u v H Q := by
  obtain ⟨a, dx, t, rfl, ha, ht⟩ := id h
  obtain ⟨b, dy, t', rfl, hb, ht'⟩ := id h'
  exact ⟨a, b, dx, dy, _, _, rfl, rfl, ha, hb, _, _, m, U, rfl, h, h', retV.2 fun H' e => ⟨true, rfl, k H' e⟩⟩
end
/-- the plain law -/
structure Plain (w : World) : Prop where
  ok : ∀ {n m : Nat} {U : Ups}, 2 ≤ n → n ≤ 3 → 1 ≤ m → Good n m U → Few (toldU U m) → BodOk w n (cellsOf U m)
  meets : ∀ {n m : Nat} {U : Ups} {B' : List (List (List Int))}, 2 ≤ n → n ≤ 3 → 1 ≤ m → Good n m U → Paired List.Perm B' (cellsOf U m) → Meets n m B' U
  cu : ∀ {n m : Nat} {U : Ups} {B' : List (List (List Int))}, 2 ≤ n → n ≤ 3 → 1 ≤ m → Good n m U → Paired List.Perm B' (cellsOf U m) → cu n B' n = U
theorem srtU_of {U : Ups} (h : UpsAsc U) : srtU U = U := by
  unfold srtU
  refine (List.map_congr_left fun u hu => ?_).trans (List.map_id U)
  exact (List.map_congr_left fun l hl => srt_of (h u hu l hl)).trans (List.map_id u)
theorem cellsOf_len (U : Ups) (m : Nat) : (cellsOf U m).length = m := by rw [cellsOf, List.length_map, List.length_range]
theorem bodO_x {K : PySem.W.Frag} {n : Nat} {B : List (List (List Int))} {H : Hp} {v : V} (h : BodO K n B H v) : ∃ B', BodX K n B' H v ∧ Paired List.Perm B' B := by
  obtain ⟨x, dx, t, e, hx, B', ht, hp⟩ := h
  exact ⟨B', ⟨x, dx, t, e, hx, ht⟩, hp⟩
theorem bods_small {w : World} {n : Nat} {B B' : List (List (List Int))} (O : BodOk w n B) (hp : Paired List.Perm B' B) : ∀ b ∈ B', b.length ≤ 60 ∧ ∀ c ∈ b, c.length = n := fun b hb => by
  obtain ⟨i, hi⟩ := List.getElem?_of_mem hb
  obtain ⟨b2, h2, hpp⟩ := Paired.at hp hi
  have hm := List.mem_of_getElem? h2
  exact ⟨by rw [hpp.length_eq]; exact O.c60 b2 hm, fun c hc => (O.cell b2 hm c (hpp.mem_iff.1 hc)).1⟩
def sp_case_fine : Sp := fun vs H Q _ => ∃ (b d : Addr) (v : V) (n m : Nat) (U : Ups), vs = [.ref b, v] ∧ BoxAt b d H ∧ WyR m U H v ∧ 2 ≤ n ∧ n ≤ 3 ∧ 1 ≤ m ∧ Good n m U ∧ ∀ H', SameO (BoxO b d) H H' → BoxAt b d H' → Q (.bl true) H'
section
variable {w : World} {K : PySem.W.Frag} {mg : Str → Option Value} {base : Heap}
theorem C__law_case_fine (S : Sc K mg) (PL : Plain w) : Cal prg w K mg base CX0 "_law_case_fine" 10 ["box", "ways"] [] sp_case_fine := by
  have C__law_made := C__law_made (w := w) (base := base) S
  have C__law_counts := C__law_counts (w := w) (base := base) S
  have C__law_heard := C__law_heard (w := w) (base := base) S
  have C_bodies_for := C_bodies_for (w := w) (base := base) S
  have C__law_same := C__law_same (w := w) (base := base) S
  have C__law_cells_ups := C__law_cells_ups (w := w) (base := base) S
  have C_ways_of := C_ways_of (w := w) (base := base) S
  have C_Ways_eq := C_Ways_eq (w := w) (base := base) S
  refine S.cal (d := d__law_case_fine) 36 32 sc__law_case_fine rfl rfl rfl rfl rfl (fun _ _ _ _ _ _ us hl => match us, hl with | [_, _], _ => rfl) (fun vs H Q E h => ?_) (fun f cdv A outer s H vs Q E hr h => ?_)
  · obtain ⟨b, d, v, n, m, U, rfl, _⟩ := h
    rfl
  · obtain ⟨b, d, v, n, m, U, rfl, hb, hW, n2, n3, m1, G, q⟩ := h
    refine ⟨_, (pss_cons (ps_par (i := 2) (j := 3) (by rfl) sc__law_case_fine.nd rfl rfl (by decide) rfl rfl (pa_cons (pe_c C__law_made (hr.mono (by omega)) pass0 (pa_cons (pv 0) (pa_cons (pv 1) pa_nil))) (pa_cons (pe_c C__law_counts (hr.mono (by omega)) pass0 (pa_cons (pv 1) pa_nil)) pa_nil)) (by rfl))
      (pss_cons (ps_if (PW.pt (pw_or (pt_cmpR op_gt (pe_callB (cr_max rfl) (by rfl) (S.free 43) (by decide +kernel) (pa_cons (pv 3) pa_nil)) pe_int (nomark _)) (pw_or1 (pt_cmpR op_gt (pe_callB (cr_sum rfl) (by rfl) (S.free 47) (by decide +kernel) (pa_cons (pv 3) pa_nil)) pe_int (nomark _))))) (pss_one (ps_ret (pe_cmpR (op_eqD hr.units) (pe_c C__law_heard (hr.mono (by omega)) pass0 (pa_cons (pv 2) pa_nil)) (pe_tup (pa_cons pe_str (pa_cons pe_str pa_nil))) (nomark _)))) pss_nil)
      (pss_cons (ps_set (i := 4) sc__law_case_fine.nd rfl (by first | exact Or.inl rfl | exact Or.inr rfl) (pe_c C_bodies_for (hr.mono (by omega)) passL (pa_cons (pv 2) pa_nil)))
      (pss_cons (ps_if (PW.pt (pw_or (pt_not (pt_val (pe_callB call_isi (by rfl) (S.free 40) (by decide +kernel) (pa_cons (pv 4) (pa_cons (pe_gc (S.glo 57)) pa_nil))))) (pw_or (pt_cmpR op_ne (pe_fld (pv 4) rfl) (pe_callB cr_lenA (by rfl) (S.free 41) (by decide +kernel) (pa_cons (pe_ix ix_tup (pv 1) pe_int (fun _ _ => rfl)) pa_nil)) (nomark _)) (pw_or1 (pt_cmpR op_ne (pe_callB cr_lenA (by rfl) (S.free 41) (by decide +kernel) (pa_cons (pe_fld (pv 4) rfl) pa_nil)) (pe_ix ix_tup (pv 1) pe_int (fun _ _ => rfl)) (nomark _)))))) (pss_one (ps_ret pe_bl)) pss_nil)
      (pss_one (ps_ret (pe_and (pe_c C__law_same (hr.mono (by omega)) pass0 (pa_cons (pe_c C__law_cells_ups (hr.mono (by omega)) pass0 (pa_cons (pe_fld (pv 4) rfl) (pa_cons (pe_fld (pv 4) rfl) pa_nil))) (pa_cons (pe_ix ix_tup (pv 1) pe_int (fun _ _ => rfl)) pa_nil))) (pe_one (pe_cmpR (op_eqC C_Ways_eq pass0 (hr.mono (by omega))) (pe_c C_ways_of (hr.mono (by omega)) pass0 (pa_cons (pv 4) pa_nil)) (pv 2) (nomark _)))))))))), ?_⟩
    try simp only [wipe, tC, tVar, tChain, rI0, rI, rU, tOp, tUn, tCall, tAnd, tOr, tNot, tNotV, tAndV, tOrV, tTest, tB, tIf, tIfS, tRet, tRetN, tNext, tSeq, tNil, tCons, tAug, ipI, tPar, tAsg, gName, tDrop, tLst, tTup, tCB, tBM, tBM0, tFld_eq, tMkE, tMake, tAugS, gSub, rEq, rAll, rMax, rSum, rAppend, rExtend, rSetL, _root_.L2.start, List.map_cons, List.map_nil, List.length_cons, List.length_nil, List.replicate_succ, List.replicate_zero, List.cons_append, List.nil_append, List.append_nil, List.getElem?_cons_zero, List.getElem?_cons_succ, List.set_cons_zero, List.set_cons_succ, Nat.reduceAdd, Nat.reduceSub, V.int.injEq, V.bl.injEq, V.ref.injEq, V.str.injEq, exists_eq, exists_eq', exists_eq_left, exists_eq_left', exists_and_left, exists_and_right, Option.some.injEq, List.cons.injEq, and_true, true_and, and_assoc, retV, true_or, or_true, decide_eq_true_eq, if_true, if_false, Bool.false_eq_true, Bool.not_true, Bool.not_false, Bool.not_eq_true', reduceCtorEq, eq_self, decide_true, decide_false, List.length_map, exists_const, false_and, and_false, or_false, false_or, ↓reduceIte]
    refine ⟨b, d, v, m, U, rfl, hb, hW, m1, G.ok, fun mv H1 e1 b1 hmade => ?_⟩
    rw [srtU_of G.asc] at hmade
    have hW1 := wyR_tk e1.2.1 hW
    refine ⟨v, m, U, rfl, hW1, m1, G.ok, fun p H2 e2 hp => ?_⟩
    have hmade2 := same_way e2 hmade
    have hW2 := wyR_tk (.of e2) hW1
    try simp only [wipe, tC, tVar, tChain, rI0, rI, rU, tOp, tUn, tCall, tAnd, tOr, tNot, tNotV, tAndV, tOrV, tTest, tB, tIf, tIfS, tRet, tRetN, tNext, tSeq, tNil, tCons, tAug, ipI, tPar, tAsg, gName, tDrop, tLst, tTup, tCB, tBM, tBM0, tFld_eq, tMkE, tMake, tAugS, gSub, rEq, rAll, rMax, rSum, rAppend, rExtend, rSetL, _root_.L2.start, List.map_cons, List.map_nil, List.length_cons, List.length_nil, List.replicate_succ, List.replicate_zero, List.cons_append, List.nil_append, List.append_nil, List.getElem?_cons_zero, List.getElem?_cons_succ, List.set_cons_zero, List.set_cons_succ, Nat.reduceAdd, Nat.reduceSub, V.int.injEq, V.bl.injEq, V.ref.injEq, V.str.injEq, exists_eq, exists_eq', exists_eq_left, exists_eq_left', exists_and_left, exists_and_right, Option.some.injEq, List.cons.injEq, and_true, true_and, and_assoc, retV, true_or, or_true, decide_eq_true_eq, if_true, if_false, Bool.false_eq_true, Bool.not_true, Bool.not_false, Bool.not_eq_true', reduceCtorEq, eq_self, decide_true, decide_false, List.length_map, exists_const, false_and, and_false, or_false, false_or, ↓reduceIte]
    obtain rfl := G.len
    have hU : ¬(U.length = 1 ∨ 3 < U.length) := by omega
    have e02 : SameO (BoxO b d) H H2 := e1.trans (.of e2)
    have b2 := b1.same e2
    have big : ∀ (hf : ¬Few (toldU U m)) {K' : PySem.W.Frag}, sp_heard w K [mv] H2 (fun x H1 => 2 ≤ sizeLine ∧ ∀ p, H1 p = none → rEqD K' x (.ref p) (upd H1 p (.tup [.str "size", .str "cells"])) Q) E0 := fun hf K' =>
      ⟨mv, rfl, .inr ⟨m, U, hmade2, G.ok, m1, fun z => absurd z hU, fun _ => ⟨fun _ p3 H3 e3 hp3 => ⟨by decide, fun p4 np4 => by
        have e4 := same_new (o := .tup [.str "size", .str "cells"]) np4
        exact eq_two (e4 _ _ hp3) upd_same (.str _) (.str _) (by decide +kernel) (by decide +kernel) rfl rfl (q _ (e02.trans (.of (e3.trans e4))) (b2.same (e3.trans e4)))⟩, fun hF => absurd hF hf⟩⟩⟩
    refine ⟨toldU U m, sqL_of hp, by simp [toldU, toldL, cntL]; omega, fun M hM hle => ?_⟩
    by_cases hf : Few (toldU U m)
    · rw [if_neg (by have := hf.1 M hM; omega)]
      refine ⟨toldU U m, sqL_of hp, ?_⟩
      rw [if_neg (by have := hf.2; omega)]
      have OB := PL.ok n2 n3 m1 G hf
      refine ⟨mv, rfl, .inr ⟨m, U, hmade2, G.ok, m1, fun z => absurd z hU, fun _ => ⟨fun hn => absurd hf hn, fun _ => ⟨OB, fun bv H3 e3 hbv => ?_⟩⟩⟩⟩
      have hW3 := wyR_tk (.of e3) hW2
      have hmade3 := same_way e3 hmade2
      obtain ⟨tv, u, rfl, htv, ua, us, rfl, hua, hup⟩ := id hW3
      have lus : us.length = U.length := Paired.len hup
      obtain ⟨B', hX, hperm⟩ := bodO_x hbv
      have lB : B'.length = m := by rw [Paired.len hperm, cellsOf_len]
      have hB := bods_small OB hperm
      refine isi_bod S hbv ?_
      try simp only [wipe, tC, tVar, tChain, rI0, rI, rU, tOp, tUn, tCall, tAnd, tOr, tNot, tNotV, tAndV, tOrV, tTest, tB, tIf, tIfS, tRet, tRetN, tNext, tSeq, tNil, tCons, tAug, ipI, tPar, tAsg, gName, tDrop, tLst, tTup, tCB, tBM, tBM0, tFld_eq, tMkE, tMake, tAugS, gSub, rEq, rAll, rMax, rSum, rAppend, rExtend, rSetL, _root_.L2.start, List.map_cons, List.map_nil, List.length_cons, List.length_nil, List.replicate_succ, List.replicate_zero, List.cons_append, List.nil_append, List.append_nil, List.getElem?_cons_zero, List.getElem?_cons_succ, List.set_cons_zero, List.set_cons_succ, Nat.reduceAdd, Nat.reduceSub, V.int.injEq, V.bl.injEq, V.ref.injEq, V.str.injEq, exists_eq, exists_eq', exists_eq_left, exists_eq_left', exists_and_left, exists_and_right, Option.some.injEq, List.cons.injEq, and_true, true_and, and_assoc, retV, true_or, or_true, decide_eq_true_eq, if_true, if_false, Bool.false_eq_true, Bool.not_true, Bool.not_false, Bool.not_eq_true', reduceCtorEq, eq_self, decide_true, decide_false, List.length_map, exists_const, false_and, and_false, or_false, false_or, ↓reduceIte]
      refine bod_axes S hbv (ixt_at htv (b := 1) rfl (len_sq (.inr hua) ?_))
      try simp only [wipe, tC, tVar, tChain, rI0, rI, rU, tOp, tUn, tCall, tAnd, tOr, tNot, tNotV, tAndV, tOrV, tTest, tB, tIf, tIfS, tRet, tRetN, tNext, tSeq, tNil, tCons, tAug, ipI, tPar, tAsg, gName, tDrop, tLst, tTup, tCB, tBM, tBM0, tFld_eq, tMkE, tMake, tAugS, gSub, rEq, rAll, rMax, rSum, rAppend, rExtend, rSetL, _root_.L2.start, List.map_cons, List.map_nil, List.length_cons, List.length_nil, List.replicate_succ, List.replicate_zero, List.cons_append, List.nil_append, List.append_nil, List.getElem?_cons_zero, List.getElem?_cons_succ, List.set_cons_zero, List.set_cons_succ, Nat.reduceAdd, Nat.reduceSub, V.int.injEq, V.bl.injEq, V.ref.injEq, V.str.injEq, exists_eq, exists_eq', exists_eq_left, exists_eq_left', exists_and_left, exists_and_right, Option.some.injEq, List.cons.injEq, and_true, true_and, and_assoc, retV, true_or, or_true, decide_eq_true_eq, if_true, if_false, Bool.false_eq_true, Bool.not_true, Bool.not_false, Bool.not_eq_true', reduceCtorEq, eq_self, decide_true, decide_false, List.length_map, exists_const, false_and, and_false, or_false, false_or, rNe, scal, ↓reduceIte]
      rw [if_neg (by simp [lus])]
      refine bod_bodies S hbv fun t2 ht2 => ?_
      obtain ⟨B2, ⟨ta, bs, rfl, hta, hbp⟩, hperm2⟩ := ht2
      refine len_sq (.inr hta) (ixt_at htv (b := 0) rfl ?_)
      try simp only [wipe, tC, tVar, tChain, rI0, rI, rU, tOp, tUn, tCall, tAnd, tOr, tNot, tNotV, tAndV, tOrV, tTest, tB, tIf, tIfS, tRet, tRetN, tNext, tSeq, tNil, tCons, tAug, ipI, tPar, tAsg, gName, tDrop, tLst, tTup, tCB, tBM, tBM0, tFld_eq, tMkE, tMake, tAugS, gSub, rEq, rAll, rMax, rSum, rAppend, rExtend, rSetL, _root_.L2.start, List.map_cons, List.map_nil, List.length_cons, List.length_nil, List.replicate_succ, List.replicate_zero, List.cons_append, List.nil_append, List.append_nil, List.getElem?_cons_zero, List.getElem?_cons_succ, List.set_cons_zero, List.set_cons_succ, Nat.reduceAdd, Nat.reduceSub, V.int.injEq, V.bl.injEq, V.ref.injEq, V.str.injEq, exists_eq, exists_eq', exists_eq_left, exists_eq_left', exists_and_left, exists_and_right, Option.some.injEq, List.cons.injEq, and_true, true_and, and_assoc, retV, true_or, or_true, decide_eq_true_eq, if_true, if_false, Bool.false_eq_true, Bool.not_true, Bool.not_false, Bool.not_eq_true', reduceCtorEq, eq_self, decide_true, decide_false, List.length_map, exists_const, false_and, and_false, or_false, false_or, rNe, scal, ↓reduceIte]
      have lbs : bs.length = m := by rw [Paired.len hbp, Paired.len hperm2, cellsOf_len]
      rw [if_neg (by simp [lbs])]
      obtain ⟨xb, xdx, xt, rfl, hxb, hxt⟩ := hX
      refine bod_axes S hbv ?_
      refine fld_at hxb (S.cls 58) (S.noat 64) rfl ?_
      refine ⟨U.length, xt, B', rfl, hxt, n3, by rw [lB]; exact G.ok.2.2.1, hB, fun cv H4 e4 hcv => ?_⟩
      refine ixt_at (e4 _ _ htv) (b := 1) rfl ?_
      rw [PL.cu n2 n3 m1 G hperm] at hcv
      refine ⟨cv, .ref ua, U, rfl, hcv, ⟨ua, us, rfl, e4 _ _ hua, (famT_tp (famT_tp famT_in)).p (.of e4) hup⟩, okU_of G.ok, retV.2 fun H5 e5 => ?_⟩
      try simp only [wipe, tC, tVar, tChain, rI0, rI, rU, tOp, tUn, tCall, tAnd, tOr, tNot, tNotV, tAndV, tOrV, tTest, tB, tIf, tIfS, tRet, tRetN, tNext, tSeq, tNil, tCons, tAug, ipI, tPar, tAsg, gName, tDrop, tLst, tTup, tCB, tBM, tBM0, tFld_eq, tMkE, tMake, tAugS, gSub, rEq, rAll, rMax, rSum, rAppend, rExtend, rSetL, _root_.L2.start, List.map_cons, List.map_nil, List.length_cons, List.length_nil, List.replicate_succ, List.replicate_zero, List.cons_append, List.nil_append, List.append_nil, List.getElem?_cons_zero, List.getElem?_cons_succ, List.set_cons_zero, List.set_cons_succ, Nat.reduceAdd, Nat.reduceSub, V.int.injEq, V.bl.injEq, V.ref.injEq, V.str.injEq, exists_eq, exists_eq', exists_eq_left, exists_eq_left', exists_and_left, exists_and_right, Option.some.injEq, List.cons.injEq, and_true, true_and, and_assoc, retV, true_or, or_true, decide_eq_true_eq, if_true, if_false, Bool.false_eq_true, Bool.not_true, Bool.not_false, Bool.not_eq_true', reduceCtorEq, eq_self, decide_true, decide_false, List.length_map, exists_const, false_and, and_false, or_false, false_or, ↓reduceIte]
      have e35 := e4.trans e5
      have hX5 : BodX K U.length B' H5 (.ref xb) := ⟨xb, xdx, xt, rfl, e35 _ _ hxb, (famT_tp (famT_tp (famT_tp famT_in))).tk (.of e35) hxt⟩
      refine ⟨.ref xb, U.length, B', U, rfl, hX5, n3, by rw [lB]; exact m1, by rw [lB]; exact G.ok.2.2.1, hB, by rw [lB]; exact G.ok, G.asc, by rw [lB]; exact PL.meets n2 n3 m1 G hperm, fun v6 H6 e6 hv6 => ?_⟩
      rw [lB] at hv6
      refine eq_way hv6 (same_way (e35.trans e6) hmade3) fun H7 e7 => ?_
      have e37 := e3.trans (e35.trans (e6.trans e7))
      exact q _ (e02.trans (.of e37)) (b2.same e37)
    · by_cases h60 : 60 < M
      · rw [if_pos h60]
        exact big hf
      · rw [if_neg h60]
        refine ⟨toldU U m, sqL_of hp, ?_⟩
        have h400 : 400 < (toldU U m).sum := by
          refine Int.not_le.1 fun z => hf ⟨fun x hx => ?_, z⟩
          have := hle x hx
          omega
        rw [if_pos h400]
        exact big hf
end
end K76
set_option Elab.async false
set_option linter.all false
set_option maxRecDepth 100000
set_option maxHeartbeats 4000000
/-! k76: the plain law: where the cells lie -/
namespace K76
open PySem PySem.Spec PyProof.Rows L2 He HK
theorem even_get {n : Nat} {z : Int} {t : Nat} (h : t < n) : (evenC n z).getD t 0 = z := by simp [evenC, List.getD, List.getElem?_replicate, h]
theorem shift_get {n : Nat} {a z : Int} {t : Nat} (h : t < n) : (shiftC n a z).getD t 0 = if (t : Int) = a then z + 1 else z := by simp [shiftC, List.getD, h]
theorem even_len (n : Nat) (z : Int) : (evenC n z).length = n := List.length_replicate
theorem shift_len (n : Nat) (a z : Int) : (shiftC n a z).length = n := by rw [shiftC, List.length_map, List.length_range]
/-- the k-th pair, as naturals -/
def PairAt (U : Ups) (m k a x o : Nat) : Prop := (prs U m)[k]? = some [(a : Int), (x : Int), (o : Int)]
theorem pair_ok {m : Nat} {U : Ups} (O : UpsOk m U) {k : Nat} (h : k < (prs U m).length) : ∃ a x o, PairAt U m k a x o ∧ a < U.length ∧ x < m ∧ o < m ∧ x ≠ o ∧ (o : Int) ∈ lotAt U a x := by
  obtain ⟨p, hp⟩ := getI (xs := prs U m) h
  obtain ⟨a, x, o, rfl, h1, h2, h3, h4, h5⟩ := prs_mem O (List.mem_of_getElem? hp)
  exact ⟨a, x, o, hp, h1, h2, h3, h4, h5⟩
theorem PairAt.ok {m : Nat} {U : Ups} (O : UpsOk m U) {k a x o : Nat} (h : PairAt U m k a x o) : k < (prs U m).length ∧ a < U.length ∧ x < m ∧ o < m ∧ x ≠ o ∧ (o : Int) ∈ lotAt U a x := by
  have hk := (List.getElem?_eq_some_iff.1 h).1
  obtain ⟨a', x', o', h', h1, h2, h3, h4, h5⟩ := pair_ok O hk
  unfold PairAt at h h'
  rw [h] at h'
  have e := Option.some.inj h'
  simp only [List.cons.injEq, and_true] at e
  obtain ⟨e1, e2, e3⟩ := e
  obtain rfl : a = a' := by omega
  obtain rfl : x = x' := by omega
  obtain rfl : o = o' := by omega
  exact ⟨hk, h1, h2, h3, h4, h5⟩
theorem pair_of {m : Nat} {U : Ups} (O : UpsOk m U) {a x o : Nat} (ha : a < U.length) (hx : x < m) (ho : (o : Int) ∈ lotAt U a x) : ∃ k, PairAt U m k a x o := by
  have : [(a : Int), (x : Int), (o : Int)] ∈ prs U m := by
    simp only [prs, prsTo, prsB, List.mem_flatMap, List.mem_range, List.mem_map]
    exact ⟨a, ha, x, hx, o, ho, rfl⟩
  obtain ⟨k, hk⟩ := List.getElem?_of_mem this
  exact ⟨k, hk⟩
theorem mem_part {m n : Nat} {U : Ups} (O : UpsOk m U) {b : Nat} {c : List Int} : c ∈ part n (prs U m) b ↔ ∃ k a x o, PairAt U m k a x o ∧ ((o = b ∧ c = shiftC n a (2 * (k : Int))) ∨ (x = b ∧ c = evenC n (2 * (k : Int)))) := by
  unfold part partTo
  rw [List.mem_flatMap]
  constructor
  · rintro ⟨k, hk, hc⟩
    rw [List.mem_range] at hk
    obtain ⟨a, x, o, hp, h1, h2, h3, h4, h5⟩ := pair_ok O hk
    have e : (prs U m).getD k [] = [(a : Int), (x : Int), (o : Int)] := by simp only [List.getD, show (prs U m)[k]? = _ from hp, Option.getD_some]
    rw [e, pcell_of _ _ _ _ _ _ h4] at hc
    refine ⟨k, a, x, o, hp, ?_⟩
    by_cases e1 : b = o
    · rw [if_pos e1, List.mem_singleton] at hc
      exact .inl ⟨e1.symm, hc⟩
    · rw [if_neg e1] at hc
      by_cases e2 : b = x
      · rw [if_pos e2, List.mem_singleton] at hc
        exact .inr ⟨e2.symm, hc⟩
      · rw [if_neg e2] at hc
        exact absurd hc List.not_mem_nil
  · rintro ⟨k, a, x, o, hp, hc⟩
    obtain ⟨hk, _, _, _, h4, _⟩ := hp.ok O
    refine ⟨k, List.mem_range.2 hk, ?_⟩
    have e : (prs U m).getD k [] = [(a : Int), (x : Int), (o : Int)] := by simp only [List.getD, show (prs U m)[k]? = _ from hp, Option.getD_some]
    rw [e, pcell_of _ _ _ _ _ _ h4]
    rcases hc with ⟨rfl, rfl⟩ | ⟨rfl, rfl⟩
    · rw [if_pos rfl]
      exact List.mem_singleton.2 rfl
    · rw [if_neg h4, if_pos rfl]
      exact List.mem_singleton.2 rfl
theorem mem_fin {n : Nat} {P : List (List Int)} {b : Nat} {c : List Int} : c ∈ finC n P b ↔ c ∈ part n P b ∨ (part n P b = [] ∧ c = evenC n (2 * (P.length : Int) + (loneTo n P b : Int))) := by
  unfold finC
  by_cases h : part n P b = []
  · rw [if_pos h, h, List.mem_singleton]
    exact ⟨fun z => .inr ⟨rfl, z⟩, fun z => z.elim (fun z => absurd z List.not_mem_nil) fun z => z.2⟩
  · rw [if_neg h]
    exact ⟨.inl, fun z => z.elim id fun z => absurd z.1 h⟩
theorem loneTo_lt {n : Nat} {P : List (List Int)} {b o : Nat} (h : part n P b = []) (hbo : b < o) : loneTo n P b < loneTo n P o := by
  have mono : ∀ x y, x ≤ y → loneTo n P x ≤ loneTo n P y := fun x y hxy => by
    unfold loneTo
    have : (List.range y) = List.range x ++ (List.range y).drop x := by
      conv => lhs; rw [← List.take_append_drop x (List.range y)]
      rw [List.take_range, Nat.min_eq_left hxy]
    rw [this, List.countP_append]
    omega
  have h1 : loneTo n P (b + 1) = loneTo n P b + 1 := by
    unfold loneTo
    rw [List.range_succ, List.countP_append, List.countP_singleton, if_pos (decide_eq_true h)]
  have := mono (b + 1) o hbo
  omega
/-- a cell's places: of pair k, or of a lone one -/
theorem part_places {m n : Nat} {U : Ups} (O : UpsOk m U) {b : Nat} {c : List Int} {k a x o : Nat} (hc : (o = b ∧ c = shiftC n a (2 * (k : Int))) ∨ (x = b ∧ c = evenC n (2 * (k : Int)))) {t : Nat} (ht : t < n) : 2 * (k : Int) ≤ c.getD t 0 ∧ c.getD t 0 ≤ 2 * (k : Int) + 1 := by
  rcases hc with ⟨_, rfl⟩ | ⟨_, rfl⟩
  · rw [shift_get ht]
    split <;> omega
  · rw [even_get ht]
    omega
theorem bel_iff {m n : Nat} {U : Ups} (O : UpsOk m U) (hn : U.length = n) (n2 : 2 ≤ n) {a b o : Nat} (ha : a < n) (hb : b < m) (hbo : b ≠ o) :
    (∃ c ∈ finC n (prs U m) b, ∃ d ∈ finC n (prs U m) o, c.getD a 0 < d.getD a 0 ∧ ∀ t, t < n → t ≠ a → d.getD t 0 = c.getD t 0) ↔ (o : Int) ∈ lotAt U a b := by
  obtain ⟨t, ht, hta⟩ : ∃ t, t < n ∧ t ≠ a := by
    by_cases h : a = 0
    · exact ⟨1, by omega, by omega⟩
    · exact ⟨0, by omega, by omega⟩
  constructor
  · rintro ⟨c, hc, d, hd, hlt, heq⟩
    have e := heq t ht hta
    rw [mem_fin] at hc hd
    rcases hc with hc | ⟨hc0, rfl⟩ <;> rcases hd with hd | ⟨hd0, rfl⟩
    · rw [mem_part O] at hc hd
      obtain ⟨k, a1, x1, o1, hp, hc⟩ := hc
      obtain ⟨k', a2, x2, o2, hp', hd⟩ := hd
      have p1 := part_places O hc ht
      have p2 := part_places O hd ht
      have hk : k = k' := by omega
      subst hk
      have e2 : [(a1 : Int), (x1 : Int), (o1 : Int)] = [(a2 : Int), (x2 : Int), (o2 : Int)] := Option.some.inj ((show (prs U m)[k]? = _ from hp).symm.trans hp')
      simp only [List.cons.injEq, and_true] at e2
      obtain ⟨f1, f2, f3⟩ := e2
      obtain rfl : a1 = a2 := by omega
      obtain rfl : x1 = x2 := by omega
      obtain rfl : o1 = o2 := by omega
      obtain ⟨_, _, _, _, _, hin⟩ := hp.ok O
      rcases hc with ⟨g1, rfl⟩ | ⟨g1, rfl⟩ <;> rcases hd with ⟨g2, rfl⟩ | ⟨g2, rfl⟩
      · omega
      · rw [shift_get ha, even_get ha] at hlt
        split at hlt <;> omega
      · rw [shift_get ha, even_get ha] at hlt
        split at hlt
        · rename_i h
          obtain rfl : a = a1 := by omega
          rw [← g1, ← g2]
          exact hin
        · omega
      · omega
    · exfalso
      rw [mem_part O] at hc
      obtain ⟨k, a1, x1, o1, hp, hc⟩ := hc
      have p1 := part_places O hc ht
      have hk := (hp.ok O).1
      rw [even_get ht] at e
      omega
    · exfalso
      rw [mem_part O] at hd
      obtain ⟨k, a1, x1, o1, hp, hd⟩ := hd
      have p1 := part_places O hd ht
      have hk := (hp.ok O).1
      rw [even_get ht] at e
      omega
    · exfalso
      rw [even_get ht, even_get ht] at e
      rcases Nat.lt_or_gt_of_ne hbo with h | h
      · have := loneTo_lt hc0 h
        omega
      · have := loneTo_lt hd0 h
        omega
  · intro h
    obtain ⟨k, hp⟩ := pair_of O (by omega : a < U.length) hb h
    refine ⟨evenC n (2 * (k : Int)), mem_fin.2 (.inl ((mem_part O).2 ⟨k, a, b, o, hp, .inr ⟨rfl, rfl⟩⟩)), shiftC n a (2 * (k : Int)), mem_fin.2 (.inl ((mem_part O).2 ⟨k, a, b, o, hp, .inl ⟨rfl, rfl⟩⟩)), ?_, fun t ht hta => ?_⟩
    · rw [even_get ha, shift_get ha, if_pos rfl]
      omega
    · rw [even_get ht, shift_get ht, if_neg (by omega)]
end K76
set_option Elab.async false
set_option linter.all false
set_option maxRecDepth 100000
set_option maxHeartbeats 4000000
/-! k76: the plain law: lengths, cells apart, meets, cu -/
namespace K76
open PySem PySem.Spec PyProof.Rows L2 He HK
theorem part_len (n : Nat) (P : List (List Int)) (b : Nat) : (part n P b).length = cntOf (P.map List.tail) b := by
  have gt : ∀ (p : List Int) (i : Nat), p.tail.getD i (-1) = p.getD (i + 1) (-1) := fun p i => by cases p <;> simp [List.getD]
  have : ∀ i, i ≤ P.length → (partTo n P i b).length = cntOf ((P.take i).map List.tail) b := fun i => by
    induction i with
    | zero => exact fun _ => rfl
    | succ i ih =>
      intro hi
      obtain ⟨p, hp⟩ := getI (xs := P) (i := i) (by omega)
      have e : P.getD i [] = p := by simp only [List.getD, hp, Option.getD_some]
      rw [partTo_succ, List.length_append, ih (by omega), e, List.take_succ, hp, Option.toList_some, List.map_append]
      unfold cntOf pcell
      rw [List.countP_append, List.countP_append, List.length_append, List.map_cons, List.map_nil, List.countP_singleton, List.countP_singleton, gt, gt]
      simp only [decide_eq_true_eq]
      split <;> split <;> simp <;> omega
  have h := this P.length (Nat.le_refl _)
  rw [List.take_length] at h
  exact h
theorem fin_len (n : Nat) (P : List (List Int)) (b : Nat) : ((finC n P b).length : Int) = atLeast1 (cntOf (P.map List.tail) b : Int) := by
  rw [← part_len n P b]
  unfold finC atLeast1
  by_cases h : part n P b = []
  · rw [if_pos h, h]
    rfl
  · rw [if_neg h]
    have : (part n P b).length ≠ 0 := fun z => h (List.length_eq_zero_iff.1 z)
    split <;> omega
theorem fin_lens (U : Ups) (m : Nat) : (cellsOf U m).map (fun b => (b.length : Int)) = toldU U m := by
  unfold cellsOf toldU toldL cntL pairsOf
  rw [List.map_map, List.map_map]
  exact List.map_congr_left fun b _ => fin_len _ _ b
theorem sum_lens : ∀ (B : List (List (List Int))), (B.flatten.length : Int) = (B.map fun b => (b.length : Int)).sum
  | [] => rfl
  | b :: B => by
    rw [List.flatten_cons, List.length_append, List.map_cons, List.sum_cons, ← sum_lens B]
    omega
theorem ind_sum (x : Nat) : ∀ m, ((List.range m).map fun k => if x = k then 1 else 0).sum = if x < m then 1 else 0
  | 0 => rfl
  | m + 1 => by
    rw [List.range_succ, List.map_append, List.sum_append, ind_sum x m]
    simp only [List.map_cons, List.map_nil, List.sum_cons, List.sum_nil]
    split <;> split <;> split <;> omega
theorem add_sum {α : Type} (f g : α → Nat) : ∀ l : List α, (l.map fun k => f k + g k).sum = (l.map f).sum + (l.map g).sum
  | [] => rfl
  | x :: l => by
    simp only [List.map_cons, List.sum_cons, add_sum f g l]
    omega
theorem cnt_sum (m : Nat) : ∀ ps : List (List Int), (∀ p ∈ ps, ∃ b o : Nat, p = [(b : Int), (o : Int)] ∧ b < m ∧ o < m) → ((List.range m).map (cntOf ps)).sum = 2 * ps.length
  | [], _ => by
    have : (List.range m).map (cntOf []) = (List.range m).map fun _ => 0 := List.map_congr_left fun _ _ => rfl
    rw [this]
    induction m with
    | zero => rfl
    | succ m ih =>
      rw [List.range_succ, List.map_append, List.sum_append, ih (fun _ h => absurd h List.not_mem_nil) (List.map_congr_left fun _ _ => rfl)]
      rfl
  | p :: ps, h => by
    obtain ⟨b, o, rfl, hb, ho⟩ := h p List.mem_cons_self
    have ih := cnt_sum m ps fun q hq => h q (List.mem_cons_of_mem _ hq)
    have e : (List.range m).map (cntOf ([(b : Int), (o : Int)] :: ps)) = (List.range m).map fun k => cntOf ps k + ((if b = k then 1 else 0) + if o = k then 1 else 0) := List.map_congr_left fun k _ => by
      unfold cntOf
      rw [List.countP_cons, List.countP_cons]
      have e1 : (([(b : Int), (o : Int)] : List Int).getD 0 (-1) = (k : Int)) = (b = k) := by simp; omega
      have e2 : (([(b : Int), (o : Int)] : List Int).getD 1 (-1) = (k : Int)) = (o = k) := by simp; omega
      simp only [e1, e2, decide_eq_true_eq]
      omega
    rw [e, add_sum, add_sum, ih, ind_sum, ind_sum, if_pos hb, if_pos ho, List.length_cons]
    omega
theorem atL_le (c : Int) : c ≤ atLeast1 c := by unfold atLeast1; split <;> omega
theorem sum_atL : ∀ l : List Nat, (l.sum : Int) ≤ (l.map fun (k : Nat) => atLeast1 (k : Int)).sum
  | [] => Int.le_refl _
  | x :: l => by
    rw [List.map_cons, List.sum_cons, List.sum_cons]
    have := sum_atL l
    have := atL_le (x : Int)
    omega
theorem few_prs {m : Nat} {U : Ups} (O : UpsOk m U) (F : Few (toldU U m)) : (prs U m).length ≤ 200 := by
  have h1 := cnt_sum m (pairsOf U m) fun p hp => by
    obtain ⟨q, hq, rfl⟩ := List.mem_map.1 hp
    obtain ⟨a, b, o, rfl, _, hb, ho, _⟩ := prs_mem O hq
    exact ⟨b, o, rfl, hb, ho⟩
  have h2 := sum_atL ((List.range m).map (cntOf (pairsOf U m)))
  rw [List.map_map, h1, pairsOf, List.length_map] at h2
  have h3 := F.2
  unfold toldU toldL cntL pairsOf at h3
  rw [List.map_map] at h3
  have h4 : (((List.range m).map ((fun (k : Nat) => atLeast1 (k : Int)) ∘ cntOf ((prs U m).map List.tail))).sum : Int) ≤ 400 := h3
  omega
/-- where a body's cells lie -/
theorem fin_at {m n : Nat} {U : Ups} (O : UpsOk m U) {b : Nat} (hb : b < m) (n1 : 1 ≤ n) {c : List Int} (hc : c ∈ finC n (prs U m) b) : c.length = n ∧ ∀ x ∈ c, 0 ≤ x ∧ x ≤ 2 * ((prs U m).length : Int) + m := by
  rcases mem_fin.1 hc with h | ⟨h0, rfl⟩
  · obtain ⟨k, a, x, o, hp, h⟩ := (mem_part O).1 h
    have hk := (hp.ok O).1
    have hl : c.length = n := by
      rcases h with ⟨_, rfl⟩ | ⟨_, rfl⟩
      · exact shift_len _ _ _
      · exact even_len _ _
    refine ⟨hl, fun x hx => ?_⟩
    obtain ⟨t, ht⟩ := List.getElem?_of_mem hx
    have htn : t < n := by rw [← hl]; exact (List.getElem?_eq_some_iff.1 ht).1
    have := part_places O h htn
    have e : c.getD t 0 = x := by simp only [List.getD, ht, Option.getD_some]
    rw [e] at this
    omega
  · refine ⟨even_len _ _, fun x hx => ?_⟩
    have e := (List.mem_replicate.1 hx).2
    have : loneTo n (prs U m) b ≤ b := by
      unfold loneTo
      exact Nat.le_trans List.countP_le_length (by rw [List.length_range]; exact Nat.le_refl _)
    omega
theorem fin_ne {n : Nat} {P : List (List Int)} {b : Nat} : finC n P b ≠ [] := by
  unfold finC
  split
  · exact fun z => nomatch z
  · assumption
/-- two bodies have no cell in common -/
theorem fin_apart {m n : Nat} {U : Ups} (O : UpsOk m U) (hn : U.length = n) (n1 : 1 ≤ n) {b o : Nat} (hbo : b ≠ o) {c : List Int} (hb : c ∈ finC n (prs U m) b) (ho : c ∈ finC n (prs U m) o) : False := by
  have h0 : 0 < n := n1
  rcases mem_fin.1 hb with hb | ⟨hb0, hb⟩ <;> rcases mem_fin.1 ho with ho | ⟨ho0, ho⟩
  · obtain ⟨k, a, x, o1, hp, hb⟩ := (mem_part O).1 hb
    obtain ⟨k', a', x', o', hp', ho⟩ := (mem_part O).1 ho
    have p1 := part_places O hb h0
    have p2 := part_places O ho h0
    have hk : k = k' := by omega
    subst hk
    have e2 : [(a : Int), (x : Int), (o1 : Int)] = [(a' : Int), (x' : Int), (o' : Int)] := Option.some.inj ((show (prs U m)[k]? = _ from hp).symm.trans hp')
    simp only [List.cons.injEq, and_true] at e2
    obtain ⟨f1, f2, f3⟩ := e2
    obtain rfl : a = a' := by omega
    obtain rfl : x = x' := by omega
    obtain rfl : o1 = o' := by omega
    have ha : a < n := by rw [← hn]; exact (hp.ok O).2.1
    have key : shiftC n a (2 * (k : Int)) ≠ evenC n (2 * (k : Int)) := fun z => by
      have := congrArg (fun c => c.getD a 0) z
      simp only [shift_get ha, even_get ha, if_pos] at this
      omega
    rcases hb with ⟨g1, e1⟩ | ⟨g1, e1⟩ <;> rcases ho with ⟨g2, e2⟩ | ⟨g2, e2⟩
    · omega
    · exact key (e1.symm.trans e2)
    · exact key (e2.symm.trans e1)
    · omega
  · obtain ⟨k, a, x, o1, hp, hb⟩ := (mem_part O).1 hb
    have p1 := part_places O hb h0
    have hk := (hp.ok O).1
    rw [ho, even_get h0] at p1
    omega
  · obtain ⟨k, a, x, o1, hp, ho⟩ := (mem_part O).1 ho
    have p1 := part_places O ho h0
    have hk := (hp.ok O).1
    rw [hb, even_get h0] at p1
    omega
  · have e := congrArg (fun c => c.getD 0 0) (hb.symm.trans ho)
    simp only [even_get h0] at e
    rcases Nat.lt_or_gt_of_ne hbo with h | h
    · have := loneTo_lt hb0 h
      omega
    · have := loneTo_lt ho0 h
      omega
theorem fin_nodup {m n : Nat} {U : Ups} (O : UpsOk m U) (n1 : 1 ≤ n) (b : Nat) : (finC n (prs U m) b).Nodup := by
  unfold finC
  split
  · exact List.pairwise_singleton _ _
  · unfold part partTo
    refine List.pairwise_flatMap.2 ⟨fun k hk => ?_, ?_⟩
    · obtain ⟨a, x, o, hp, _, _, _, h4, _⟩ := pair_ok O (List.mem_range.1 hk)
      have e : (prs U m).getD k [] = [(a : Int), (x : Int), (o : Int)] := by simp only [List.getD, show (prs U m)[k]? = _ from hp, Option.getD_some]
      rw [e, pcell_of _ _ _ _ _ _ h4]
      split
      · exact List.pairwise_singleton _ _
      · split
        · exact List.pairwise_singleton _ _
        · exact .nil
    · refine (List.pairwise_lt_range).imp_of_mem fun {k k'} hk hk' hlt c hc d hd => ?_
      rintro rfl
      have at_ : ∀ {k : Nat}, k ∈ List.range (prs U m).length → c ∈ pcell n ((prs U m).getD k []) k b → 2 * (k : Int) ≤ c.getD 0 0 ∧ c.getD 0 0 ≤ 2 * (k : Int) + 1 := fun {k} hk hc => by
        obtain ⟨a, x, o, hp, _, _, _, h4, _⟩ := pair_ok O (List.mem_range.1 hk)
        have e : (prs U m).getD k [] = [(a : Int), (x : Int), (o : Int)] := by simp only [List.getD, show (prs U m)[k]? = _ from hp, Option.getD_some]
        rw [e, pcell_of _ _ _ _ _ _ h4] at hc
        by_cases e1 : b = o
        · rw [if_pos e1, List.mem_singleton] at hc
          exact part_places (x := x) (b := b) (t := 0) O (.inl ⟨e1.symm, hc⟩) (by omega)
        · rw [if_neg e1] at hc
          by_cases e2 : b = x
          · rw [if_pos e2, List.mem_singleton] at hc
            exact part_places (o := o) (b := b) (t := 0) (a := a) O (.inr ⟨e2.symm, hc⟩) (by omega)
          · rw [if_neg e2] at hc
            exact absurd hc List.not_mem_nil
      have h1 := at_ hk hc
      have h2 := at_ hk' hd
      omega
theorem cells_nodup {m n : Nat} {U : Ups} (O : UpsOk m U) (hn : U.length = n) (n1 : 1 ≤ n) : (cellsOf U m).flatten.Nodup := by
  subst hn
  refine List.pairwise_flatten.2 ⟨fun l hl => ?_, ?_⟩
  · obtain ⟨b, _, rfl⟩ := List.mem_map.1 hl
    exact fin_nodup O n1 b
  · unfold cellsOf
    rw [List.pairwise_map]
    refine (List.pairwise_lt_range).imp fun {b o} hlt c hc d hd => ?_
    rintro rfl
    exact fin_apart O rfl n1 (by omega) hc hd
end K76
set_option Elab.async false
set_option linter.all false
set_option maxRecDepth 100000
set_option maxHeartbeats 4000000
/-! k76: the plain law: meets, cu -/
namespace K76
open PySem PySem.Spec PyProof.Rows L2 He HK
/-- the same line: alike off the axis -/
theorem ln_iff {n a : Nat} {c d : List Int} (hc : c.length = n) (hd : d.length = n) (ha : a < n) : ln a c = ln a d ↔ ∀ t, t < n → t ≠ a → d.getD t 0 = c.getD t 0 := by
  unfold ln
  constructor
  · intro h t ht hta
    obtain ⟨h1, h2⟩ := List.append_inj h (by rw [List.length_take, List.length_take, hc, hd])
    by_cases e : t < a
    · have := congrArg (fun l => l.getD t 0) h1
      simp only [List.getD, List.getElem?_take, if_pos e] at this
      exact this.symm
    · have := congrArg (fun l => l.getD (t - (a + 1)) 0) h2
      simp only [List.getD, List.getElem?_drop, show a + 1 + (t - (a + 1)) = t by omega] at this
      exact this.symm
  · intro h
    have key : ∀ t, t ≠ a → c[t]? = d[t]? := fun t hta => by
      by_cases ht : t < n
      · have := h t ht hta
        rw [List.getElem?_eq_getElem (by omega), List.getElem?_eq_getElem (by omega)]
        simp only [List.getD, List.getElem?_eq_getElem (show t < c.length by omega), List.getElem?_eq_getElem (show t < d.length by omega), Option.getD_some] at this
        rw [this]
      · rw [List.getElem?_eq_none (by omega), List.getElem?_eq_none (by omega)]
    congr 1
    · refine List.ext_getElem? fun t => ?_
      rw [List.getElem?_take, List.getElem?_take]
      split
      · exact key t (by omega)
      · rfl
    · refine List.ext_getElem? fun t => ?_
      rw [List.getElem?_drop, List.getElem?_drop]
      exact key _ (by omega)
theorem cell_ext {n a : Nat} {c d : List Int} (hc : c.length = n) (hd : d.length = n) (ha : a < n) (h : ln a c = ln a d) (e : c.getD a 0 = d.getD a 0) : c = d := by
  refine List.ext_getElem? fun t => ?_
  by_cases ht : t < n
  · have : d.getD t 0 = c.getD t 0 := by
      by_cases q : t = a
      · rw [q]; exact e.symm
      · exact (ln_iff hc hd ha).1 h t ht q
    simp only [List.getD, List.getElem?_eq_getElem (show t < c.length by omega), List.getElem?_eq_getElem (show t < d.length by omega), Option.getD_some] at this
    rw [List.getElem?_eq_getElem (by omega), List.getElem?_eq_getElem (by omega), this]
  · rw [List.getElem?_eq_none (by omega), List.getElem?_eq_none (by omega)]
theorem cells_at {n m : Nat} {U : Ups} (hn : U.length = n) {B' : List (List (List Int))} (h : Paired List.Perm B' (cellsOf U m)) {b : Nat} (hb : b < m) {c : List Int} : c ∈ B'.getD b [] ↔ c ∈ finC n (prs U m) b := by
  subst hn
  have e : (cellsOf U m)[b]? = some (finC U.length (prs U m) b) := by
    unfold cellsOf
    rw [List.getElem?_map, List.getElem?_range hb]
    rfl
  obtain ⟨l, hl, hp⟩ := Paired.at2 h e
  simp only [List.getD, hl, Option.getD_some]
  exact hp.mem_iff
theorem curR_has {gs : Rows} {l : List Int} {p : Int × Int} (h : p ∈ curR gs l) : ∃ g ∈ gs, g.1 = l := by
  unfold curR at h
  cases e : gs.find? fun g => decide (g.1 = l) with
  | none =>
    rw [e] at h
    exact absurd h List.not_mem_nil
  | some g => exact ⟨g, List.mem_of_find?_eq_some e, by simpa using List.find?_some e⟩
theorem meets_of {n m : Nat} {U : Ups} {B' : List (List (List Int))} (n2 : 2 ≤ n) (G : Good n m U) (hB : Paired List.Perm B' (cellsOf U m)) : Meets n m B' U := by
  refine ⟨G.len, fun a ha rows hr b hb o => ?_⟩
  have O := G.ok
  have hn := G.len
  have mem : ∀ {l : List Int} {p : Int × Int}, p ∈ curR (rowsOf a (occTo B' m)) l ↔ ∃ b c, b < m ∧ c ∈ finC n (prs U m) b ∧ ln a c = l ∧ p = (c.getD a 0, (b : Int)) := fun {l p} => by
    rw [mem_curR]
    constructor
    · rintro ⟨⟨b, c⟩, ho, e, rfl⟩
      obtain ⟨h1, h2⟩ := mem_occ.1 ho
      exact ⟨b, c, h1, (cells_at hn hB h1).1 h2, e, rfl⟩
    · rintro ⟨b, c, h1, h2, e, rfl⟩
      exact ⟨(b, c), mem_occ.2 ⟨h1, (cells_at hn hB h1).2 h2⟩, e, rfl⟩
  constructor
  · rintro ⟨i, _, g, hg, i', _, x, hx, j, y, hij, hy, hob⟩
    obtain ⟨g2, hg2, e1, e2, e3⟩ := Paired.at hr hg
    have hcur := curR_mem (rowsOf_nodup a (occTo B' m)) (List.mem_of_getElem? hg2)
    have m1 := e2.mem_iff.1 (List.mem_of_getElem? hx)
    have m2 := e2.mem_iff.1 (List.mem_of_getElem? hy)
    rw [← hcur, mem] at m1 m2
    obtain ⟨b1, c, hb1, hc, l1, p1⟩ := m1
    obtain ⟨o1, d, ho1, hd, l2, p2⟩ := m2
    simp only [Prod.mk.injEq] at p1 p2
    obtain ⟨rfl, q1⟩ := p1
    obtain ⟨rfl, rfl⟩ := p2
    obtain rfl : b = b1 := by omega
    have lc := (fin_at O hb1 (by omega) hc).1
    have ld := (fin_at O ho1 (by omega) hd).1
    have hne : b ≠ o1 := by omega
    have hlex : SrtO.lexB (d.getD a 0, (o1 : Int)) (c.getD a 0, (b : Int)) = false := by
      obtain ⟨hi', ei⟩ := List.getElem?_eq_some_iff.1 hx
      obtain ⟨hj, ej⟩ := List.getElem?_eq_some_iff.1 hy
      have := List.pairwise_iff_getElem.1 e3 i' j hi' hj hij
      rw [ei, ej] at this
      exact this
    have hl : ln a c = ln a d := l1.trans l2.symm
    have hlt : c.getD a 0 < d.getD a 0 := by
      rcases Int.lt_trichotomy (c.getD a 0) (d.getD a 0) with q | q | q
      · exact q
      · have := cell_ext lc ld ha hl q
        rw [this] at hc
        exact (fin_apart O hn (by omega) hne hc hd).elim
      · unfold SrtO.lexB at hlex
        rw [if_neg (by omega)] at hlex
        exact absurd q (of_decide_eq_false hlex)
    exact (bel_iff O hn n2 ha hb hne).1 ⟨c, hc, d, hd, hlt, (ln_iff lc ld ha).1 hl⟩
  · intro ho
    obtain ⟨u, l, hu, hl, e⟩ := lotAt_get O (a := a) (by omega) hb
    have hz := ho
    rw [e] at hz
    obtain ⟨h0, h1, h2⟩ := ((O.2.2.2 u (List.mem_of_getElem? hu)).2 b l hl).2 o hz
    obtain ⟨k, rfl⟩ : ∃ k : Nat, o = (k : Int) := ⟨o.toNat, (Int.toNat_of_nonneg h0).symm⟩
    have hk : k < m := by omega
    have hne : b ≠ k := by omega
    obtain ⟨c, hc, d, hd, hlt, heq⟩ := (bel_iff O hn n2 ha hb hne).2 ho
    have lc := (fin_at O hb (by omega) hc).1
    have ld := (fin_at O hk (by omega) hd).1
    have hl : ln a c = ln a d := (ln_iff lc ld ha).2 heq
    have m1 : (c.getD a 0, (b : Int)) ∈ curR (rowsOf a (occTo B' m)) (ln a c) := mem.2 ⟨b, c, hb, hc, rfl, rfl⟩
    have m2 : (d.getD a 0, (k : Int)) ∈ curR (rowsOf a (occTo B' m)) (ln a c) := mem.2 ⟨k, d, hk, hd, hl.symm, rfl⟩
    obtain ⟨g2, hg2, eg⟩ := curR_has m1
    have hcur := curR_mem (rowsOf_nodup a (occTo B' m)) hg2
    rw [eg] at hcur
    obtain ⟨r, hr2⟩ := List.getElem?_of_mem hg2
    obtain ⟨g, hg, e1, e2, e3⟩ := Paired.at2 hr hr2
    rw [hcur] at m1 m2
    obtain ⟨i, hi⟩ := List.getElem?_of_mem (e2.mem_iff.2 m1)
    obtain ⟨j, hj⟩ := List.getElem?_of_mem (e2.mem_iff.2 m2)
    obtain ⟨li, ei⟩ := List.getElem?_eq_some_iff.1 hi
    obtain ⟨lj, ej⟩ := List.getElem?_eq_some_iff.1 hj
    have hij : i < j := by
      rcases Nat.lt_trichotomy i j with q | q | q
      · exact q
      · subst q
        rw [hi] at hj
        have := congrArg Prod.fst (Option.some.inj hj)
        simp only at this
        omega
      · have := List.pairwise_iff_getElem.1 e3 j i lj li q
        rw [ei, ej] at this
        unfold SrtO.lexB at this
        rw [if_neg (by omega)] at this
        exact absurd hlt (of_decide_eq_false this)
    exact ⟨r, (List.getElem?_eq_some_iff.1 hg).1, g, hg, i, li, _, hi, j, _, hij, hj, by omega⟩
theorem diffs_nil {n a : Nat} {c d : List Int} : diffs a c d n = [] ↔ ∀ t, t < n → t ≠ a → d.getD t 0 = c.getD t 0 := by
  unfold diffs
  rw [List.map_eq_nil_iff, List.filter_eq_nil_iff]
  constructor
  · intro h t ht hta
    have := h t (List.mem_range.2 ht)
    simp only [Bool.and_eq_true, decide_eq_true_eq, not_and, Classical.not_not] at this
    exact this hta
  · intro h t ht
    simp only [Bool.and_eq_true, decide_eq_true_eq, not_and, Classical.not_not]
    exact h t (List.mem_range.1 ht)
theorem hit_iff {n m : Nat} {U : Ups} {B' : List (List (List Int))} (n2 : 2 ≤ n) (G : Good n m U) (hB : Paired List.Perm B' (cellsOf U m)) {a b o : Nat} (ha : a < n) (hb : b < m) (ho : o < m) (hbo : b ≠ o) :
    hit n a (B'.getD b []) (B'.getD o []) = true ↔ (o : Int) ∈ lotAt U a b := by
  rw [← bel_iff G.ok G.len n2 ha hb hbo]
  unfold hit bel
  rw [List.any_eq_true]
  constructor
  · rintro ⟨c, hc, h⟩
    obtain ⟨d, hd, h⟩ := List.any_eq_true.1 h
    simp only [Bool.and_eq_true, decide_eq_true_eq] at h
    exact ⟨c, (cells_at G.len hB hb).1 hc, d, (cells_at G.len hB ho).1 hd, h.1, diffs_nil.1 h.2⟩
  · rintro ⟨c, hc, d, hd, h1, h2⟩
    refine ⟨c, (cells_at G.len hB hb).2 hc, List.any_eq_true.2 ⟨d, (cells_at G.len hB ho).2 hd, ?_⟩⟩
    simp only [Bool.and_eq_true, decide_eq_true_eq]
    exact ⟨h1, diffs_nil.2 h2⟩
theorem asc_ext {l l' : List Int} (h : l.Pairwise (· < ·)) (h' : l'.Pairwise (· < ·)) (e : ∀ x, x ∈ l ↔ x ∈ l') : l = l' := by
  refine List.Perm.eq_of_pairwise (le := (· < ·)) (fun a b _ _ h1 h2 => by omega) h h' (List.perm_iff_count.2 fun x => ?_)
  have n1 : l.Nodup := h.imp fun h => Int.ne_of_lt h
  have n2 : l'.Nodup := h'.imp fun h => Int.ne_of_lt h
  rw [n1.count, n2.count]
  simp only [e]
theorem cu_of {n m : Nat} {U : Ups} {B' : List (List (List Int))} (n2 : 2 ≤ n) (G : Good n m U) (hB : Paired List.Perm B' (cellsOf U m)) : cu n B' n = U := by
  have O := G.ok
  have lB : B'.length = m := by rw [Paired.len hB, cellsOf_len]
  unfold cu cuRow
  rw [lB]
  refine List.ext_getElem? fun a => ?_
  by_cases ha : a < n
  · obtain ⟨u, hu⟩ := getI (xs := U) (i := a) (by rw [G.len]; exact ha)
    have ou := O.2.2.2 u (List.mem_of_getElem? hu)
    rw [List.getElem?_map, List.getElem?_range ha, hu, Option.map_some]
    congr 1
    refine List.ext_getElem? fun b => ?_
    by_cases hb : b < m
    · obtain ⟨l, hl⟩ := getI (xs := u) (i := b) (by rw [ou.1]; exact hb)
      rw [List.getElem?_map, List.getElem?_range hb, hl, Option.map_some]
      congr 1
      have el := lotAt_of hu hl
      have h1 := ou.2 b l hl
      have hasc : l.Pairwise (· < ·) := by
        refine (List.Pairwise.and (G.asc u (List.mem_of_getElem? hu) l (List.mem_of_getElem? hl)) h1.1).imp fun h => ?_
        have := h.1
        have := h.2
        omega
      refine asc_ext ?_ hasc fun x => ?_
      · unfold metL
        rw [List.pairwise_map]
        exact (List.Pairwise.filter _ List.pairwise_lt_range).imp fun h => by omega
      · unfold metL
        rw [List.mem_map, ← el]
        constructor
        · rintro ⟨o, ho, rfl⟩
          rw [List.mem_filter, List.mem_range] at ho
          obtain ⟨ho, hh⟩ := ho
          simp only [Bool.and_eq_true, decide_eq_true_eq] at hh
          exact (hit_iff n2 G hB ha hb ho (fun z => hh.1 z.symm)).1 hh.2
        · intro hx
          have hx' := hx
          rw [el] at hx'
          obtain ⟨h0, h2, h3⟩ := h1.2 x hx'
          obtain ⟨k, rfl⟩ : ∃ k : Nat, x = (k : Int) := ⟨x.toNat, (Int.toNat_of_nonneg h0).symm⟩
          refine ⟨k, List.mem_filter.2 ⟨List.mem_range.2 (by omega), ?_⟩, rfl⟩
          simp only [Bool.and_eq_true, decide_eq_true_eq]
          exact ⟨by omega, (hit_iff n2 G hB ha hb (by omega) (by omega)).2 hx⟩
    · rw [List.getElem?_eq_none (by simp; omega), List.getElem?_eq_none (by have := ou.1; omega)]
  · rw [List.getElem?_eq_none (by simp; omega), List.getElem?_eq_none (by have := G.len; omega)]
end K76
set_option Elab.async false
set_option linter.all false
set_option maxRecDepth 100000
set_option maxHeartbeats 4000000
/-! k76: the plain law: numbers that are all unlike, by a tree -/
namespace K76
open PySem PySem.Spec PyProof.Rows L2 He HK
inductive HT | lf | nd (l : HT) (x : Int) (r : HT)
def HT.put (x : Int) : HT → Option HT
  | .lf => some (.nd .lf x .lf)
  | .nd l y r => if x < y then (match l.put x with | some t => some (.nd t y r) | none => none) else if y < x then (match r.put x with | some t => some (.nd l y t) | none => none) else none
def HT.has (x : Int) : HT → Bool
  | .lf => false
  | .nd l y r => if x < y then l.has x else if y < x then r.has x else true
def unlikeT : List Int → HT → Bool
  | [], _ => true
  | x :: t, T => match T.put x with | some T' => unlikeT t T' | none => false
theorem HT.put_has {x : Int} : ∀ {t t' : HT}, t.put x = some t' → t.has x = false ∧ t'.has x = true ∧ ∀ y, t.has y = true → t'.has y = true
  | .lf, t', h => by
    cases h
    refine ⟨rfl, ?_, fun y h => by cases h⟩
    unfold HT.has
    rw [if_neg (by omega), if_neg (by omega)]
  | .nd l z r, t', h => by
    unfold HT.put at h
    by_cases h1 : x < z
    · rw [if_pos h1] at h
      split at h
      · rename_i t e
        cases h
        obtain ⟨a, b, c⟩ := HT.put_has e
        refine ⟨?_, ?_, fun y hy => ?_⟩
        · unfold HT.has; rw [if_pos h1]; exact a
        · unfold HT.has; rw [if_pos h1]; exact b
        · unfold HT.has at hy ⊢
          split
          · rename_i q; rw [if_pos q] at hy; exact c y hy
          · rename_i q; rw [if_neg q] at hy; exact hy
      · cases h
    · rw [if_neg h1] at h
      by_cases h2 : z < x
      · rw [if_pos h2] at h
        split at h
        · rename_i t e
          cases h
          obtain ⟨a, b, c⟩ := HT.put_has e
          refine ⟨?_, ?_, fun y hy => ?_⟩
          · unfold HT.has; rw [if_neg h1, if_pos h2]; exact a
          · unfold HT.has; rw [if_neg h1, if_pos h2]; exact b
          · unfold HT.has at hy ⊢
            split
            · rename_i q; rw [if_pos q] at hy; exact hy
            · rename_i q
              rw [if_neg q] at hy
              split
              · rename_i q2; rw [if_pos q2] at hy; exact c y hy
              · rfl
        · cases h
      · rw [if_neg h2] at h
        cases h
theorem unlikeT_ok : ∀ {xs : List Int} {T : HT}, unlikeT xs T = true → xs.Nodup ∧ ∀ x ∈ xs, T.has x = false
  | [], _, _ => ⟨.nil, fun _ h => absurd h List.not_mem_nil⟩
  | x :: t, T, h => by
    unfold unlikeT at h
    split at h
    · rename_i T' e
      obtain ⟨a, b, c⟩ := HT.put_has e
      obtain ⟨h1, h2⟩ := unlikeT_ok h
      refine ⟨List.nodup_cons.2 ⟨fun z => ?_, h1⟩, fun y hy => ?_⟩
      · rw [h2 x z] at b
        cases b
      · rcases List.mem_cons.1 hy with hy | hy
        · rw [hy]; exact a
        · by_cases q : T.has y = true
          · have := c y q
            rw [h2 y hy] at this
            cases this
          · simpa using q
    · cases h
theorem inj_nodup {α : Type} {f : α → Int} : ∀ {xs : List α}, (xs.map f).Nodup → ∀ x ∈ xs, ∀ y ∈ xs, f x = f y → x = y
  | [], _, _, h, _, _, _ => absurd h List.not_mem_nil
  | z :: t, h, x, hx, y, hy, e => by
    rw [List.map_cons, List.nodup_cons] at h
    rcases List.mem_cons.1 hx with hx | hx <;> rcases List.mem_cons.1 hy with hy | hy
    · rw [hx, hy]
    · exact absurd (List.mem_map.2 ⟨y, hy, by rw [← e, hx]⟩) h.1
    · exact absurd (List.mem_map.2 ⟨x, hx, by rw [e, hy]⟩) h.1
    · exact inj_nodup h.2 x hx y hy e
def cands (n K : Nat) : List (List Int) := (List.range K).flatMap fun (k : Nat) => evenC n (2 * (k : Int)) :: (List.range n).map fun (a : Nat) => shiftC n ((a : Nat) : Int) (2 * (k : Int))
theorem part_cands {m n : Nat} {U : Ups} (O : UpsOk m U) (hn : U.length = n) (hK : (prs U m).length ≤ 200) {b : Nat} {c : List Int} (hc : c ∈ part n (prs U m) b) : c ∈ cands n 200 := by
  obtain ⟨k, a, x, o, hp, h⟩ := (mem_part O).1 hc
  have hk := (hp.ok O).1
  have ha := (hp.ok O).2.1
  unfold cands
  refine List.mem_flatMap.2 ⟨k, List.mem_range.2 (by omega), ?_⟩
  rcases h with ⟨_, rfl⟩ | ⟨_, rfl⟩
  · exact List.mem_cons_of_mem _ (List.mem_map.2 ⟨a, List.mem_range.2 (by omega), rfl⟩)
  · exact List.mem_cons_self
theorem hash_nodup {m n : Nat} {U : Ups} (O : UpsOk m U) (hn : U.length = n) (n1 : 1 ≤ n) (hK : (prs U m).length ≤ 200) {f : List Int → Int} (hf : unlikeT ((cands n 200).map f) .lf = true) (b : Nat) : ((finC n (prs U m) b).map f).Nodup := by
  by_cases h : part n (prs U m) b = []
  · unfold finC
    rw [if_pos h]
    exact List.pairwise_singleton _ _
  · have nd := fin_nodup O n1 b
    have e : finC n (prs U m) b = part n (prs U m) b := if_neg h
    rw [e] at nd ⊢
    unfold List.Nodup
    rw [List.pairwise_map]
    refine nd.imp_of_mem fun {x y} hx hy hne z => hne ?_
    exact inj_nodup (unlikeT_ok hf).1 x (part_cands O hn hK hx) y (part_cands O hn hK hy) z
end K76
set_option Elab.async false
set_option linter.all false
set_option maxRecDepth 100000
set_option maxHeartbeats 4000000
/-! k76: the plain law holds -/
namespace K76
open PySem PySem.Spec PyProof.Rows L2 He HK
def hc (c : List Int) : Int := reduceHash (Builtin.Tuple.tupleHashOf (c.map hashInt))
theorem hc_eq {w : World} (c : List Int) : tupleKeyHash (mixKind prg w) (ky c) = hc c := by
  unfold tupleKeyHash hc ky
  rw [List.map_map]
  rfl
theorem un2 : unlikeT ((cands 2 200).map hc) .lf = true := by decide +kernel
theorem un3 : unlikeT ((cands 3 200).map hc) .lf = true := by decide +kernel
theorem plain_ok {w : World} {n m : Nat} {U : Ups} (n2 : 2 ≤ n) (n3 : n ≤ 3) (m1 : 1 ≤ m) (G : Good n m U) (F : Few (toldU U m)) : BodOk w n (cellsOf U m) := by
  have O := G.ok
  have hn := G.len
  have hK := few_prs O F
  have m12 := O.2.2.1
  have lens := fin_lens U m
  have at_ : ∀ b ∈ cellsOf U m, ∃ k, k < m ∧ b = finC n (prs U m) k := fun b hb => by
    unfold cellsOf at hb
    obtain ⟨k, hk, rfl⟩ := List.mem_map.1 hb
    exact ⟨k, List.mem_range.1 hk, by rw [hn]⟩
  refine ⟨by omega, n3, by rw [cellsOf_len]; exact m1, by rw [cellsOf_len]; exact m12, fun b hb => ?_, fun b hb => ?_, fun b hb c hc => ?_, cells_nodup O hn (by omega), ?_, fun b hb => ?_⟩
  · obtain ⟨k, hk, rfl⟩ := at_ b hb
    exact List.length_pos_iff.2 fin_ne
  · have h : (b.length : Int) ∈ toldU U m := by
      rw [← lens]
      exact List.mem_map.2 ⟨b, hb, rfl⟩
    have := F.1 _ h
    omega
  · obtain ⟨k, hk, rfl⟩ := at_ b hb
    obtain ⟨h1, h2⟩ := fin_at O hk (by omega) hc
    exact ⟨h1, fun x hx => by have := h2 x hx; omega⟩
  · have h1 := sum_lens (cellsOf U m)
    rw [lens] at h1
    have := F.2
    omega
  · have e : b = finC n (prs U m) 0 := by
      unfold cellsOf at hb
      rw [List.getElem?_map, List.getElem?_range (by omega), hn] at hb
      exact (Option.some.inj hb).symm
    subst e
    have hx : (finC n (prs U m) 0).map (fun c => tupleKeyHash (mixKind prg w) (ky c)) = (finC n (prs U m) 0).map hc := List.map_congr_left fun c _ => hc_eq c
    rw [hx]
    refine hash_nodup O hn (by omega) hK ?_ 0
    obtain rfl | rfl : n = 2 ∨ n = 3 := by omega
    · exact un2
    · exact un3
theorem plain (w : World) : Plain w := ⟨fun n2 n3 m1 G F => plain_ok n2 n3 m1 G F, fun n2 n3 m1 G hB => meets_of n2 G hB, fun n2 n3 m1 G hB => cu_of n2 G hB⟩
end K76
set_option Elab.async false
set_option linter.all false
set_option maxRecDepth 100000
set_option maxHeartbeats 4000000
/-! k76: _law_box -/
namespace K76
open PySem PySem.Spec PyProof.Rows L2 He HK
def sp_box (K : PySem.W.Frag) : Sp := fun vs H Q _ => ∃ (a : Addr) (xs : List Int) (s : Int), vs = [.ref a, .int s] ∧ SqL K H a (xs.map V.int) ∧ 0 ≤ s ∧ s < 1000 ∧ ∀ b d H', Same H H' → BoxAt b d H' → Q (.ref b) H'
section
variable {w : World} {K : PySem.W.Frag} {mg : Str → Option Value} {base : Heap}
theorem C__law_box (S : Sc K mg) : Cal prg w K mg base CX0 "_law_box" 1 ["script", "salt"] [] (sp_box K) := by
  refine S.cal (d := d__law_box) 23 19 sc__law_box rfl rfl rfl rfl rfl (fun _ _ _ _ _ _ us hl => match us, hl with | [_, _], _ => rfl) (fun vs H Q E h => ?_) (fun f cdv A outer s H vs Q E hr h => ?_)
  · obtain ⟨a, xs, s, rfl, _⟩ := h
    rfl
  · obtain ⟨a, xs, sa, rfl, ha, s0, s1, q⟩ := h
    refine ⟨_, (pss_cons (ps_setLc (i := 2) (own := [("cell", 3)]) (g := (gName 3)) (tt := tYes) rfl sc__law_box.nd rfl rfl (sw_true rfl rfl rfl (by decide +kernel)) (pi_seq (pe_slice sl_list (pv 0) po_none (po_some pe_int))) (blkOk_by (N := ["script", "salt", "cells", "cell", "blend"]) (sc := defScope s__law_box) (by decide +kernel)) (fun _ _ _ _ _ => (pg_name (i := 3) sc__law_box.nd rfl (by first | exact Or.inl rfl | exact Or.inr rfl))) (fun _ _ _ _ _ => pts_nil) (fun _ _ _ _ _ => (pe_callB call_abs (by rfl) (S.free 35) (by decide +kernel) (pa_cons (pe_callTy call_int1 (by rfl) (S.free 39) (by decide +kernel) (pa_cons (pv 3) pa_nil)) pa_nil))))
      (pss_cons (ps_set (i := 4) sc__law_box.nd rfl (by first | exact Or.inl rfl | exact Or.inr rfl) (pe_op op_add pe_int (pe_op op_mul pe_int (pv 1))))
      (pss_cons (ps_for PassesOwn.never rfl (pi_seq (pv 2)) (pg_name (i := 3) sc__law_box.nd rfl (by first | exact Or.inl rfl | exact Or.inr rfl)) (pss_one (ps_set (i := 4) sc__law_box.nd rfl (by first | exact Or.inl rfl | exact Or.inr rfl) (pe_op op_mod (pe_callTy call_int1 (by rfl) (S.free 39) (by decide +kernel) (pa_cons (pe_op op_add (pe_op op_add (pe_op op_mul (pv 4) pe_int) (pe_op op_mod (pe_callTy call_int1 (by rfl) (S.free 39) (by decide +kernel) (pa_cons (pv 3) pa_nil)) pe_int)) pe_int) pa_nil)) pe_int))))
      (pss_one (ps_ret (pe_lst (pa_cons (pe_lc (own := [("cell", 3)]) (g := (gName 3)) rfl sc__law_box.nd (pi_seq (pv 2)) (blkOk_by (N := ["script", "salt", "cells", "cell", "blend"]) (sc := defScope s__law_box) (by decide +kernel)) (fun _ _ _ _ _ => (pg_name (i := 3) sc__law_box.nd rfl (by first | exact Or.inl rfl | exact Or.inr rfl))) (fun _ _ _ _ _ => (pts_one (pt_cmpR op_ge (pv 3) (pe_op op_pow pe_int pe_int) (nomark _)))) (fun _ _ _ _ _ => (pv 3))) (pa_cons (pv 4) pa_nil)))))))), ?_⟩
    try simp only [wipe, tC, tVar, tChain, rI0, rI, rU, tOp, tUn, tCall, tAnd, tOr, tNot, tNotV, tAndV, tOrV, tTest, tB, tIf, tIfS, tRet, tRetN, tNext, tSeq, tNil, tCons, tAug, ipI, tPar, tAsg, gName, tDrop, tLst, tTup, tCB, tBM, tBM0, tFld_eq, tMkE, tMake, tAugS, gSub, rEq, rAll, rMax, rSum, rAppend, rExtend, rSetL, _root_.L2.start, List.map_cons, List.map_nil, List.length_cons, List.length_nil, List.replicate_succ, List.replicate_zero, List.cons_append, List.nil_append, List.append_nil, List.getElem?_cons_zero, List.getElem?_cons_succ, List.set_cons_zero, List.set_cons_succ, Nat.reduceAdd, Nat.reduceSub, V.int.injEq, V.bl.injEq, V.ref.injEq, V.str.injEq, exists_eq, exists_eq', exists_eq_left, exists_eq_left', exists_and_left, exists_and_right, Option.some.injEq, List.cons.injEq, and_true, true_and, and_assoc, retV, true_or, or_true, decide_eq_true_eq, if_true, if_false, Bool.false_eq_true, Bool.not_true, Bool.not_false, Bool.not_eq_true', reduceCtorEq, eq_self, decide_true, decide_false, List.length_map, exists_const, false_and, and_false, or_false, false_or, ↓reduceIte]
    rw [lc_call]
    try simp only [wipe, tC, tVar, tChain, rI0, rI, rU, tOp, tUn, tCall, tAnd, tOr, tNot, tNotV, tAndV, tOrV, tTest, tB, tIf, tIfS, tRet, tRetN, tNext, tSeq, tNil, tCons, tAug, ipI, tPar, tAsg, gName, tDrop, tLst, tTup, tCB, tBM, tBM0, tFld_eq, tMkE, tMake, tAugS, gSub, rEq, rAll, rMax, rSum, rAppend, rExtend, rSetL, _root_.L2.start, List.map_cons, List.map_nil, List.length_cons, List.length_nil, List.replicate_succ, List.replicate_zero, List.cons_append, List.nil_append, List.append_nil, List.getElem?_cons_zero, List.getElem?_cons_succ, List.set_cons_zero, List.set_cons_succ, Nat.reduceAdd, Nat.reduceSub, V.int.injEq, V.bl.injEq, V.ref.injEq, V.str.injEq, exists_eq, exists_eq', exists_eq_left, exists_eq_left', exists_and_left, exists_and_right, Option.some.injEq, List.cons.injEq, and_true, true_and, and_assoc, retV, true_or, or_true, decide_eq_true_eq, if_true, if_false, Bool.false_eq_true, Bool.not_true, Bool.not_false, Bool.not_eq_true', reduceCtorEq, eq_self, decide_true, decide_false, List.length_map, exists_const, false_and, and_false, or_false, false_or, tSl, tPart, tNoPart, ↓reduceIte]
    refine ⟨a, _, rfl, ha, fun p np => ?_⟩
    have ec : cutV (xs.map V.int) none (some ((60 : Nat) : Int)) = (xs.take 60).map V.int := by
      unfold cutV
      rw [cut_take, List.map_take]
    have ec' : cutV (xs.map V.int) none (some (60 : Int)) = (xs.take 60).map V.int := ec
    rw [ec']
    have l60 : (xs.take 60).length ≤ 60 := by rw [List.length_take]; omega
    have e1 : Same H (upd H p (.lst ((xs.take 60).map V.int))) := same_new np
    refine lc_map (gives_sq (fun Q h => h) (.inl upd_same)) (Box.none (A := No) (fun _ z => z.elim)) (fun H' e => by rw [e.same _ _ upd_same, upd_same]) (by rw [List.length_map]; exact Nat.le_trans l60 (by decide)) (fun x => rfl) fam_in (xs.take 60) (by simp) (fun i => if i < 0 then -i else i) (fun n y o H6 D6 N6 hy ho e6 _ _ hN6 => ?_) fun zs H2 C e2 _ nC _ hC hpC => ?_
    · rw [List.getElem?_map, ho] at hy
      obtain rfl := Option.some.inj hy
      try simp only [wipe, tC, tVar, tChain, rI0, rI, rU, tOp, tUn, tCall, tAnd, tOr, tNot, tNotV, tAndV, tOrV, tTest, tB, tIf, tIfS, tRet, tRetN, tNext, tSeq, tNil, tCons, tAug, ipI, tPar, tAsg, gName, tDrop, tLst, tTup, tCB, tBM, tBM0, tFld_eq, tMkE, tMake, tAugS, gSub, rEq, rAll, rMax, rSum, rAppend, rExtend, rSetL, _root_.L2.start, List.map_cons, List.map_nil, List.length_cons, List.length_nil, List.replicate_succ, List.replicate_zero, List.cons_append, List.nil_append, List.append_nil, List.getElem?_cons_zero, List.getElem?_cons_succ, List.set_cons_zero, List.set_cons_succ, Nat.reduceAdd, Nat.reduceSub, V.int.injEq, V.bl.injEq, V.ref.injEq, V.str.injEq, exists_eq, exists_eq', exists_eq_left, exists_eq_left', exists_and_left, exists_and_right, Option.some.injEq, List.cons.injEq, and_true, true_and, and_assoc, retV, true_or, or_true, decide_eq_true_eq, if_true, if_false, Bool.false_eq_true, Bool.not_true, Bool.not_false, Bool.not_eq_true', reduceCtorEq, eq_self, decide_true, decide_false, List.length_map, exists_const, false_and, and_false, or_false, false_or, ↓reduceIte]
      exact hN6 _ _ (SameO.refl _ _) trivial rfl
    · obtain rfl := ina_eq hpC
      have e02 := e1.trans e2.same
      generalize hcs : (xs.take 60).map (fun i => if i < 0 then -i else i) = cs at hC
      have lcs : cs.length ≤ 60 := by rw [← hcs, List.length_map]; exact l60
      have pos : ∀ x ∈ cs, 0 ≤ x := fun x hx => by
        rw [← hcs] at hx
        obtain ⟨i, _, rfl⟩ := List.mem_map.1 hx
        show 0 ≤ (if i < 0 then -i else i)
        split <;> omega
      try simp only [wipe, tC, tVar, tChain, rI0, rI, rU, tOp, tUn, tCall, tAnd, tOr, tNot, tNotV, tAndV, tOrV, tTest, tB, tIf, tIfS, tRet, tRetN, tNext, tSeq, tNil, tCons, tAug, ipI, tPar, tAsg, gName, tDrop, tLst, tTup, tCB, tBM, tBM0, tFld_eq, tMkE, tMake, tAugS, gSub, rEq, rAll, rMax, rSum, rAppend, rExtend, rSetL, _root_.L2.start, List.map_cons, List.map_nil, List.length_cons, List.length_nil, List.replicate_succ, List.replicate_zero, List.cons_append, List.nil_append, List.append_nil, List.getElem?_cons_zero, List.getElem?_cons_succ, List.set_cons_zero, List.set_cons_succ, Nat.reduceAdd, Nat.reduceSub, V.int.injEq, V.bl.injEq, V.ref.injEq, V.str.injEq, exists_eq, exists_eq', exists_eq_left, exists_eq_left', exists_and_left, exists_and_right, Option.some.injEq, List.cons.injEq, and_true, true_and, and_assoc, retV, true_or, or_true, decide_eq_true_eq, if_true, if_false, Bool.false_eq_true, Bool.not_true, Bool.not_false, Bool.not_eq_true', reduceCtorEq, eq_self, decide_true, decide_false, List.length_map, exists_const, false_and, and_false, or_false, false_or, ↓reduceIte]
      refine ⟨.inl ⟨by decide, by decide⟩, ?_⟩
      refine for_go (gives_sq (fun Q h => ⟨_, rfl, h⟩) (.inl hC)) (fun i σ H' => (∃ u st, σ = [some (.ref a), some (.int sa), some (.ref C), u, some (.int st)] ∧ 0 ≤ st ∧ st < 2147483647) ∧ Same H2 H') ⟨⟨_, _, rfl, by omega, by omega⟩, Same.refl _⟩ (fun i σ H' _ h => ?_) (fun i y σ H3 hi hy h => ?_) (fun σ H3 h => ?_)
      · rw [h.2 _ _ hC, hC]
      · obtain ⟨⟨u, st, rfl, t0, t1⟩, e3⟩ := h
        rw [List.length_map] at hi
        rw [List.getElem?_map, List.getElem?_eq_getElem hi] at hy
        obtain rfl := Option.some.inj hy
        try simp only [wipe, tC, tVar, tChain, rI0, rI, rU, tOp, tUn, tCall, tAnd, tOr, tNot, tNotV, tAndV, tOrV, tTest, tB, tIf, tIfS, tRet, tRetN, tNext, tSeq, tNil, tCons, tAug, ipI, tPar, tAsg, gName, tDrop, tLst, tTup, tCB, tBM, tBM0, tFld_eq, tMkE, tMake, tAugS, gSub, rEq, rAll, rMax, rSum, rAppend, rExtend, rSetL, _root_.L2.start, List.map_cons, List.map_nil, List.length_cons, List.length_nil, List.replicate_succ, List.replicate_zero, List.cons_append, List.nil_append, List.append_nil, List.getElem?_cons_zero, List.getElem?_cons_succ, List.set_cons_zero, List.set_cons_succ, Nat.reduceAdd, Nat.reduceSub, V.int.injEq, V.bl.injEq, V.ref.injEq, V.str.injEq, exists_eq, exists_eq', exists_eq_left, exists_eq_left', exists_and_left, exists_and_right, Option.some.injEq, List.cons.injEq, and_true, true_and, and_assoc, retV, true_or, or_true, decide_eq_true_eq, if_true, if_false, Bool.false_eq_true, Bool.not_true, Bool.not_false, Bool.not_eq_true', reduceCtorEq, eq_self, decide_true, decide_false, List.length_map, exists_const, false_and, and_false, or_false, false_or, ↓reduceIte]
        exact ⟨.inr ⟨by decide, by decide⟩, by decide, by decide, Int.emod_nonneg _ (by decide), Int.emod_lt_of_pos _ (by decide), e3⟩
      · obtain ⟨⟨u, st, rfl, t0, t1⟩, e3⟩ := h
        have hC3 := e3 _ _ hC
        try simp only [wipe, tC, tVar, tChain, rI0, rI, rU, tOp, tUn, tCall, tAnd, tOr, tNot, tNotV, tAndV, tOrV, tTest, tB, tIf, tIfS, tRet, tRetN, tNext, tSeq, tNil, tCons, tAug, ipI, tPar, tAsg, gName, tDrop, tLst, tTup, tCB, tBM, tBM0, tFld_eq, tMkE, tMake, tAugS, gSub, rEq, rAll, rMax, rSum, rAppend, rExtend, rSetL, _root_.L2.start, List.map_cons, List.map_nil, List.length_cons, List.length_nil, List.replicate_succ, List.replicate_zero, List.cons_append, List.nil_append, List.append_nil, List.getElem?_cons_zero, List.getElem?_cons_succ, List.set_cons_zero, List.set_cons_succ, Nat.reduceAdd, Nat.reduceSub, V.int.injEq, V.bl.injEq, V.ref.injEq, V.str.injEq, exists_eq, exists_eq', exists_eq_left, exists_eq_left', exists_and_left, exists_and_right, Option.some.injEq, List.cons.injEq, and_true, true_and, and_assoc, retV, true_or, or_true, decide_eq_true_eq, if_true, if_false, Bool.false_eq_true, Bool.not_true, Bool.not_false, Bool.not_eq_true', reduceCtorEq, eq_self, decide_true, decide_false, List.length_map, exists_const, false_and, and_false, or_false, false_or, ↓reduceIte]
        refine lc_acc (gives_sq (fun Q h => ⟨_, rfl, h⟩) (.inl hC3)) (Box.none (A := Old H3) (fun _ z => z)) (fun H' e => by rw [e.same _ _ hC3, hC3]) (by rw [List.length_map]; exact Nat.le_trans lcs (by decide))
          (fun A k acc H' => ∃ l : List Int, acc = l.map V.int ∧ l.length ≤ k ∧ ∀ x ∈ l, 0 ≤ x) (fun _ _ => ⟨[], rfl, Nat.le_refl _, fun x z => absurd z List.not_mem_nil⟩) (fun _ h => h) (fun _ h => h)
          (fun k y acc H' D N N0 hk hy e _ hA hI hN hN0 => ?_) fun acc H4 D e4 _ nD nA hD hI => ?_
        · rw [List.length_map] at hk
          rw [List.getElem?_map, List.getElem?_eq_getElem hk] at hy
          obtain rfl := Option.some.inj hy
          obtain ⟨l, rfl, l1, l2⟩ := hI
          refine ⟨rfl, ?_⟩
          try simp only [wipe, tC, tVar, tChain, rI0, rI, rU, tOp, tUn, tCall, tAnd, tOr, tNot, tNotV, tAndV, tOrV, tTest, tB, tIf, tIfS, tRet, tRetN, tNext, tSeq, tNil, tCons, tAug, ipI, tPar, tAsg, gName, tDrop, tLst, tTup, tCB, tBM, tBM0, tFld_eq, tMkE, tMake, tAugS, gSub, rEq, rAll, rMax, rSum, rAppend, rExtend, rSetL, _root_.L2.start, List.map_cons, List.map_nil, List.length_cons, List.length_nil, List.replicate_succ, List.replicate_zero, List.cons_append, List.nil_append, List.append_nil, List.getElem?_cons_zero, List.getElem?_cons_succ, List.set_cons_zero, List.set_cons_succ, Nat.reduceAdd, Nat.reduceSub, V.int.injEq, V.bl.injEq, V.ref.injEq, V.str.injEq, exists_eq, exists_eq', exists_eq_left, exists_eq_left', exists_and_left, exists_and_right, Option.some.injEq, List.cons.injEq, and_true, true_and, and_assoc, retV, true_or, or_true, decide_eq_true_eq, if_true, if_false, Bool.false_eq_true, Bool.not_true, Bool.not_false, Bool.not_eq_true', reduceCtorEq, eq_self, decide_true, decide_false, List.length_map, exists_const, false_and, and_false, or_false, false_or, ↓reduceIte]
          refine ⟨⟨by decide, by decide, by decide⟩, ?_⟩
          by_cases h18 : (10 : Int) ^ (18 : Int).toNat ≤ cs[k]
          · rw [if_pos h18]
            refine hN _ _ (SameO.refl _ _) trivial ⟨l ++ [cs[k]], by rw [List.map_append]; rfl, by rw [List.length_append]; simp; omega, fun x hx => ?_⟩
            rw [List.mem_append, List.mem_singleton] at hx
            rcases hx with hx | hx
            · exact l2 x hx
            · rw [hx]
              exact pos _ (List.getElem_mem hk)
          · rw [if_neg h18]
            exact hN0 _ (SameO.refl _ _) trivial ⟨l, rfl, by omega, l2⟩
        · obtain ⟨l, rfl, l1, l2⟩ := hI
          rw [List.length_map] at l1
          try simp only [wipe, tC, tVar, tChain, rI0, rI, rU, tOp, tUn, tCall, tAnd, tOr, tNot, tNotV, tAndV, tOrV, tTest, tB, tIf, tIfS, tRet, tRetN, tNext, tSeq, tNil, tCons, tAug, ipI, tPar, tAsg, gName, tDrop, tLst, tTup, tCB, tBM, tBM0, tFld_eq, tMkE, tMake, tAugS, gSub, rEq, rAll, rMax, rSum, rAppend, rExtend, rSetL, _root_.L2.start, List.map_cons, List.map_nil, List.length_cons, List.length_nil, List.replicate_succ, List.replicate_zero, List.cons_append, List.nil_append, List.append_nil, List.getElem?_cons_zero, List.getElem?_cons_succ, List.set_cons_zero, List.set_cons_succ, Nat.reduceAdd, Nat.reduceSub, V.int.injEq, V.bl.injEq, V.ref.injEq, V.str.injEq, exists_eq, exists_eq', exists_eq_left, exists_eq_left', exists_and_left, exists_and_right, Option.some.injEq, List.cons.injEq, and_true, true_and, and_assoc, retV, true_or, or_true, decide_eq_true_eq, if_true, if_false, Bool.false_eq_true, Bool.not_true, Bool.not_false, Bool.not_eq_true', reduceCtorEq, eq_self, decide_true, decide_false, List.length_map, exists_const, false_and, and_false, or_false, false_or, ↓reduceIte]
          refine ⟨by decide, fun b nb => ?_⟩
          have e5 := same_new (o := .lst [V.ref D, .int st]) nb
          have nbD : b ≠ D := fun z => by rw [z, hD] at nb; cases nb
          exact q b D _ (e02.trans (e3.trans (e4.same.trans e5))) ⟨nbD, l, st, upd_same, e5 _ _ hD, l2, by omega, t0, t1⟩
end
end K76
set_option Elab.async false
set_option linter.all false
set_option maxRecDepth 100000
set_option maxHeartbeats 4000000
/-! k76: the ways that the law names itself -/
namespace K76
open PySem PySem.Spec PyProof.Rows L2 He HK
def starRow (m : Nat) : List (List Int) := ((List.range (m - 1)).map fun i => (1 + (i : Nat) : Int)) :: List.replicate (m - 1) [0]
def starU (m k : Nat) : Ups := List.replicate k (starRow m)
def crowdRow (m : Nat) : List (List Int) := (List.range m).map fun b => ((List.range m).filter fun o => decide (o ≠ b)).map fun o => ((o : Nat) : Int)
def crowdU (m k : Nat) : Ups := List.replicate k (crowdRow m)
def loneU (k : Nat) : Ups := List.replicate k (List.replicate 12 [])
def twoU (c : Nat) : Ups := List.replicate c [[1], []]
instance decFew (ts : List Int) : Decidable (Few ts) := by unfold Few; exact inferInstance
def rowB (m : Nat) (u : List (List Int)) : Bool := (List.range u.length).all fun b => decide ((u.getD b []).Pairwise (· < ·)) && (u.getD b []).all fun x => decide (0 ≤ x) && decide (x < (m : Int)) && decide (x ≠ (b : Int))
theorem rowB_ok {m : Nat} {u : List (List Int)} (h : rowB m u = true) : RowGood m u := fun b l hb => by
  have hl := (List.getElem?_eq_some_iff.1 hb).1
  have h1 := List.all_eq_true.1 h b (List.mem_range.2 hl)
  have e : u.getD b [] = l := by simp [List.getD, hb]
  rw [e, Bool.and_eq_true] at h1
  refine ⟨of_decide_eq_true h1.1, fun x hx => ?_⟩
  have h2 := List.all_eq_true.1 h1.2 x hx
  rw [Bool.and_eq_true, Bool.and_eq_true] at h2
  exact ⟨of_decide_eq_true h2.1.1, of_decide_eq_true h2.1.2, of_decide_eq_true h2.2⟩
theorem good_rep {m k : Nat} {u : List (List Int)} (k1 : 1 ≤ k) (k24 : k ≤ 24) (m12 : m ≤ 12) (hl : u.length = m) (h : rowB m u = true) : Good k m (List.replicate k u) :=
  good_of k1 k24 m12 List.length_replicate fun x hx => by
    rw [List.eq_of_mem_replicate hx]
    exact ⟨hl, rowB_ok h⟩
theorem star_row : ∀ m, 10 ≤ m → m ≤ 12 → (starRow m).length = m ∧ rowB m (starRow m) = true := fun m h1 h2 => by
  have : m = 10 ∨ m = 11 ∨ m = 12 := by omega
  rcases this with rfl | rfl | rfl <;> decide +kernel
theorem crowd_row : ∀ m, 10 ≤ m → m ≤ 12 → (crowdRow m).length = m ∧ rowB m (crowdRow m) = true := fun m h1 h2 => by
  have : m = 10 ∨ m = 11 ∨ m = 12 := by omega
  rcases this with rfl | rfl | rfl <;> decide +kernel
theorem lone_row : (List.replicate 12 ([] : List Int)).length = 12 ∧ rowB 12 (List.replicate 12 []) = true := by decide +kernel
theorem two_row : ([[1], []] : List (List Int)).length = 2 ∧ rowB 2 [[1], []] = true := by decide +kernel
theorem star_few (m k : Nat) (m10 : 10 ≤ m) (m12 : m ≤ 12) (k2 : 2 ≤ k) (k3 : k ≤ 3) : Few (toldU (starU m k) m) ↔ 2 * (k : Int) * ((m : Int) - 1) ≤ 60 := by
  have h1 : m = 10 ∨ m = 11 ∨ m = 12 := by omega
  have h2 : k = 2 ∨ k = 3 := by omega
  rcases h1 with rfl | rfl | rfl <;> rcases h2 with rfl | rfl <;> decide +kernel
theorem crowd_few (m k : Nat) (m10 : 10 ≤ m) (m12 : m ≤ 12) (k2 : 2 ≤ k) (k3 : k ≤ 3) : Few (toldU (crowdU m k) m) ↔ (2 * (k : Int) * ((m : Int) - 1) ≤ 60 ∧ (m : Int) * (2 * (k : Int) * ((m : Int) - 1)) ≤ 400) := by
  have h1 : m = 10 ∨ m = 11 ∨ m = 12 := by omega
  have h2 : k = 2 ∨ k = 3 := by omega
  rcases h1 with rfl | rfl | rfl <;> rcases h2 with rfl | rfl <;> decide +kernel
theorem lone_few (k : Nat) (k2 : 2 ≤ k) (k3 : k ≤ 3) : Few (toldU (loneU k) 12) := by
  have h2 : k = 2 ∨ k = 3 := by omega
  rcases h2 with rfl | rfl <;> decide +kernel
theorem for_rcall {ta : TA} {g : TG} {tb : TS} {D : Ends} {σ : L2.St} {H : Hp} : tFor (iRng1 ta) g tb D σ H = ta σ H fun vs H1 => tFor (iRng1 fun _ H Q => Q vs H) g tb D σ H1 := rfl
theorem gives_rng2 {ta : TA} {σ : L2.St} {H : Hp} {i j : Int} (ht : ∀ Q : List V → Hp → Prop, Q [.int i, .int j] H → ta σ H Q) (h1 : -(2 ^ 62) ≤ i := by omega) (h2 : i < 2 ^ 62 := by omega) (h3 : -(2 ^ 62) ≤ j := by omega) (h4 : j < 2 ^ 62 := by omega) : Gives (iRng2 ta) σ H (rngV i (j - i).toNat) fun _ => True := fun R h => ht _ ⟨i, j, rfl, ⟨h1, h2, h3, h4⟩, h _ _ walks_rng fun _ _ => trivial⟩
theorem paired_rep {α β : Type} {R : α → β → Prop} {x : α} {y : β} (h : R x y) : ∀ n, Paired R (List.replicate n x) (List.replicate n y)
  | 0 => .nil
  | n + 1 => .cons h (paired_rep h n)
theorem sq_rep {α : Type} {R : RlA α} {H : Hp} {p : Addr} {v : V} {x : α} {n : Nat} (h : H p = some (.lst (List.replicate n v))) (r : R No H v x) : SqF R No H (.ref p) (List.replicate n x) := ⟨p, _, rfl, fun z => z, .inl h, paired_rep r n⟩
theorem same_upd2 {H : Hp} {p q : Addr} {o o' : HO} (hp : H p = none) (hq : (upd H p o) q = none) : Same H (upd (upd H p o) q o') := (same_new hp).trans (same_new hq)
theorem alien_non {K : PySem.W.Frag} {H : Hp} : Alien K H .non := ⟨"NoneType", .base .non, fun C => by rfl⟩
theorem alien_int {K : PySem.W.Frag} {H : Hp} {i : Int} : Alien K H (.int i) := ⟨"int", .base (.int i), fun C => by rfl⟩
theorem alien_str {K : PySem.W.Frag} {H : Hp} {x : Str} : Alien K H (.str x) := ⟨"str", .base (.str x), fun C => by rfl⟩
theorem alien_tup {K : PySem.W.Frag} {H : Hp} {a : Addr} {xs : List V} (h : H a = some (.tup xs)) : Alien K H (.ref a) := ⟨"tuple", .base (.tup h), fun C => by rfl⟩
theorem make_waysA {K : PySem.W.Frag} {H : Hp} {QA : Addr → Hp → Prop} {E : XK} {m : Nat} {v : V} {U : Ups} (hv : SqF (SqF (SqF InA)) No H v U) (m1 : 1 ≤ m) (O : UpsOk m U) (q : ∀ x H', Same H H' → WayO K m (srtU U) H' (.ref x) → QA x H') :
    ∀ x dx, H x = none → H dx = none → dx ≠ x → sp_Ways (ga K "Ways") [.ref x, .int m, v] (upd (upd H dx (.own x)) x (.ins (ga K "Ways") dx [])) (fun v H2 => v = .non ∧ QA x H2) E := fun x dx nx ndx hne => by
  have e2 : Same H (upd (upd H dx (.own x)) x (.ins (ga K "Ways") dx [])) := same_mut (same_new ndx) nx
  refine ⟨x, dx, m, v, U, rfl, upd_same, (fam_sq (fam_sq (fam_sq fam_in))).weak (fun a z => ?_) ((fam_sq (fam_sq (fam_sq fam_in))).same e2 ((fam_sq (fam_sq (fam_sq fam_in))).live hv)), m1, O, fun H' t e ht hb => ⟨rfl, q x _ (fun a u h => e.1 a u (fun z => ?_) (e2 a u h)) ⟨x, dx, t, rfl, ht, hb⟩⟩⟩
  · rcases z with z | z
    · exact z.elim
    · exact .inr (z ▸ nx)
  · rcases z with z | z
    · exact z
    · rw [z, nx] at h
      cases h
end K76
set_option Elab.async false
set_option linter.all false
set_option maxRecDepth 100000
set_option maxHeartbeats 4000000
/-! k76: law, from lone on -/
namespace K76
open PySem PySem.Spec PyProof.Rows L2 He HK
theorem rep_lst {H : Hp} {Q : VK} {l : Addr} {v : V} {n : Int} (h : H l = some (.lst [v])) (n0 : 0 ≤ n) (n1 : n ≤ 1000) (q : ∀ p, H p = none → Q (.ref p) (upd H p (.lst (List.replicate n.toNat v)))) : rRep (.ref l) (.int n) H Q :=
  ⟨l, n, [v], rfl, rfl, h, by omega, by omega, Nat.le_trans (by simp only [List.length_cons, List.length_nil]; omega : _ ≤ 1000) (by decide), fun p np => by
    rw [List.flatten_replicate_singleton]
    exact q p np⟩
section
variable {w : World} {K : PySem.W.Frag} {mg : Str → Option Value} {base : Heap}
abbrev lawN : List Str := ["script", "box", "turn", "ups", "axis", "other", "body", "many", "axes", "star", "due", "crowd", "wanted", "lone", "count"]
theorem law_12 (S : Sc K mg) (PL : Plain w) {f : Addr} {cdv : Value} {A : Around} {outer : List Env} {s : Shared} {H : Hp} {E : XK} (hr : Room 13 (A.deeper (envOfC d_law.qual d_law.scope s.heap.objs.size f cdv))) :
    ∃ t, PSs (cxOf CX0 prg w K mg base lawN d_law.qual d_law.scope f cdv A outer s H E).nox (d_law.body.drop 12) t ∧ ∀ (Q : VK) (b d : Addr) (k : Nat) (H' : Hp) (u0 u2 u3 u4 u5 u6 u7 u9 u10 u11 u12 u13 u14 : Option V), 2 ≤ k → k ≤ 3 → BoxAt b d H' → (∀ H'', Q (.bl true) H'') →
      t { nx := fun _ H' => Q .non H', rt := Q } [u0, some (.ref b), u2, u3, u4, u5, u6, u7, some (.int (k : Nat)), u9, u10, u11, u12, u13, u14] H' := by
  have C__law_pick := C__law_pick (w := w) (base := base) S
  have C__law_heard := C__law_heard (w := w) (base := base) S
  have C_Ways := C_Ways (w := w) (base := base) S
  have C_bodies_for := C_bodies_for (w := w) (base := base) S
  have C_ways_of := C_ways_of (w := w) (base := base) S
  have C_Ways_eq := C_Ways_eq (w := w) (base := base) S
  refine ⟨_, (pss_cons (ps_set (i := 13) sc_law.nd rfl (by first | exact Or.inl rfl | exact Or.inr rfl) (pe_m C_Ways (hr.mono (by omega)) pass0 (pa_cons pe_int (pa_cons (pe_op op_rep (pe_lst (pa_cons (pe_op op_rep (pe_lst (pa_cons (pe_lst pa_nil) pa_nil)) pe_int) pa_nil)) (pv 8)) pa_nil))))
      (pss_cons (ps_if (PW.pt (pw_or (pt_cmpR op_ne (pe_fld (pe_c C_bodies_for (hr.mono (by omega)) passL (pa_cons (pv 13) pa_nil)) rfl) (pv 8) (nomark _)) (pw_or1 (pt_cmpR (op_neC C_Ways_eq pass0 (hr.mono (by omega))) (pe_c C_ways_of (hr.mono (by omega)) pass0 (pa_cons (pe_c C_bodies_for (hr.mono (by omega)) passL (pa_cons (pv 13) pa_nil)) pa_nil)) (pv 13) (nomark _))))) (pss_one (ps_ret pe_bl)) pss_nil)
      (pss_cons (ps_set (i := 14) sc_law.nd rfl (by first | exact Or.inl rfl | exact Or.inr rfl) (pe_c C__law_pick (hr.mono (by omega)) pass0 (pa_cons (pv 1) (pa_cons (pe_lst (pa_cons pe_int (pa_cons pe_int (pa_cons pe_int pa_nil)))) pa_nil))))
      (pss_one (ps_ret (pe_and (pe_cmpR (op_eqD hr.units) (pe_c C__law_heard (hr.mono (by omega)) pass0 (pa_cons (pe_m C_Ways (hr.mono (by omega)) pass0 (pa_cons pe_int (pa_cons (pe_op op_rep (pe_lst (pa_cons (pe_lst (pa_cons (pe_lst (pa_cons pe_int pa_nil)) (pa_cons (pe_lst pa_nil) pa_nil))) pa_nil)) (pv 14)) pa_nil))) pa_nil)) (pe_tup (pa_cons pe_str (pa_cons (pe_op op_sub pe_int pe_int) pa_nil))) (nomark _)) (pe_one (pe_cmpR (op_eqD hr.units) (pe_c C__law_heard (hr.mono (by omega)) pass0 (pa_cons (pe_c C__law_pick (hr.mono (by omega)) pass0 (pa_cons (pv 1) (pa_cons (pe_lst (pa_cons pe_non (pa_cons pe_int (pa_cons (pe_tup pa_nil) (pa_cons pe_str pa_nil))))) pa_nil))) pa_nil)) (pe_tup (pa_cons pe_str (pa_cons (pe_op op_sub pe_int pe_int) pa_nil))) (nomark _))))))))), fun Q b d k H' u0 u2 u3 u4 u5 u6 u7 u9 u10 u11 u12 u13 u14 k2 k3 hb q => ?_⟩
  try simp only [wipe, tC, tVar, tChain, rI0, rI, rU, tOp, tUn, tCall, tAnd, tOr, tNot, tNotV, tAndV, tOrV, tTest, tB, tIf, tIfS, tRet, tRetN, tNext, tSeq, tNil, tCons, tAug, ipI, tPar, tAsg, gName, tDrop, tLst, tTup, tCB, tBM, tBM0, tFld_eq, tMkE, tMake, tAugS, gSub, rEq, rAll, rMax, rSum, rAppend, rExtend, rSetL, _root_.L2.start, List.map_cons, List.map_nil, List.length_cons, List.length_nil, List.replicate_succ, List.replicate_zero, List.cons_append, List.nil_append, List.append_nil, List.getElem?_cons_zero, List.getElem?_cons_succ, List.set_cons_zero, List.set_cons_succ, Nat.reduceAdd, Nat.reduceSub, V.int.injEq, V.bl.injEq, V.ref.injEq, V.str.injEq, exists_eq, exists_eq', exists_eq_left, exists_eq_left', exists_and_left, exists_and_right, Option.some.injEq, List.cons.injEq, and_true, true_and, and_assoc, retV, true_or, or_true, decide_eq_true_eq, if_true, if_false, Bool.false_eq_true, Bool.not_true, Bool.not_false, Bool.not_eq_true', reduceCtorEq, eq_self, decide_true, decide_false, List.length_map, exists_const, false_and, and_false, or_false, false_or, ↓reduceIte]
  refine ⟨by decide, fun p1 np1 => ⟨by decide, fun p2 np2 => rep_lst upd_same (by decide) (by decide) fun p3 np3 => ⟨by decide, fun p4 np4 => rep_lst upd_same (by omega) (by omega) fun p5 np5 => ?_⟩⟩⟩
  have e1 := same_new (o := .lst []) np1
  have e2 := same_new (o := .lst [V.ref p1]) np2
  have e3 := same_new (o := .lst (List.replicate (12 : Int).toNat (V.ref p1))) np3
  have e4 := same_new (o := .lst [V.ref p3]) np4
  have e5 := same_new (o := .lst (List.replicate (k : Int).toNat (V.ref p3))) np5
  have hp1 := e5 _ _ (e4 _ _ (e3 _ _ (e2 _ _ (upd_same (H := H') (a := p1) (o := .lst [])))))
  have hp3 := e5 _ _ (e4 _ _ (upd_same (H := (upd (upd H' p1 (.lst [])) p2 (.lst [V.ref p1]))) (a := p3) (o := .lst (List.replicate (12 : Int).toNat (V.ref p1)))))
  have hp5 : (upd (upd (upd (upd (upd H' p1 (.lst [])) p2 (.lst [V.ref p1])) p3 (.lst (List.replicate (12 : Int).toNat (V.ref p1)))) p4 (.lst [V.ref p3])) p5 (.lst (List.replicate (k : Int).toNat (V.ref p3)))) p5 = some (.lst (List.replicate k (V.ref p3))) := by rw [upd_same, Int.toNat_natCast]
  have b5 := hb.same (e1.trans (e2.trans (e3.trans (e4.trans e5))))
  generalize (upd (upd (upd (upd (upd H' p1 (.lst [])) p2 (.lst [V.ref p1])) p3 (.lst (List.replicate (12 : Int).toNat (V.ref p1)))) p4 (.lst [V.ref p3])) p5 (.lst (List.replicate (k : Int).toNat (V.ref p3)))) = H5 at hp1 hp3 hp5 b5 ⊢
  have GL : Good k 12 (loneU k) := good_rep (by omega) (by omega) (by decide) lone_row.1 lone_row.2
  have hL : SqF (SqF (SqF InA)) No H5 (.ref p5) (loneU k) := sq_rep hp5 (sq_rep (n := 12) hp3 ⟨p1, [], rfl, fun z => z, .inl hp1, .nil⟩)
  have lenL : (loneU k).length = k := List.length_replicate
  have hU : ¬((loneU k).length = 1 ∨ 3 < (loneU k).length) := by omega
  have OB := PL.ok k2 k3 (by decide) GL (lone_few k k2 k3)
  refine make_waysA (m := 12) hL (by decide) GL.ok fun wx H6 e6 hW => ?_
  rw [srtU_of GL.asc] at hW
  try simp only [wipe, tC, tVar, tChain, rI0, rI, rU, tOp, tUn, tCall, tAnd, tOr, tNot, tNotV, tAndV, tOrV, tTest, tB, tIf, tIfS, tRet, tRetN, tNext, tSeq, tNil, tCons, tAug, ipI, tPar, tAsg, gName, tDrop, tLst, tTup, tCB, tBM, tBM0, tFld_eq, tMkE, tMake, tAugS, gSub, rEq, rAll, rMax, rSum, rAppend, rExtend, rSetL, _root_.L2.start, List.map_cons, List.map_nil, List.length_cons, List.length_nil, List.replicate_succ, List.replicate_zero, List.cons_append, List.nil_append, List.append_nil, List.getElem?_cons_zero, List.getElem?_cons_succ, List.set_cons_zero, List.set_cons_succ, Nat.reduceAdd, Nat.reduceSub, V.int.injEq, V.bl.injEq, V.ref.injEq, V.str.injEq, exists_eq, exists_eq', exists_eq_left, exists_eq_left', exists_and_left, exists_and_right, Option.some.injEq, List.cons.injEq, and_true, true_and, and_assoc, retV, true_or, or_true, decide_eq_true_eq, if_true, if_false, Bool.false_eq_true, Bool.not_true, Bool.not_false, Bool.not_eq_true', reduceCtorEq, eq_self, decide_true, decide_false, List.length_map, exists_const, false_and, and_false, or_false, false_or, ↓reduceIte]
  refine ⟨.ref wx, rfl, .inr ⟨12, loneU k, hW, GL.ok, by decide, fun z => absurd z hU, fun _ => ⟨fun hn => absurd (lone_few k k2 k3) hn, fun _ => ⟨by rw [lenL]; exact OB, fun bv H7 e7 hbv => ?_⟩⟩⟩⟩
  rw [lenL] at hbv
  refine bod_axes S hbv ?_
  try simp only [wipe, tC, tVar, tChain, rI0, rI, rU, tOp, tUn, tCall, tAnd, tOr, tNot, tNotV, tAndV, tOrV, tTest, tB, tIf, tIfS, tRet, tRetN, tNext, tSeq, tNil, tCons, tAug, ipI, tPar, tAsg, gName, tDrop, tLst, tTup, tCB, tBM, tBM0, tFld_eq, tMkE, tMake, tAugS, gSub, rEq, rAll, rMax, rSum, rAppend, rExtend, rSetL, _root_.L2.start, List.map_cons, List.map_nil, List.length_cons, List.length_nil, List.replicate_succ, List.replicate_zero, List.cons_append, List.nil_append, List.append_nil, List.getElem?_cons_zero, List.getElem?_cons_succ, List.set_cons_zero, List.set_cons_succ, Nat.reduceAdd, Nat.reduceSub, V.int.injEq, V.bl.injEq, V.ref.injEq, V.str.injEq, exists_eq, exists_eq', exists_eq_left, exists_eq_left', exists_and_left, exists_and_right, Option.some.injEq, List.cons.injEq, and_true, true_and, and_assoc, retV, true_or, or_true, decide_eq_true_eq, if_true, if_false, Bool.false_eq_true, Bool.not_true, Bool.not_false, Bool.not_eq_true', reduceCtorEq, eq_self, decide_true, decide_false, List.length_map, exists_const, false_and, and_false, or_false, false_or, rNe, scal, ↓reduceIte]
  have hW7 := same_way e7 hW
  refine ⟨.ref wx, rfl, .inr ⟨12, loneU k, hW7, GL.ok, by decide, fun z => absurd z hU, fun _ => ⟨fun hn => absurd (lone_few k k2 k3) hn, fun _ => ⟨by rw [lenL]; exact OB, fun bv H8 e8 hbv8 => ?_⟩⟩⟩⟩
  rw [lenL] at hbv8
  obtain ⟨B', hX, hperm⟩ := bodO_x hbv8
  have lB : B'.length = 12 := by rw [Paired.len hperm, cellsOf_len]
  have hB := bods_small OB hperm
  refine ⟨bv, k, B', loneU k, rfl, hX, k3, by omega, by omega, hB, by rw [lB]; exact GL.ok, GL.asc, by rw [lB]; exact PL.meets k2 k3 (by decide) GL hperm, fun v9 H9 e9 hv9 => ?_⟩
  rw [lB] at hv9
  refine eq_way hv9 (same_way (e8.trans e9) hW7) fun H10 e10 => ?_
  try simp only [wipe, tC, tVar, tChain, rI0, rI, rU, tOp, tUn, tCall, tAnd, tOr, tNot, tNotV, tAndV, tOrV, tTest, tB, tIf, tIfS, tRet, tRetN, tNext, tSeq, tNil, tCons, tAug, ipI, tPar, tAsg, gName, tDrop, tLst, tTup, tCB, tBM, tBM0, tFld_eq, tMkE, tMake, tAugS, gSub, rEq, rAll, rMax, rSum, rAppend, rExtend, rSetL, _root_.L2.start, List.map_cons, List.map_nil, List.length_cons, List.length_nil, List.replicate_succ, List.replicate_zero, List.cons_append, List.nil_append, List.append_nil, List.getElem?_cons_zero, List.getElem?_cons_succ, List.set_cons_zero, List.set_cons_succ, Nat.reduceAdd, Nat.reduceSub, V.int.injEq, V.bl.injEq, V.ref.injEq, V.str.injEq, exists_eq, exists_eq', exists_eq_left, exists_eq_left', exists_and_left, exists_and_right, Option.some.injEq, List.cons.injEq, and_true, true_and, and_assoc, retV, true_or, or_true, decide_eq_true_eq, if_true, if_false, Bool.false_eq_true, Bool.not_true, Bool.not_false, Bool.not_eq_true', reduceCtorEq, eq_self, decide_true, decide_false, List.length_map, exists_const, false_and, and_false, or_false, false_or, ↓reduceIte]
  refine ⟨by decide, fun p np => ?_⟩
  have b10 := b5.same (e6.trans (e7.trans (e8.trans (e9.trans e10))))
  refine ⟨b, d, p, _, rfl, b10.same (same_new np), upd_same, b10.off np, by decide, by decide, fun cv H11 e11 b11 hcv => ?_⟩
  obtain ⟨c, rfl, hc⟩ : ∃ c : Nat, cv = .int (c : Int) ∧ (c = 1 ∨ c = 4 ∨ c = 24) := by
    simp only [List.mem_cons, List.not_mem_nil, or_false] at hcv
    rcases hcv with h | h | h
    · exact ⟨1, h, .inl rfl⟩
    · exact ⟨4, h, .inr (.inl rfl)⟩
    · exact ⟨24, h, .inr (.inr rfl)⟩
  try simp only [wipe, tC, tVar, tChain, rI0, rI, rU, tOp, tUn, tCall, tAnd, tOr, tNot, tNotV, tAndV, tOrV, tTest, tB, tIf, tIfS, tRet, tRetN, tNext, tSeq, tNil, tCons, tAug, ipI, tPar, tAsg, gName, tDrop, tLst, tTup, tCB, tBM, tBM0, tFld_eq, tMkE, tMake, tAugS, gSub, rEq, rAll, rMax, rSum, rAppend, rExtend, rSetL, _root_.L2.start, List.map_cons, List.map_nil, List.length_cons, List.length_nil, List.replicate_succ, List.replicate_zero, List.cons_append, List.nil_append, List.append_nil, List.getElem?_cons_zero, List.getElem?_cons_succ, List.set_cons_zero, List.set_cons_succ, Nat.reduceAdd, Nat.reduceSub, V.int.injEq, V.bl.injEq, V.ref.injEq, V.str.injEq, exists_eq, exists_eq', exists_eq_left, exists_eq_left', exists_and_left, exists_and_right, Option.some.injEq, List.cons.injEq, and_true, true_and, and_assoc, retV, true_or, or_true, decide_eq_true_eq, if_true, if_false, Bool.false_eq_true, Bool.not_true, Bool.not_false, Bool.not_eq_true', reduceCtorEq, eq_self, decide_true, decide_false, List.length_map, exists_const, false_and, and_false, or_false, false_or, ↓reduceIte]
  refine ⟨by decide, fun p1 np1 => ⟨by decide, fun p2 np2 => ⟨by decide, fun p3 np3 => ⟨by decide, fun p4 np4 => rep_lst upd_same (by omega) (by omega) fun p5 np5 => ?_⟩⟩⟩⟩
  have g2 := same_new (o := .lst []) np2
  have g3 := same_new (o := .lst [V.ref p1, .ref p2]) np3
  have g4 := same_new (o := .lst [V.ref p3]) np4
  have g5 := same_new (o := .lst (List.replicate (c : Int).toNat (V.ref p3))) np5
  have hq1 := g5 _ _ (g4 _ _ (g3 _ _ (g2 _ _ (upd_same (H := H11) (a := p1) (o := .lst [V.int 1])))))
  have hq2 := g5 _ _ (g4 _ _ (g3 _ _ (upd_same (H := upd H11 p1 (.lst [V.int 1])) (a := p2) (o := .lst []))))
  have hq3 := g5 _ _ (g4 _ _ (upd_same (H := upd (upd H11 p1 (.lst [V.int 1])) p2 (.lst [])) (a := p3) (o := .lst [V.ref p1, .ref p2])))
  have hq5 : (upd (upd (upd (upd (upd H11 p1 (.lst [V.int 1])) p2 (.lst [])) p3 (.lst [V.ref p1, .ref p2])) p4 (.lst [V.ref p3])) p5 (.lst (List.replicate (c : Int).toNat (V.ref p3)))) p5 = some (.lst (List.replicate c (V.ref p3))) := by rw [upd_same, Int.toNat_natCast]
  have b12 := b11.same ((same_new (o := .lst [V.int 1]) np1).trans (g2.trans (g3.trans (g4.trans g5))))
  generalize (upd (upd (upd (upd (upd H11 p1 (.lst [V.int 1])) p2 (.lst [])) p3 (.lst [V.ref p1, .ref p2])) p4 (.lst [V.ref p3])) p5 (.lst (List.replicate (c : Int).toNat (V.ref p3)))) = H12 at hq1 hq2 hq3 hq5 b12 ⊢
  have GT : Good c 2 (twoU c) := good_rep (by omega) (by omega) (by decide) two_row.1 two_row.2
  have hT : SqF (SqF (SqF InA)) No H12 (.ref p5) (twoU c) := sq_rep hq5 ⟨p3, _, rfl, fun z => z, .inl hq3, .cons ⟨p1, _, rfl, fun z => z, .inl hq1, .cons rfl .nil⟩ (.cons ⟨p2, _, rfl, fun z => z, .inl hq2, .nil⟩ .nil)⟩
  have lenT : (twoU c).length = c := List.length_replicate
  have hUT : (twoU c).length = 1 ∨ 3 < (twoU c).length := by omega
  refine make_waysA (m := 2) hT (by decide) GT.ok fun wx H13 e13 hW2 => ?_
  rw [srtU_of GT.asc] at hW2
  try simp only [wipe, tC, tVar, tChain, rI0, rI, rU, tOp, tUn, tCall, tAnd, tOr, tNot, tNotV, tAndV, tOrV, tTest, tB, tIf, tIfS, tRet, tRetN, tNext, tSeq, tNil, tCons, tAug, ipI, tPar, tAsg, gName, tDrop, tLst, tTup, tCB, tBM, tBM0, tFld_eq, tMkE, tMake, tAugS, gSub, rEq, rAll, rMax, rSum, rAppend, rExtend, rSetL, _root_.L2.start, List.map_cons, List.map_nil, List.length_cons, List.length_nil, List.replicate_succ, List.replicate_zero, List.cons_append, List.nil_append, List.append_nil, List.getElem?_cons_zero, List.getElem?_cons_succ, List.set_cons_zero, List.set_cons_succ, Nat.reduceAdd, Nat.reduceSub, V.int.injEq, V.bl.injEq, V.ref.injEq, V.str.injEq, exists_eq, exists_eq', exists_eq_left, exists_eq_left', exists_and_left, exists_and_right, Option.some.injEq, List.cons.injEq, and_true, true_and, and_assoc, retV, true_or, or_true, decide_eq_true_eq, if_true, if_false, Bool.false_eq_true, Bool.not_true, Bool.not_false, Bool.not_eq_true', reduceCtorEq, eq_self, decide_true, decide_false, List.length_map, exists_const, false_and, and_false, or_false, false_or, ↓reduceIte]
  refine ⟨.ref wx, rfl, .inr ⟨2, twoU c, hW2, GT.ok, by decide, fun _ pr H14 e14 hpr => ⟨by decide, fun pp npp => ?_⟩, fun z => absurd hUT z⟩⟩
  have g14 := same_new (o := .tup [.str "refused", .int (0 - 1)]) npp
  refine eq_two (g14 _ _ hpr) upd_same (.str _) (.int _) (by decide +kernel) (by decide +kernel) rfl rfl ?_
  have b14 := b12.same (e13.trans (e14.trans g14))
  generalize upd H14 pp (.tup [.str "refused", .int (0 - 1)]) = H15 at b14 ⊢
  try simp only [wipe, tC, tVar, tChain, rI0, rI, rU, tOp, tUn, tCall, tAnd, tOr, tNot, tNotV, tAndV, tOrV, tTest, tB, tIf, tIfS, tRet, tRetN, tNext, tSeq, tNil, tCons, tAug, ipI, tPar, tAsg, gName, tDrop, tLst, tTup, tCB, tBM, tBM0, tFld_eq, tMkE, tMake, tAugS, gSub, rEq, rAll, rMax, rSum, rAppend, rExtend, rSetL, _root_.L2.start, List.map_cons, List.map_nil, List.length_cons, List.length_nil, List.replicate_succ, List.replicate_zero, List.cons_append, List.nil_append, List.append_nil, List.getElem?_cons_zero, List.getElem?_cons_succ, List.set_cons_zero, List.set_cons_succ, Nat.reduceAdd, Nat.reduceSub, V.int.injEq, V.bl.injEq, V.ref.injEq, V.str.injEq, exists_eq, exists_eq', exists_eq_left, exists_eq_left', exists_and_left, exists_and_right, Option.some.injEq, List.cons.injEq, and_true, true_and, and_assoc, retV, true_or, or_true, decide_eq_true_eq, if_true, if_false, Bool.false_eq_true, Bool.not_true, Bool.not_false, Bool.not_eq_true', reduceCtorEq, eq_self, decide_true, decide_false, List.length_map, exists_const, false_and, and_false, or_false, false_or, ↓reduceIte]
  refine ⟨by decide, fun pn npn => ⟨by decide, fun pl npl => ?_⟩⟩
  have g15 := same_new (o := .tup []) npn
  have g16 := same_new (o := .lst [V.non, .int 3, .ref pn, .str "0"]) npl
  refine ⟨b, d, pl, _, rfl, b14.same (g15.trans g16), upd_same, (b14.same g15).off npl, by simp, by simp, fun xv H16 e16 b16 hxv => ?_⟩
  have hpn : H16 pn = some (.tup []) := (e16.2.1 pn).1 _ (g16 _ _ upd_same)
  have hA : Alien K H16 xv := by
    simp only [List.mem_cons, List.not_mem_nil, or_false] at hxv
    rcases hxv with h | h | h | h <;> subst h
    · exact alien_non
    · exact alien_int
    · exact alien_tup hpn
    · exact alien_str
  try simp only [wipe, tC, tVar, tChain, rI0, rI, rU, tOp, tUn, tCall, tAnd, tOr, tNot, tNotV, tAndV, tOrV, tTest, tB, tIf, tIfS, tRet, tRetN, tNext, tSeq, tNil, tCons, tAug, ipI, tPar, tAsg, gName, tDrop, tLst, tTup, tCB, tBM, tBM0, tFld_eq, tMkE, tMake, tAugS, gSub, rEq, rAll, rMax, rSum, rAppend, rExtend, rSetL, _root_.L2.start, List.map_cons, List.map_nil, List.length_cons, List.length_nil, List.replicate_succ, List.replicate_zero, List.cons_append, List.nil_append, List.append_nil, List.getElem?_cons_zero, List.getElem?_cons_succ, List.set_cons_zero, List.set_cons_succ, Nat.reduceAdd, Nat.reduceSub, V.int.injEq, V.bl.injEq, V.ref.injEq, V.str.injEq, exists_eq, exists_eq', exists_eq_left, exists_eq_left', exists_and_left, exists_and_right, Option.some.injEq, List.cons.injEq, and_true, true_and, and_assoc, retV, true_or, or_true, decide_eq_true_eq, if_true, if_false, Bool.false_eq_true, Bool.not_true, Bool.not_false, Bool.not_eq_true', reduceCtorEq, eq_self, decide_true, decide_false, List.length_map, exists_const, false_and, and_false, or_false, false_or, ↓reduceIte]
  refine ⟨xv, rfl, .inl ⟨hA, fun pr H17 e17 hpr => ⟨by decide, fun pp npp => ?_⟩⟩⟩
  have g17 := same_new (o := .tup [.str "ways", .int (0 - 1)]) npp
  exact eq_two (g17 _ _ hpr) upd_same (.str _) (.int _) (by decide +kernel) (by decide +kernel) rfl rfl (q _)
end
end K76
set_option Elab.async false
set_option linter.all false
set_option maxRecDepth 100000
set_option maxHeartbeats 4000000
/-! k76: law, from crowd on; from star's hearing on -/
namespace K76
open PySem PySem.Spec PyProof.Rows L2 He HK
theorem filt_succ (b k : Nat) : ((List.range (k + 1)).filter fun o => decide (o ≠ b)).map (fun o => ((o : Nat) : Int)) = ((List.range k).filter fun o => decide (o ≠ b)).map (fun o => ((o : Nat) : Int)) ++ if k ≠ b then [(k : Int)] else [] := by
  rw [List.range_succ, List.filter_append, List.map_append]
  congr 1
  rw [List.filter_cons]
  by_cases h : k = b
  · simp [h]
  · simp [h]
section
variable {w : World} {K : PySem.W.Frag} {mg : Str → Option Value} {base : Heap}
theorem law_9 (S : Sc K mg) (PL : Plain w) {f : Addr} {cdv : Value} {A : Around} {outer : List Env} {s : Shared} {H : Hp} {E : XK} (hr : Room 13 (A.deeper (envOfC d_law.qual d_law.scope s.heap.objs.size f cdv))) :
    ∃ t, PSs (cxOf CX0 prg w K mg base lawN d_law.qual d_law.scope f cdv A outer s H E).nox (d_law.body.drop 9) t ∧ ∀ (Q : VK) (b d : Addr) (m k : Nat) (H' : Hp) (u0 u2 u3 u4 u5 u6 u9 u10 u11 u12 u13 u14 : Option V), 10 ≤ m → m ≤ 12 → 2 ≤ k → k ≤ 3 → BoxAt b d H' → (∀ H'', Q (.bl true) H'') →
      t { nx := fun _ H' => Q .non H', rt := Q } [u0, some (.ref b), u2, u3, u4, u5, u6, some (.int (m : Nat)), some (.int (k : Nat)), u9, u10, u11, u12, u13, u14] H' := by
  have C__law_heard := C__law_heard (w := w) (base := base) S
  have C_Ways := C_Ways (w := w) (base := base) S
  obtain ⟨t12, h12, T12⟩ := law_12 (w := w) (base := base) S PL (outer := outer) (H := H) (E := E) hr
  refine ⟨_, (pss_cons (ps_set (i := 11) sc_law.nd rfl (by first | exact Or.inl rfl | exact Or.inr rfl) (pe_op op_rep (pe_lst (pa_cons (pe_lc (own := [("body", 6)]) (g := (gName 6)) (tt := tYes) rfl sc_law.nd (pi_range1 rfl (S.free 44) (pa_cons (pv 7) pa_nil)) (blkOk_by (N := ["script", "box", "turn", "ups", "axis", "other", "body", "many", "axes", "star", "due", "crowd", "wanted", "lone", "count"]) (sc := defScope s_law) (by decide +kernel)) (fun _ _ _ _ _ => (pg_name (i := 6) sc_law.nd rfl (by first | exact Or.inl rfl | exact Or.inr rfl))) (fun _ _ _ _ _ => pts_nil) (fun _ _ _ _ _ => (pe_lc (own := [("other", 5)]) (g := (gName 5)) rfl sc_law.nd (pi_range1 rfl (S.free 44) (pa_cons (pv 7) pa_nil)) (blkOk_by (by kernel_rfl)) (fun _ _ _ _ _ => (pg_name (i := 5) sc_law.nd rfl (by first | exact Or.inl rfl | exact Or.inr rfl))) (fun _ _ _ _ _ => (pts_one (pt_cmpR op_ne (pv 5) (pv 6) (nomark _)))) (fun _ _ _ _ _ => (pv 5))))) pa_nil)) (pv 8)))
      (pss_cons (ps_set (i := 12) sc_law.nd rfl (by first | exact Or.inl rfl | exact Or.inr rfl) (pe_op op_mul (pe_op op_mul pe_int (pv 8)) (pe_op op_sub (pv 7) pe_int)))
      (pss_cons (ps_if (pt_cmpR (op_neD hr.units) (pe_c C__law_heard (hr.mono (by omega)) pass0 (pa_cons (pe_m C_Ways (hr.mono (by omega)) pass0 (pa_cons (pv 7) (pa_cons (pv 11) pa_nil))) pa_nil)) (pe_ifExp (PW.pt (pw_and (pt_cmpR op_le (pv 12) pe_int (nomark _)) (pw_and1 (pt_cmpR op_le (pe_op op_mul (pv 7) (pv 12)) pe_int (nomark _))))) (pe_tup (pa_cons pe_str (pa_cons (pv 8) pa_nil))) (pe_tup (pa_cons pe_str (pa_cons pe_str pa_nil)))) (nomark _)) (pss_one (ps_ret pe_bl)) pss_nil)
      h12))), fun Q b d m k H' u0 u2 u3 u4 u5 u6 u9 u10 u11 u12 u13 u14 m10 m12 k2 k3 hb q => ?_⟩
  try simp only [wipe, tC, tVar, tChain, rI0, rI, rU, tOp, tUn, tCall, tAnd, tOr, tNot, tNotV, tAndV, tOrV, tTest, tB, tIf, tIfS, tRet, tRetN, tNext, tSeq, tNil, tCons, tAug, ipI, tPar, tAsg, gName, tDrop, tLst, tTup, tCB, tBM, tBM0, tFld_eq, tMkE, tMake, tAugS, gSub, rEq, rAll, rMax, rSum, rAppend, rExtend, rSetL, _root_.L2.start, List.map_cons, List.map_nil, List.length_cons, List.length_nil, List.replicate_succ, List.replicate_zero, List.cons_append, List.nil_append, List.append_nil, List.getElem?_cons_zero, List.getElem?_cons_succ, List.set_cons_zero, List.set_cons_succ, Nat.reduceAdd, Nat.reduceSub, V.int.injEq, V.bl.injEq, V.ref.injEq, V.str.injEq, exists_eq, exists_eq', exists_eq_left, exists_eq_left', exists_and_left, exists_and_right, Option.some.injEq, List.cons.injEq, and_true, true_and, and_assoc, retV, true_or, or_true, decide_eq_true_eq, if_true, if_false, Bool.false_eq_true, Bool.not_true, Bool.not_false, Bool.not_eq_true', reduceCtorEq, eq_self, decide_true, decide_false, List.length_map, exists_const, false_and, and_false, or_false, false_or, ↓reduceIte]
  refine lc_map (gives_rng1 (j := m) (fun Q h => ⟨_, rfl, h⟩)) (Box.none (A := No) (fun _ z => z.elim)) (fun _ _ => trivial) (by rw [rngV_len, Int.toNat_natCast]; exact Nat.le_trans m12 (by decide)) (fun x => rfl) (fam_ls fam_in) (List.range m) (by rw [rngV_len, Int.toNat_natCast, List.length_range]) (fun b => ((List.range m).filter fun o => decide (o ≠ b)).map fun o => ((o : Nat) : Int)) (fun n y z H2 D N hy hz e2 _ hA hN => ?_) fun ys H2 D e2 _ nD _ hD hys => ?_
  · rw [Int.toNat_natCast] at hy
    obtain rfl := rngV_at hy hz
    refine lc_acc (O := No) (A := Or1 No D) (I := fun _ => True) (gives_rng1 (j := m) (fun Q h => ?_)) ⟨fun _ z => z.elim, hA, fun _ _ _ _ _ => trivial, trivial⟩ (fun _ _ => trivial) (by rw [rngV_len, Int.toNat_natCast]; exact Nat.le_trans m12 (by decide))
      (fun A i acc H' => acc = (((List.range i).filter fun o => decide (o ≠ z)).map fun o => ((o : Nat) : Int)).map V.int) (fun _ _ => rfl) (fun _ h => h) (fun _ h => h)
      (fun i y acc H3 D3 N3 N0 hi hy3 e3 _ hA3 hI hN3 hN0 => ?_) fun acc H3 D3 e3 _ nD3 nA3 hD3 hI => ?_
    · try simp only [wipe, tC, tVar, tChain, rI0, rI, rU, tOp, tUn, tCall, tAnd, tOr, tNot, tNotV, tAndV, tOrV, tTest, tB, tIf, tIfS, tRet, tRetN, tNext, tSeq, tNil, tCons, tAug, ipI, tPar, tAsg, gName, tDrop, tLst, tTup, tCB, tBM, tBM0, tFld_eq, tMkE, tMake, tAugS, gSub, rEq, rAll, rMax, rSum, rAppend, rExtend, rSetL, _root_.L2.start, List.map_cons, List.map_nil, List.length_cons, List.length_nil, List.replicate_succ, List.replicate_zero, List.cons_append, List.nil_append, List.append_nil, List.getElem?_cons_zero, List.getElem?_cons_succ, List.set_cons_zero, List.set_cons_succ, Nat.reduceAdd, Nat.reduceSub, V.int.injEq, V.bl.injEq, V.ref.injEq, V.str.injEq, exists_eq, exists_eq', exists_eq_left, exists_eq_left', exists_and_left, exists_and_right, Option.some.injEq, List.cons.injEq, and_true, true_and, and_assoc, retV, true_or, or_true, decide_eq_true_eq, if_true, if_false, Bool.false_eq_true, Bool.not_true, Bool.not_false, Bool.not_eq_true', reduceCtorEq, eq_self, decide_true, decide_false, List.length_map, exists_const, false_and, and_false, or_false, false_or, ↓reduceIte]
      exact h
    · rw [rngV_len, Int.toNat_natCast] at hi
      rw [Int.toNat_natCast, rngV_get hi, Int.zero_add] at hy3
      obtain rfl := Option.some.inj hy3
      subst hI
      refine ⟨rfl, ?_⟩
      try simp only [wipe, tC, tVar, tChain, rI0, rI, rU, tOp, tUn, tCall, tAnd, tOr, tNot, tNotV, tAndV, tOrV, tTest, tB, tIf, tIfS, tRet, tRetN, tNext, tSeq, tNil, tCons, tAug, ipI, tPar, tAsg, gName, tDrop, tLst, tTup, tCB, tBM, tBM0, tFld_eq, tMkE, tMake, tAugS, gSub, rEq, rAll, rMax, rSum, rAppend, rExtend, rSetL, _root_.L2.start, List.map_cons, List.map_nil, List.length_cons, List.length_nil, List.replicate_succ, List.replicate_zero, List.cons_append, List.nil_append, List.append_nil, List.getElem?_cons_zero, List.getElem?_cons_succ, List.set_cons_zero, List.set_cons_succ, Nat.reduceAdd, Nat.reduceSub, V.int.injEq, V.bl.injEq, V.ref.injEq, V.str.injEq, exists_eq, exists_eq', exists_eq_left, exists_eq_left', exists_and_left, exists_and_right, Option.some.injEq, List.cons.injEq, and_true, true_and, and_assoc, retV, true_or, or_true, decide_eq_true_eq, if_true, if_false, Bool.false_eq_true, Bool.not_true, Bool.not_false, Bool.not_eq_true', reduceCtorEq, eq_self, decide_true, decide_false, List.length_map, exists_const, false_and, and_false, or_false, false_or, rNe, scal, ↓reduceIte]
      by_cases hiz : (i : Int) = (z : Int)
      · rw [if_neg (by simpa using hiz)]
        refine hN0 _ (SameO.refl _ _) trivial ?_
        rw [filt_succ, if_neg (by omega), List.append_nil]
      · rw [if_pos (by simpa using hiz)]
        refine hN3 _ _ (SameO.refl _ _) trivial ?_
        rw [filt_succ, if_pos (by omega), List.map_append]
        rfl
    · subst hI
      rw [rngV_len, Int.toNat_natCast] at hD3
      exact hN _ _ (.of e3.same) trivial ⟨D3, _, rfl, nA3, hD3, ina_of _⟩
  · try simp only [wipe, tC, tVar, tChain, rI0, rI, rU, tOp, tUn, tCall, tAnd, tOr, tNot, tNotV, tAndV, tOrV, tTest, tB, tIf, tIfS, tRet, tRetN, tNext, tSeq, tNil, tCons, tAug, ipI, tPar, tAsg, gName, tDrop, tLst, tTup, tCB, tBM, tBM0, tFld_eq, tMkE, tMake, tAugS, gSub, rEq, rAll, rMax, rSum, rAppend, rExtend, rSetL, _root_.L2.start, List.map_cons, List.map_nil, List.length_cons, List.length_nil, List.replicate_succ, List.replicate_zero, List.cons_append, List.nil_append, List.append_nil, List.getElem?_cons_zero, List.getElem?_cons_succ, List.set_cons_zero, List.set_cons_succ, Nat.reduceAdd, Nat.reduceSub, V.int.injEq, V.bl.injEq, V.ref.injEq, V.str.injEq, exists_eq, exists_eq', exists_eq_left, exists_eq_left', exists_and_left, exists_and_right, Option.some.injEq, List.cons.injEq, and_true, true_and, and_assoc, retV, true_or, or_true, decide_eq_true_eq, if_true, if_false, Bool.false_eq_true, Bool.not_true, Bool.not_false, Bool.not_eq_true', reduceCtorEq, eq_self, decide_true, decide_false, List.length_map, exists_const, false_and, and_false, or_false, false_or, ↓reduceIte]
    refine ⟨by decide, fun p1 np1 => rep_lst upd_same (by omega) (by omega) fun p2 np2 => ?_⟩
    have e3 := same_new (o := .lst [V.ref D]) np1
    have e4 := same_new (o := .lst (List.replicate (k : Int).toNat (V.ref D))) np2
    have hD4 := e4 _ _ (e3 _ _ hD)
    have hp2 : (upd (upd H2 p1 (.lst [V.ref D])) p2 (.lst (List.replicate (k : Int).toNat (V.ref D)))) p2 = some (.lst (List.replicate k (V.ref D))) := by rw [upd_same, Int.toNat_natCast]
    have hys4 := (fam_ls fam_in).monoP (.of (e3.trans e4)) hys
    have b4 := (hb.same e2.same).same (e3.trans e4)
    generalize (upd (upd H2 p1 (.lst [V.ref D])) p2 (.lst (List.replicate (k : Int).toNat (V.ref D)))) = H4 at hD4 hp2 hys4 b4 ⊢
    have r := crowd_row m m10 m12
    have G : Good k m (crowdU m k) := good_rep (by omega) (by omega) m12 r.1 r.2
    have hC : SqF (SqF (SqF InA)) No H4 (.ref p2) (crowdU m k) := sq_rep hp2 ⟨D, ys, rfl, fun z => z, .inl hD4, Paired.imp (fun _ _ z => SqF.ofL z) hys4⟩
    have lenU : (crowdU m k).length = k := List.length_replicate
    have hU : ¬((crowdU m k).length = 1 ∨ 3 < (crowdU m k).length) := by omega
    have few := crowd_few m k m10 m12 k2 k3
    refine ⟨.inl ⟨by decide, by decide⟩, .inr ⟨by omega, by omega⟩, ?_⟩
    refine make_waysA hC (by omega) G.ok fun wx H5 e5 hW => ?_
    rw [srtU_of G.asc] at hW
    try simp only [wipe, tC, tVar, tChain, rI0, rI, rU, tOp, tUn, tCall, tAnd, tOr, tNot, tNotV, tAndV, tOrV, tTest, tB, tIf, tIfS, tRet, tRetN, tNext, tSeq, tNil, tCons, tAug, ipI, tPar, tAsg, gName, tDrop, tLst, tTup, tCB, tBM, tBM0, tFld_eq, tMkE, tMake, tAugS, gSub, rEq, rAll, rMax, rSum, rAppend, rExtend, rSetL, _root_.L2.start, List.map_cons, List.map_nil, List.length_cons, List.length_nil, List.replicate_succ, List.replicate_zero, List.cons_append, List.nil_append, List.append_nil, List.getElem?_cons_zero, List.getElem?_cons_succ, List.set_cons_zero, List.set_cons_succ, Nat.reduceAdd, Nat.reduceSub, V.int.injEq, V.bl.injEq, V.ref.injEq, V.str.injEq, exists_eq, exists_eq', exists_eq_left, exists_eq_left', exists_and_left, exists_and_right, Option.some.injEq, List.cons.injEq, and_true, true_and, and_assoc, retV, true_or, or_true, decide_eq_true_eq, if_true, if_false, Bool.false_eq_true, Bool.not_true, Bool.not_false, Bool.not_eq_true', reduceCtorEq, eq_self, decide_true, decide_false, List.length_map, exists_const, false_and, and_false, or_false, false_or, ↓reduceIte]
    refine ⟨.ref wx, rfl, .inr ⟨m, crowdU m k, hW, G.ok, by omega, fun z => absurd z hU, fun _ => ⟨fun hn pr H6 e6 hpr => ?_, fun hf => ⟨by rw [lenU]; exact PL.ok k2 k3 (by omega) G hf, fun pr H6 e6 hpr => ?_⟩⟩⟩⟩
    · have no : ∀ pp, H6 pp = none → rNeD K (.ref pr) (.ref pp) (upd H6 pp (.tup [.str "size", .str "cells"])) fun x H' => ∃ k_1, x = V.bl k_1 ∧ if k_1 = true then Q (V.bl false) H' else t12 { nx := fun x H' => Q V.non H', rt := Q } [u0, some (V.ref b), u2, u3, u4, u5, u6, some (V.int (m : Nat)), some (V.int (k : Nat)), u9, u10, some (V.ref p2), some (V.int (2 * (k : Int) * ((m : Int) - 1))), u13, u14] H' := fun pp npp => by
        have g := same_new (o := .tup [.str "size", .str "cells"]) npp
        refine ne_two (g _ _ hpr) upd_same (.str _) (.str _) (by decide +kernel) (by decide +kernel) rfl rfl ⟨false, rfl, ?_⟩
        rw [if_neg (by decide)]
        exact T12 Q b d k _ _ _ _ _ _ _ _ _ _ _ _ _ _ k2 k3 (b4.same (e5.trans (e6.trans g))) q
      rw [few] at hn
      dsimp only
      by_cases h1 : 2 * (k : Int) * ((m : Int) - 1) ≤ 60
      · rw [if_pos h1]
        refine ⟨.inl ⟨by omega, by omega⟩, ?_⟩
        rw [if_neg (fun z => hn ⟨h1, z⟩)]
        exact ⟨by decide, no⟩
      · rw [if_neg h1]
        exact ⟨by decide, no⟩
    · rw [few] at hf
      try dsimp only
      rw [if_pos hf.1]
      refine ⟨.inl ⟨by omega, by omega⟩, ?_⟩
      rw [if_pos hf.2]
      refine ⟨by decide, fun pp npp => ?_⟩
      have g := same_new (o := .tup [.str "told", .int (k : Int)]) npp
      rw [lenU] at hpr
      refine ne_two (g _ _ hpr) upd_same (.str _) (.int _) (by decide +kernel) (by simp only [PyData.canLay0]) rfl (by simp only [PyData.depth]) ⟨false, rfl, ?_⟩
      rw [if_neg (by decide)]
      exact T12 Q b d k _ _ _ _ _ _ _ _ _ _ _ _ _ _ k2 k3 (b4.same (e5.trans (e6.trans g))) q
end
end K76
set_option Elab.async false
set_option linter.all false
set_option maxRecDepth 100000
set_option maxHeartbeats 4000000
/-! k76: law, from star's hearing on -/
namespace K76
open PySem PySem.Spec PyProof.Rows L2 He HK
section
variable {w : World} {K : PySem.W.Frag} {mg : Str → Option Value} {base : Heap}
theorem law_8 (S : Sc K mg) (PL : Plain w) {f : Addr} {cdv : Value} {A : Around} {outer : List Env} {s : Shared} {H : Hp} {E : XK} (hr : Room 13 (A.deeper (envOfC d_law.qual d_law.scope s.heap.objs.size f cdv))) :
    ∃ t, PSs (cxOf CX0 prg w K mg base lawN d_law.qual d_law.scope f cdv A outer s H E).nox (d_law.body.drop 8) t ∧ ∀ (Q : VK) (b d pd : Addr) (sv x y : V) (m k : Nat) (H' : Hp) (u0 u2 u3 u4 u5 u6 u11 u12 u13 u14 : Option V), 10 ≤ m → m ≤ 12 → 2 ≤ k → k ≤ 3 → BoxAt b d H' →
      SqF (SqF (SqF InA)) No H' sv (starU m k) → H' pd = some (.tup [x, y]) → (2 * (k : Int) * ((m : Int) - 1) ≤ 60 → x = .str "told" ∧ y = .int (k : Nat)) → (¬2 * (k : Int) * ((m : Int) - 1) ≤ 60 → x = .str "size" ∧ y = .str "cells") → (∀ H'', Q (.bl true) H'') →
      t { nx := fun _ H' => Q .non H', rt := Q } [u0, some (.ref b), u2, u3, u4, u5, u6, some (.int (m : Nat)), some (.int (k : Nat)), some sv, some (.ref pd), u11, u12, u13, u14] H' := by
  have C__law_heard := C__law_heard (w := w) (base := base) S
  have C_Ways := C_Ways (w := w) (base := base) S
  obtain ⟨t9, h9, T9⟩ := law_9 (w := w) (base := base) S PL (outer := outer) (H := H) (E := E) hr
  refine ⟨_, (pss_cons (ps_if (pt_cmpR (op_neD hr.units) (pe_c C__law_heard (hr.mono (by omega)) pass0 (pa_cons (pe_m C_Ways (hr.mono (by omega)) pass0 (pa_cons (pv 7) (pa_cons (pv 9) pa_nil))) pa_nil)) (pv 10) (nomark _)) (pss_one (ps_ret pe_bl)) pss_nil)
      h9), fun Q b d pd sv x y m k H' u0 u2 u3 u4 u5 u6 u11 u12 u13 u14 m10 m12 k2 k3 hb hS hpd hx1 hx2 q => ?_⟩
  try simp only [wipe, tC, tVar, tChain, rI0, rI, rU, tOp, tUn, tCall, tAnd, tOr, tNot, tNotV, tAndV, tOrV, tTest, tB, tIf, tIfS, tRet, tRetN, tNext, tSeq, tNil, tCons, tAug, ipI, tPar, tAsg, gName, tDrop, tLst, tTup, tCB, tBM, tBM0, tFld_eq, tMkE, tMake, tAugS, gSub, rEq, rAll, rMax, rSum, rAppend, rExtend, rSetL, _root_.L2.start, List.map_cons, List.map_nil, List.length_cons, List.length_nil, List.replicate_succ, List.replicate_zero, List.cons_append, List.nil_append, List.append_nil, List.getElem?_cons_zero, List.getElem?_cons_succ, List.set_cons_zero, List.set_cons_succ, Nat.reduceAdd, Nat.reduceSub, V.int.injEq, V.bl.injEq, V.ref.injEq, V.str.injEq, exists_eq, exists_eq', exists_eq_left, exists_eq_left', exists_and_left, exists_and_right, Option.some.injEq, List.cons.injEq, and_true, true_and, and_assoc, retV, true_or, or_true, decide_eq_true_eq, if_true, if_false, Bool.false_eq_true, Bool.not_true, Bool.not_false, Bool.not_eq_true', reduceCtorEq, eq_self, decide_true, decide_false, List.length_map, exists_const, false_and, and_false, or_false, false_or, ↓reduceIte]
  have r := star_row m m10 m12
  have G : Good k m (starU m k) := good_rep (by omega) (by omega) m12 r.1 r.2
  have lenU : (starU m k).length = k := List.length_replicate
  have hU : ¬((starU m k).length = 1 ∨ 3 < (starU m k).length) := by omega
  have few := star_few m k m10 m12 k2 k3
  refine make_waysA hS (by omega) G.ok fun wx H5 e5 hW => ?_
  rw [srtU_of G.asc] at hW
  try simp only [wipe, tC, tVar, tChain, rI0, rI, rU, tOp, tUn, tCall, tAnd, tOr, tNot, tNotV, tAndV, tOrV, tTest, tB, tIf, tIfS, tRet, tRetN, tNext, tSeq, tNil, tCons, tAug, ipI, tPar, tAsg, gName, tDrop, tLst, tTup, tCB, tBM, tBM0, tFld_eq, tMkE, tMake, tAugS, gSub, rEq, rAll, rMax, rSum, rAppend, rExtend, rSetL, _root_.L2.start, List.map_cons, List.map_nil, List.length_cons, List.length_nil, List.replicate_succ, List.replicate_zero, List.cons_append, List.nil_append, List.append_nil, List.getElem?_cons_zero, List.getElem?_cons_succ, List.set_cons_zero, List.set_cons_succ, Nat.reduceAdd, Nat.reduceSub, V.int.injEq, V.bl.injEq, V.ref.injEq, V.str.injEq, exists_eq, exists_eq', exists_eq_left, exists_eq_left', exists_and_left, exists_and_right, Option.some.injEq, List.cons.injEq, and_true, true_and, and_assoc, retV, true_or, or_true, decide_eq_true_eq, if_true, if_false, Bool.false_eq_true, Bool.not_true, Bool.not_false, Bool.not_eq_true', reduceCtorEq, eq_self, decide_true, decide_false, List.length_map, exists_const, false_and, and_false, or_false, false_or, ↓reduceIte]
  refine ⟨.ref wx, rfl, .inr ⟨m, starU m k, hW, G.ok, by omega, fun z => absurd z hU, fun _ => ⟨fun hn pr H6 e6 hpr => ?_, fun hf => ⟨by rw [lenU]; exact PL.ok k2 k3 (by omega) G hf, fun pr H6 e6 hpr => ?_⟩⟩⟩⟩
  · rw [few] at hn
    obtain ⟨rfl, rfl⟩ := hx2 hn
    refine ne_two hpr (e6 _ _ (e5 _ _ hpd)) (.str _) (.str _) (by decide +kernel) (by decide +kernel) rfl rfl ⟨false, rfl, ?_⟩
    rw [if_neg (by decide)]
    exact T9 Q b d m k _ _ _ _ _ _ _ _ _ _ _ _ _ m10 m12 k2 k3 (hb.same (e5.trans e6)) q
  · rw [few] at hf
    obtain ⟨rfl, rfl⟩ := hx1 hf
    rw [lenU] at hpr
    refine ne_two hpr (e6 _ _ (e5 _ _ hpd)) (.str _) (.int _) (by decide +kernel) (by simp only [PyData.canLay0]) rfl (by simp only [PyData.depth]) ⟨false, rfl, ?_⟩
    rw [if_neg (by decide)]
    exact T9 Q b d m k _ _ _ _ _ _ _ _ _ _ _ _ _ m10 m12 k2 k3 (hb.same (e5.trans e6)) q
end
end K76
set_option Elab.async false
set_option linter.all false
set_option maxRecDepth 100000
set_option maxHeartbeats 4000000
/-! HKEnd: the law's own def, by its object -/
namespace HK
open PySem PySem.Spec PyProof.Rows L2 He
section
variable {P : Program} {w : World} {base : Heap} {fx : List (PySem.W.Frag → Bool)} {fa : List Fa} {fn : List DefD} {er : List ErD} {K : PySem.W.Frag} {mg : Str → Option Value}
theorem Src.calL {d : DefD} {N ps : List Str} {k : Nat} {sp : Sp} (S : Src P fx fa fn er K mg) (Sc : FnScope N ps d.scope) (hds : d.dfl = []) (hkw : d.kwd = [])
    {fd : FuncData} (F : FunD K d.name d.qual d.params d.body d.scope (d.dvs K) (d.kws K) (fAd K d.at_) fd)
    (len : ∀ vs H Q E, sp vs H Q E → vs.length = ps.length)
    (hbody : ∀ (f : Addr) (cdv : Value) (A : Around) (outer : List Env) (s : Shared) (H : Hp) (vs : List V) (Q : VK) (E : XK), Room k (A.deeper (envOfC d.qual d.scope s.heap.objs.size f cdv)) → sp vs H Q E →
      ∃ t, PSs (cxOf CX0 P w K mg base N d.qual d.scope f cdv A outer s H E).nox d.body t ∧ t { nx := fun _ H' => Q .non H', rt := Q } (start N vs) H) : FnOk P w K mg base CX0 (k + 1) (fAd K d.at_) fd ps sp := by
  have e1 : d.dvs K = [] := by unfold DefD.dvs; rw [hds]; rfl
  have e2 : d.kws K = [] := by unfold DefD.kws; rw [hkw]; rfl
  rw [e1, e2] at F
  refine FunD.ok F Sc len fun cdv A outer s H vs Q E hr h => ?_
  obtain ⟨t, h1, h2⟩ := hbody _ cdv A outer s H vs Q E hr h
  exact ⟨t, h1.nox, h2⟩
end
end HK
set_option Elab.async false
set_option linter.all false
set_option maxRecDepth 100000
set_option maxHeartbeats 4000000
/-! k76: law, whole -/
namespace K76
open PySem PySem.Spec PyProof.Rows L2 He HK
def sp_law (K : PySem.W.Frag) : Sp := fun vs H Q _ => ∃ (a : Addr) (xs : List Int), vs = [.ref a] ∧ SqL K H a (xs.map V.int) ∧ ∀ H', Q (.bl true) H'
section
variable {w : World} {K : PySem.W.Frag} {mg : Str → Option Value} {base : Heap}
theorem C_law (S : Sc K mg) (PL : Plain w) (fd : FuncData) (F : FunD K d_law.name d_law.qual d_law.params d_law.body d_law.scope (d_law.dvs K) (d_law.kws K) (fAd K d_law.at_) fd) : FnOk prg w K mg base CX0 14 (fAd K d_law.at_) fd ["script"] (sp_law K) := by
  have C__law_box := C__law_box (w := w) (base := base) S
  have C__law_case_fine := C__law_case_fine (w := w) (base := base) S PL
  have C__law_ways := C__law_ways (w := w) (base := base) S
  have C__law_draw := C__law_draw (w := w) (base := base) S
  have C__law_pick := C__law_pick (w := w) (base := base) S
  have C__law_heard := C__law_heard (w := w) (base := base) S
  have C_Ways := C_Ways (w := w) (base := base) S
  have C_bodies_for := C_bodies_for (w := w) (base := base) S
  have C_ways_of := C_ways_of (w := w) (base := base) S
  have C_Ways_eq := C_Ways_eq (w := w) (base := base) S
  refine S.calL (d := d_law) sc_law rfl rfl F (fun vs H Q E h => ?_) (fun f cdv A outer s H vs Q E hr h => ?_)
  · obtain ⟨a, xs, rfl, _⟩ := h
    rfl
  · obtain ⟨a, xs, rfl, ha, q⟩ := h
    obtain ⟨t8, h8, T8⟩ := law_8 (w := w) (base := base) S PL (outer := outer) (H := H) (E := E) hr
    refine ⟨_, (pss_cons (ps_set (i := 1) sc_law.nd rfl (by first | exact Or.inl rfl | exact Or.inr rfl) (pe_c C__law_box (hr.mono (by omega)) pass0 (pa_cons (pv 0) (pa_cons pe_int pa_nil))))
      (pss_cons (ps_for PassesOwn.never rfl (pi_range1 rfl (S.free 44) (pa_cons pe_int pa_nil)) (pg_name (i := 2) sc_law.nd rfl (by first | exact Or.inl rfl | exact Or.inr rfl)) (pss_one (ps_if (pt_not (pt_val (pe_c C__law_case_fine (hr.mono (by omega)) pass0 (pa_cons (pv 1) (pa_cons (pe_c C__law_ways (hr.mono (by omega)) pass0 (pa_cons (pv 1) (pa_cons (pe_op op_add pe_int (pe_c C__law_draw (hr.mono (by omega)) pass0 (pa_cons (pv 1) (pa_cons pe_int pa_nil)))) (pa_cons (pe_op op_add pe_int (pe_c C__law_draw (hr.mono (by omega)) pass0 (pa_cons (pv 1) (pa_cons pe_int pa_nil)))) pa_nil)))) pa_nil))))) (pss_one (ps_ret pe_bl)) pss_nil)))
      (pss_cons (ps_set (i := 3) sc_law.nd rfl (by first | exact Or.inl rfl | exact Or.inr rfl) (pe_lst pa_nil))
      (pss_cons (ps_for PassesOwn.never rfl (pi_range1 rfl (S.free 44) (pa_cons (pe_op op_add pe_int (pe_c C__law_draw (hr.mono (by omega)) pass0 (pa_cons (pv 1) (pa_cons pe_int pa_nil)))) pa_nil)) (pg_name (i := 4) sc_law.nd rfl (by first | exact Or.inl rfl | exact Or.inr rfl)) (pss_one (ps_expr (pe_bm PySem.F.plainAttrs_list PySem.F.slot_list_append PySem.F.type_list_append mt_append (pv 3) (pa_cons (pe_callTy cr_tupA (by rfl) (S.free 49) (by decide +kernel) (pa_cons (pe_lc (own := [("body", 6)]) (g := (gName 6)) (tt := tYes) rfl sc_law.nd (pi_range1 rfl (S.free 44) (pa_cons pe_int pa_nil)) (blkOk_by (N := ["script", "box", "turn", "ups", "axis", "other", "body", "many", "axes", "star", "due", "crowd", "wanted", "lone", "count"]) (sc := defScope s_law) (by decide +kernel)) (fun _ _ _ _ _ => (pg_name (i := 6) sc_law.nd rfl (by first | exact Or.inl rfl | exact Or.inr rfl))) (fun _ _ _ _ _ => pts_nil) (fun _ _ _ _ _ => (pe_callTy (cK (K := K) rfl cr_tupA) (by rfl) (S.free 49) (by decide +kernel) (pa_cons (pe_lc (own := [("other", 5)]) (g := (gName 5)) rfl sc_law.nd (pi_range1 rfl (S.free 44) (pa_cons pe_int pa_nil)) (blkOk_by (by kernel_rfl)) (fun _ _ _ _ _ => (pg_name (i := 5) sc_law.nd rfl (by first | exact Or.inl rfl | exact Or.inr rfl))) (fun _ _ _ _ _ => (pts_one (PW.pt (pw_and (pt_cmpR op_ne (pv 5) (pv 6) (nomark _)) (pw_and1 (pt_cmpR op_eq (pe_c C__law_draw (hr.mono (by omega)) pass0 (pa_cons (pv 1) (pa_cons pe_int pa_nil))) pe_int (nomark _))))))) (fun _ _ _ _ _ => (pv 5))) pa_nil)))) pa_nil)) pa_nil)))))
      (pss_cons (ps_if (pt_not (pt_val (pe_c C__law_case_fine (hr.mono (by omega)) pass0 (pa_cons (pv 1) (pa_cons (pe_tup (pa_cons pe_int (pa_cons (pe_callTy cr_tupA (by rfl) (S.free 49) (by decide +kernel) (pa_cons (pv 3) pa_nil)) pa_nil))) pa_nil))))) (pss_one (ps_ret pe_bl)) pss_nil)
      (pss_cons (ps_asg (pe_tup (pa_cons (pe_op op_add pe_int (pe_c C__law_draw (hr.mono (by omega)) pass0 (pa_cons (pv 1) (pa_cons pe_int pa_nil)))) (pa_cons (pe_op op_add pe_int (pe_c C__law_draw (hr.mono (by omega)) pass0 (pa_cons (pv 1) (pa_cons pe_int pa_nil)))) pa_nil))) (pg_tup (by rfl) (pgs_cons (pg_name (i := 7) sc_law.nd rfl (by first | exact Or.inl rfl | exact Or.inr rfl)) (pgs_cons (pg_name (i := 8) sc_law.nd rfl (by first | exact Or.inl rfl | exact Or.inr rfl)) pgs_nil))))
      (pss_cons (ps_set (i := 9) sc_law.nd rfl (by first | exact Or.inl rfl | exact Or.inr rfl) (pe_op op_rep (pe_lst (pa_cons (pe_op op_cat (pe_lst (pa_cons (pe_lc (own := [("other", 5)]) (g := (gName 5)) (tt := tYes) rfl sc_law.nd (pi_range2 rfl (S.free 44) (pa_cons pe_int (pa_cons (pv 7) pa_nil))) (blkOk_by (N := ["script", "box", "turn", "ups", "axis", "other", "body", "many", "axes", "star", "due", "crowd", "wanted", "lone", "count"]) (sc := defScope s_law) (by decide +kernel)) (fun _ _ _ _ _ => (pg_name (i := 5) sc_law.nd rfl (by first | exact Or.inl rfl | exact Or.inr rfl))) (fun _ _ _ _ _ => pts_nil) (fun _ _ _ _ _ => (pv 5))) pa_nil)) (pe_op op_rep (pe_lst (pa_cons (pe_lst (pa_cons pe_int pa_nil)) pa_nil)) (pe_op op_sub (pv 7) pe_int))) pa_nil)) (pv 8)))
      (pss_cons (ps_set (i := 10) sc_law.nd rfl (by first | exact Or.inl rfl | exact Or.inr rfl) (pe_ifExp (pt_cmpR op_le (pe_op op_mul (pe_op op_mul pe_int (pv 8)) (pe_op op_sub (pv 7) pe_int)) pe_int (nomark _)) (pe_tup (pa_cons pe_str (pa_cons (pv 8) pa_nil))) (pe_tup (pa_cons pe_str (pa_cons pe_str pa_nil)))))
      h8)))))))), ?_⟩
    try simp only [wipe, tC, tVar, tChain, rI0, rI, rU, tOp, tUn, tCall, tAnd, tOr, tNot, tNotV, tAndV, tOrV, tTest, tB, tIf, tIfS, tRet, tRetN, tNext, tSeq, tNil, tCons, tAug, ipI, tPar, tAsg, gName, tDrop, tLst, tTup, tCB, tBM, tBM0, tFld_eq, tMkE, tMake, tAugS, gSub, rEq, rAll, rMax, rSum, rAppend, rExtend, rSetL, _root_.L2.start, List.map_cons, List.map_nil, List.length_cons, List.length_nil, List.replicate_succ, List.replicate_zero, List.cons_append, List.nil_append, List.append_nil, List.getElem?_cons_zero, List.getElem?_cons_succ, List.set_cons_zero, List.set_cons_succ, Nat.reduceAdd, Nat.reduceSub, V.int.injEq, V.bl.injEq, V.ref.injEq, V.str.injEq, exists_eq, exists_eq', exists_eq_left, exists_eq_left', exists_and_left, exists_and_right, Option.some.injEq, List.cons.injEq, and_true, true_and, and_assoc, retV, true_or, or_true, decide_eq_true_eq, if_true, if_false, Bool.false_eq_true, Bool.not_true, Bool.not_false, Bool.not_eq_true', reduceCtorEq, eq_self, decide_true, decide_false, List.length_map, exists_const, false_and, and_false, or_false, false_or, ↓reduceIte]
    refine ⟨a, xs, 76, rfl, ha, by decide, by decide, fun b d H1 e1 b1 => ?_⟩
    try simp only [wipe, tC, tVar, tChain, rI0, rI, rU, tOp, tUn, tCall, tAnd, tOr, tNot, tNotV, tAndV, tOrV, tTest, tB, tIf, tIfS, tRet, tRetN, tNext, tSeq, tNil, tCons, tAug, ipI, tPar, tAsg, gName, tDrop, tLst, tTup, tCB, tBM, tBM0, tFld_eq, tMkE, tMake, tAugS, gSub, rEq, rAll, rMax, rSum, rAppend, rExtend, rSetL, _root_.L2.start, List.map_cons, List.map_nil, List.length_cons, List.length_nil, List.replicate_succ, List.replicate_zero, List.cons_append, List.nil_append, List.append_nil, List.getElem?_cons_zero, List.getElem?_cons_succ, List.set_cons_zero, List.set_cons_succ, Nat.reduceAdd, Nat.reduceSub, V.int.injEq, V.bl.injEq, V.ref.injEq, V.str.injEq, exists_eq, exists_eq', exists_eq_left, exists_eq_left', exists_and_left, exists_and_right, Option.some.injEq, List.cons.injEq, and_true, true_and, and_assoc, retV, true_or, or_true, decide_eq_true_eq, if_true, if_false, Bool.false_eq_true, Bool.not_true, Bool.not_false, Bool.not_eq_true', reduceCtorEq, eq_self, decide_true, decide_false, List.length_map, exists_const, false_and, and_false, or_false, false_or, ↓reduceIte]
    refine for_go (gives_rng1 (j := 3) (fun Q h => h)) (fun i σ H' => (∃ u2, σ = [some (.ref a), some (.ref b), u2, none, none, none, none, none, none, none, none, none, none, none, none]) ∧ BoxAt b d H') ⟨⟨_, rfl⟩, b1⟩ (fun _ _ _ _ _ => trivial) (fun i y σ H2 hi hy h => ?_) (fun σ H2 h => ?_)
    · obtain ⟨⟨u2, rfl⟩, b2⟩ := h
      try simp only [wipe, tC, tVar, tChain, rI0, rI, rU, tOp, tUn, tCall, tAnd, tOr, tNot, tNotV, tAndV, tOrV, tTest, tB, tIf, tIfS, tRet, tRetN, tNext, tSeq, tNil, tCons, tAug, ipI, tPar, tAsg, gName, tDrop, tLst, tTup, tCB, tBM, tBM0, tFld_eq, tMkE, tMake, tAugS, gSub, rEq, rAll, rMax, rSum, rAppend, rExtend, rSetL, _root_.L2.start, List.map_cons, List.map_nil, List.length_cons, List.length_nil, List.replicate_succ, List.replicate_zero, List.cons_append, List.nil_append, List.append_nil, List.getElem?_cons_zero, List.getElem?_cons_succ, List.set_cons_zero, List.set_cons_succ, Nat.reduceAdd, Nat.reduceSub, V.int.injEq, V.bl.injEq, V.ref.injEq, V.str.injEq, exists_eq, exists_eq', exists_eq_left, exists_eq_left', exists_and_left, exists_and_right, Option.some.injEq, List.cons.injEq, and_true, true_and, and_assoc, retV, true_or, or_true, decide_eq_true_eq, if_true, if_false, Bool.false_eq_true, Bool.not_true, Bool.not_false, Bool.not_eq_true', reduceCtorEq, eq_self, decide_true, decide_false, List.length_map, exists_const, false_and, and_false, or_false, false_or, ↓reduceIte]
      refine ⟨b, d, 6, rfl, b2, by decide, by decide, fun v H3 e3 b3 ⟨r, er, r0, r1⟩ => ?_⟩
      subst er
      try simp only [wipe, tC, tVar, tChain, rI0, rI, rU, tOp, tUn, tCall, tAnd, tOr, tNot, tNotV, tAndV, tOrV, tTest, tB, tIf, tIfS, tRet, tRetN, tNext, tSeq, tNil, tCons, tAug, ipI, tPar, tAsg, gName, tDrop, tLst, tTup, tCB, tBM, tBM0, tFld_eq, tMkE, tMake, tAugS, gSub, rEq, rAll, rMax, rSum, rAppend, rExtend, rSetL, _root_.L2.start, List.map_cons, List.map_nil, List.length_cons, List.length_nil, List.replicate_succ, List.replicate_zero, List.cons_append, List.nil_append, List.append_nil, List.getElem?_cons_zero, List.getElem?_cons_succ, List.set_cons_zero, List.set_cons_succ, Nat.reduceAdd, Nat.reduceSub, V.int.injEq, V.bl.injEq, V.ref.injEq, V.str.injEq, exists_eq, exists_eq', exists_eq_left, exists_eq_left', exists_and_left, exists_and_right, Option.some.injEq, List.cons.injEq, and_true, true_and, and_assoc, retV, true_or, or_true, decide_eq_true_eq, if_true, if_false, Bool.false_eq_true, Bool.not_true, Bool.not_false, Bool.not_eq_true', reduceCtorEq, eq_self, decide_true, decide_false, List.length_map, exists_const, false_and, and_false, or_false, false_or, ↓reduceIte]
      refine ⟨b, d, 2, rfl, b3, by decide, by decide, fun v H4 e4 b4 ⟨t, et, t0, t1⟩ => ?_⟩
      subst et
      try simp only [wipe, tC, tVar, tChain, rI0, rI, rU, tOp, tUn, tCall, tAnd, tOr, tNot, tNotV, tAndV, tOrV, tTest, tB, tIf, tIfS, tRet, tRetN, tNext, tSeq, tNil, tCons, tAug, ipI, tPar, tAsg, gName, tDrop, tLst, tTup, tCB, tBM, tBM0, tFld_eq, tMkE, tMake, tAugS, gSub, rEq, rAll, rMax, rSum, rAppend, rExtend, rSetL, _root_.L2.start, List.map_cons, List.map_nil, List.length_cons, List.length_nil, List.replicate_succ, List.replicate_zero, List.cons_append, List.nil_append, List.append_nil, List.getElem?_cons_zero, List.getElem?_cons_succ, List.set_cons_zero, List.set_cons_succ, Nat.reduceAdd, Nat.reduceSub, V.int.injEq, V.bl.injEq, V.ref.injEq, V.str.injEq, exists_eq, exists_eq', exists_eq_left, exists_eq_left', exists_and_left, exists_and_right, Option.some.injEq, List.cons.injEq, and_true, true_and, and_assoc, retV, true_or, or_true, decide_eq_true_eq, if_true, if_false, Bool.false_eq_true, Bool.not_true, Bool.not_false, Bool.not_eq_true', reduceCtorEq, eq_self, decide_true, decide_false, List.length_map, exists_const, false_and, and_false, or_false, false_or, ↓reduceIte]
      obtain ⟨m, hm⟩ : ∃ m : Nat, 1 + r = (m : Int) := ⟨(1 + r).toNat, (Int.toNat_of_nonneg (by omega)).symm⟩
      obtain ⟨n, hn⟩ : ∃ n : Nat, 2 + t = (n : Int) := ⟨(2 + t).toNat, (Int.toNat_of_nonneg (by omega)).symm⟩
      rw [hm, hn]
      refine ⟨b, d, m, n, rfl, b4, by omega, by omega, by omega, fun v H5 U e5 b5 hW G => ?_⟩
      refine ⟨b, d, v, n, m, U, rfl, b5, hW, by omega, by omega, by omega, G, fun H6 e6 b6 => ?_⟩
      try simp only [wipe, tC, tVar, tChain, rI0, rI, rU, tOp, tUn, tCall, tAnd, tOr, tNot, tNotV, tAndV, tOrV, tTest, tB, tIf, tIfS, tRet, tRetN, tNext, tSeq, tNil, tCons, tAug, ipI, tPar, tAsg, gName, tDrop, tLst, tTup, tCB, tBM, tBM0, tFld_eq, tMkE, tMake, tAugS, gSub, rEq, rAll, rMax, rSum, rAppend, rExtend, rSetL, _root_.L2.start, List.map_cons, List.map_nil, List.length_cons, List.length_nil, List.replicate_succ, List.replicate_zero, List.cons_append, List.nil_append, List.append_nil, List.getElem?_cons_zero, List.getElem?_cons_succ, List.set_cons_zero, List.set_cons_succ, Nat.reduceAdd, Nat.reduceSub, V.int.injEq, V.bl.injEq, V.ref.injEq, V.str.injEq, exists_eq, exists_eq', exists_eq_left, exists_eq_left', exists_and_left, exists_and_right, Option.some.injEq, List.cons.injEq, and_true, true_and, and_assoc, retV, true_or, or_true, decide_eq_true_eq, if_true, if_false, Bool.false_eq_true, Bool.not_true, Bool.not_false, Bool.not_eq_true', reduceCtorEq, eq_self, decide_true, decide_false, List.length_map, exists_const, false_and, and_false, or_false, false_or, ↓reduceIte]
      exact b6
    · obtain ⟨⟨u2, rfl⟩, b2⟩ := h
      try simp only [wipe, tC, tVar, tChain, rI0, rI, rU, tOp, tUn, tCall, tAnd, tOr, tNot, tNotV, tAndV, tOrV, tTest, tB, tIf, tIfS, tRet, tRetN, tNext, tSeq, tNil, tCons, tAug, ipI, tPar, tAsg, gName, tDrop, tLst, tTup, tCB, tBM, tBM0, tFld_eq, tMkE, tMake, tAugS, gSub, rEq, rAll, rMax, rSum, rAppend, rExtend, rSetL, _root_.L2.start, List.map_cons, List.map_nil, List.length_cons, List.length_nil, List.replicate_succ, List.replicate_zero, List.cons_append, List.nil_append, List.append_nil, List.getElem?_cons_zero, List.getElem?_cons_succ, List.set_cons_zero, List.set_cons_succ, Nat.reduceAdd, Nat.reduceSub, V.int.injEq, V.bl.injEq, V.ref.injEq, V.str.injEq, exists_eq, exists_eq', exists_eq_left, exists_eq_left', exists_and_left, exists_and_right, Option.some.injEq, List.cons.injEq, and_true, true_and, and_assoc, retV, true_or, or_true, decide_eq_true_eq, if_true, if_false, Bool.false_eq_true, Bool.not_true, Bool.not_false, Bool.not_eq_true', reduceCtorEq, eq_self, decide_true, decide_false, List.length_map, exists_const, false_and, and_false, or_false, false_or, ↓reduceIte]
      refine ⟨by decide, fun F nF => ?_⟩
      rw [for_rcall]
      try simp only [wipe, tC, tVar, tChain, rI0, rI, rU, tOp, tUn, tCall, tAnd, tOr, tNot, tNotV, tAndV, tOrV, tTest, tB, tIf, tIfS, tRet, tRetN, tNext, tSeq, tNil, tCons, tAug, ipI, tPar, tAsg, gName, tDrop, tLst, tTup, tCB, tBM, tBM0, tFld_eq, tMkE, tMake, tAugS, gSub, rEq, rAll, rMax, rSum, rAppend, rExtend, rSetL, _root_.L2.start, List.map_cons, List.map_nil, List.length_cons, List.length_nil, List.replicate_succ, List.replicate_zero, List.cons_append, List.nil_append, List.append_nil, List.getElem?_cons_zero, List.getElem?_cons_succ, List.set_cons_zero, List.set_cons_succ, Nat.reduceAdd, Nat.reduceSub, V.int.injEq, V.bl.injEq, V.ref.injEq, V.str.injEq, exists_eq, exists_eq', exists_eq_left, exists_eq_left', exists_and_left, exists_and_right, Option.some.injEq, List.cons.injEq, and_true, true_and, and_assoc, retV, true_or, or_true, decide_eq_true_eq, if_true, if_false, Bool.false_eq_true, Bool.not_true, Bool.not_false, Bool.not_eq_true', reduceCtorEq, eq_self, decide_true, decide_false, List.length_map, exists_const, false_and, and_false, or_false, false_or, ↓reduceIte]
      have nFb : ¬BoxO b d F := b2.off nF
      refine ⟨b, d, 2, rfl, b2.upd nFb, by decide, by decide, fun v H3 e3 b3 ⟨t, et, t0, t1⟩ => ?_⟩
      subst et
      try simp only [wipe, tC, tVar, tChain, rI0, rI, rU, tOp, tUn, tCall, tAnd, tOr, tNot, tNotV, tAndV, tOrV, tTest, tB, tIf, tIfS, tRet, tRetN, tNext, tSeq, tNil, tCons, tAug, ipI, tPar, tAsg, gName, tDrop, tLst, tTup, tCB, tBM, tBM0, tFld_eq, tMkE, tMake, tAugS, gSub, rEq, rAll, rMax, rSum, rAppend, rExtend, rSetL, _root_.L2.start, List.map_cons, List.map_nil, List.length_cons, List.length_nil, List.replicate_succ, List.replicate_zero, List.cons_append, List.nil_append, List.append_nil, List.getElem?_cons_zero, List.getElem?_cons_succ, List.set_cons_zero, List.set_cons_succ, Nat.reduceAdd, Nat.reduceSub, V.int.injEq, V.bl.injEq, V.ref.injEq, V.str.injEq, exists_eq, exists_eq', exists_eq_left, exists_eq_left', exists_and_left, exists_and_right, Option.some.injEq, List.cons.injEq, and_true, true_and, and_assoc, retV, true_or, or_true, decide_eq_true_eq, if_true, if_false, Bool.false_eq_true, Bool.not_true, Bool.not_false, Bool.not_eq_true', reduceCtorEq, eq_self, decide_true, decide_false, List.length_map, exists_const, false_and, and_false, or_false, false_or, ↓reduceIte]
      obtain ⟨n, hn⟩ : ∃ n : Nat, 2 + t = (n : Int) := ⟨(2 + t).toNat, (Int.toNat_of_nonneg (by omega)).symm⟩
      rw [hn]
      have hF3 : H3 F = some (.lst []) := e3.1 _ _ nFb upd_same
      refine for_go (gives_rng1 (j := n) (fun Q h => h)) (fun i σ H' => (∃ u4, σ = [some (.ref a), some (.ref b), u2, some (.ref F), u4, none, none, none, none, none, none, none, none, none, none]) ∧ BoxAt b d H' ∧
          ∃ vs U, H' F = some (.lst vs) ∧ Paired (TpF (TpF InA) No H') vs U ∧ U.length = i ∧ ∀ u ∈ U, u.length = 12 ∧ RowGood 12 u)
        ⟨⟨_, rfl⟩, b3, [], [], hF3, .nil, rfl, fun u z => absurd z List.not_mem_nil⟩ (fun _ _ _ _ _ => trivial) (fun i y σ H4 hi hy h => ?_) (fun σ H4 h => ?_)
      · obtain ⟨⟨u4, rfl⟩, b4, vs, U, hF, hU, lU, gU⟩ := h
        rw [rngV_len, Int.toNat_natCast] at hi
        try simp only [wipe, tC, tVar, tChain, rI0, rI, rU, tOp, tUn, tCall, tAnd, tOr, tNot, tNotV, tAndV, tOrV, tTest, tB, tIf, tIfS, tRet, tRetN, tNext, tSeq, tNil, tCons, tAug, ipI, tPar, tAsg, gName, tDrop, tLst, tTup, tCB, tBM, tBM0, tFld_eq, tMkE, tMake, tAugS, gSub, rEq, rAll, rMax, rSum, rAppend, rExtend, rSetL, _root_.L2.start, List.map_cons, List.map_nil, List.length_cons, List.length_nil, List.replicate_succ, List.replicate_zero, List.cons_append, List.nil_append, List.append_nil, List.getElem?_cons_zero, List.getElem?_cons_succ, List.set_cons_zero, List.set_cons_succ, Nat.reduceAdd, Nat.reduceSub, V.int.injEq, V.bl.injEq, V.ref.injEq, V.str.injEq, exists_eq, exists_eq', exists_eq_left, exists_eq_left', exists_and_left, exists_and_right, Option.some.injEq, List.cons.injEq, and_true, true_and, and_assoc, retV, true_or, or_true, decide_eq_true_eq, if_true, if_false, Bool.false_eq_true, Bool.not_true, Bool.not_false, Bool.not_eq_true', reduceCtorEq, eq_self, decide_true, decide_false, List.length_map, exists_const, false_and, and_false, or_false, false_or, ↓reduceIte]
        refine ⟨.inl ⟨rfl, vs, sqL_of hF⟩, ?_⟩
        refine lc_acc (gives_rng1 (j := 12) (fun Q h => h)) b4.box (fun _ _ => trivial) (by rw [rngV_len]; decide)
          (fun A k acc H' => ∃ u, Paired (TpF InA No H') acc u ∧ u.length = k ∧ RowGood 12 u) (fun _ _ => ⟨[], .nil, rfl, fun b l z => by cases z⟩) (fun e ⟨u, h1, h2⟩ => ⟨u, (famT_tp famT_in).p e.2.1 h1, h2⟩) (fun _ h => h)
          (fun j z acc H5 D N N0 hj hz e5 b5 hA hI hN _ => ?_) fun acc H5 D e5 b5 nD nA hD hI => ?_
        · rw [rngV_len] at hj
          rw [rngV_get hj, Int.zero_add] at hz
          obtain rfl := Option.some.inj hz
          obtain ⟨u, hu, lu, gu⟩ := hI
          refine ⟨rfl, ?_⟩
          try simp only [wipe, tC, tVar, tChain, rI0, rI, rU, tOp, tUn, tCall, tAnd, tOr, tNot, tNotV, tAndV, tOrV, tTest, tB, tIf, tIfS, tRet, tRetN, tNext, tSeq, tNil, tCons, tAug, ipI, tPar, tAsg, gName, tDrop, tLst, tTup, tCB, tBM, tBM0, tFld_eq, tMkE, tMake, tAugS, gSub, rEq, rAll, rMax, rSum, rAppend, rExtend, rSetL, _root_.L2.start, List.map_cons, List.map_nil, List.length_cons, List.length_nil, List.replicate_succ, List.replicate_zero, List.cons_append, List.nil_append, List.append_nil, List.getElem?_cons_zero, List.getElem?_cons_succ, List.set_cons_zero, List.set_cons_succ, Nat.reduceAdd, Nat.reduceSub, V.int.injEq, V.bl.injEq, V.ref.injEq, V.str.injEq, exists_eq, exists_eq', exists_eq_left, exists_eq_left', exists_and_left, exists_and_right, Option.some.injEq, List.cons.injEq, and_true, true_and, and_assoc, retV, true_or, or_true, decide_eq_true_eq, if_true, if_false, Bool.false_eq_true, Bool.not_true, Bool.not_false, Bool.not_eq_true', reduceCtorEq, eq_self, decide_true, decide_false, List.length_map, exists_const, false_and, and_false, or_false, false_or, tYes, ↓reduceIte]
          refine lc_acc (gives_rng1 (j := 12) (fun Q h => h)) b5.box (fun _ _ => trivial) (by rw [rngV_len]; decide)
            (fun A k acc H' => ∃ l : List Int, acc = l.map V.int ∧ l.Pairwise (· < ·) ∧ ∀ x ∈ l, 0 ≤ x ∧ x < (k : Int) ∧ x ≠ (j : Int)) (fun _ _ => ⟨[], rfl, .nil, fun x z => absurd z List.not_mem_nil⟩) (fun _ h => h) (fun _ h => h)
            (fun k z acc H' D N N0 hk hz e bb hA hI hN hN0 => ?_) fun acc H6 D6 e6 b6 nD6 nA6 hD6 hI6 => ?_
          · rw [rngV_len] at hk
            rw [rngV_get hk, Int.zero_add] at hz
            obtain rfl := Option.some.inj hz
            obtain ⟨l, rfl, l1, l2⟩ := hI
            refine ⟨rfl, ?_⟩
            have l3 : ∀ x ∈ l, 0 ≤ x ∧ x < ((k + 1 : Nat) : Int) ∧ x ≠ (j : Int) := fun x hx => ⟨(l2 x hx).1, by have := (l2 x hx).2.1; omega, (l2 x hx).2.2⟩
            try simp only [wipe, tC, tVar, tChain, rI0, rI, rU, tOp, tUn, tCall, tAnd, tOr, tNot, tNotV, tAndV, tOrV, tTest, tB, tIf, tIfS, tRet, tRetN, tNext, tSeq, tNil, tCons, tAug, ipI, tPar, tAsg, gName, tDrop, tLst, tTup, tCB, tBM, tBM0, tFld_eq, tMkE, tMake, tAugS, gSub, rEq, rAll, rMax, rSum, rAppend, rExtend, rSetL, _root_.L2.start, List.map_cons, List.map_nil, List.length_cons, List.length_nil, List.replicate_succ, List.replicate_zero, List.cons_append, List.nil_append, List.append_nil, List.getElem?_cons_zero, List.getElem?_cons_succ, List.set_cons_zero, List.set_cons_succ, Nat.reduceAdd, Nat.reduceSub, V.int.injEq, V.bl.injEq, V.ref.injEq, V.str.injEq, exists_eq, exists_eq', exists_eq_left, exists_eq_left', exists_and_left, exists_and_right, Option.some.injEq, List.cons.injEq, and_true, true_and, and_assoc, retV, true_or, or_true, decide_eq_true_eq, if_true, if_false, Bool.false_eq_true, Bool.not_true, Bool.not_false, Bool.not_eq_true', reduceCtorEq, eq_self, decide_true, decide_false, List.length_map, exists_const, false_and, and_false, or_false, false_or, rNe, scal, ↓reduceIte]
            by_cases hkj : (k : Int) = (j : Int)
            · rw [if_neg (by simpa using hkj)]
              exact hN0 _ (SameO.refl _ _) bb ⟨l, rfl, l1, l3⟩
            · rw [if_pos (by simpa using hkj)]
              refine ⟨b, d, 12, rfl, bb, by decide, by decide, fun v H7 e7 b7 ⟨r, er, _, _⟩ => ?_⟩
              subst er
              try simp only [wipe, tC, tVar, tChain, rI0, rI, rU, tOp, tUn, tCall, tAnd, tOr, tNot, tNotV, tAndV, tOrV, tTest, tB, tIf, tIfS, tRet, tRetN, tNext, tSeq, tNil, tCons, tAug, ipI, tPar, tAsg, gName, tDrop, tLst, tTup, tCB, tBM, tBM0, tFld_eq, tMkE, tMake, tAugS, gSub, rEq, rAll, rMax, rSum, rAppend, rExtend, rSetL, _root_.L2.start, List.map_cons, List.map_nil, List.length_cons, List.length_nil, List.replicate_succ, List.replicate_zero, List.cons_append, List.nil_append, List.append_nil, List.getElem?_cons_zero, List.getElem?_cons_succ, List.set_cons_zero, List.set_cons_succ, Nat.reduceAdd, Nat.reduceSub, V.int.injEq, V.bl.injEq, V.ref.injEq, V.str.injEq, exists_eq, exists_eq', exists_eq_left, exists_eq_left', exists_and_left, exists_and_right, Option.some.injEq, List.cons.injEq, and_true, true_and, and_assoc, retV, true_or, or_true, decide_eq_true_eq, if_true, if_false, Bool.false_eq_true, Bool.not_true, Bool.not_false, Bool.not_eq_true', reduceCtorEq, eq_self, decide_true, decide_false, List.length_map, exists_const, false_and, and_false, or_false, false_or, scal, ↓reduceIte]
              by_cases hr0 : r = 0
              · rw [if_pos hr0]
                refine hN _ _ e7 b7 ⟨l ++ [(k : Int)], by rw [List.map_append]; rfl, ?_, fun x hx => ?_⟩
                · rw [List.pairwise_append]
                  refine ⟨l1, List.pairwise_singleton _ _, fun x hx y hy => ?_⟩
                  rw [List.mem_singleton] at hy
                  subst hy
                  exact (l2 x hx).2.1
                · rw [List.mem_append, List.mem_singleton] at hx
                  rcases hx with hx | hx
                  · exact l3 x hx
                  · subst hx
                    exact ⟨by omega, by omega, hkj⟩
              · rw [if_neg hr0]
                exact hN0 _ e7 b7 ⟨l, rfl, l1, l3⟩
          · obtain ⟨l, rfl, l1, l2⟩ := hI6
            rw [rngV_len] at l2
            try simp only [wipe, tC, tVar, tChain, rI0, rI, rU, tOp, tUn, tCall, tAnd, tOr, tNot, tNotV, tAndV, tOrV, tTest, tB, tIf, tIfS, tRet, tRetN, tNext, tSeq, tNil, tCons, tAug, ipI, tPar, tAsg, gName, tDrop, tLst, tTup, tCB, tBM, tBM0, tFld_eq, tMkE, tMake, tAugS, gSub, rEq, rAll, rMax, rSum, rAppend, rExtend, rSetL, _root_.L2.start, List.map_cons, List.map_nil, List.length_cons, List.length_nil, List.replicate_succ, List.replicate_zero, List.cons_append, List.nil_append, List.append_nil, List.getElem?_cons_zero, List.getElem?_cons_succ, List.set_cons_zero, List.set_cons_succ, Nat.reduceAdd, Nat.reduceSub, V.int.injEq, V.bl.injEq, V.ref.injEq, V.str.injEq, exists_eq, exists_eq', exists_eq_left, exists_eq_left', exists_and_left, exists_and_right, Option.some.injEq, List.cons.injEq, and_true, true_and, and_assoc, retV, true_or, or_true, decide_eq_true_eq, if_true, if_false, Bool.false_eq_true, Bool.not_true, Bool.not_false, Bool.not_eq_true', reduceCtorEq, eq_self, decide_true, decide_false, List.length_map, exists_const, false_and, and_false, or_false, false_or, ↓reduceIte]
            refine tup_sq (.inl hD6) fun p7 H7 e7 hp7 => ?_
            refine hN _ _ (e6.trans (.of e7)) (b6.same e7) ⟨u ++ [l], Paired.app ((famT_tp famT_in).p (e6.2.1.trans (.of e7)) hu) (.cons ⟨p7, _, rfl, hp7, ina_of l⟩ .nil), by rw [List.length_append, lu]; rfl, rowGood_snoc gu ⟨l1, fun x hx => by rw [lu]; exact l2 x hx⟩⟩
        · obtain ⟨u, hu, lu, gu⟩ := hI
          rw [rngV_len] at lu
          try simp only [wipe, tC, tVar, tChain, rI0, rI, rU, tOp, tUn, tCall, tAnd, tOr, tNot, tNotV, tAndV, tOrV, tTest, tB, tIf, tIfS, tRet, tRetN, tNext, tSeq, tNil, tCons, tAug, ipI, tPar, tAsg, gName, tDrop, tLst, tTup, tCB, tBM, tBM0, tFld_eq, tMkE, tMake, tAugS, gSub, rEq, rAll, rMax, rSum, rAppend, rExtend, rSetL, _root_.L2.start, List.map_cons, List.map_nil, List.length_cons, List.length_nil, List.replicate_succ, List.replicate_zero, List.cons_append, List.nil_append, List.append_nil, List.getElem?_cons_zero, List.getElem?_cons_succ, List.set_cons_zero, List.set_cons_succ, Nat.reduceAdd, Nat.reduceSub, V.int.injEq, V.bl.injEq, V.ref.injEq, V.str.injEq, exists_eq, exists_eq', exists_eq_left, exists_eq_left', exists_and_left, exists_and_right, Option.some.injEq, List.cons.injEq, and_true, true_and, and_assoc, retV, true_or, or_true, decide_eq_true_eq, if_true, if_false, Bool.false_eq_true, Bool.not_true, Bool.not_false, Bool.not_eq_true', reduceCtorEq, eq_self, decide_true, decide_false, List.length_map, exists_const, false_and, and_false, or_false, false_or, ↓reduceIte]
          refine tup_sq (.inl hD) fun p6 H6 e6 hp6 => ?_
          have hF6 := e6 _ _ (e5.1 _ _ nFb hF)
          have tk6 : Tk H4 (upd H6 F (.lst (vs ++ [.ref p6]))) := e5.2.1.trans ((Tk.of e6).trans (.lst hF6))
          refine ⟨vs, hF6, Nat.lt_of_lt_of_le (by rw [Paired.len hU]; omega : vs.length < 24) (by decide), (b5.same e6).upd nFb, _, upd_same, U ++ [u], ?_, by rw [List.length_append, lU]; rfl, fun u' hu' => ?_⟩
          · refine Paired.app ((famT_tp (famT_tp famT_in)).p tk6 hU) (.cons ⟨p6, acc, rfl, (Tk.lst hF6 p6).1 _ hp6, ?_⟩ .nil)
            exact (famT_tp famT_in).p ((Tk.of e6).trans (.lst hF6)) hu
          · rw [List.mem_append, List.mem_singleton] at hu'
            rcases hu' with hu' | hu'
            · exact gU u' hu'
            · subst hu'
              exact ⟨lu, gu⟩
      · obtain ⟨⟨u4, rfl⟩, b4, vs, U, hF, hU, lU, gU⟩ := h
        rw [rngV_len, Int.toNat_natCast] at lU
        have G := good_of (n := n) (m := 12) (U := U) (by omega) (by omega) (by decide) lU gU
        try simp only [wipe, tC, tVar, tChain, rI0, rI, rU, tOp, tUn, tCall, tAnd, tOr, tNot, tNotV, tAndV, tOrV, tTest, tB, tIf, tIfS, tRet, tRetN, tNext, tSeq, tNil, tCons, tAug, ipI, tPar, tAsg, gName, tDrop, tLst, tTup, tCB, tBM, tBM0, tFld_eq, tMkE, tMake, tAugS, gSub, rEq, rAll, rMax, rSum, rAppend, rExtend, rSetL, _root_.L2.start, List.map_cons, List.map_nil, List.length_cons, List.length_nil, List.replicate_succ, List.replicate_zero, List.cons_append, List.nil_append, List.append_nil, List.getElem?_cons_zero, List.getElem?_cons_succ, List.set_cons_zero, List.set_cons_succ, Nat.reduceAdd, Nat.reduceSub, V.int.injEq, V.bl.injEq, V.ref.injEq, V.str.injEq, exists_eq, exists_eq', exists_eq_left, exists_eq_left', exists_and_left, exists_and_right, Option.some.injEq, List.cons.injEq, and_true, true_and, and_assoc, retV, true_or, or_true, decide_eq_true_eq, if_true, if_false, Bool.false_eq_true, Bool.not_true, Bool.not_false, Bool.not_eq_true', reduceCtorEq, eq_self, decide_true, decide_false, List.length_map, exists_const, false_and, and_false, or_false, false_or, ↓reduceIte]
        refine tup_sq (.inl hF) fun p5 H5 e5 hp5 => ⟨by decide, fun p np => ?_⟩
        have e6 := same_new (o := .tup [.int 12, .ref p5]) np
        have e46 := e5.trans e6
        refine ⟨b, d, _, n, 12, U, rfl, b4.same e46, ⟨p, _, rfl, upd_same, p5, vs, rfl, e6 _ _ hp5, (famT_tp (famT_tp famT_in)).p (.of e46) hU⟩, by omega, by omega, by decide, G, fun H6 e7 b6 => ?_⟩
        try simp only [wipe, tC, tVar, tChain, rI0, rI, rU, tOp, tUn, tCall, tAnd, tOr, tNot, tNotV, tAndV, tOrV, tTest, tB, tIf, tIfS, tRet, tRetN, tNext, tSeq, tNil, tCons, tAug, ipI, tPar, tAsg, gName, tDrop, tLst, tTup, tCB, tBM, tBM0, tFld_eq, tMkE, tMake, tAugS, gSub, rEq, rAll, rMax, rSum, rAppend, rExtend, rSetL, _root_.L2.start, List.map_cons, List.map_nil, List.length_cons, List.length_nil, List.replicate_succ, List.replicate_zero, List.cons_append, List.nil_append, List.append_nil, List.getElem?_cons_zero, List.getElem?_cons_succ, List.set_cons_zero, List.set_cons_succ, Nat.reduceAdd, Nat.reduceSub, V.int.injEq, V.bl.injEq, V.ref.injEq, V.str.injEq, exists_eq, exists_eq', exists_eq_left, exists_eq_left', exists_and_left, exists_and_right, Option.some.injEq, List.cons.injEq, and_true, true_and, and_assoc, retV, true_or, or_true, decide_eq_true_eq, if_true, if_false, Bool.false_eq_true, Bool.not_true, Bool.not_false, Bool.not_eq_true', reduceCtorEq, eq_self, decide_true, decide_false, List.length_map, exists_const, false_and, and_false, or_false, false_or, ↓reduceIte]
        refine ⟨b, d, 3, rfl, b6, by decide, by decide, fun v H7 e8 b7 ⟨r, er, r0, r1⟩ => ?_⟩
        subst er
        try simp only [wipe, tC, tVar, tChain, rI0, rI, rU, tOp, tUn, tCall, tAnd, tOr, tNot, tNotV, tAndV, tOrV, tTest, tB, tIf, tIfS, tRet, tRetN, tNext, tSeq, tNil, tCons, tAug, ipI, tPar, tAsg, gName, tDrop, tLst, tTup, tCB, tBM, tBM0, tFld_eq, tMkE, tMake, tAugS, gSub, rEq, rAll, rMax, rSum, rAppend, rExtend, rSetL, _root_.L2.start, List.map_cons, List.map_nil, List.length_cons, List.length_nil, List.replicate_succ, List.replicate_zero, List.cons_append, List.nil_append, List.append_nil, List.getElem?_cons_zero, List.getElem?_cons_succ, List.set_cons_zero, List.set_cons_succ, Nat.reduceAdd, Nat.reduceSub, V.int.injEq, V.bl.injEq, V.ref.injEq, V.str.injEq, exists_eq, exists_eq', exists_eq_left, exists_eq_left', exists_and_left, exists_and_right, Option.some.injEq, List.cons.injEq, and_true, true_and, and_assoc, retV, true_or, or_true, decide_eq_true_eq, if_true, if_false, Bool.false_eq_true, Bool.not_true, Bool.not_false, Bool.not_eq_true', reduceCtorEq, eq_self, decide_true, decide_false, List.length_map, exists_const, false_and, and_false, or_false, false_or, ↓reduceIte]
        refine ⟨b, d, 2, rfl, b7, by decide, by decide, fun v H8 e9 b8 ⟨t2, et, t20, t21⟩ => ?_⟩
        subst et
        try simp only [wipe, tC, tVar, tChain, rI0, rI, rU, tOp, tUn, tCall, tAnd, tOr, tNot, tNotV, tAndV, tOrV, tTest, tB, tIf, tIfS, tRet, tRetN, tNext, tSeq, tNil, tCons, tAug, ipI, tPar, tAsg, gName, tDrop, tLst, tTup, tCB, tBM, tBM0, tFld_eq, tMkE, tMake, tAugS, gSub, rEq, rAll, rMax, rSum, rAppend, rExtend, rSetL, _root_.L2.start, List.map_cons, List.map_nil, List.length_cons, List.length_nil, List.replicate_succ, List.replicate_zero, List.cons_append, List.nil_append, List.append_nil, List.getElem?_cons_zero, List.getElem?_cons_succ, List.set_cons_zero, List.set_cons_succ, Nat.reduceAdd, Nat.reduceSub, V.int.injEq, V.bl.injEq, V.ref.injEq, V.str.injEq, exists_eq, exists_eq', exists_eq_left, exists_eq_left', exists_and_left, exists_and_right, Option.some.injEq, List.cons.injEq, and_true, true_and, and_assoc, retV, true_or, or_true, decide_eq_true_eq, if_true, if_false, Bool.false_eq_true, Bool.not_true, Bool.not_false, Bool.not_eq_true', reduceCtorEq, eq_self, decide_true, decide_false, List.length_map, exists_const, false_and, and_false, or_false, false_or, ↓reduceIte]
        refine ⟨by decide, fun pt npt => ?_⟩
        refine g_two rfl upd_same ?_
        have b9 := b8.same (same_new (o := .tup [.int (10 + r), .int (2 + t2)]) npt)
        clear hF hU gU G e46 e6 hp5 np e5 nF nFb hF3
        obtain ⟨m, hm⟩ : ∃ m : Nat, 10 + r = (m : Int) := ⟨(10 + r).toNat, (Int.toNat_of_nonneg (by omega)).symm⟩
        obtain ⟨k, hk⟩ : ∃ k : Nat, 2 + t2 = (k : Int) := ⟨(2 + t2).toNat, (Int.toNat_of_nonneg (by omega)).symm⟩
        rw [hm, hk] at b9 ⊢
        have m10 : 10 ≤ m := by omega
        have m12 : m ≤ 12 := by omega
        have k2 : 2 ≤ k := by omega
        have k3 : k ≤ 3 := by omega
        generalize upd H8 pt (.tup [.int (m : Int), .int (k : Int)]) = H9 at b9 ⊢
        try simp only [wipe, tC, tVar, tChain, rI0, rI, rU, tOp, tUn, tCall, tAnd, tOr, tNot, tNotV, tAndV, tOrV, tTest, tB, tIf, tIfS, tRet, tRetN, tNext, tSeq, tNil, tCons, tAug, ipI, tPar, tAsg, gName, tDrop, tLst, tTup, tCB, tBM, tBM0, tFld_eq, tMkE, tMake, tAugS, gSub, rEq, rAll, rMax, rSum, rAppend, rExtend, rSetL, _root_.L2.start, List.map_cons, List.map_nil, List.length_cons, List.length_nil, List.replicate_succ, List.replicate_zero, List.cons_append, List.nil_append, List.append_nil, List.getElem?_cons_zero, List.getElem?_cons_succ, List.set_cons_zero, List.set_cons_succ, Nat.reduceAdd, Nat.reduceSub, V.int.injEq, V.bl.injEq, V.ref.injEq, V.str.injEq, exists_eq, exists_eq', exists_eq_left, exists_eq_left', exists_and_left, exists_and_right, Option.some.injEq, List.cons.injEq, and_true, true_and, and_assoc, retV, true_or, or_true, decide_eq_true_eq, if_true, if_false, Bool.false_eq_true, Bool.not_true, Bool.not_false, Bool.not_eq_true', reduceCtorEq, eq_self, decide_true, decide_false, List.length_map, exists_const, false_and, and_false, or_false, false_or, ↓reduceIte]
        refine lc_map (gives_rng2 (i := 1) (j := m) (fun Q h => ⟨_, rfl, h⟩)) b9.box (fun _ _ => trivial) (by rw [rngV_len]; exact Nat.le_trans (by omega : ((m : Int) - 1).toNat ≤ 12) (by decide)) (fun x => rfl) fam_in (List.range (m - 1)) (by rw [rngV_len, List.length_range]; omega) (fun i => (1 + (i : Nat) : Int)) (fun n y z H' D' N hy hz e' _ _ hN => ?_) fun ys H10 L1 e10 b10 nL1 nA1 hL1 hys => ?_
        · have hn : n < m - 1 := by
            have := (List.getElem?_eq_some_iff.1 hz).1
            rwa [List.length_range] at this
          rw [rngV_get (by omega)] at hy
          rw [List.getElem?_range hn] at hz
          obtain rfl := Option.some.inj hy
          obtain rfl := Option.some.inj hz
          try simp only [wipe, tC, tVar, tChain, rI0, rI, rU, tOp, tUn, tCall, tAnd, tOr, tNot, tNotV, tAndV, tOrV, tTest, tB, tIf, tIfS, tRet, tRetN, tNext, tSeq, tNil, tCons, tAug, ipI, tPar, tAsg, gName, tDrop, tLst, tTup, tCB, tBM, tBM0, tFld_eq, tMkE, tMake, tAugS, gSub, rEq, rAll, rMax, rSum, rAppend, rExtend, rSetL, _root_.L2.start, List.map_cons, List.map_nil, List.length_cons, List.length_nil, List.replicate_succ, List.replicate_zero, List.cons_append, List.nil_append, List.append_nil, List.getElem?_cons_zero, List.getElem?_cons_succ, List.set_cons_zero, List.set_cons_succ, Nat.reduceAdd, Nat.reduceSub, V.int.injEq, V.bl.injEq, V.ref.injEq, V.str.injEq, exists_eq, exists_eq', exists_eq_left, exists_eq_left', exists_and_left, exists_and_right, Option.some.injEq, List.cons.injEq, and_true, true_and, and_assoc, retV, true_or, or_true, decide_eq_true_eq, if_true, if_false, Bool.false_eq_true, Bool.not_true, Bool.not_false, Bool.not_eq_true', reduceCtorEq, eq_self, decide_true, decide_false, List.length_map, exists_const, false_and, and_false, or_false, false_or, ↓reduceIte]
          exact hN _ _ (SameO.refl _ _) (by assumption) rfl
        · obtain rfl := ina_eq hys
          try simp only [wipe, tC, tVar, tChain, rI0, rI, rU, tOp, tUn, tCall, tAnd, tOr, tNot, tNotV, tAndV, tOrV, tTest, tB, tIf, tIfS, tRet, tRetN, tNext, tSeq, tNil, tCons, tAug, ipI, tPar, tAsg, gName, tDrop, tLst, tTup, tCB, tBM, tBM0, tFld_eq, tMkE, tMake, tAugS, gSub, rEq, rAll, rMax, rSum, rAppend, rExtend, rSetL, _root_.L2.start, List.map_cons, List.map_nil, List.length_cons, List.length_nil, List.replicate_succ, List.replicate_zero, List.cons_append, List.nil_append, List.append_nil, List.getElem?_cons_zero, List.getElem?_cons_succ, List.set_cons_zero, List.set_cons_succ, Nat.reduceAdd, Nat.reduceSub, V.int.injEq, V.bl.injEq, V.ref.injEq, V.str.injEq, exists_eq, exists_eq', exists_eq_left, exists_eq_left', exists_and_left, exists_and_right, Option.some.injEq, List.cons.injEq, and_true, true_and, and_assoc, retV, true_or, or_true, decide_eq_true_eq, if_true, if_false, Bool.false_eq_true, Bool.not_true, Bool.not_false, Bool.not_eq_true', reduceCtorEq, eq_self, decide_true, decide_false, List.length_map, exists_const, false_and, and_false, or_false, false_or, ↓reduceIte]
          refine ⟨by decide, fun p1 np1 => ⟨by decide, fun p2 np2 => ⟨by decide, fun p3 np3 => ?_⟩⟩⟩
          have e1' := (same_new (o := .lst [V.ref L1]) np1).trans ((same_new (o := .lst [V.int 0]) np2).trans (same_new (o := .lst [V.ref p2]) np3))
          have hp1 := ((same_new (o := .lst [V.int 0]) np2).trans (same_new (o := .lst [V.ref p2]) np3)) _ _ (upd_same (H := H10) (a := p1) (o := .lst [V.ref L1]))
          have hp2 := (same_new (o := .lst [V.ref p2]) np3) _ _ (upd_same (H := upd H10 p1 (.lst [V.ref L1])) (a := p2) (o := .lst [V.int 0]))
          have hp3 : (upd (upd (upd H10 p1 (.lst [V.ref L1])) p2 (.lst [V.int 0])) p3 (.lst [V.ref p2])) p3 = some (.lst [V.ref p2]) := upd_same
          have b11 := b10.same e1'
          have hL1' := e1' _ _ hL1
          generalize upd (upd (upd H10 p1 (.lst [V.ref L1])) p2 (.lst [V.int 0])) p3 (.lst [V.ref p2]) = H11 at e1' hp1 hp2 hp3 b11 hL1' ⊢
          refine ⟨p3, (m : Int) - 1, _, rfl, rfl, hp3, by omega, by omega, ?_, fun p4 np4 => ?_⟩
          · exact Nat.le_trans (by simp; omega : _ ≤ 12) (by decide)
          rw [List.flatten_replicate_singleton]
          have e4' := same_new (o := .lst (List.replicate ((m : Int) - 1).toNat (V.ref p2))) np4
          refine ⟨p1, p4, _, _, rfl, rfl, e4' _ _ hp1, upd_same, ?_, fun p5 np5 => ⟨by decide, fun p6 np6 => ?_⟩⟩
          · exact Nat.le_trans (by simp; omega : _ ≤ 13) (by decide)
          refine rep_lst upd_same (by omega) (by omega) fun p7 np7 => ?_
          have e5' := same_new (o := .lst ([V.ref L1] ++ List.replicate ((m : Int) - 1).toNat (V.ref p2))) np5
          have e6' := same_new (o := .lst [V.ref p5]) np6
          have e7' := same_new (o := .lst (List.replicate (k : Int).toNat (V.ref p5))) np7
          have hL1'' := e7' _ _ (e6' _ _ (e5' _ _ (e4' _ _ hL1')))
          have hp2' := e7' _ _ (e6' _ _ (e5' _ _ (e4' _ _ hp2)))
          have hp5 := e7' _ _ (e6' _ _ (upd_same (H := upd H11 p4 (.lst (List.replicate ((m : Int) - 1).toNat (V.ref p2)))) (a := p5) (o := .lst ([V.ref L1] ++ List.replicate ((m : Int) - 1).toNat (V.ref p2)))))
          have hp7 : (upd (upd (upd (upd H11 p4 (.lst (List.replicate ((m : Int) - 1).toNat (V.ref p2)))) p5 (.lst ([V.ref L1] ++ List.replicate ((m : Int) - 1).toNat (V.ref p2)))) p6 (.lst [V.ref p5])) p7 (.lst (List.replicate (k : Int).toNat (V.ref p5)))) p7 = some (.lst (List.replicate k (V.ref p5))) := by rw [upd_same, Int.toNat_natCast]
          have b12 := b11.same (e4'.trans (e5'.trans (e6'.trans e7')))
          generalize (upd (upd (upd (upd H11 p4 (.lst (List.replicate ((m : Int) - 1).toNat (V.ref p2)))) p5 (.lst ([V.ref L1] ++ List.replicate ((m : Int) - 1).toNat (V.ref p2)))) p6 (.lst [V.ref p5])) p7 (.lst (List.replicate (k : Int).toNat (V.ref p5)))) = H12 at hL1'' hp2' hp5 hp7 b12 ⊢
          have mm : ((m : Int) - 1).toNat = m - 1 := by omega
          rw [mm] at hp5
          have hS : SqF (SqF (SqF InA)) No H12 (.ref p7) (starU m k) := sq_rep hp7 ⟨p5, _, rfl, fun z => z, .inl hp5, .cons ⟨L1, _, rfl, fun z => z, .inl hL1'', ina_of _⟩ (paired_rep ⟨p2, _, rfl, fun z => z, .inl hp2', .cons rfl .nil⟩ _)⟩
          try simp only [wipe, tC, tVar, tChain, rI0, rI, rU, tOp, tUn, tCall, tAnd, tOr, tNot, tNotV, tAndV, tOrV, tTest, tB, tIf, tIfS, tRet, tRetN, tNext, tSeq, tNil, tCons, tAug, ipI, tPar, tAsg, gName, tDrop, tLst, tTup, tCB, tBM, tBM0, tFld_eq, tMkE, tMake, tAugS, gSub, rEq, rAll, rMax, rSum, rAppend, rExtend, rSetL, _root_.L2.start, List.map_cons, List.map_nil, List.length_cons, List.length_nil, List.replicate_succ, List.replicate_zero, List.cons_append, List.nil_append, List.append_nil, List.getElem?_cons_zero, List.getElem?_cons_succ, List.set_cons_zero, List.set_cons_succ, Nat.reduceAdd, Nat.reduceSub, V.int.injEq, V.bl.injEq, V.ref.injEq, V.str.injEq, exists_eq, exists_eq', exists_eq_left, exists_eq_left', exists_and_left, exists_and_right, Option.some.injEq, List.cons.injEq, and_true, true_and, and_assoc, retV, true_or, or_true, decide_eq_true_eq, if_true, if_false, Bool.false_eq_true, Bool.not_true, Bool.not_false, Bool.not_eq_true', reduceCtorEq, eq_self, decide_true, decide_false, List.length_map, exists_const, false_and, and_false, or_false, false_or, ↓reduceIte]
          refine ⟨.inl ⟨by decide, by decide⟩, .inr ⟨by omega, by omega⟩, ?_⟩
          by_cases h60 : 2 * (k : Int) * ((m : Int) - 1) ≤ 60
          · rw [if_pos h60]
            refine ⟨by decide, fun pd npd => ?_⟩
            have g := same_new (o := .tup [.str "told", .int (k : Int)]) npd
            exact T8 Q b d pd _ _ _ m k _ _ _ _ _ _ _ _ _ _ _ m10 m12 k2 k3 (b12.same g) ((fam_sq (fam_sq (fam_sq fam_in))).same g hS) upd_same (fun _ => ⟨rfl, rfl⟩) (fun z => absurd h60 z) q
          · rw [if_neg h60]
            refine ⟨by decide, fun pd npd => ?_⟩
            have g := same_new (o := .tup [.str "size", .str "cells"]) npd
            exact T8 Q b d pd _ _ _ m k _ _ _ _ _ _ _ _ _ _ _ m10 m12 k2 k3 (b12.same g) ((fam_sq (fam_sq (fam_sq fam_in))).same g hS) upd_same (fun z => absurd z h60) (fun _ => ⟨rfl, rfl⟩) q
end
theorem sp_end {K : PySem.W.Frag} {E : XK} (H : Hp) (a : Addr) (ns : List Int) (_ : ns.length ≤ 63) (_ : Only H) (hS : SqL K H a (ns.map V.int)) : sp_law K [.ref a] H (fun v _ => v = .bl true) E := ⟨a, ns, rfl, hS, fun _ => rfl⟩
end K76
set_option Elab.async false
set_option linter.all false
set_option maxRecDepth 100000
set_option maxHeartbeats 0
/-! the end: the head, run in the kernel with the facts; printed by wip/genend.py -/
namespace K76
open PySem PySem.Spec PyProof.Rows L2 He HK
def ln0 : List PySem.Str := ["__name__", "BodyError", "InvalidCount", "InvalidBodies", "InvalidUps", "InvalidWays", "InvalidSize", "Refused", "is_integer", "is_below", "is_between", "is_sequence", "is_row", "lot_wrong", "MOST_AXES", "MOST_BODIES", "MOST_BODY_CELLS", "MOST_CELLS", "FARTHEST", "Bodies"]
def ln1 : List PySem.Str := ["is_cell", "is_new_body", "told_bodies", "rows_along", "ups_along", "MOST_WAY_AXES", "Ways", "is_up", "told_ups", "need_ways", "ways_of", "MOST_MADE_AXES", "met_pairs", "need_few_cells", "cells_of_ways", "bodies_for", "_law_box", "_law_draw", "_law_pick", "_law_chance"]
def ln2 : List PySem.Str := ["_law_is_int", "_law_place", "_law_loose", "_law_same", "_law_ways", "_law_made", "_law_cells_ups", "_law_heard", "_law_counts", "_law_case_fine"]
def lnAll : List PySem.Str := ln0 ++ ln1 ++ ln2
abbrev R : PySem.W.OpenRow := PySem.W.OpenLaw.row PySem.Challenge.rw_heldoroff_k76_whole_bodies_made_from_way
abbrev hk : PySem.W.Hook := hookX prg 5 fx fa fn er
def obE (s : PySem.W.SharedT) : AlX := obsG prg 5 fx fa fn er (HandSHeadRun.getT s)
theorem ob_eq (s : PySem.W.SharedT) : obE s = hk.obs s.abs := obsG_eq (P := prg) (n := 5) (fx := fx) (fa := fa) (fn := fn) (er := er) (g := HandSHeadRun.getT s) (s := s.abs) (HandSHeadRun.getT_eq s)
theorem run (w : World) : HandSHeadRun.RunEq R (PySem.W.view R.prog [56]) hk obE 4000 lnAll w := by
  intro os
  kernel_rfl
end K76
open PySem PySem.W PySem.Calls PyProof.Rows
theorem PySem.Challenge.cw_heldoroff_k76_whole_bodies_made_from_way_holds : PySem.Challenge.rw_heldoroff_k76_whole_bodies_made_from_way.Holds := by
  w_on; o_law
  refine HandSHeadRun.head_any (r := OpenLaw.row PySem.Challenge.rw_heldoroff_k76_whole_bodies_made_from_way) (q := view (OpenLaw.row PySem.Challenge.rw_heldoroff_k76_whole_bodies_made_from_way).prog [56]) (H := K76.hk) (ob := K76.obE) (M := 4000) (loose := K76.lnAll) (d := HandSHeadRun.topDef (OpenLaw.row PySem.Challenge.rw_heldoroff_k76_whole_bodies_made_from_way).prog 56) (kwd := []) K76.ob_eq
    (by kernel_rfl) (fun s => by kernel_rfl) K76.run (by kernel_rfl) (by kernel_rfl) (by kernel_rfl) (by rfl) (by first | assumption | decide +kernel) (by decide +kernel) ⟨rfl, rfl, rfl, rfl, rfl, by decide +kernel⟩ ?hw ?hc
  case hw => w_witness2
  case hc =>
    refine L2.walk_ofE (l := PySem.Challenge.rw_heldoroff_k76_whole_bodies_made_from_way) (n := 63) (k := 14) (x := "script") (CX := L2.CX0) rfl (by decide) (by kernel_rfl) ⟨rfl, by decide, by decide⟩ ?F (fun _ _ _ _ z => z)
    intro w mg fa h Y G hmg0
    obtain ⟨K, KX, c⟩ := Y
    have hmg : mg ("law" : PySem.Str) = some (.ref fa) := by
      have e : (HandSHeadRun.topDef (OpenLaw.row PySem.Challenge.rw_heldoroff_k76_whole_bodies_made_from_way).prog 56).name = ("law" : PySem.Str) := by kernel_rfl
      rw [← e]
      exact hmg0
    have S : K76.Sc K mg := ⟨c, h, KX, G⟩
    obtain ⟨fd, F⟩ := S.def_ 37 (d := K76.d_law) rfl
    have e := hmg.symm.trans (S.glo 33 (x := "law") rfl)
    cases e
    have b := L2.FunD.bindsA (ps := ["script"]) F fun _ _ _ _ _ _ us hl => match us, hl with | [_], _ => rfl
    exact ⟨K, fd, K76.sp_law K, KX, fun s v => b s [v] rfl, K76.sp_end, fun base _ _ => K76.C_law (w := w) (base := base) S (K76.plain w) fd F⟩
