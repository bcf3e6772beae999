import PyProof.Rows.All
import Wide.All
import OpenK.AllK
import Wide.FinOn
import HandS.ForMost
import KE.KSuper
import KE.KExcSuper
import HandS.ForExc
import HandS.ExcInit
import HandS.ExcIs
import HandS.ExcField
import HandS.TryMany
import HandS.IsInst
import HandS.Wide
import HandS.TupAny
import KE.KEqSeq
import KE.KEqDeep
import PySem.Challenge.RW_nightsoff_k32_turned_rows
set_option Elab.async false
set_option linter.all false
set_option maxRecDepth 100000
set_option maxHeartbeats 4000000
/-! x is True, x is False, x is not True .. of any x -/
namespace L2
open PySem PySem.Spec PyProof.Rows
section
variable {X : Cx}
theorem nk_isB {M : Model} {A : Around} {E : Value → Shared → Prop} {s : Shared} {x : V} {v : Value} {b : Bool} {Q : Value → Shared → Prop} (r : RelV x v) (h : Q (.bool (decide (x = .bl b))) s) : wpAny M A (compareOp .Is v (.bool b)) Q E s := by
  cases x with
  | non => cases r; exact wpAny_pure h
  | bl c =>
    cases r
    have e : (Value.bool c == Value.bool b) = decide (V.bl c = V.bl b) := by cases c <;> cases b <;> rfl
    rw [← e] at h
    exact wpAny_pure h
  | int _ => obtain ⟨t, rfl⟩ := r; exact wpAny_pure h
  | str _ => obtain ⟨t, rfl⟩ := r; exact wpAny_pure h
  | byt _ => obtain ⟨t, rfl⟩ := r; exact wpAny_pure h
  | flt _ => obtain ⟨t, rfl⟩ := r; exact wpAny_pure h
  | ref _ => cases r; exact wpAny_pure h
  | ty _ => cases r; exact wpAny_pure h
theorem nk_isnotB {M : Model} {A : Around} {E : Value → Shared → Prop} {s : Shared} {x : V} {v : Value} {b : Bool} {Q : Value → Shared → Prop} (r : RelV x v) (h : Q (.bool (!decide (x = .bl b))) s) : wpAny M A (compareOp .IsNot v (.bool b)) Q E s := by
  cases x with
  | non => cases r; exact wpAny_pure h
  | bl c =>
    cases r
    have e : (Value.bool c == Value.bool b) = decide (V.bl c = V.bl b) := by cases c <;> cases b <;> rfl
    rw [← e] at h
    exact wpAny_pure h
  | int _ => obtain ⟨t, rfl⟩ := r; exact wpAny_pure h
  | str _ => obtain ⟨t, rfl⟩ := r; exact wpAny_pure h
  | byt _ => obtain ⟨t, rfl⟩ := r; exact wpAny_pure h
  | flt _ => obtain ⟨t, rfl⟩ := r; exact wpAny_pure h
  | ref _ => cases r; exact wpAny_pure h
  | ty _ => cases r; exact wpAny_pure h
def rIsBl : R2 := fun x y H Q => ∃ b, y = .bl b ∧ Q (.bl (decide (x = .bl b))) H
def rNotBl : R2 := fun x y H Q => ∃ b, y = .bl b ∧ Q (.bl (!decide (x = .bl b))) H
theorem op_isB : OpR X (compareOp .Is) rIsBl := by
  intro pins s σ H x y v u Q I rx ry h
  obtain ⟨b, rfl, q⟩ := h
  cases ry
  exact nk_isB rx (fin_bl I q rfl)
theorem op_isnotB : OpR X (compareOp .IsNot) rNotBl := by
  intro pins s σ H x y v u Q I rx ry h
  obtain ⟨b, rfl, q⟩ := h
  cases ry
  exact nk_isnotB rx (fin_bl I q rfl)
end
end L2
/-! An own error class over ValueError (through own classes) whose __init__ says super().__init__(a text), then stores each of its arguments as a field of that name: made by a call. -/
namespace PySem
namespace NKE
open PySem.W PySem.Calls PyProof.Rows PySem.HandSPX PySem.OEX
/-- self.f = f -/
def IsFld (f : Str) (st : Stmt) : Prop := ∃ p q r z, st = .Assign [.Attribute (.Name "self" p) f q] (.Name f r) z
inductive IsFlds : List Str → List Stmt → Prop
  | nil : IsFlds [] []
  | cons {f : Str} {st : Stmt} {fs : List Str} {sts : List Stmt} : IsFld f st → IsFlds fs sts → IsFlds (f :: fs) (st :: sts)
/-- super().__init__(txt) -/
def IsSup (st : Stmt) : Prop := ∃ (p0 p1 p2 p3 p4 p5 : Pos) (j : Nat) (txt : Str), (p2.endLine == p4.line) = true ∧ st = .Expr (.Call (.Attribute (.Call (.Name "super" p0) [] [] p1) "__init__" p2) [.Constant (.str txt) j p3] [] p4) p5
/-- what the written part says of the class at C, and of its __init__, at fI -/
structure ErrTxt (K : Frag) (C fI : Addr) (fs : List Str) : Prop where
  cls : ∃ nm q N bs bm sn sub ab col dd k0 k1 k2 k3 k5, K.lookup C = some (excClassObj nm q C N bs bm true sn sub ab col dd k0 k1 k2 k3 k5 "ValueError.__new__") ∧ refsVE bm = true
  sa : findIn K (.ref C) "__setattr__" = some (some (.builtin "object.__setattr__"))
  noN : ∀ f ∈ fs, findIn K (.ref C) f = some none
  iC : findIn K (.ref C) "__init__" = some (some (.ref fI))
  tC : typeIn K (.ref fI) = some (.type "function")
  kC : keepIn K (.ref C) = true
  exC : subIn K (.ref C) (.type "BaseException") = some true
  veC : subIn K (.ref C) (.type "ValueError") = some true
  tyC : typeIn K (.ref C) = some (.type "type")
  sup : ks_superIn K C C "__init__" = some (some (.builtin "ValueError.__init__"))
  selfC : mroIn K C (.ref C) = some true
  tp : nsIn K cStatics "thirdparty.any" = some none
  nosup : nsIn K mainGlobals "super" = some none
  fn : ∃ (oc : Value) (od : Option Addr) (qual : Str) (params : Arguments) (body : List Stmt) (scope : Scope) (dV kV doc pm : Value) (an : Option Addr) (cda : Addr) (ct : Value) (osl : Array (Option Value)) (cc : Addr) (ar : Arg) (ccl cl : Value) (cdd cld : Option Addr) (vs : Array Value) (file : Str) (tf : Tok) (ccs csl : Array (Option Value)) (st : Stmt) (sts : List Stmt),
    K.lookup fI = some ⟨oc, od, .func (ksFn "__init__" qual params body scope dV kV doc pm an (.ref cda) ct cc), osl⟩ ∧ codeIn K (.ref cda) qual = true ∧
    (params.posonlyargs ++ params.args).head? = some ar ∧ ar.arg = "self" ∧
    K.lookup cda = some ⟨ccl, cdd, .fields vs, ccs⟩ ∧ vs[2]? = some (.str file tf) ∧ ((("/claim/cut.py" : Str)) == file) = true ∧
    K.lookup cc = some ⟨cl, cld, .cell (some (.ref C)), csl⟩ ∧
    body = st :: sts ∧ IsSup st ∧ IsFlds fs sts ∧
    scope.names.lookup ("super" : Str) = some .globalImplicit ∧ scope.names.lookup ("__class__" : Str) = some .free ∧ (∀ f ∈ ("self" : Str) :: fs, scope.names.lookup f = some .local) ∧ scope.kind = .function ∧
    (∀ x ∈ scope.names, x.2 ≠ .cell) ∧ scope.isCoroutine = false ∧ scope.isGenerator = false ∧
    (∀ us : List Value, us.length = fs.length + 1 → bindArgs (ksFn "__init__" qual params body scope dV kV doc pm an (.ref cda) ct cc) ⟨us, []⟩ = pure ((("self" : Str) :: fs).zip us)) ∧
    (("self" : Str) :: fs).Nodup ∧ (∀ f ∈ fs, (f == ("__debug__" : Str)) = false)

section
variable {prog : Program} {w : World} {A : Around} {E : Value → Shared → Prop} {R : Result → Shared → Prop} {s : Shared} {K : Frag} {mg : Str → Option Value} {C fI : Addr} {fs : List Str}
theorem in_but {h h' : Heap} {x : Addr} (X : K.In h) (hx : K.lookup x = none) (k : ∀ b o, b ≠ x → h.get? b = some o → h'.get? b = some o) : K.In h' := fun a o e =>
  k a o (fun z => by rw [z, hx] at e; cases e) (X a o e)
/-- the name self, the name f, in the frame at L -/
theorem ld1 {M : Model} {env : Env} {m : Str → Option Value} {x : Str} {pos : Pos} {v : Value} {Q : Value → Shared → Prop} (hn : s.heap.Ns env.locals m) (hv : m x = some v) (h : Q v s)
    (hk : env.scope.kind = .function) (hl : env.kindOf x = some .local) (hd : (x == ("__debug__" : Str)) = false) :
    wpAny M A (eval (.Name x pos) env) Q E s := wpAny_Name (wpAny_loadName_local hk hl hn hv h) hd
/-- the exception at x as __init__ leaves it -/
def excB (C t1 : Addr) (d : Option Addr) : Obj := { cls := .ref C, dict := d, data := .fields #[.ref t1, .none, .none, .none, .bool false, .none] }
/-- the stores behind the first -/
theorem err_stores {env : Env} {x t1 dx : Addr} {nm q : Str} {N : Addr} {bs bm : List Value} {sn : List Str} {sub : List Value} {ab : Bool} {col : Option Bool}
    (hcl : clsIn K C = some { name := nm, bases := bs, mro := .ref C :: bm, ns := N, qualname := q, hasDict := true, slotNames := sn, subclasses := sub, abstract := ab, collection := col, hasDel := false }) (hbm : refsVE bm = true)
    (sa : findIn K (.ref C) "__setattr__" = some (some (.builtin "object.__setattr__"))) (hxK : K.lookup x = none) (hdK : K.lookup dx = none)
    (hk : env.scope.kind = .function) (hself : env.kindOf "self" = some .local) {m : Str → Option Value} (hms : m "self" = some (.ref x)) (hxl : x ≠ env.locals) (hdl : dx ≠ env.locals) (hdx : dx ≠ x) :
    ∀ {fs : List Str} {sts : List Stmt}, IsFlds fs sts → ∀ {us : List Value} {m0 : Str → Option Value} {nl : List Str} {s : Shared}, us.length = fs.length → (∀ f ∈ fs, env.kindOf f = some .local) → (∀ f ∈ fs, (f == ("__debug__" : Str)) = false) → (∀ f ∈ fs, findIn K (.ref C) f = some none) →
      (∀ (i : Nat) (f : Str) (u : Value), fs[i]? = some f → us[i]? = some u → m f = some u) → K.In s.heap → s.heap.Ns env.locals m → s.heap.get? x = some (excB C t1 (some dx)) → s.heap.Ns1 dx m0 → Within m0 nl → nl.length + fs.length ≤ 900 →
      ∀ {Q : Flow → Shared → Prop}, (∀ h' tk, (∀ b o, b ≠ x → b ≠ dx → s.heap.get? b = some o → h'.get? b = some o) → h'.get? x = some (excB C t1 (some dx)) → h'.Ns1 dx (fun y => (((fs.zip us).reverse.lookup y).or (m0 y))) → Q .next { s with heap := h', toks := tk }) →
      wpAny (model prog w) A (execs sts env) Q E s := by
  intro fs sts hf
  induction hf with
  | nil =>
    intro us m0 nl s hl _ _ _ _ X hn hx hd hw hz Q hq
    refine wpAny_execs_nil ?_
    have := hq s.heap s.toks (fun _ _ _ _ e => e) hx (by simpa using hd)
    exact this
  | @cons f st fs sts h1 hr ih =>
    intro us m0 nl s hl hloc hdb hno hmv X hn hx hd hw hz Q hq
    obtain ⟨p, q', r, z, rfl⟩ := h1
    obtain ⟨u, us, rfl⟩ : ∃ u r, us = u :: r := by
      cases us with
      | nil => simp at hl
      | cons u r => exact ⟨u, r, rfl⟩
    have hl' : us.length = fs.length := by simpa using hl
    have hu : m f = some u := hmv 0 f u rfl rfl
    refine wpAny_execs_cons (plainObj_wpAny_Assign_Attribute ?_)
    refine ld1 (v := u) hn hu (ld1 (v := .ref x) hn hms ?_ hk hself (by decide +kernel)) hk (hloc f (by simp)) (hdb f (by simp))
    obtain ⟨hp, g, dr, tk, os⟩ := s
    obtain ⟨oD, es, ep, hoD, hdD, hrest⟩ := id hd
    refine set_plain X (ox := excB C t1 (some dx)) (od := some oD) ⟨hx, rfl, rfl, hoD⟩ sa ?_
    refine osa_old X hx hd hw (by simp at hz; omega) hcl (show refsVE (.ref C :: bm) = true from hbm) rfl (hno f (by simp)) (fun h' tk' k' hn' => ?_)
    have hd' : h'.Ns env.locals m := by
      obtain ⟨o, es, ep, e, rest⟩ := hn
      exact ⟨o, es, ep, k' _ _ (fun z => hdl z.symm) e, rest⟩
    refine ih (us := us) (m0 := fun y => if y = f then some u else m0 y) (nl := f :: nl) (s := ⟨h', g, dr, tk', os⟩) hl' (fun y hy => hloc y (by simp [hy])) (fun y hy => hdb y (by simp [hy])) (fun y hy => hno y (by simp [hy])) (fun i f' u' h1 h2 => hmv (i + 1) f' u' (by simpa using h1) (by simpa using h2))
      (in_but X hdK fun b o hb e => k' b o hb e) hd' (k' _ _ hdx.symm hx) hn' (Within.cons f u hw) (by simp at hz ⊢; omega) (fun h2 tk2 k2 hx2 hn2 => ?_)
    refine hq h2 tk2 (fun b o hb1 hb2 e => k2 b o hb1 hb2 (k' b o hb2 e)) hx2 ?_
    have e : (fun y => ((((f :: fs).zip (u :: us)).reverse.lookup y).or (m0 y))) = (fun y => (((fs.zip us).reverse.lookup y).or ((fun y => if y = f then some u else m0 y) y))) := by
      funext y
      rw [List.zip_cons_cons, List.reverse_cons, List.lookup_append]
      cases hh : (fs.zip us).reverse.lookup y with
      | some v => simp
      | none =>
        by_cases hy : y = f
        · subst hy; simp [List.lookup]
        · have : (y == f) = false := by simpa using hy
          simp [List.lookup, this, hy]
    rw [e]
    exact hn2
/-- what __init__ leaves of a fresh exception at x -/
structure InitEnd (h h' : Heap) (x C dx t1 : Addr) (fs : List Str) (us : List Value) : Prop where
  keep : ∀ b o, b ≠ x → h.get? b = some o → h'.get? b = some o
  obj : h'.get? x = some (excB C t1 (some dx))
  dbig : h.objs.size ≤ dx
  dne : dx ≠ x
  ns : h'.Ns1 dx (fun y => (fs.zip us).reverse.lookup y)
theorem lk_zip : ∀ {fs : List Str} {us : List Value} {i : Nat} {f : Str} {u : Value}, fs.Nodup → fs[i]? = some f → us[i]? = some u → (fs.zip us).reverse.lookup f = some u
  | [], _, _, _, _, _, h, _ => by simp at h
  | _ :: _, [], _, _, _, _, _, h => by simp at h
  | g :: fs, v :: us, 0, f, u, nd, h1, h2 => by
    simp at h1 h2
    subst h1 h2
    rw [List.zip_cons_cons, List.reverse_cons, List.lookup_append]
    have : (fs.zip us).reverse.lookup g = none := by
      rw [List.lookup_eq_none_iff]
      intro p hp
      have := (List.of_mem_zip (List.mem_reverse.mp hp)).1
      have n := (List.nodup_cons.mp nd).1
      simp
      rintro rfl
      exact n this
    rw [this]
    simp [List.lookup]
  | g :: fs, v :: us, i + 1, f, u, nd, h1, h2 => by
    have ih := lk_zip (i := i) (List.nodup_cons.mp nd).2 (by simpa using h1) (by simpa using h2)
    rw [List.zip_cons_cons, List.reverse_cons, List.lookup_append, ih]
    rfl
/-- what a method call asks whether .. -/
def pl_ (o : Expr) (env : Env) : Sem Bool := do return (← importBound o env).getD true
theorem sup_eq {o : Expr} {name : Str} {p2 p4 p3 : Pos} {txt : Str} {j : Nat} {env : Env} (h : (p2.endLine == p4.line) = true) : eval (.Call (.Attribute o name p2) [.Constant (.str txt) j p3] [] p4) env = (do
      let ov ← attributeBase o name env (eval o env)
      standAt p2.atName
      let (f, first) ← holding [ov] (getMethod ov name (pl_ o env))
      callWith p4 f first (backTo p4 (starEach [.Constant (.str txt) j p3] env)) []) := by
  rw [arm_eval_Call]
  unfold methodCall methodCallPos
  simp only [h, Bool.or_true, if_true]
  rfl
theorem err_init (T : ErrTxt K C fI fs) (hfs : fs ≠ []) (hfl : fs.length ≤ 800) (hfile : ((prog.main.file : Str) == "/claim/cut.py") = true) (htop : (prog.main.scope.names.lookup ("super" : Str)).isSome = false) {x t0 : Addr} {us : List Value} (hus : us.length = fs.length) (X : K.In s.heap) (hlim : s.heap.NoLimit)
    {mb : Str → Option Value} (hG : s.heap.Ns mainGlobals mg) (hB : s.heap.Ns builtinsNs mb) (hbb : ∀ x : Str, x ≠ "__name__" → mb x = bootBuiltins x) (hms : mg "super" = none)
    (hx : s.heap.get? x = some (excO C t0)) (hnx : K.lookup x = none) (hroom : A.depth < recursionLimit)
    (hq : ∀ h' tk dx t1, InitEnd s.heap h' x C dx t1 fs us → R (.ok (.ret .none)) { s with heap := h', toks := tk }) :
    codeAny (model prog w) A (.call (.ref fI) ⟨.ref x :: us, []⟩) R s := by
  obtain ⟨oc, od, qual, params, body, scope, dV, kV, doc, pm, an, cda, ct, osl, cc, ar, ccl, cl, cdd, cld, vs, file, tf, ccs, csl, st, sts, ho, hcd, har, hself, hcda, hvs, hfl2, hcc, rfl, hsup, hflds, hks, hkc, hloc, hkind, hcell, hco, hgen, hbind, hnd, hdbg⟩ := T.fn
  obtain ⟨nm, q, N, bs, bm, sn, sub, ab, col, dd, k0, k1, k2, k3, k5, hC, hbm⟩ := T.cls
  have hcl : clsIn K C = some { name := nm, bases := bs, mro := .ref C :: bm, ns := N, qualname := q, hasDict := true, slotNames := sn, subclasses := sub, abstract := ab, collection := col, hasDel := false } := by unfold clsIn; rw [hC] <;> rfl
  have hxs : x < s.heap.objs.size := Heap.lt_size hx
  refine ks_codeAny_call_defAt (fd := ksFn "__init__" qual params (st :: sts) scope dV kV doc pm an (.ref cda) ct cc) (body := st :: sts) (binds := (("self" : Str) :: fs).zip (.ref x :: us)) hroom (X _ _ ho) rfl hlim (codeRec_of X hcd) rfl
    (BindsTo.of_eq (hbind _ (by simp [hus]))) hcell (fun y hy => hloc y.1 (List.of_mem_zip hy).1) (fun h₁ hns hk₁ => ?_) hco hgen hkind
  have X₁ : K.In h₁ := X.keeps hk₁
  have hx₁ := hk₁ _ _ hx
  obtain ⟨hp, g, dr, tk, os⟩ := s
  generalize tk + ((("self" : Str) :: fs).zip (.ref x :: us)).length = tk1
  obtain ⟨p0, p1, p2, p3, p4, p5, j, txt, hpos, rfl⟩ := hsup
  -- the frame's names
  have hm : ∀ (i : Nat) (f : Str) (u : Value), (("self" : Str) :: fs)[i]? = some f → (Value.ref x :: us)[i]? = some u → ((("self" : Str) :: fs).zip (Value.ref x :: us)).reverse.lookup f = some u := by
    intro i f u h1 h2
    exact lk_zip hnd h1 h2
  refine ks_wpAt_execs_cons (ks_wpAt_Expr_any (hi := (show (scope.kind == .module && _) = false by rw [hkind]; rfl)) (ks_wpAt_MethodCall ?_ (pl := pl_ _ _) (he := sup_eq hpos)))
  refine ks_wpAt_super_base (f := fI) (cc := cda) hks hkc (by decide +kernel) rfl (hk₁ _ _ (X _ _ ho)) rfl har rfl (hk₁ _ _ (X _ _ hcda)) rfl hvs (by rw [beq_iff_eq] at hfile hfl2 ⊢; rw [hfile, hfl2]) htop ?_
  refine ks_loadName_global hkind hks (loadGlobal_builtin (hG.keeps hk₁) hms (hB.keeps hk₁) ((hbb _ (by decide +kernel)).trans (by first | boot_by_name | rfl | kernel_rfl)) ⟨rfl, ?_⟩)
  refine wpAny_loadName_free hkind hkc rfl ⟨_, X₁ _ _ hcc, rfl⟩ ?_
  refine wpAny_loadName_local hkind (hself ▸ hloc "self" (by simp)) hns (v := .ref x) (by rw [hself]; exact hm 0 "self" (.ref x) rfl rfl) ?_
  refine ks_wpAny_isType_cls (X₁ _ _ hC) rfl ⟨rfl, ?_⟩
  refine ks_wpAny_call_super (X₁ _ _ hC) rfl hx₁ rfl (fun c e => by cases e) (looks_mroIn X₁ T.selfC) (fun h2 hso k2 => ?_)
  have X2 : K.In h2 := X₁.keeps k2
  have hx2 := k2 _ _ hx₁
  have I2 : InstAt h2 x (excO C t0) C none := ⟨hx2, rfl, rfl, trivial⟩
  have hal : alongIn K "__init__" (((Value.ref C :: bm).dropWhile (· != .ref C)).drop 1) = some (some (.builtin "ValueError.__init__")) := by
    have z := T.sup
    unfold ks_superIn at z
    rw [hcl] at z
    exact z
  refine kxs_getMethod kxs_ValueError hso (looks_opaque X2 T.tp) (l₀ := .ref C :: bm) (fun A Q E s k q => wpAny_bind ((looks_clsIn X2 hcl) A _ E s k (wpAny_pure q))) rfl X2 hal (I2.type.andThen (looks_subIn X2 T.veC)) (ks_ne X2 I2 hcl) (by decide +kernel) ?_
  have hu : (h2.push (kxs_mw "ValueError.__init__" x)).get? h2.objs.size = some (kxs_mw "ValueError.__init__" x) := by heap_get
  have k3 : ∀ b o, h2.get? b = some o → (h2.push (kxs_mw "ValueError.__init__" x)).get? b = some o := fun b o e => Heap.get?_push_of_some _ e
  refine kxs_callWith (u := h2.objs.size) (i := "ValueError.__init__") (x := x) rfl (evalArgs_plain ?_)
  show wpAny _ _ (spliced ((false, eval (.Constant (.str txt) j p3) _) :: _)) _ _ _
  refine Calls.spliced_cons (Calls.Constant_str (Calls.spliced_nil ⟨hu, ?_⟩))
  generalize hh3 : h2.push (kxs_mw "ValueError.__init__" x) = h3 at hu k3 ⊢
  have X3 : K.In h3 := X2.keeps k3
  have hx3 := k3 _ _ hx2
  refine wpAny_call (codeAny_of_tree ?_)
  show wpAny _ _ (callAny (.ref h2.objs.size) _) _ _ _
  simp only [callAny]
  refine wpAny_bind (wpAny_load hu ?_)
  simp only [kxs_mw, show (Value.type "method-wrapper" == Value.type "method" || Value.type "method-wrapper" == Value.type "builtin_function_or_method" || Value.type "method-wrapper" == Value.type "method-wrapper") = true by decide, if_true]
  refine KFB.if_so (by decide) ?_
  have FB := F.excBase_ValueError
  refine wpAny_bind (check_bound_init FB.toExcCallFacts (X3 _ _ hC) hx3 rfl ?_)
  refine wpAny_bind (wpAny_pure (wpAny_pure ?_))
  refine ⟨plainId_quiet FB.init.plain _, codeAny_builtin FB.initEntry ?_⟩
  refine exc_init_tree (cls := .ref C) (t0 := t0) (dv := none) (c2 := .none) (c3 := .none) (b4 := .bool false) hx3 (by rw [sizeLine_eq]; exact (by decide : 1 ≤ 16777216)) (fun h4 k4 hx4 _ => ?_)
  -- the first field
  have old : ∀ b o, b ≠ x → hp.get? b = some o → h4.get? b = some o := fun b o hb e => k4 b o hb (k3 _ _ (k2 _ _ (hk₁ _ _ e)))
  have hL : x ≠ hp.objs.size := Nat.ne_of_lt hxs
  have hn4 : h4.Ns hp.objs.size (fun y => ((("self" : Str) :: fs).zip (Value.ref x :: us)).reverse.lookup y) := by
    obtain ⟨o, es, ep, e, rest⟩ := hns
    exact ⟨o, es, ep, k4 _ _ hL.symm (k3 _ _ (k2 _ _ e)), rest⟩
  have X4 : K.In h4 := in_but X hnx old
  have hx4' : h4.get? x = some (excO C h3.objs.size) := hx4
  have h3L : hp.objs.size < h4.objs.size := hn4.lt
  have hself' : (callEnv (ksFn "__init__" qual params (Stmt.Expr (.Call (.Attribute (.Call (.Name "super" p0) [] [] p1) "__init__" p2) [.Constant (.str txt) j p3] [] p4) p5 :: sts) scope dV kV doc pm an (.ref cda) ct cc) hp.objs.size fI).kindOf "self" = some .local := hloc "self" (by simp)
  cases hflds with
  | nil => exact absurd rfl hfs
  | @cons f st fs sts hf1 hfr =>
  obtain ⟨pp, qq, rr, zz, rfl⟩ := hf1
  obtain ⟨u, us, rfl⟩ : ∃ u r, us = u :: r := by
    cases us with
    | nil => simp at hus
    | cons u r => exact ⟨u, r, rfl⟩
  refine wpAt_of_wpAny ?_
  refine wpAny_execs_cons (plainObj_wpAny_Assign_Attribute ?_)
  refine ld1 (v := u) hn4 (hm 1 f u rfl rfl) (ld1 (v := .ref x) hn4 (hm 0 "self" (.ref x) rfl rfl) ?_ hkind hself' (by decide +kernel)) hkind (hloc f (by simp)) (hdbg f (by simp))
  refine set_plain X4 (ox := excO C h3.objs.size) (od := none) ⟨hx4', rfl, rfl, trivial⟩ T.sa ?_
  refine exc_osa X4 hx4' hcl (show refsVE (.ref C :: bm) = true from hbm) rfl (T.noN f (by simp)) (fun h5 tk5 dx k5 dn dne hx5 hn5 => ?_)
  have hdL : dx ≠ hp.objs.size := Nat.ne_of_gt (Nat.lt_of_lt_of_le h3L dn)
  have hdK : K.lookup dx = none := by
    cases e : K.lookup dx with
    | none => rfl
    | some o => exact absurd (Heap.lt_size (X4 _ _ e)) (Nat.not_lt.mpr dn)
  have hn5' : h5.Ns hp.objs.size (fun y => ((("self" : Str) :: f :: fs).zip (Value.ref x :: u :: us)).reverse.lookup y) := by
    obtain ⟨o, es, ep, e, rest⟩ := hn4
    exact ⟨o, es, ep, k5 _ _ hL.symm e, rest⟩
  show wpAny _ _ (execs sts _) _ _ _
  refine err_stores (s := ⟨h5, g, dr, tk5, os⟩) (t1 := h3.objs.size) (us := us) (nl := [f]) (m0 := fun y => if y = f then some u else none) (x := x) (dx := dx) hcl hbm T.sa hnx hdK hkind hself' (hm 0 "self" (.ref x) rfl rfl) hL hdL dne hfr (by simpa using hus) (fun y hy => hloc y (by simp [hy])) (fun y hy => hdbg y (by simp [hy])) (fun y hy => T.noN y (by simp [hy]))
    (fun i f' u' h1 h2 => hm (i + 2) f' u' (by simpa using h1) (by simpa using h2)) (in_but X4 hnx k5) hn5' hx5 hn5 (Within.cons f u Within.nil) (by simp at hfl ⊢; omega) (fun h6 tk6 k6 hx6 hn6 => ?_)
  refine hq h6 tk6 dx h3.objs.size ⟨fun b o hb e => k6 b o hb (fun z => ?_) (k5 b o hb (old b o hb e)), hx6, Nat.le_of_lt (Nat.lt_of_lt_of_le h3L dn), dne, ?_⟩
  · subst z
    exact absurd (Nat.lt_trans (Heap.lt_size e) h3L) (Nat.not_lt.mpr dn)
  · have e : (fun y => (((f :: fs).zip (u :: us)).reverse.lookup y)) = (fun y => (((fs.zip us).reverse.lookup y).or ((fun y => if y = f then some u else none) y))) := by
      funext y
      rw [List.zip_cons_cons, List.reverse_cons, List.lookup_append]
      cases hh : (fs.zip us).reverse.lookup y with
      | some v => simp
      | none =>
        by_cases hy : y = f
        · subst hy; simp [List.lookup]
        · have : (y == f) = false := by simpa using hy
          simp [List.lookup, this, hy]
    rw [e]
    exact hn6
/-- a made one -/
structure ErrMade (h h' : Heap) (e C d : Addr) (fs : List Str) (us : List Value) : Prop where
  keep : ∀ b o, h.get? b = some o → h'.get? b = some o
  new : h.objs.size ≤ e
  obj : ∃ oe vs, h'.get? e = some oe ∧ oe.cls = .ref C ∧ oe.dict = some d ∧ oe.data = .fields vs ∧ vs[1]? = some .none
  dbig : h.objs.size ≤ d
  dne : d ≠ e
  ns : h'.Ns1 d (fun y => (fs.zip us).reverse.lookup y)
theorem err_made (T : ErrTxt K C fI fs) (hfs : fs ≠ []) (hfl : fs.length ≤ 800) (hfile : ((prog.main.file : Str) == "/claim/cut.py") = true) (htop : (prog.main.scope.names.lookup ("super" : Str)).isSome = false) {us : List Value} (hus : us.length = fs.length) (X : K.In s.heap) (hlim : s.heap.NoLimit)
    {mb : Str → Option Value} (hG : s.heap.Ns mainGlobals mg) (hB : s.heap.Ns builtinsNs mb) (hbb : ∀ x : Str, x ≠ "__name__" → mb x = bootBuiltins x) (hms : mg "super" = none) (hroom : A.depth + 1 < recursionLimit)
    (hq : ∀ h' tk e d, ErrMade s.heap h' e C d fs us → R (.ok (.ret (.ref e))) { s with heap := h', toks := tk }) :
    codeAny (model prog w) A (.call (.ref C) ⟨us, []⟩) R s := by
  obtain ⟨nm, q, N, bs, bm, sn, sub, ab, col, dd, k0, k1, k2, k3, k5, hC, hbm⟩ := T.cls
  obtain ⟨hp, g, dr, tk, os⟩ := s
  have k : ∀ b o, hp.get? b = some o → ((hp.push (kdv_tup us)).push (excO C hp.objs.size)).get? b = some o := fun b o e => Heap.get?_push_of_some _ (Heap.get?_push_of_some _ e)
  have hget : ((hp.push (kdv_tup us)).push (excO C hp.objs.size)).get? (hp.objs.size + 1) = some (excO C hp.objs.size) := by heap_get
  have hnx : K.lookup (hp.objs.size + 1) = none := by
    cases e : K.lookup (hp.objs.size + 1) with
    | none => rfl
    | some o =>
      have z : hp.get? (hp.objs.size + 1) = some o := X _ _ e
      exact absurd (Nat.lt_of_succ_lt (Heap.lt_size z)) (Nat.lt_irrefl _)
  refine call_own F.excBase_ValueError (fun X => refsVE_contains X bm hbm) (X _ _ hC) (looks_findIn X T.iC) (fun self => bind_fn X self T.tC) (by rw [hus, sizeLine_eq]; omega) ?_
  refine err_init (s := ⟨(hp.push (kdv_tup us)).push (excO C hp.objs.size), g, dr, tk, os⟩) T hfs hfl hfile htop hus (X.keeps k) (hlim.keeps k) (hG.keeps k) (hB.keeps k) hbb hms hget hnx ?_ fun h' tk' dx t1 ⟨k', hx, dn, dne, hns⟩ => ?_
  · show A.depth + 1 < recursionLimit
    exact hroom
  · have old : ∀ b o, hp.get? b = some o → h'.get? b = some o := fun b o e => k' b o (Nat.ne_of_lt (Nat.lt_succ_of_lt (Heap.lt_size e))) (k b o e)
    have z : hp.objs.size + 1 + 1 ≤ dx := by
      first
        | (simpa only [Heap.size_push] using dn)
        | exact dn
        | (have q := dn; rw [Heap.size_push, Heap.size_push] at q; exact q)
    exact ⟨rfl, hq h' tk' (hp.objs.size + 1) dx ⟨old, Nat.le_succ _, ⟨_, _, hx, rfl, rfl, rfl, rfl⟩, Nat.le_trans (Nat.le_trans (Nat.le_succ _) (Nat.le_succ _)) z, dne, hns⟩⟩
end
end NKE
end PySem
namespace L2
open PySem PySem.Spec PyProof.Rows
theorem relO_err : ∀ {fs : List Str} {vs : List V} {us : List Value}, Vals vs us → fs.length = vs.length → fs.Nodup → ∀ f, RelO (List.lookup f (fs.zip vs)) ((fs.zip us).reverse.lookup f)
  | [], _, _, _, _, _, f => by simp [List.lookup]; trivial
  | g :: fs, [], _, _, h, _, f => by simp at h
  | g :: fs, v :: vs, _, rr, h, nd, f => by
    cases rr with
    | cons r rs =>
    rename_i u us
    have ih := relO_err rs (by simpa using h) (List.nodup_cons.mp nd).2 f
    rw [List.zip_cons_cons, List.zip_cons_cons, List.reverse_cons, List.lookup_append]
    by_cases hg : f = g
    · subst hg
      have : (fs.zip us).reverse.lookup f = none := by
        rw [List.lookup_eq_none_iff]
        intro p hp
        have q := (List.of_mem_zip (List.mem_reverse.mp hp)).1
        have n := (List.nodup_cons.mp nd).1
        simp
        rintro rfl
        exact n q
      rw [this]
      simp [List.lookup]
      exact r
    · have hb : (f == g) = false := by simpa using hg
      rw [List.lookup_cons, hb]
      have e : ((fs.zip us).reverse.lookup f).or (List.lookup f [(g, u)]) = (fs.zip us).reverse.lookup f := by
        simp [List.lookup, hb]
      rw [e]
      exact ih
section
variable {X : Cx} {C fI : Addr} {fs : List Str}
/-- C(e, ..): an error of the class at C with the fields fs -/
def tMkErr (C : Addr) (fs : List Str) (ta : TA) : St → Hp → XK → Prop := fun σ H Q => ta σ H fun vs H1 => vs.length = fs.length ∧ ∀ d, H1 d = none → Q (.ref C) (some d) (upd H1 d (.xd (fs.zip vs)))
theorem pmk_err {x : Str} {a : Expr} {as : List Expr} {ta : TA} {p pos : Pos} {k : Nat} (T : PySem.NKE.ErrTxt X.K C fI fs) (hfs : fs ≠ []) (hfl : fs.length ≤ 800) (hnd : fs.Nodup) (hfile : ((X.prog.main.file : Str) == "/claim/cut.py") = true) (htop : (X.prog.main.scope.names.lookup ("super" : Str)).isSome = false) (hms : X.mg "super" = none)
    (hr : Room k X.A) (gC : X.mg x = some (.ref C)) (ha : PA X (a :: as) ta) (hg : Gl X x := by rfl) (hdb : (x == ("__debug__" : Str)) = false := by decide)
    (he : starEach (a :: as) X.env = (false, eval a X.env) :: starEach as X.env := by rfl) (hpl : (backTo pos (starEach as X.env)).any (·.1) = false := by rfl) :
    PMk X (.Call (.Name x p) (a :: as) [] pos) (tMkErr C fs ta) := by
  intro pins s σ H Q I h
  refine wpAny_Call_Name_kw (ld_glob I hg gC ?_ hdb)
  refine PySem.W.callWith_K (h₀ := X.base) I.ok.mod.kin T.kC (thn (ha.run pos pins s σ H _ I h) fun us s1 hh => ?_) he hpl
  obtain ⟨vs, H1, I1, r1, ev, q1⟩ := hh
  refine ⟨I1.kIn, ?_⟩
  show wpAny _ _ (call (.ref C) us) _ _ _
  have hlim := I1.nolimit
  obtain ⟨mb, hb1, hb2⟩ := I1.mod.blt
  have hGl : s1.heap.Ns mainGlobals X.mg := I1.mod.glob.keeps I1.bk
  have hBl : s1.heap.Ns builtinsNs mb := hb1.keeps I1.bk
  obtain ⟨hp, g, dr, tk, os⟩ := s1
  refine wpAny_call (PySem.NKE.err_made T hfs hfl hfile htop (by rw [← r1.length, ev]) I1.kIn hlim hGl hBl hb2 hms (by have := hr.dp; omega) fun h' tk' e d M => ?_)
  show MkP X pins σ Q (.ref e) ⟨h', g, dr, tk', os⟩
  obtain ⟨oe, fv, hoe, hc, hd, hdat, h1⟩ := M.obj
  have hns := M.ns
  obtain ⟨G', g1, g2⟩ := restrict h' fun b => decide (b ≠ e)
  have gk : ∀ b, b ≠ e → G'.get? b = h'.get? b := fun b hb => g1 b (decide_eq_true hb)
  have ge : G'.get? e = none := g2 e (by simp)
  have old : ∀ b o, hp.get? b = some o → G'.get? b = some o := fun b o q => (gk b (Nat.ne_of_lt (Nat.lt_of_lt_of_le (Heap.lt_size q) M.new))).trans (M.keep b o q)
  have ob : ObjOk X.prog X.w (upd H1 d (.xd (fs.zip vs))) G' d (.xd (fs.zip vs)) :=
    ⟨_, hns.at (fun o q => (gk d M.dne).trans q), relO_err r1 ev.symm hnd⟩
  have J : Inv X pins σ (upd H1 d (.xd (fs.zip vs))) ⟨G', g, dr, tk', os⟩ := I1.laid (t' := tk') old M.dbig ob
  refine ⟨e, oe, fv, ⟨G', g, dr, tk', os⟩, _, .ref C, some d, rfl, J, fun b o q => ?_, ge, hoe, ⟨hc, hd⟩, hdat, h1, ?_, rfl, I1.bare, raises_own T.exC T.tyC, q1 d (I1.hok.fresh M.dbig)⟩
  · by_cases hb : b = e
    · subst hb
      rw [ge] at q
      cases q
    · exact (gk b hb).symm.trans q
  · rw [upd_ne M.dne.symm]
    exact I1.hok.fresh M.new
end
end L2
/-! isinstance of a caught error that has its own dict; several except clauses with names. -/
namespace PySem.W
open PySem PySem.Spec PySem.Calls PyProof.Rows
section
variable {prog : Program} {w : World} {A : Around} {E : Value → Shared → Prop} {s : Shared} {K : Frag} {x D : Addr} {ox : Obj} {od : Option Obj}
theorem nk_findObj {C : Addr} {name : Str} {a g : Value} (hc : (clsIn K C).isSome = true) (ha : findIn K (.ref C) name = some (some a)) (hg : specialIn K a "__get__" = some (some g)) (ht : takesIn K a = some true) : findObj K C od name = some (.bind g a) := by
  obtain ⟨cd, hc⟩ := Option.isSome_iff_exists.mp hc
  unfold findObj
  rw [hc, Option.bind_some, ha, Option.bind_some]
  simp [hg, ht]
theorem nk_classE {Q : Option Value → Shared → Prop} (hga : findIn K (.ref D) "__getattribute__" = some (some (.builtin "BaseException.__getattribute__"))) (hgt : findIn K (.ref D) "__getattr__" = some none) (hsub : subIn K (.ref D) (.type "BaseException") = some true)
    (hdct : hasDictIn K D = true) (ha : findIn K (.ref D) "__class__" = some (some (.builtin "object.__class__")))
    (hn : specialIn K (.builtin "object.__class__") "__get__" = some (some (.builtin "getset_descriptor.__get__"))) (htk : takesIn K (.builtin "object.__class__") = some true) (hm : mroIn K D (.type "object") = some true)
    (X : K.In s.heap) (I : InstAt s.heap x ox D od) (h : Q (some (.ref D)) { s with toks := s.toks + 1 }) : wpAny (model prog w) A (getAttr? (.ref x) "__class__") Q E s := by
  have hf : findObj K D od "__class__" = some (.bind (.builtin "getset_descriptor.__get__") (.builtin "object.__class__")) := nk_findObj (by obtain ⟨cd, hc, _⟩ := any_some hdct; rw [hc]; rfl) ha hn htk
  obtain ⟨hp, g, d, t, os⟩ := s
  have L0 := I.type (M := model prog w)
  have L1 := looks_findIn (M := model prog w) X hga
  have L2 := looks_findIn (M := model prog w) X hgt
  have L3 := looks_find (M := model prog w) X I hf
  have sub : Looks (model prog w) hp (isInstance (.ref x) (.type "BaseException")) true := L0.andThen (looks_subIn X hsub)
  have hx0 : (false && onTheHeap (Value.builtin "BaseException.__getattribute__")) = false := rfl
  have hx2 : (Value.builtin "BaseException.__getattribute__" == Value.builtin "object.__getattribute__") = false := by decide +kernel
  have hx1 : (onTheHeap (Value.ref D) && Value.builtin "BaseException.__getattribute__" == Value.builtin "object.__getattribute__") = false := by rw [hx2]; rfl
  unfold getAttr? getAttrBy? getAttrBy
  refine wpAny_bind (wpAny_mkText (wpAny_bind (wpAny_attempt (wpAny_holding (wpAny_bind (L0.at (wpAny_bind (L1.at ?_))))))))
  show wpAny _ _ (if (onTheHeap (Value.ref D) && Value.builtin "BaseException.__getattribute__" == Value.builtin "object.__getattribute__") = true then _ else _) _ _ _
  rw [hx1, if_neg Bool.false_ne_true]
  unfold getAttrByItsOwn hookBefore
  refine wpAny_bind ?_
  rw [if_pos (show onTheHeap (Value.ref D) = true from rfl)]
  refine L2.at ?_
  refine wpAny_bind (wpAny_attempt (wpAny_holding ?_))
  unfold callGetattribute
  rw [hx0, if_neg Bool.false_ne_true]
  unfold boundAndCalled
  rw [PySem.F.excAttr_ValueError.ga.bind (.ref x)]
  refine wpAny_bind (wpAny_pure ?_)
  show wpAny _ _ (call (.builtin "BaseException.__getattribute__") [.ref x, .str "__class__" t]) _ _ _
  refine wpAny_call (codeAny_call_builtin PySem.F.excAttr_ValueError.ga.plain PySem.F.entry_bexc_ga ?_)
  refine @check_slot (model prog w) _ _ ⟨hp, g, d, t + 1, os⟩ "BaseException.__getattribute__" "BaseException" "__getattribute__" (.ref x) [.str "__class__" t] [] _ (by decide +kernel) (by decide +kernel) sub (PySem.F.args_bexc_ga (.ref x) (.str "__class__" t)) ?_
  unfold Builtin.«object.__getattribute__»
  refine wpAny_bind (wpAny_of_eq (a := ((Value.ref x : Value), [Value.str "__class__" t])) (by first | rfl | (simp only [slotArgs]; rfl)) ?_)
  refine wpAny_bind (wpAny_pure (wpAny_bind (L0.at (wpAny_bind (L3.at ?_)))))
  show wpAny _ _ (holding [Value.builtin "object.__class__"] (call (.builtin "getset_descriptor.__get__") [.builtin "object.__class__", .ref x, .ref D]) >>= ret) _ _ _
  refine wpAny_bind (wpAny_holding (wpAny_call (class_get (s := ⟨hp, g, d, t + 1, os⟩) (ox := ox) (od := od) X I hm ?_)))
  refine wpAny_pure ?_
  show wpAny _ _ (handedOut (.ref D)) _ _ _
  rw [handedOut_of (v := .ref D) rfl]
  first
    | exact wpAny_pure (wpAny_pure h)
    | exact wpAny_pure h
    | exact wpAny_pure (wpAny_bind (wpAny_pure (wpAny_pure h)))
theorem nk_kitx (hga : findIn K (.ref D) "__getattribute__" = some (some (.builtin "BaseException.__getattribute__"))) (hgt : findIn K (.ref D) "__getattr__" = some none) (hsub : subIn K (.ref D) (.type "BaseException") = some true) (hdct : hasDictIn K D = true) (ha : findIn K (.ref D) "__class__" = some (some (.builtin "object.__class__")))
    (hn : specialIn K (.builtin "object.__class__") "__get__" = some (some (.builtin "getset_descriptor.__get__"))) (htk : takesIn K (.builtin "object.__class__") = some true) (hm : mroIn K D (.type "object") = some true) :
    KitX K (.ref x) (.ref D) (fun h => ∃ od, InstAt h x ox D od) where
  ty := fun _ _ _ ⟨_, I⟩ => I.type
  it := fun _ _ X _ => by
    obtain ⟨cdD, hcD, _⟩ := any_some hdct
    unfold clsIn at hcD
    split at hcD
    · rename_i c' d' cd' sl' ho
      intro A' Q' E' s' k q
      unfold isType loadHead
      exact wpAny_bind (wpAny_loadPart (k _ _ (X _ _ ho)) (wpAny_pure q))
    · cases hcD
  ne := fun h tp dd its n sl X htp => by
    obtain ⟨cdD, hcD, _⟩ := any_some hdct
    refine Bool.eq_false_iff.mpr fun q => ?_
    have e : D = tp := Value.ref.inj (beq_iff_eq.mp q)
    subst e
    unfold clsIn at hcD
    split at hcD
    · rename_i c' d' cd' sl' ho
      have z := (X _ _ ho).symm.trans htp
      cases z
    · cases hcD
  ca := fun X ⟨_, I⟩ k => nk_classE hga hgt hsub hdct ha hn htk hm X I k
end
end PySem.W
namespace L2
open PySem PySem.Spec PyProof.Rows
/-- isinstance(e, c), e the error that the suite holds at a, of the class at D -/
def rIsX (K : PySem.W.Frag) (D a : Addr) (cls : Value) (d : Option Addr) : List V → Hp → VK → Prop := fun xs H Q => ∃ (c : V) (cv : Value) (b : Bool), xs = [.ref a, c] ∧ cls = .ref D ∧ (∀ u, RelV c u → u = cv) ∧ (∀ dd, d = some dd → ∃ fs, H dd = some (.xd fs)) ∧ PySem.W.kitOne K (.ref D) cv = some b ∧ Q (.bl b) H
theorem call_isX {X : Cx} {a D : Addr} {oe : Obj} {cls : Value} {d : Option Addr} {pn : List (Addr × Obj)} (C : ExcC X.K D) (hz : Zc cls d oe) (hf : ∃ vs, oe.data = .fields vs) : CallR (X.suite a ((a, oe) :: pn)) (.builtin "isinstance") (rIsX X.K D a cls d) := by
  intro pins s σ H xs us Q I r h
  obtain ⟨c, cv, b, rfl, rfl, hcv, hdd, e, q⟩ := h
  cases r with
  | cons rx rr =>
    cases rr with
    | cons rt rr =>
      cases rr
      cases rx
      have ec := hcv _ rt
      subst ec
      obtain ⟨hget, _⟩ := I.pin (a, oe) (List.mem_append.mpr (.inl List.mem_cons_self))
      obtain ⟨vs, hv⟩ := hf
      have J : ∃ od, PySem.W.InstAt s.heap a oe D od := by
        obtain ⟨oc, od, oda, osl⟩ := oe
        obtain ⟨h1, h2⟩ := hz
        dsimp only at h1 h2 hv
        subst h1 h2 hv
        cases od with
        | none => exact ⟨none, hget, rfl, rfl, trivial⟩
        | some dd =>
          obtain ⟨fs, hx⟩ := hdd dd rfl
          obtain ⟨mA, ⟨o, es, ep, ho, _⟩, _⟩ : ∃ mA, s.heap.Ns1 dd mA ∧ _ := I.hok dd _ hx
          exact ⟨some o, hget, rfl, rfl, ho⟩
      exact PySem.W.kia_one (PySem.W.nk_kitx C.hg C.hk C.hs C.hd C.ha C.hn C.ht C.hm) I.kIn J e (fun z => nomatch z) fun tk => ⟨.bl b, H, I.kept (t' := tk) fun _ _ z => z, rfl, q⟩

/-! ### several except clauses, each with or without a name -/
/-- a clause: the class it names; the slot of its name; what its suite asks -/
abbrev Hd := Value × Option Nat × (Addr → Value → Option Addr → TS)
/-- what the clauses wish of an exception of the body, one after the other -/
def wHds (K : PySem.W.Frag) (Wout : WX) (D : Ends) : List Hd → WX
  | [] => Wout
  | (c, none, ts) :: r => fun cls d σ H => ∃ b, PySem.W.exmOne K cls c = some b ∧ (b = true → ∀ a, H a = none → ts a cls d D σ H) ∧ (b = false → wHds K Wout D r cls d σ H)
  | (c, some i, ts) :: r => fun cls d σ H => ∃ b, PySem.W.exmOne K cls c = some b ∧ (b = true → ∀ a, H a = none → ts a cls d { nx := fun σ' H' => D.nx (σ'.set i none) H', rt := D.rt, bk := fun σ' H' => D.bk (σ'.set i none) H', ct := fun σ' H' => D.ct (σ'.set i none) H' } (σ.set i (some (.ref a))) H) ∧ (b = false → wHds K Wout D r cls d σ H)
inductive HdsN (X : Cx) : List ExceptHandler → List Hd → Prop
  | nil : HdsN X [] []
  | bare {x : Str} {c : Value} {ts : Addr → Value → Option Addr → TS} {b₀ : Stmt} {suite : List Stmt} {np pos' : Pos} {hds : List ExceptHandler} {l : List Hd} (hc : Names X x c)
      (hsu : ∀ (a : Addr) (oe : Obj) (cls : Value) (d : Option Addr) (pn : List (Addr × Obj)), Zc cls d oe → (∃ vs, oe.data = .fields vs) → PSs (X.suite a ((a, oe) :: pn)) (b₀ :: suite) (ts a cls d)) (r : HdsN X hds l) :
      HdsN X (.ExceptHandler (some (.Name x np)) none (b₀ :: suite) pos' :: hds) ((c, none, ts) :: l)
  | as_ {x n : Str} {i : Nat} {c : Value} {ts : Addr → Value → Option Addr → TS} {b₀ : Stmt} {suite : List Stmt} {np pos' : Pos} {hds : List ExceptHandler} {l : List Hd} (hi : X.N[i]? = some n) (hln : X.env.kindOf n = some .local) (hc : Names X x c)
      (hsu : ∀ (a : Addr) (oe : Obj) (cls : Value) (d : Option Addr) (pn : List (Addr × Obj)), Zc cls d oe → (∃ vs, oe.data = .fields vs) → PSs (X.suite a ((a, oe) :: pn)) (b₀ :: suite) (ts a cls d)) (r : HdsN X hds l) :
      HdsN X (.ExceptHandler (some (.Name x np)) (some n) (b₀ :: suite) pos' :: hds) ((c, some i, ts) :: l)
section
variable {X : Cx} {body : List Stmt} {h₀ : ExceptHandler} {hds : List ExceptHandler} {l : List Hd} {pos : Pos} {tb : WX → TS} {Wout : WX}
theorem ps_try_hds (hs : X.stack = X.env :: X.outer) (hf : X.env.frame = some X.env.locals) (hN : X.N.Nodup) (tk : Takes X Wout)
    (hb : ∀ (W : WX) (pn : List (Addr × Obj)) (xe : Value → Shared → Prop), Takes (X.tr pn xe) W → PassesOwn (model X.prog X.w) X.A X.env xe → PSs (X.tr pn xe) body (tb W))
    (hh : HdsN X (h₀ :: hds) l) : PS X (.Try body (h₀ :: hds) [] [] pos) (fun D σ H => tb (wHds X.K Wout D l) D σ H) := by
  refine ⟨fun pins s σ H D I h => ?_⟩
  have ok := I.ok
  have hfr : X.A.frames = some (X.env :: X.outer) := by rw [ok.frames, hs]
  refine wpAny_Try_except ?_
  refine wpAny_mono ((hb (wHds X.K Wout D l) (X.pn ++ pins) (fun e s₁ => wpAny (model X.prog X.w) X.A (noteFrame e X.env) (fun _ s₂ => wpAny (model X.prog X.w) X.A (setFlight e none) (fun _ s₃ =>
    wpAny (model X.prog X.w) X.A (handleBy e X.env (h₀ :: hds)) (SP X pins D) X.xe s₃) X.xe s₂) X.xe s₁) (fun u s' xx => ?_) PassesOwn.looking).run [] s σ H D (I.toTry _) h) (fun f s1 hsp => ?_) (fun e s1 he => he)
  · -- the catch
    obtain ⟨a, B, sI, pins', σ', H', cls, d, rfl, J', nb, up, sky, na, os, ag, w⟩ := xx
    have J : Inv X pins σ' H' sI := J'.ofTry ok
    have sky' : Sky B (X.env :: X.outer) a (Zc cls d) X.env.locals s'.heap := by rw [← hs]; exact sky
    show wpAny (model X.prog X.w) X.A (noteFrame (.ref a) X.env) _ _ _
    refine Sky.land Zc.steady hfr hf sky' fun h3 fl3 up3 => ?_
    have J3 : Inv X pins σ' H' { s' with heap := h3 } := J.landed nb fl3.1 (up.trans up3) os ag
    obtain ⟨oe3, vs3, he3, hz3, hd3⟩ := fl3.there
    have notFr : ∀ {h : Heap} {o : Obj} {vs : Array Value}, h.FunFrames B (X.env :: X.outer) → h.get? a = some o → o.data = .fields vs → a ∉ frs (X.env :: X.outer) := fun {h o vs} ff e dd hm => by
      obtain ⟨_, o', e', hnf⟩ := ff.mem hm
      rw [e] at e'; cases e'
      exact hnf _ dd
    have nfr := notFr fl3.2.2.1 he3 hd3
    have nL : a ≠ X.env.locals := fun z => nfr (List.mem_filterMap.mpr ⟨X.env, List.mem_cons_self, by rw [hf, z]⟩)
    have nF : a ∉ X.fs := fun hm => by
      obtain ⟨e, he, q⟩ := List.mem_filterMap.mp hm
      exact nfr (List.mem_filterMap.mpr ⟨e, List.mem_cons_of_mem _ he, q⟩)
    have S3 := J3.suite he3 hd3 na nL nF
    have test : ∀ {x : Str} {np : Pos} {c : Value} {Q : Value → Shared → Prop} {E : Value → Shared → Prop}, Names X x c → Q c { s' with heap := h3 } → wpAny (model X.prog X.w) (X.A.mark (some (.ref a))) (eval (.Name x np) X.env) Q E { s' with heap := h3 } := fun {x np c Q E} hc q => by
      obtain ⟨hg, hdbg, hm | ⟨hm, hv, hnn⟩⟩ := hc
      · exact ld_glob (X := X.suite a ((a, oe3) :: (X.pn ++ pins))) S3 hg hm q hdbg
      · exact ld_blt (X := X.suite a ((a, oe3) :: (X.pn ++ pins))) S3 hg hm hv q hnn hdbg
    have LT : PySem.W.Looks (model X.prog X.w) h3 (typeOf (.ref a)) cls := fun A Q E s k q => wpAny_typeOf_ref (k _ _ he3) (by rw [hz3.1]; exact q)
    have go : ∀ {hds' : List ExceptHandler} {l' : List Hd}, HdsN X hds' l' → wHds X.K Wout D l' cls d σ' H' →
        wpAny (model X.prog X.w) X.A (handleBy (.ref a) X.env hds') (SP X pins D) X.xe { s' with heap := h3 } := by
      intro hds' l' hk
      induction hk with
      | nil =>
        intro w
        refine wpAny_handleBy_nil ?_
        obtain ⟨k1, k2, k3, oe, vs, T, oT, ts', he, hz, hd, h1, hr⟩ := id fl3
        unfold PySem.passOn
        refine wpAny_bind (wpAny_field he hd h1 ?_)
        rw [if_neg (show ¬ ((Value.ref T == Value.none) = true) from by simp)]
        have fin : wpAny (model X.prog X.w) X.A (setFlight (.ref a) X.env.frame) (fun _ s4 => wpAny (model X.prog X.w) X.A (throw (.ref a) : Sem Flow) (SP X pins D) X.xe s4) X.xe { s' with heap := h3 } := by
          rw [hf]
          refine HandSPX.setFlight_upZ fl3 fun h4 hh4 up4 => wpAny_throw (tk _ _ ?_)
          exact ⟨a, B, sI, pins, σ', H', cls, d, rfl, J, nb, (up.trans up3).trans up4, .inr (.inr (by rw [hs]; exact hh4)), na, os, ag, w⟩
        first
          | exact wpAny_bind (wpAny_pure (wpAny_bind fin))
          | exact wpAny_bind fin
      | @bare x c ts b₀ suite np pos' hds2 l2 hc hsu r ih =>
        intro w
        obtain ⟨b, hb1, hyes, hno⟩ := w
        refine wpAny_handleBy_cons (codeAny_handlers_test ?_) (by intro q; cases q)
        have LM := PySem.W.exm_one (M := model X.prog X.w) (J3.kIn) LT hb1
        refine test hc (LM.here ?_)
        cases b with
        | true =>
          refine codeAny_handlers_suite ?_
          refine HandSPX.lands_againZ fl3 fun h4 fl4 up4 => ?_
          have J4 : Inv X pins σ' H' { s' with heap := h4 } := J.landed nb fl4.1 ((up.trans up3).trans up4) os ag
          obtain ⟨oe4, vs4, he4, hz4, hd4⟩ := fl4.there
          have S4 := J4.suite he4 hd4 na nL nF
          refine wpAny_mono ((hsu a oe4 cls d (X.pn ++ pins) hz4 ⟨_, hd4⟩).run [] _ _ H' _ S4 (hyes rfl a na)) (fun f s6 hsp => ?_) (fun _ _ z => False.elim z)
          cases f with
          | next =>
            obtain ⟨σ6, H6, S6, q6⟩ := hsp
            exact ⟨_, _, S6.unsuite ok, q6⟩
          | brk =>
            obtain ⟨σ6, H6, S6, q6⟩ := hsp
            exact ⟨_, _, S6.unsuite ok, q6⟩
          | cont =>
            obtain ⟨σ6, H6, S6, q6⟩ := hsp
            exact ⟨_, _, S6.unsuite ok, q6⟩
          | ret u =>
            obtain ⟨v6, σ6, H6, S6, r6, q6⟩ := hsp
            exact ⟨_, _, _, S6.unsuite ok, r6, q6⟩
        | false =>
          show wpAny _ X.A (handleBy (.ref a) X.env hds2) _ _ _
          exact ih (hno rfl)
      | @as_ x n i c ts b₀ suite np pos' hds2 l2 hi hln hc hsu r ih =>
        intro w
        obtain ⟨b, hb1, hyes, hno⟩ := w
        refine wpAny_handleBy_cons (codeAny_handlers_test ?_) (by intro q; cases q)
        have LM := PySem.W.exm_one (M := model X.prog X.w) (J3.kIn) LT hb1
        refine test hc (LM.here ?_)
        have hloc : Loc X.env.scope n := .inl hln
        cases b with
        | true =>
          refine codeAny_handlers_suite_as ?_
          refine HandSPX.lands_againZ fl3 fun h4 fl4 up4 => ?_
          have J4 : Inv X pins σ' H' { s' with heap := h4 } := J.landed nb fl4.1 ((up.trans up3).trans up4) os ag
          obtain ⟨oe4, vs4, he4, hz4, hd4⟩ := fl4.there
          have S4 := J4.suite he4 hd4 na nL nF
          refine store_ok (X := X.suite a ((a, oe4) :: (X.pn ++ pins))) (v := .ref a) S4 hN hi hloc rfl (fun s5 S5 => ?_) (.inr hln)
          refine wpAny_mono ((hsu a oe4 cls d (X.pn ++ pins) hz4 ⟨_, hd4⟩).run [] s5 _ H' _ S5 (hyes rfl a na)) (fun f s6 hsp => ?_) (fun _ _ z => False.elim z)
          have end_ : ∀ {σ6 : St} {H6 : Hp} {Q : Shared → Prop}, Inv (X.suite a ((a, oe4) :: (X.pn ++ pins))) [] σ6 H6 s6 → (∀ s7, Inv X pins (σ6.set i none) H6 s7 → Q s7) →
              wpAny (model X.prog X.w) X.A (do bindName X.env n .none; unbindBehindTheSuite X.env n pos') (fun _ s7 => Q s7) X.xe s6 := fun {σ6 H6 Q} S6 hq => gone_ok (S6.unsuite ok) hN hi hln hq
          cases f with
          | next =>
            obtain ⟨σ6, H6, S6, q6⟩ := hsp
            exact end_ S6 fun s7 J7 => ⟨_, _, J7, q6⟩
          | brk =>
            obtain ⟨σ6, H6, S6, q6⟩ := hsp
            exact end_ S6 fun s7 J7 => ⟨_, _, J7, q6⟩
          | cont =>
            obtain ⟨σ6, H6, S6, q6⟩ := hsp
            exact end_ S6 fun s7 J7 => ⟨_, _, J7, q6⟩
          | ret u =>
            obtain ⟨v6, σ6, H6, S6, r6, q6⟩ := hsp
            exact end_ S6 fun s7 J7 => ⟨_, _, _, J7, r6, q6⟩
        | false =>
          show wpAny _ X.A (handleBy (.ref a) X.env hds2) _ _ _
          exact ih (hno rfl)
    exact go hh w
  · cases f with
    | next =>
      obtain ⟨σ', H', J', q⟩ := hsp
      exact wpAny_execs_nil ⟨σ', H', J'.ofTry ok, q⟩
    | brk =>
      obtain ⟨σ', H', J', q⟩ := hsp
      exact ⟨σ', H', J'.ofTry ok, q⟩
    | cont =>
      obtain ⟨σ', H', J', q⟩ := hsp
      exact ⟨σ', H', J'.ofTry ok, q⟩
    | ret u =>
      obtain ⟨v, σ', H', J', r, q⟩ := hsp
      exact ⟨v, σ', H', J'.ofTry ok, r, q⟩
end
end L2
/-! Rules that take their operands as they come (ints, texts, lists, tuples): the reading is a match on the values. -/
namespace L2
open PySem PySem.Spec PyProof.Rows
/-! ### operators -/
section
variable {X : Cx}
def aAdd (K : PySem.W.Frag) : R2 := fun x y H Q => match x, y with
  | .int i, .int j => Q (.int (i + j)) H
  | .int i, .bl k => Q (.int (i + b2i k)) H
  | .str i, .str j => i.length + j.length ≤ sizeLine ∧ Q (.str (i ++ j)) H
  | .ref a, .ref b => rCat (.ref a) (.ref b) H Q ∨ rCatA K (.ref a) (.ref b) H Q
  | _, _ => False
theorem oa_add : OpR X (binaryOp .Add) (aAdd X.K) := by
  intro pins s σ H x y v u Q I rx ry h
  cases x <;> cases y <;> first
    | exact False.elim h
    | exact op_add pins s σ H _ _ v u Q I rx ry ⟨_, _, rfl, rfl, h⟩
    | exact op_add_ib pins s σ H _ _ v u Q I rx ry ⟨_, _, rfl, rfl, h⟩
    | exact op_add_str pins s σ H _ _ v u Q I rx ry ⟨_, _, rfl, rfl, h.1, h.2⟩
    | exact (op_cat.or op_catA) pins s σ H _ _ v u Q I rx ry h
def aSub : R2 := fun x y H Q => match x, y with
  | .int i, .int j => Q (.int (i - j)) H
  | _, _ => False
theorem oa_sub : OpR X (binaryOp .Sub) aSub := by
  intro pins s σ H x y v u Q I rx ry h
  cases x <;> cases y <;> first
    | exact False.elim h
    | exact op_sub pins s σ H _ _ v u Q I rx ry ⟨_, _, rfl, rfl, h⟩
def aMul (K : PySem.W.Frag) : R2 := fun x y H Q => match x, y with
  | .int i, .int j => IntMulOk i j ∧ Q (.int (i * j)) H
  | .ref a, .int j => rRep (.ref a) (.int j) H Q
  | _, _ => False
theorem oa_mul : OpR X (binaryOp .Mult) (aMul X.K) := by
  intro pins s σ H x y v u Q I rx ry h
  cases x <;> cases y <;> first
    | exact False.elim h
    | (obtain ⟨t, rfl⟩ := rx; obtain ⟨t', rfl⟩ := ry; exact mul_int ⟨.int _, H, I.tok _, ⟨_, rfl⟩, h.2⟩ h.1)
    | exact op_rep pins s σ H _ _ v u Q I rx ry h
def aDiv : R2 := fun x y H Q => match x, y with
  | .int i, .int j => j ≠ 0 ∧ j.natAbs.log2 < 9000 ∧ Q (.int (i.fdiv j)) H
  | _, _ => False
theorem oa_div : OpR X (binaryOp .FloorDiv) aDiv := by
  intro pins s σ H x y v u Q I rx ry h
  cases x <;> cases y <;> first
    | exact False.elim h
    | (obtain ⟨t, rfl⟩ := rx; obtain ⟨t', rfl⟩ := ry; exact floordiv_int h.1 ⟨.int _, H, I.tok _, ⟨_, rfl⟩, h.2.2⟩ (.inl (PyProof.noPylong_of_log2 h.2.1)))
def aMod : R2 := fun x y H Q => match x, y with
  | .int i, .int j => j ≠ 0 ∧ Q (.int (i.fmod j)) H
  | _, _ => False
theorem oa_mod : OpR X (binaryOp .Mod) aMod := by
  intro pins s σ H x y v u Q I rx ry h
  cases x <;> cases y <;> first
    | exact False.elim h
    | exact op_modN pins s σ H _ _ v u Q I rx ry ⟨_, _, rfl, rfl, h.1, h.2⟩
def aPow : R2 := fun x y H Q => match x, y with
  | .int i, .int j => (0 ≤ j ∧ j ≤ 1000000 ∧ i.natAbs < 2 ^ 64) ∧ Q (.int (i ^ j.toNat)) H
  | _, _ => False
theorem oa_pow : OpR X (binaryOp .Pow) aPow := by
  intro pins s σ H x y v u Q I rx ry h
  cases x <;> cases y <;> first
    | exact False.elim h
    | exact op_pow pins s σ H _ _ v u Q I rx ry ⟨_, _, rfl, rfl, h.1, h.2⟩
def aNeg : V → Hp → VK → Prop := fun x H Q => match x with
  | .int i => Q (.int (-i)) H
  | _ => False
theorem oa_neg : UnR X (unaryOp .USub) aNeg := by
  intro pins s σ H x v Q I rx h
  cases x <;> first
    | exact False.elim h
    | exact un_neg pins s σ H _ v Q I rx ⟨_, rfl, h⟩
/-! ### comparisons -/
def aEq (K : PySem.W.Frag) : R2 := fun x y H Q => match x, y with
  | .ref a, .ref b => rEqD K (.ref a) (.ref b) H Q
  | x, y => scal x y = true ∧ Q (.bl (decide (x = y))) H
theorem oa_eq (hu : X.A.units + 64 < cLine) : OpR X (compareOp .Eq) (aEq X.K) := by
  intro pins s σ H x y v u Q I rx ry h
  by_cases e : ∃ a b, x = .ref a ∧ y = .ref b
  · obtain ⟨a, b, rfl, rfl⟩ := e
    exact op_eqD hu pins s σ H _ _ v u Q I rx ry h
  · have h' : scal x y = true ∧ Q (.bl (decide (x = y))) H := by
      cases x <;> cases y <;> first
        | exact h
        | exact absurd ⟨_, _, rfl, rfl⟩ e
    exact op_eq pins s σ H _ _ v u Q I rx ry h'
def aNe (K : PySem.W.Frag) : R2 := fun x y H Q => match x, y with
  | .ref a, .ref b => rNeD K (.ref a) (.ref b) H Q
  | x, y => scal x y = true ∧ Q (.bl (!decide (x = y))) H
theorem oa_ne (hu : X.A.units + 64 < cLine) : OpR X (compareOp .NotEq) (aNe X.K) := by
  intro pins s σ H x y v u Q I rx ry h
  by_cases e : ∃ a b, x = .ref a ∧ y = .ref b
  · obtain ⟨a, b, rfl, rfl⟩ := e
    exact op_neD hu pins s σ H _ _ v u Q I rx ry h
  · have h' : scal x y = true ∧ Q (.bl (!decide (x = y))) H := by
      cases x <;> cases y <;> first
        | exact h
        | exact absurd ⟨_, _, rfl, rfl⟩ e
    exact op_ne pins s σ H _ _ v u Q I rx ry h'
def aCmp (p : Int → Int → Bool) : R2 := fun x y H Q => match x, y with
  | .int i, .int j => Q (.bl (p i j)) H
  | _, _ => False
theorem oa_cmp {op : CmpOp} {p : Int → Int → Bool} (h0 : OpR X (compareOp op) (rI0 fun i j => .bl (p i j))) : OpR X (compareOp op) (aCmp p) := by
  intro pins s σ H x y v u Q I rx ry h
  cases x <;> cases y <;> first
    | exact False.elim h
    | exact h0 pins s σ H _ _ v u Q I rx ry ⟨_, _, rfl, rfl, h⟩
abbrev aLt : R2 := aCmp fun i j => decide (i < j)
abbrev aLe : R2 := aCmp fun i j => decide (i ≤ j)
abbrev aGt : R2 := aCmp fun i j => decide (j < i)
abbrev aGe : R2 := aCmp fun i j => decide (j ≤ i)
theorem oa_lt : OpR X (compareOp .Lt) aLt := oa_cmp op_lt
theorem oa_le : OpR X (compareOp .LtE) aLe := oa_cmp op_le
theorem oa_gt : OpR X (compareOp .Gt) aGt := oa_cmp op_gt
theorem oa_ge : OpR X (compareOp .GtE) aGe := oa_cmp op_ge
/-- x is y: None, True, False on the right -/
def aIs : R2 := fun x y H Q => match y with
  | .non => Q (.bl (decide (x = .non))) H
  | .bl b => Q (.bl (decide (x = .bl b))) H
  | _ => False
theorem oa_is : OpR X (compareOp .Is) aIs := by
  intro pins s σ H x y v u Q I rx ry h
  cases y <;> first
    | exact False.elim h
    | exact op_isN pins s σ H _ _ v u Q I rx ry ⟨rfl, h⟩
    | exact op_isB pins s σ H _ _ v u Q I rx ry ⟨_, rfl, h⟩
def aIsnot : R2 := fun x y H Q => match y with
  | .non => Q (.bl (!decide (x = .non))) H
  | .bl b => Q (.bl (!decide (x = .bl b))) H
  | _ => False
theorem oa_isnot : OpR X (compareOp .IsNot) aIsnot := by
  intro pins s σ H x y v u Q I rx ry h
  cases y <;> first
    | exact False.elim h
    | exact op_notN pins s σ H _ _ v u Q I rx ry ⟨rfl, h⟩
    | exact op_isnotB pins s σ H _ _ v u Q I rx ry ⟨_, rfl, h⟩
/-! ### subscripts, slices, len -/
def aIx (K : PySem.W.Frag) : R2 := fun x y H Q => match x, y with
  | .str z, .int i => z.length ≤ sizeLine ∧ ∃ c, atI z.cps.toList i = some c ∧ Q (.str ⟨#[c]⟩) H
  | .ref p, .int i => ∃ xs v, (SqL K H p xs ∨ SqT K H p xs) ∧ atI xs i = some v ∧ Q v H
  | _, _ => False
theorem oa_ix : IxR X (aIx X.K) := by
  intro va sl pins s σ H x y v u Q I rx ry h hs
  cases x <;> cases y <;> first
    | exact False.elim h
    | (obtain ⟨h1, c, h2, q⟩ := h; exact ix_str va sl pins s σ H _ _ v u Q I rx ry ⟨_, _, _, rfl, rfl, h1, h2, q⟩ hs)
    | (obtain ⟨xs, w, h1 | h1, h2, q⟩ := h
       · exact ix_list va sl pins s σ H _ _ v u Q I rx ry ⟨_, _, _, _, rfl, rfl, h1, h2, q⟩ hs
       · exact ix_tup va sl pins s σ H _ _ v u Q I rx ry ⟨_, _, _, _, rfl, rfl, h1, h2, q⟩ hs)
def aLen (K : PySem.W.Frag) : List V → Hp → VK → Prop := fun xs H Q => match xs with
  | [.str z] => z.length ≤ sizeLine ∧ Q (.int z.length) H
  | [.ref p] => ∃ ys, (SqL K H p ys ∨ SqT K H p ys) ∧ Q (.int ys.length) H
  | _ => False
theorem ca_len : CallR X (.builtin "len") (aLen X.K) := by
  intro pins s σ H xs us Q I r h
  match xs, h with
  | [.str z], h => exact call_len_str pins s σ H _ us Q I r ⟨_, rfl, h.1, h.2⟩
  | [.ref p], ⟨ys, h1, q⟩ => exact call_len_seq pins s σ H _ us Q I r ⟨_, _, rfl, h1, q⟩
/-- int(x) of an int -/
def aInt : List V → Hp → VK → Prop := fun xs H Q => match xs with
  | [.int i] => Q (.int i) H
  | [.bl k] => Q (.int (if k then 1 else 0)) H
  | _ => False
theorem ca_int : CallR X (.type "int") aInt := by
  intro pins s σ H xs us Q I r h
  match xs, h with
  | [.int i], h => exact call_int1 pins s σ H _ us Q I r (.inl ⟨_, rfl, h⟩)
  | [.bl k], h => exact call_int1 pins s σ H _ us Q I r (.inr ⟨_, rfl, h⟩)
def aAbs : List V → Hp → VK → Prop := fun xs H Q => match xs with
  | [.int i] => Q (.int (i.natAbs : Int)) H
  | _ => False
theorem ca_abs : CallR X (.builtin "abs") aAbs := by
  intro pins s σ H xs us Q I r h
  match xs, h with
  | [.int i], h =>
    have e : (if i < 0 then -i else i) = (i.natAbs : Int) := by split <;> omega
    exact call_abs pins s σ H _ us Q I r ⟨_, rfl, by rw [e]; exact h⟩
/-- list(x) of a list or a tuple -/
def aList (K : PySem.W.Frag) : List V → Hp → VK → Prop := fun xs H Q => match xs with
  | [.ref p] => ∃ ys, (SqL K H p ys ∨ SqT K H p ys) ∧ ∀ l, H l = none → Q (.ref l) (upd H l (.lst ys))
  | _ => False
theorem ca_list : CallR X (.type "list") (aList X.K) := by
  intro pins s σ H xs us Q I r h
  match xs, h with
  | [.ref p], ⟨ys, h1, q⟩ => exact call_list_of pins s σ H _ us Q I r ⟨_, _, rfl, h1, q⟩
/-- tuple(x) of a list -/
def aTuple (K : PySem.W.Frag) : List V → Hp → VK → Prop := fun xs H Q => match xs with
  | [.ref p] => ∃ ys, ((SqL K H p ys ∧ ∀ l, H l = none → Q (.ref l) (upd H l (.tup ys))) ∨ (SqT K H p ys ∧ Q (.ref p) H))
  | _ => False
theorem ca_tuple : CallR X (.type "tuple") (aTuple X.K) := by
  intro pins s σ H xs us Q I r h
  match xs, h with
  | [.ref p], ⟨ys, h1⟩ => exact call_tuple_of pins s σ H _ us Q I r ⟨_, _, rfl, h1⟩
def aSl (K : PySem.W.Frag) : V → Option Int → Option Int → Hp → VK → Prop := fun x lo hi H Q => rSlL K x lo hi H Q ∨ rSlA K x lo hi H Q
theorem oa_sl : SlR X (aSl X.K) := sl_list.or sl_tupA
/-- max(a, b), min(a, b) of two ints; max(xs), min(xs) of a list of ints -/
def aMax (K : PySem.W.Frag) : List V → Hp → VK → Prop := fun xs H Q => match xs with
  | [.int i, .int j] => Q (.int (max i j)) H
  | [.ref p] => ∃ ns : List Int, SqL K H p (ns.map V.int) ∧ 0 < ns.length ∧ ∀ m, m ∈ ns → (∀ y, y ∈ ns → y ≤ m) → Q (.int m) H
  | _ => False
theorem ca_max (hc : X.calm = true) : CallR X (.builtin "max") (aMax X.K) := by
  intro pins s σ H xs us Q I r h
  match xs, h with
  | [.int i, .int j], h =>
    have e : (if j > i then j else i) = max i j := by split <;> omega
    exact call_max2 hc pins s σ H _ us Q I r ⟨_, _, rfl, by rw [e]; exact h⟩
  | [.ref p], ⟨ns, h1, h2, q⟩ => exact cr_max hc pins s σ H _ us Q I r ⟨_, _, rfl, h1, h2, q⟩
def aMin (K : PySem.W.Frag) : List V → Hp → VK → Prop := fun xs H Q => match xs with
  | [.int i, .int j] => Q (.int (min i j)) H
  | [.ref p] => ∃ ns : List Int, SqL K H p (ns.map V.int) ∧ 0 < ns.length ∧ ∀ m, m ∈ ns → (∀ y, y ∈ ns → m ≤ y) → Q (.int m) H
  | _ => False
theorem ca_min (hc : X.calm = true) : CallR X (.builtin "min") (aMin X.K) := by
  intro pins s σ H xs us Q I r h
  match xs, h with
  | [.int i, .int j], h =>
    have e : (if j < i then j else i) = min i j := by split <;> omega
    exact call_min2 hc pins s σ H _ us Q I r ⟨_, _, rfl, by rw [e]; exact h⟩
  | [.ref p], ⟨ns, h1, h2, q⟩ => exact cr_min hc pins s σ H _ us Q I r ⟨_, _, rfl, h1, h2, q⟩
/-- truth of any value: TruV -/
def tTr (K : PySem.W.Frag) (ta : TE) : TT := fun σ H Q => ta σ H fun x H' => match x with
  | .bl b => Q b H'
  | .int i => Q (i != 0) H'
  | .non => Q false H'
  | x => ∃ k, TruV K x H' k ∧ Q k H'
theorem pt_tr {a : Expr} {ta : TE} (ha : PE X a ta) (he : ∀ whole, isTrue a X.env whole = (do let v ← whole; standAt a.pos; holding [v] (truthy v)) := by intro _; rfl) : PT X a (tTr X.K ta) := by
  refine ⟨fun pins s σ H Q I hw => ?_⟩
  refine isTrue_plain (thn (ha.run pins s σ H _ I hw) fun v s1 ⟨x, H1, I1, r1, q1⟩ => ?_) (he _)
  refine tru_ok pins s1 σ H1 x v Q I1 r1 ?_
  cases x <;> first
    | exact q1
    | exact ⟨_, rfl, q1⟩
end
end L2
/-! Calls in short, what a reading comes to (s_*), the ledger of what may change (W). -/
namespace L2
open PySem PySem.Spec PyProof.Rows
/-! ### calls -/
/-- the def named x keeps the promise sp (it may let errors out) -/
def FnAt (P : Program) (w : World) (K : PySem.W.Frag) (mg : Str → Option Value) (base : Heap) (k : Nat) (x : Str) (ps : List Str) (sp : Sp) : Prop :=
  ∃ (f : Addr) (fd : FuncData), FnOk P w K mg base (L2.CX P w) k f fd ps sp ∧ mg x = some (.ref f) ∧ PySem.W.keepIn K (.ref f) = true ∧ Binds K fd ps []
section
variable {X : Cx} {k : Nat} {x : Str} {ps : List Str} {sp : Sp} {E : XK} {t : TA} {e : Expr} {es : List Expr} {p pos : Pos}
theorem pe_fn (C : FnAt X.prog X.w X.K X.mg X.base k x ps sp) (hr : Room k X.A) (hx : Passes (L2.CX X.prog X.w) X E) (ha : PA X (e :: es) t) (hg : Gl X x := by rfl) (hdb : (x == ("__debug__" : Str)) = false := by decide)
    (he : starEach (e :: es) X.env = (false, eval e X.env) :: starEach es X.env := by rfl) (hpl : (backTo pos (starEach es X.env)).any (·.1) = false := by rfl) : PE X (.Call (.Name x p) (e :: es) [] pos) (tCall sp [] E t) := by
  obtain ⟨f, fd, F, hm, hk, hb⟩ := C
  exact pe_call F hr hg hm hk hb .nil hx ha hdb he hpl
theorem pe_fn0 (C : FnAt X.prog X.w X.K X.mg X.base k x ps sp) (hr : Room k X.A) (hx : Passes (L2.CX X.prog X.w) X E) (hg : Gl X x := by rfl) (hdb : (x == ("__debug__" : Str)) = false := by decide) : PE X (.Call (.Name x p) [] [] pos) (tCall sp [] E tNil) := by
  obtain ⟨f, fd, F, hm, hk, hb⟩ := C
  exact pe_call0 F hr hg hm hk hb .nil hx hdb
/-- within a try -/
theorem pe_fnS {Eσ : St → XK} (C : FnAt X.prog X.w X.K X.mg X.base k x ps sp) (hr : Room k X.A) (hx : ∀ σ, PassesAt (L2.CX X.prog X.w) X σ (Eσ σ)) (ha : PA X (e :: es) t) (hg : Gl X x := by rfl) (hdb : (x == ("__debug__" : Str)) = false := by decide)
    (he : starEach (e :: es) X.env = (false, eval e X.env) :: starEach es X.env := by rfl) (hpl : (backTo pos (starEach es X.env)).any (·.1) = false := by rfl) : PE X (.Call (.Name x p) (e :: es) [] pos) (tCallS sp Eσ t) := by
  obtain ⟨f, fd, F, hm, hk, hb⟩ := C
  exact pe_callS F hr hg hm hk hb hx ha hdb he hpl
/-- a def whose errors go out of the def that calls it -/
theorem passE {W : WX} (tk : Takes X W) (hW : ∀ c d σ H, E c d H → W c d σ H) : Passes (L2.CX X.prog X.w) X E := passes_call tk hW
theorem FnAt.of {P : Program} {w : World} {K : PySem.W.Frag} {mg : Str → Option Value} {base : Heap} {x : Str} {st : Stmt} {f : Addr} {fd : FuncData} {ps : List Str} {k : Nat} {sp : Sp} (F : Fun K x x st f fd) (hm : mg x = some (.ref f)) (h : FnOk P w K mg base (L2.CX P w) k f fd ps sp)
    (hb : Binds K fd ps []) : FnAt P w K mg base k x ps sp := ⟨f, fd, h, hm, F.kp, hb⟩
/-! ### statements in short -/
/-- x = e -/
theorem ps_st (i : Nat) {y : Str} {te : TE} {pos' : Pos} (hN : X.N.Nodup) (he : PE X e te) (hi : X.N[i]? = some y := by rfl) (hx : Loc X.env.scope y := by first | exact Or.inl rfl | exact Or.inr rfl) (hs : swapsWith e (some (.Name y pos')) pos.line X.env = pure false := by rfl) (hf : X.fn y = true ∨ X.env.scope.names.lookup y = some .local := by first | exact .inl rfl | exact .inr rfl) :
    PS X (.Assign [.Name y pos'] e pos) (tAsg te (gName i)) := ps_set hN hi hx he hs hf
/-- a target that is the name in slot i -/
theorem pg_n (i : Nat) {y : Str} (hN : X.N.Nodup) (hi : X.N[i]? = some y := by rfl) (hx : Loc X.env.scope y := by first | exact Or.inl rfl | exact Or.inr rfl) (hf : X.fn y = true ∨ X.env.scope.names.lookup y = some .local := by first | exact .inl rfl | exact .inr rfl) : PG X (.Name y pos) (gName i) := pg_name hN hi hx hf
/-- what a for walks: a list or a tuple -/
def iSeq (K : PySem.W.Frag) (tl : TE) : TI := fun σ H R => tl σ H fun x H1 => ∃ a, x = .ref a ∧ ((∃ xs, SqL K H1 a xs) ∧ R (Itl K a) H1 ∨ (∃ xs, SqT K H1 a xs) ∧ R (Itt K a) H1)
theorem pi_seq {tg l : Expr} {tl : TE} (hl : PE X l tl) : PI X tg l (iSeq X.K tl) := by
  refine ⟨fun pins s σ H R I h => ?_⟩
  refine thn (hl.run pins s σ H _ I h) fun v s1 ⟨x, H1, I1, r1, q1⟩ => ?_
  obtain ⟨a, rfl, ⟨⟨xs, hq⟩, q⟩ | ⟨⟨xs, hq⟩, q⟩⟩ := q1
  · cases r1
    obtain ⟨its, rv, p, hz⟩ := I1.list hq
    refine wpAny_pyIter_list p.isList ?_
    refine ⟨s1.heap.objs.size, [s1.heap.objs.size], _, _, H1, rfl, I1.kept (t' := s1.toks) fun b o e => Heap.get?_push_of_some _ e, turn_list a _, ⟨_, Heap.get?_push_size _ rfl, rfl, rfl⟩, fun b hb => ?_, q⟩
    have e : b = s1.heap.objs.size := by simpa using hb
    subst e
    exact I1.fpOk (Nat.le_refl _) (I1.hok.fresh (Nat.le_refl _))
  · cases r1
    obtain ⟨its, rv, p, hz⟩ := I1.tuple hq
    refine wpAny_pyIter_tuple (show s1.heap.IsTuple a its.toArray from p) ?_
    refine ⟨s1.heap.objs.size, [s1.heap.objs.size], _, _, H1, rfl, I1.kept (t' := s1.toks) fun b o e => Heap.get?_push_of_some _ e, turn_tuple a _, ⟨_, Heap.get?_push_size _ rfl, rfl, rfl⟩, fun b hb => ?_, q⟩
    have e : b = s1.heap.objs.size := by simpa using hb
    subst e
    exact I1.fpOk (Nat.le_refl _) (I1.hok.fresh (Nat.le_refl _))
end
/-! ### what a reading comes to -/
section
variable {K : PySem.W.Frag} {t u : TS} {te ta tb tc : TE} {tt c tA tB' : TT} {g : TG} {D : Ends} {σ : St} {H : Hp} {Q : VK} {QT : Bool → Hp → Prop} {QA : List V → Hp → Prop} {QG : St → Hp → Prop} {i j : Nat} {v x y : V} {r r' : R2} {tr : TA} {gs : TGs}
theorem s_seq : tSeq t u D σ H = t { D with nx := u D } σ H := rfl
theorem s_next : tNext D σ H = D.nx σ H := rfl
theorem s_brk : tBreak D σ H = D.bk σ H := rfl
theorem s_cont : tCont D σ H = D.ct σ H := rfl
theorem s_drop : tDrop te D σ H = te σ H (fun _ H1 => D.nx σ H1) := rfl
theorem s_ret : tRet te D σ H = te σ H D.rt := rfl
theorem s_retN : tRetN D σ H = D.rt .non H := rfl
/-- the ways behind an if: not opened before it is known which -/
def tBr (t u : TS) (D : Ends) (σ : St) (b : Bool) (H : Hp) : Prop := if b = true then t D σ H else u D σ H
theorem s_ifS : tIfS c t u D σ H = c σ H (fun b H1 => tBr t u D σ b H1) := rfl
theorem s_br1 : tBr t u D σ true H = t D σ H := rfl
theorem s_br0 : tBr t u D σ false H = u D σ H := rfl
theorem w_br {p : Prop} [Decidable p] (h1 : p → t D σ H) (h2 : ¬ p → u D σ H) : tBr t u D σ (decide p) H := by
  by_cases h : p
  · rw [decide_eq_true h]; exact h1 h
  · rw [decide_eq_false h]; exact h2 h
theorem w_brN {p : Prop} [Decidable p] (h1 : ¬ p → t D σ H) (h2 : p → u D σ H) : tBr t u D σ (!decide p) H := by
  by_cases h : p
  · rw [decide_eq_true h]; exact h2 h
  · rw [decide_eq_false h]; exact h1 h
theorem w_brB {b : Bool} (h1 : b = true → t D σ H) (h2 : b = false → u D σ H) : tBr t u D σ b H := by
  cases b with
  | true => exact h1 rfl
  | false => exact h2 rfl
theorem w_brNB {b : Bool} (h1 : b = false → t D σ H) (h2 : b = true → u D σ H) : tBr t u D σ (!b) H := by
  cases b with
  | true => exact h2 rfl
  | false => exact h1 rfl
/-- a store behind an evaluation: not opened before the value's kind is known -/
def tAs (g : TG) (D : Ends) (σ : St) (x : V) (H : Hp) : Prop := g x σ H D.nx
theorem s_asg : tAsg te g D σ H = te σ H (fun x H1 => tAs g D σ x H1) := rfl
theorem s_asV : tAs g D σ x H = g x σ H D.nx := rfl
theorem s_asI {a : Int} : tAs g D σ (.int a) H = g (.int a) σ H D.nx := rfl
theorem s_asB {a : Bool} : tAs g D σ (.bl a) H = g (.bl a) σ H D.nx := rfl
theorem s_asN : tAs g D σ .non H = g .non σ H D.nx := rfl
theorem s_asS {a : Str} : tAs g D σ (.str a) H = g (.str a) σ H D.nx := rfl
theorem s_asR {a : Addr} : tAs g D σ (.ref a) H = g (.ref a) σ H D.nx := rfl
theorem s_gName : gName i v σ H QG = QG (σ.set i (some v)) H := rfl
theorem s_gSub {ts : TSet} : gSub ta tb ts v σ H QG = ta σ H (fun o H1 => tb σ H1 (fun i H2 => ts o i v H2 (fun H3 => QG σ H3))) := rfl
theorem s_gNil {vs : List V} : gNil vs σ H QG = (vs = [] ∧ QG σ H) := rfl
theorem s_gCons {vs : List V} : gCons g gs vs σ H QG = ∃ v r, vs = v :: r ∧ g v σ H (fun σ' H' => gs r σ' H' QG) := rfl
theorem s_var : tVar i σ H Q = ∃ v, σ[i]? = some (some v) ∧ Q v H := rfl
theorem s_C : tC v σ H Q = Q v H := rfl
theorem s_op : tOp r ta tb σ H Q = ta σ H (fun x H1 => tb σ H1 (fun y H2 => r x y H2 Q)) := rfl
theorem s_un {ru : V → Hp → VK → Prop} : tUn ru ta σ H Q = ta σ H (fun x H1 => ru x H1 Q) := rfl
theorem s_chain : tChain r r' ta tb tc σ H Q = ta σ H (fun x H1 => tb σ H1 (fun y H2 => r x y H2 (fun z H3 => ∃ k, z = .bl k ∧ (if k = true then tc σ H3 (fun w' H4 => r' y w' H4 Q) else Q (.bl false) H3)))) := rfl
theorem s_test : tTest te σ H QT = te σ H (fun x H' => ∃ k, x = .bl k ∧ QT k H') := rfl
theorem s_B : tB te σ H QT = te σ H (fun x H' => ∃ k, x = .bl k ∧ QT k H') := rfl
/-- and, or: the second part -/
def aB (tB' : TT) (σ : St) (QT : Bool → Hp → Prop) (b : Bool) (H : Hp) : Prop := if b = true then tB' σ H QT else QT false H
def oB (tB' : TT) (σ : St) (QT : Bool → Hp → Prop) (b : Bool) (H : Hp) : Prop := if b = true then QT true H else tB' σ H QT
theorem s_and : tAnd tA tB' σ H QT = tA σ H (fun c H1 => aB tB' σ QT c H1) := rfl
theorem s_or : tOr tA tB' σ H QT = tA σ H (fun c H1 => oB tB' σ QT c H1) := rfl
theorem s_aB1 : aB tB' σ QT true H = tB' σ H QT := rfl
theorem s_aB0 : aB tB' σ QT false H = QT false H := rfl
theorem s_oB1 : oB tB' σ QT true H = QT true H := rfl
theorem s_oB0 : oB tB' σ QT false H = tB' σ H QT := rfl
theorem w_aB {p : Prop} [Decidable p] (h1 : p → tB' σ H QT) (h2 : ¬ p → QT false H) : aB tB' σ QT (decide p) H := by
  by_cases h : p
  · rw [decide_eq_true h]; exact h1 h
  · rw [decide_eq_false h]; exact h2 h
theorem w_aBN {p : Prop} [Decidable p] (h1 : ¬ p → tB' σ H QT) (h2 : p → QT false H) : aB tB' σ QT (!decide p) H := by
  by_cases h : p
  · rw [decide_eq_true h]; exact h2 h
  · rw [decide_eq_false h]; exact h1 h
theorem w_aBB {b : Bool} (h1 : b = true → tB' σ H QT) (h2 : b = false → QT false H) : aB tB' σ QT b H := by
  cases b with
  | true => exact h1 rfl
  | false => exact h2 rfl
theorem w_oB {p : Prop} [Decidable p] (h1 : p → QT true H) (h2 : ¬ p → tB' σ H QT) : oB tB' σ QT (decide p) H := by
  by_cases h : p
  · rw [decide_eq_true h]; exact h1 h
  · rw [decide_eq_false h]; exact h2 h
theorem w_oBN {p : Prop} [Decidable p] (h1 : ¬ p → QT true H) (h2 : p → tB' σ H QT) : oB tB' σ QT (!decide p) H := by
  by_cases h : p
  · rw [decide_eq_true h]; exact h2 h
  · rw [decide_eq_false h]; exact h1 h
theorem w_oBB {b : Bool} (h1 : b = true → QT true H) (h2 : b = false → tB' σ H QT) : oB tB' σ QT b H := by
  cases b with
  | true => exact h1 rfl
  | false => exact h2 rfl
theorem s_not : tNot tA σ H QT = tA σ H (fun c H1 => QT (!c) H1) := rfl
/-- .. as values -/
def aE (tb : TE) (σ : St) (Q : VK) (x : V) (H : Hp) : Prop := ∃ c, x = .bl c ∧ if c = true then tb σ H Q else Q (.bl false) H
def oE (tb : TE) (σ : St) (Q : VK) (x : V) (H : Hp) : Prop := ∃ c, x = .bl c ∧ if c = true then Q (.bl true) H else tb σ H Q
theorem s_andV : tAndV ta tb σ H Q = ta σ H (fun x H1 => aE tb σ Q x H1) := rfl
theorem s_orV : tOrV ta tb σ H Q = ta σ H (fun x H1 => oE tb σ Q x H1) := rfl
theorem s_aE1 : aE tb σ Q (.bl true) H = tb σ H Q := propext ⟨fun ⟨c, e, h⟩ => by cases e; exact h, fun h => ⟨true, rfl, h⟩⟩
theorem s_aE0 : aE tb σ Q (.bl false) H = Q (.bl false) H := propext ⟨fun ⟨c, e, h⟩ => by cases e; exact h, fun h => ⟨false, rfl, h⟩⟩
theorem s_oE1 : oE tb σ Q (.bl true) H = Q (.bl true) H := propext ⟨fun ⟨c, e, h⟩ => by cases e; exact h, fun h => ⟨true, rfl, h⟩⟩
theorem s_oE0 : oE tb σ Q (.bl false) H = tb σ H Q := propext ⟨fun ⟨c, e, h⟩ => by cases e; exact h, fun h => ⟨false, rfl, h⟩⟩
theorem w_aE {p : Prop} [Decidable p] (h1 : p → tb σ H Q) (h2 : ¬ p → Q (.bl false) H) : aE tb σ Q (.bl (decide p)) H := by
  by_cases h : p
  · rw [decide_eq_true h, s_aE1]; exact h1 h
  · rw [decide_eq_false h, s_aE0]; exact h2 h
theorem w_aEB {b : Bool} (h1 : b = true → tb σ H Q) (h2 : b = false → Q (.bl false) H) : aE tb σ Q (.bl b) H := by
  cases b with
  | true => rw [s_aE1]; exact h1 rfl
  | false => rw [s_aE0]; exact h2 rfl
theorem w_oE {p : Prop} [Decidable p] (h1 : p → Q (.bl true) H) (h2 : ¬ p → tb σ H Q) : oE tb σ Q (.bl (decide p)) H := by
  by_cases h : p
  · rw [decide_eq_true h, s_oE1]; exact h1 h
  · rw [decide_eq_false h, s_oE0]; exact h2 h
theorem w_oEB {b : Bool} (h1 : b = true → Q (.bl true) H) (h2 : b = false → tb σ H Q) : oE tb σ Q (.bl b) H := by
  cases b with
  | true => rw [s_oE1]; exact h1 rfl
  | false => rw [s_oE0]; exact h2 rfl
def nE (Q : VK) (x : V) (H : Hp) : Prop := ∃ c, x = .bl c ∧ Q (.bl (!c)) H
theorem s_notV : tNotV ta σ H Q = ta σ H (fun x H1 => nE Q x H1) := rfl
theorem s_nE {b : Bool} : nE Q (.bl b) H = Q (.bl (!b)) H := propext ⟨fun ⟨c, e, h⟩ => by cases e; exact h, fun h => ⟨b, rfl, h⟩⟩
def iE (ta tb : TE) (σ : St) (Q : VK) (c : Bool) (H : Hp) : Prop := if c = true then ta σ H Q else tb σ H Q
theorem s_if : tIf tt ta tb σ H Q = tt σ H (fun c H1 => iE ta tb σ Q c H1) := rfl
theorem s_iE1 : iE ta tb σ Q true H = ta σ H Q := rfl
theorem s_iE0 : iE ta tb σ Q false H = tb σ H Q := rfl
theorem w_iE {p : Prop} [Decidable p] (h1 : p → ta σ H Q) (h2 : ¬ p → tb σ H Q) : iE ta tb σ Q (decide p) H := by
  by_cases h : p
  · rw [decide_eq_true h]; exact h1 h
  · rw [decide_eq_false h]; exact h2 h
theorem w_iEB {b : Bool} (h1 : b = true → ta σ H Q) (h2 : b = false → tb σ H Q) : iE ta tb σ Q b H := by
  cases b with
  | true => exact h1 rfl
  | false => exact h2 rfl
/-- truth -/
def trV (K : PySem.W.Frag) (QT : Bool → Hp → Prop) (x : V) (H : Hp) : Prop := match x with
  | .bl b => QT b H
  | .int i => QT (i != 0) H
  | .non => QT false H
  | x => ∃ k, TruV K x H k ∧ QT k H
theorem s_tr : tTr K ta σ H QT = ta σ H (fun x H' => trV K QT x H') := rfl
theorem s_trB {b : Bool} : trV K QT (.bl b) H = QT b H := rfl
theorem s_trI {a : Int} : trV K QT (.int a) H = QT (a != 0) H := rfl
theorem s_trN : trV K QT .non H = QT false H := rfl
theorem w_trL {p : Addr} {xs : List V} (h : SqL K H p xs) (q : QT (!xs.isEmpty) H) : trV K QT (.ref p) H := ⟨_, .inl ⟨xs, h, rfl⟩, q⟩
theorem w_trT {p : Addr} {xs : List V} (h : SqT K H p xs) (q : QT (!xs.isEmpty) H) : trV K QT (.ref p) H := ⟨_, .inr (.inl ⟨xs, h, rfl⟩), q⟩
theorem s_nil : tNil σ H QA = QA [] H := rfl
theorem s_cons : tCons ta tr σ H QA = ta σ H (fun x H1 => tr σ H1 (fun xs H2 => QA (x :: xs) H2)) := rfl
theorem s_CB {rc : List V → Hp → VK → Prop} : tCB rc tr σ H Q = tr σ H (fun vs H1 => rc vs H1 Q) := rfl
theorem s_call {sp : Sp} {dvs : List V} {E : XK} : tCall sp dvs E tr σ H Q = tr σ H (fun vs H1 => sp (vs ++ dvs) H1 Q E) := rfl
theorem s_callS {sp : Sp} {E : St → XK} : tCallS sp E tr σ H Q = tr σ H (fun vs H1 => sp vs H1 Q (E σ)) := rfl
theorem s_sl {rs : V → Option Int → Option Int → Hp → VK → Prop} {tl th : TO} : tSl rs te tl th σ H Q = te σ H (fun x H1 => tl σ H1 (fun l H2 => th σ H2 (fun u H3 => rs x l u H3 Q))) := rfl
theorem s_part {QO : Option Int → Hp → Prop} : tPart te σ H QO = te σ H (fun x H1 => ∃ i, x = .int i ∧ QO (some i) H1) := rfl
theorem s_noPart {QO : Option Int → Hp → Prop} : tNoPart σ H QO = QO none H := rfl
theorem s_BM0 {T : String} {rm : V → List V → Hp → VK → Prop} : tBM0 K T rm te σ H Q = te σ H (fun x H1 => tyV K T x H1 ∧ rm x [] H1 Q) := rfl
theorem s_BM {T : String} {rm : V → List V → Hp → VK → Prop} : tBM K T rm te tr σ H Q = te σ H (fun x H1 => tyV K T x H1 ∧ tr σ H1 (fun xs H2 => rm x xs H2 Q)) := rfl
variable {a b : Int} {k : Bool}
theorem v_addI : aAdd K (.int a) (.int b) H Q = Q (.int (a + b)) H := rfl
theorem v_subI : aSub (.int a) (.int b) H Q = Q (.int (a - b)) H := rfl
theorem v_mulI : aMul K (.int a) (.int b) H Q = (IntMulOk a b ∧ Q (.int (a * b)) H) := rfl
theorem v_divI (h : 0 < b) (h9 : b.natAbs.log2 < 9000) : aDiv (.int a) (.int b) H Q = Q (.int (a / b)) H := by
  show (b ≠ 0 ∧ b.natAbs.log2 < 9000 ∧ Q (.int (a.fdiv b)) H) = _
  rw [Int.fdiv_eq_ediv_of_nonneg a (by omega)]
  exact propext ⟨fun h => h.2.2, fun q => ⟨by omega, h9, q⟩⟩
theorem v_modI (h : 0 < b) : aMod (.int a) (.int b) H Q = Q (.int (a % b)) H := by
  show (b ≠ 0 ∧ Q (.int (a.fmod b)) H) = _
  rw [Int.fmod_eq_emod_of_nonneg a (by omega)]
  exact propext ⟨fun h => h.2, fun q => ⟨by omega, q⟩⟩
theorem v_powI (h0 : 0 ≤ b) (h1 : b ≤ 1000000) (h2 : a.natAbs < 18446744073709551616) : aPow (.int a) (.int b) H Q = Q (.int (a ^ b.toNat)) H := by
  show ((0 ≤ b ∧ b ≤ 1000000 ∧ a.natAbs < 2 ^ 64) ∧ Q (.int (a ^ b.toNat)) H) = _
  exact propext ⟨fun h => h.2, fun q => ⟨⟨h0, h1, h2⟩, q⟩⟩
theorem v_negI : aNeg (.int a) H Q = Q (.int (-a)) H := rfl
theorem v_cmp {p : Int → Int → Bool} : aCmp p (.int a) (.int b) H Q = Q (.bl (p a b)) H := rfl
theorem v_eqI : aEq K (.int a) (.int b) H Q = Q (.bl (decide (a = b))) H := by
  show (true = true ∧ Q (.bl (decide (V.int a = V.int b))) H) = _
  simp
theorem v_neI : aNe K (.int a) (.int b) H Q = Q (.bl (!decide (a = b))) H := by
  show (true = true ∧ Q (.bl (!decide (V.int a = V.int b))) H) = _
  simp
theorem v_isN : aIs x .non H Q = Q (.bl (decide (x = .non))) H := rfl
theorem v_isB : aIs x (.bl k) H Q = Q (.bl (decide (x = .bl k))) H := rfl
theorem v_isnotN : aIsnot x .non H Q = Q (.bl (!decide (x = .non))) H := rfl
theorem v_isnotB : aIsnot x (.bl k) H Q = Q (.bl (!decide (x = .bl k))) H := rfl
theorem v_int : aInt [.int a] H Q = Q (.int a) H := rfl
theorem v_abs : aAbs [.int a] H Q = Q (.int (a.natAbs : Int)) H := rfl
theorem v_max2 : aMax K [.int a, .int b] H Q = Q (.int (max a b)) H := rfl
theorem v_min2 : aMin K [.int a, .int b] H Q = Q (.int (min a b)) H := rfl
variable {p q : Addr} {xs ys : List V}
theorem w_ixL {w : V} (h : SqL K H p xs) (e : atI xs a = some w) (hq : Q w H) : aIx K (.ref p) (.int a) H Q := ⟨xs, w, .inl h, e, hq⟩
theorem w_ixT {w : V} (h : SqT K H p xs) (e : atI xs a = some w) (hq : Q w H) : aIx K (.ref p) (.int a) H Q := ⟨xs, w, .inr h, e, hq⟩
theorem w_lenL (h : SqL K H p xs) (hq : Q (.int xs.length) H) : aLen K [.ref p] H Q := ⟨xs, .inl h, hq⟩
theorem w_lenT (h : SqT K H p xs) (hq : Q (.int xs.length) H) : aLen K [.ref p] H Q := ⟨xs, .inr h, hq⟩
theorem w_list (h : SqL K H p xs ∨ SqT K H p xs) (hq : ∀ l, H l = none → Q (.ref l) (upd H l (.lst xs))) : aList K [.ref p] H Q := ⟨xs, h, hq⟩
theorem w_set {v : V} {QS : Hp → Prop} {jj : Nat} {kk : Int} (h : H p = some (.lst xs)) (e : ixN xs.length kk = some jj) (hq : QS (upd H p (.lst (xs.set jj v)))) : rSetL (.ref p) (.int kk) v H QS := ⟨p, xs, kk, jj, rfl, rfl, h, e, hq⟩
theorem w_app {v : V} (h : H p = some (.lst xs)) (hz : xs.length < sizeLine) (hq : Q .non (upd H p (.lst (xs ++ [v])))) : tyV K "list" (.ref p) H ∧ rAppend (.ref p) [v] H Q :=
  ⟨.inl ⟨rfl, _, SqL.of h⟩, p, xs, v, rfl, rfl, h, hz, hq⟩
theorem w_lst (hz : xs.length ≤ sizeLine) (hq : ∀ p, H p = none → Q (.ref p) (upd H p (.lst xs))) : xs.length ≤ sizeLine ∧ ∀ p, H p = none → Q (.ref p) (upd H p (.lst xs)) := ⟨hz, hq⟩
theorem s_lst : tLst tr σ H Q = tr σ H (fun xs H1 => xs.length ≤ sizeLine ∧ ∀ p, H1 p = none → Q (.ref p) (upd H1 p (.lst xs))) := rfl
theorem s_tup : tTup tr σ H Q = tr σ H (fun xs H1 => xs.length ≤ sizeLine ∧ ∀ p, H1 p = none → Q (.ref p) (upd H1 p (.tup xs))) := rfl
/-! ### loops -/
/-- a for over what J walks -/
def forJ (J : It) (g : TG) (tb : TS) (D : Ends) (σ : St) (H : Hp) : Prop := ∃ W : Nat → Nat → St → Hp → Prop, (∃ m, W 0 m σ H) ∧ ∀ i m σ H, W i m σ H →
  (J.stop i H ∧ D.nx σ H) ∨ (J.go i H ∧ ∃ N : St → Hp → Prop, (∀ σ' H', N σ' H' → ∃ m', m' < m ∧ W (i + 1) m' σ' H') ∧ ∀ x H', J.yld i H x H' → g x σ H' fun σ2 H2 => tb { D with nx := N, ct := N, bk := D.nx } σ2 H2)
theorem s_for {wi : TI} : tFor wi g t D σ H = wi σ H (fun J H1 => forJ J g t D σ H1) := rfl
/-- a list comprehension over what J walks -/
def lcJ (J : It) (g : TG) (tt : TT) (te : TE) (vs : List Nat) (σ : St) (Q : VK) (H1 : Hp) : Prop := ∀ D, H1 D = none → ∃ W : Nat → Nat → Hp → Prop, (∃ m, W 0 m (upd H1 D (.lst []))) ∧ ∀ i m H, W i m H →
  (J.stop i H ∧ Q (.ref D) H) ∨ (J.go i H ∧ ∃ Nx : Hp → Prop, (∀ H', Nx H' → ∃ m', m' < m ∧ W (i + 1) m' H') ∧ ∀ x H', J.yld i H x H' → g x (wipe σ vs) H' fun σ2 H2 => wipe σ2 vs = wipe σ vs ∧ tt σ2 H2 fun b H3 =>
    if b = true then te σ2 H3 fun y H4 => ∃ acc, H4 D = some (.lst acc) ∧ acc.length < sizeLine ∧ Nx (upd H4 D (.lst (acc ++ [y]))) else Nx H3)
theorem s_lc {wi : TI} {vs : List Nat} : tLc wi g tt te vs σ H Q = wi σ H (fun J H1 => lcJ J g tt te vs σ Q H1) := rfl
def rg1 (vs : List V) (H : Hp) (R : It → Hp → Prop) : Prop := ∃ j : Int, vs = [.int j] ∧ -(2 ^ 62) ≤ j ∧ j < 2 ^ 62 ∧ R (Itr 0 j.toNat) H
def rg2 (vs : List V) (H : Hp) (R : It → Hp → Prop) : Prop := ∃ i j : Int, vs = [.int i, .int j] ∧ (-(2 ^ 62) ≤ i ∧ i < 2 ^ 62 ∧ -(2 ^ 62) ≤ j ∧ j < 2 ^ 62) ∧ R (Itr i (j - i).toNat) H
def rg3 (vs : List V) (H : Hp) (R : It → Hp → Prop) : Prop := ∃ (i j c : Int) (n : Nat), vs = [.int i, .int j, .int c] ∧ RgC i j c n ∧ R (Itc i c n) H
def enm (K : PySem.W.Frag) (vs : List V) (H : Hp) (R : It → Hp → Prop) : Prop := ∃ a xs, vs = [.ref a] ∧ SqL K H a xs ∧ R (Ite K a) H
def zpp (K : PySem.W.Frag) (vs : List V) (H : Hp) (R : It → Hp → Prop) : Prop := ∃ a b xs ys, vs = [.ref a, .ref b] ∧ SqL K H a xs ∧ SqL K H b ys ∧ R (Itz K a b) H
def sqq (K : PySem.W.Frag) (x : V) (H : Hp) (R : It → Hp → Prop) : Prop := ∃ a, x = .ref a ∧ ((∃ xs, SqL K H a xs) ∧ R (Itl K a) H ∨ (∃ xs, SqT K H a xs) ∧ R (Itt K a) H)
variable {R : It → Hp → Prop}
theorem s_rng1 : iRng1 tr σ H R = tr σ H (fun vs H1 => rg1 vs H1 R) := rfl
theorem s_rng2 : iRng2 tr σ H R = tr σ H (fun vs H1 => rg2 vs H1 R) := rfl
theorem s_rng3 : iRng3 tr σ H R = tr σ H (fun vs H1 => rg3 vs H1 R) := rfl
theorem s_enum : iEnum K tr σ H R = tr σ H (fun vs H1 => enm K vs H1 R) := rfl
theorem s_zip : iZip K tr σ H R = tr σ H (fun vs H1 => zpp K vs H1 R) := rfl
theorem s_seqI : iSeq K te σ H R = te σ H (fun x H1 => sqq K x H1 R) := rfl
theorem w_rg1 {j : Int} (h1 : -4611686018427387904 ≤ j) (h2 : j < 4611686018427387904) (q : R (Itr 0 j.toNat) H) : rg1 [.int j] H R := ⟨j, rfl, h1, h2, q⟩
theorem w_rg2 {i j : Int} (h1 : -4611686018427387904 ≤ i) (h2 : i < 4611686018427387904) (h3 : -4611686018427387904 ≤ j) (h4 : j < 4611686018427387904) (q : R (Itr i (j - i).toNat) H) : rg2 [.int i, .int j] H R := ⟨i, j, rfl, ⟨h1, h2, h3, h4⟩, q⟩
theorem w_enum {a : Addr} {xs : List V} (h : SqL K H a xs) (q : R (Ite K a) H) : enm K [.ref a] H R := ⟨a, xs, rfl, h, q⟩
theorem w_zip {a b : Addr} {xs ys : List V} (h : SqL K H a xs) (h' : SqL K H b ys) (q : R (Itz K a b) H) : zpp K [.ref a, .ref b] H R := ⟨a, b, xs, ys, rfl, h, h', q⟩
theorem w_sqL {a : Addr} {xs : List V} (h : SqL K H a xs) (q : R (Itl K a) H) : sqq K (.ref a) H R := ⟨a, rfl, .inl ⟨⟨xs, h⟩, q⟩⟩
theorem w_sqT {a : Addr} {xs : List V} (h : SqT K H a xs) (q : R (Itt K a) H) : sqq K (.ref a) H R := ⟨a, rfl, .inr ⟨⟨xs, h⟩, q⟩⟩
theorem w_forR {lo : Int} {n : Nat} (Pv : Nat → St → Hp → Prop) (h0 : Pv 0 σ H)
    (hs : ∀ i σ H, i < n → Pv i σ H → g (.int (lo + i)) σ H fun σ2 H2 => t { D with nx := Pv (i + 1), ct := Pv (i + 1), bk := D.nx } σ2 H2) (hd : ∀ σ H, Pv n σ H → D.nx σ H) : forJ (Itr lo n) g t D σ H := for_range Pv h0 hs hd
theorem w_forC {lo c : Int} {n : Nat} (Pv : Nat → St → Hp → Prop) (h0 : Pv 0 σ H)
    (hs : ∀ i σ H, i < n → Pv i σ H → g (.int (lo + (i : Nat) * c)) σ H fun σ2 H2 => t { D with nx := Pv (i + 1), ct := Pv (i + 1), bk := D.nx } σ2 H2) (hd : ∀ σ H, Pv n σ H → D.nx σ H) : forJ (Itc lo c n) g t D σ H := for_rangeC Pv h0 hs hd
theorem w_forL {a : Addr} {xs : List V} (Pv : Nat → St → Hp → Prop) (h0 : Pv 0 σ H) (hl : ∀ i σ H, i ≤ xs.length → Pv i σ H → SqL K H a xs)
    (hs : ∀ i x σ H, xs[i]? = some x → Pv i σ H → g x σ H fun σ2 H2 => t { D with nx := Pv (i + 1), ct := Pv (i + 1), bk := D.nx } σ2 H2) (hd : ∀ σ H, Pv xs.length σ H → D.nx σ H) : forJ (Itl K a) g t D σ H := for_list Pv h0 hl hs hd
theorem w_forT {a : Addr} {xs : List V} (Pv : Nat → St → Hp → Prop) (h0 : Pv 0 σ H) (hl : ∀ i σ H, i ≤ xs.length → Pv i σ H → SqT K H a xs)
    (hs : ∀ i x σ H, xs[i]? = some x → Pv i σ H → g x σ H fun σ2 H2 => t { D with nx := Pv (i + 1), ct := Pv (i + 1), bk := D.nx } σ2 H2) (hd : ∀ σ H, Pv xs.length σ H → D.nx σ H) : forJ (Itt K a) g t D σ H := for_tup Pv h0 hl hs hd
/-- for i, x in enumerate(xs): the pair is of no more use -/
theorem w_forE {a : Addr} {xs : List V} {p q : Nat} (Pv : Nat → St → Hp → Prop) (h0 : Pv 0 σ H) (hl : ∀ i σ H, i ≤ xs.length → Pv i σ H → SqL K H a xs)
    (hs : ∀ i x σ H H', xs[i]? = some x → Pv i σ H → Same H H' → t { D with nx := Pv (i + 1), ct := Pv (i + 1), bk := D.nx } ((σ.set p (some (.int (i : Nat)))).set q (some x)) H') (hd : ∀ σ H, Pv xs.length σ H → D.nx σ H) :
    forJ (Ite K a) (gTup K 2 (gCons (gName p) (gCons (gName q) gNil))) t D σ H := by
  refine ⟨fun i m σ H => m = xs.length - i ∧ i ≤ xs.length ∧ Pv i σ H, ⟨xs.length, by simp, Nat.zero_le _, h0⟩, ?_⟩
  rintro i m σ H ⟨rfl, hi, pp⟩
  have hS := hl i σ H hi pp
  by_cases hlt : i < xs.length
  · refine .inr ⟨⟨xs, xs[i], hS, by simp [hlt]⟩, Pv (i + 1), fun σ' H' p' => ⟨xs.length - (i + 1), by omega, rfl, hlt, p'⟩, fun x H' y => ?_⟩
    obtain ⟨T, z, rfl, hT, rfl, y⟩ := y
    have sm : Same H (upd H T (.tup [.int (i : Nat), z])) := fun b o e => by rw [upd_ne (ne_of_none e hT)]; exact e
    refine ⟨T, _, rfl, SqT.of upd_same, rfl, .int (i : Nat), [z], rfl, z, [], rfl, rfl, ?_⟩
    exact hs i z σ H _ (y xs hS) pp sm
  · have e : i = xs.length := by omega
    subst e
    exact .inl ⟨⟨xs, hS, Nat.le_refl _⟩, hd σ H pp⟩
/-- for x, y in zip(xs, ys) -/
theorem w_forZ {a b : Addr} {xs ys : List V} {p q : Nat} (hlen : xs.length = ys.length) (Pv : Nat → St → Hp → Prop) (h0 : Pv 0 σ H) (hl : ∀ i σ H, i ≤ xs.length → Pv i σ H → SqL K H a xs ∧ SqL K H b ys)
    (hs : ∀ i x y σ H H', xs[i]? = some x → ys[i]? = some y → Pv i σ H → Same H H' → t { D with nx := Pv (i + 1), ct := Pv (i + 1), bk := D.nx } ((σ.set p (some x)).set q (some y)) H') (hd : ∀ σ H, Pv xs.length σ H → D.nx σ H) :
    forJ (Itz K a b) (gTup K 2 (gCons (gName p) (gCons (gName q) gNil))) t D σ H := by
  refine ⟨fun i m σ H => m = xs.length - i ∧ i ≤ xs.length ∧ Pv i σ H, ⟨xs.length, by simp, Nat.zero_le _, h0⟩, ?_⟩
  rintro i m σ H ⟨rfl, hi, pp⟩
  obtain ⟨hS, hS'⟩ := hl i σ H hi pp
  by_cases hlt : i < xs.length
  · refine .inr ⟨⟨xs, ys, xs[i], ys[i]'(by omega), hS, hS', by simp [hlt], by simp [← hlen, hlt]⟩, Pv (i + 1), fun σ' H' p' => ⟨xs.length - (i + 1), by omega, rfl, hlt, p'⟩, fun x H' y => ?_⟩
    obtain ⟨T, z, z', rfl, hT, rfl, y, y'⟩ := y
    have sm : Same H (upd H T (.tup [z, z'])) := fun b o e => by rw [upd_ne (ne_of_none e hT)]; exact e
    refine ⟨T, _, rfl, SqT.of upd_same, rfl, z, [z'], rfl, z', [], rfl, rfl, ?_⟩
    exact hs i z z' σ H _ (y xs hS) (y' ys hS') pp sm
  · have e : i = xs.length := by omega
    subst e
    exact .inl ⟨⟨xs, ys, hS, hS', .inl (Nat.le_refl _)⟩, hd σ H pp⟩
/-- comprehensions: Pv says what the list at L holds behind i turns -/
theorem w_lcR {lo : Int} {n : Nat} {vs : List Nat} (Pv : Addr → Nat → Hp → Prop) (h0 : ∀ L, H L = none → Pv L 0 (upd H L (.lst [])))
    (hs : ∀ L i H, i < n → Pv L i H → g (.int (lo + i)) (wipe σ vs) H fun σ2 H2 => wipe σ2 vs = wipe σ vs ∧ tt σ2 H2 fun b H3 =>
      if b = true then te σ2 H3 fun y H4 => ∃ acc, H4 L = some (.lst acc) ∧ acc.length < sizeLine ∧ Pv L (i + 1) (upd H4 L (.lst (acc ++ [y]))) else Pv L (i + 1) H3) (hd : ∀ L H', H L = none → Pv L n H' → Q (.ref L) H') :
    lcJ (Itr lo n) g tt te vs σ Q H := fun L hL => lc_range (Pv L) (h0 L hL) (fun i H => hs L i H) (fun H' => hd L H' hL)
theorem w_lcL {a : Addr} {xs : List V} {vs : List Nat} (Pv : Addr → Nat → Hp → Prop) (h0 : ∀ L, H L = none → Pv L 0 (upd H L (.lst []))) (hl : ∀ L i H, i ≤ xs.length → Pv L i H → SqL K H a xs)
    (hs : ∀ L i x H, xs[i]? = some x → Pv L i H → g x (wipe σ vs) H fun σ2 H2 => wipe σ2 vs = wipe σ vs ∧ tt σ2 H2 fun b H3 =>
      if b = true then te σ2 H3 fun y H4 => ∃ acc, H4 L = some (.lst acc) ∧ acc.length < sizeLine ∧ Pv L (i + 1) (upd H4 L (.lst (acc ++ [y]))) else Pv L (i + 1) H3) (hd : ∀ L H', H L = none → Pv L xs.length H' → Q (.ref L) H') :
    lcJ (Itl K a) g tt te vs σ Q H := fun L hL => lc_list (Pv L) (h0 L hL) (hl L) (fun i x H => hs L i x H) (fun H' => hd L H' hL)
theorem w_lcT {a : Addr} {xs : List V} {vs : List Nat} (Pv : Addr → Nat → Hp → Prop) (h0 : ∀ L, H L = none → Pv L 0 (upd H L (.lst []))) (hl : ∀ L i H, i ≤ xs.length → Pv L i H → SqT K H a xs)
    (hs : ∀ L i x H, xs[i]? = some x → Pv L i H → g x (wipe σ vs) H fun σ2 H2 => wipe σ2 vs = wipe σ vs ∧ tt σ2 H2 fun b H3 =>
      if b = true then te σ2 H3 fun y H4 => ∃ acc, H4 L = some (.lst acc) ∧ acc.length < sizeLine ∧ Pv L (i + 1) (upd H4 L (.lst (acc ++ [y]))) else Pv L (i + 1) H3) (hd : ∀ L H', H L = none → Pv L xs.length H' → Q (.ref L) H') :
    lcJ (Itt K a) g tt te vs σ Q H := fun L hL => lc_tup (Pv L) (h0 L hL) (hl L) (fun i x H => hs L i x H) (fun H' => hd L H' hL)
/-- while, by a word and a measure -/
def whB (Pv : Nat → St → Hp → Prop) (m : Nat) (t : TS) (D : Ends) (σ : St) (b : Bool) (H : Hp) : Prop :=
  if b = true then ∃ N : St → Hp → Prop, (∀ σ' H', N σ' H' → ∃ m', m' < m ∧ Pv m' σ' H') ∧ t { D with nx := N, ct := N, bk := D.nx } σ H else D.nx σ H
theorem w_while (Pv : Nat → St → Hp → Prop) (m : Nat) (h0 : Pv m σ H) (hs : ∀ m σ H, Pv m σ H → c σ H fun b H1 => whB Pv m t D σ b H1) : tWhile c t D σ H := ⟨Pv, ⟨m, h0⟩, hs⟩
theorem w_wh {Pv : Nat → St → Hp → Prop} {m : Nat} {p : Prop} [Decidable p] (h1 : p → t { D with nx := fun σ' H' => ∃ m', m' < m ∧ Pv m' σ' H', ct := fun σ' H' => ∃ m', m' < m ∧ Pv m' σ' H', bk := D.nx } σ H) (h2 : ¬ p → D.nx σ H) : whB Pv m t D σ (decide p) H := by
  by_cases h : p
  · rw [decide_eq_true h]; exact ⟨_, fun _ _ h => h, h1 h⟩
  · rw [decide_eq_false h]; exact h2 h
theorem w_whN {Pv : Nat → St → Hp → Prop} {m : Nat} {p : Prop} [Decidable p] (h1 : ¬ p → t { D with nx := fun σ' H' => ∃ m', m' < m ∧ Pv m' σ' H', ct := fun σ' H' => ∃ m', m' < m ∧ Pv m' σ' H', bk := D.nx } σ H) (h2 : p → D.nx σ H) : whB Pv m t D σ (!decide p) H := by
  by_cases h : p
  · rw [decide_eq_true h]; exact h2 h
  · rw [decide_eq_false h]; exact ⟨_, fun _ _ h => h, h1 h⟩
theorem w_whB {Pv : Nat → St → Hp → Prop} {m : Nat} {b : Bool} (h1 : b = true → t { D with nx := fun σ' H' => ∃ m', m' < m ∧ Pv m' σ' H', ct := fun σ' H' => ∃ m', m' < m ∧ Pv m' σ' H', bk := D.nx } σ H) (h2 : b = false → D.nx σ H) : whB Pv m t D σ b H := by
  cases b with
  | true => exact ⟨_, fun _ _ h => h, h1 rfl⟩
  | false => exact h2 rfl
theorem cxK {CX : CXT} {P : Program} {w : World} {mg : Str → Option Value} {base : Heap} {N : List Str} {qual : Str} {scope : Scope} {f : Addr} {cd : Value} {A : Around} {outer : List Env} {s : Shared} {H : Hp} {E : XK} : (cxOf CX P w K mg base N qual scope f cd A outer s H E).K = K := rfl
theorem atI_int {ns : List Int} {i : Int} (h0 : 0 ≤ i) (h1 : i < ns.length) : atI (ns.map V.int) i = some (.int (ns.getD i.toNat 0)) := by
  obtain ⟨j, rfl⟩ := Int.eq_ofNat_of_zero_le h0
  refine atI_nat ?_
  have hj : j < ns.length := by omega
  rw [List.getElem?_map, List.getElem?_eq_getElem hj]
  simp [hj]
theorem small1000' {n : Nat} (h : n ≤ 100000) : n < sizeLine := Nat.lt_of_le_of_lt h (by decide)
theorem le_line {n : Nat} (h : n ≤ 1000) : (n ≤ sizeLine) = True := eq_true (Nat.le_of_lt (small1000 h))
theorem mulokL {i j : Int} (h : -18446744073709551616 < i ∧ i < 18446744073709551616) : IntMulOk i j := CMul.ok (.inl h)
theorem mulokR {i j : Int} (h : -18446744073709551616 < j ∧ j < 18446744073709551616) : IntMulOk i j := CMul.ok (.inr h)
theorem log2_lt {b : Int} {n : Nat} (h0 : 0 < b) (h : b.toNat < 2 ^ n) (hn : n ≤ 9000) (h1 : 0 < n) : b.natAbs.log2 < 9000 := by
  have e : b.natAbs = b.toNat := by omega
  rw [e]
  have := (Nat.log2_lt (by omega : b.toNat ≠ 0)).mpr h
  omega
end
/-! ### the ledger: F stands, L may change -/
def But (p : Addr) (H H' : Hp) : Prop := ∀ b o, b ≠ p → H b = some o → H' b = some o
structure W (F : Hp) (L : List (Addr × HO)) (H : Hp) : Prop where
  fr : Same F H
  nd : (L.map (·.1)).Nodup
  at_ : ∀ p ∈ L, H p.1 = some p.2
  off : ∀ p ∈ L, F p.1 = none
def rem (H : Hp) (a : Addr) : Hp := fun b => if b = a then none else H b
theorem rem_same {H : Hp} {a : Addr} : rem H a a = none := if_pos rfl
theorem rem_ne {H : Hp} {a b : Addr} (h : b ≠ a) : rem H a b = H b := if_neg h
theorem Same.rem {H : Hp} {a : Addr} : Same (rem H a) H := fun b o e => by
  by_cases h : b = a
  · subst h; rw [rem_same] at e; cases e
  · rw [rem_ne h] at e; exact e
section
variable {F F' H H' : Hp} {L L' : List (Addr × HO)} {p r : Addr} {o o' o2 : HO}
theorem W.start : W H [] H := ⟨Same.refl H, List.nodup_nil, (fun _ h => nomatch h), (fun _ h => nomatch h)⟩
theorem W.own (h : H p = some o) : W (rem H p) [(p, o)] H :=
  ⟨Same.rem, by simp, fun q hq => by simp at hq; subst hq; exact h, fun q hq => by simp at hq; subst hq; exact rem_same⟩
theorem W.get (w : W F L H) (i : Nat) (h : L[i]? = some (p, o)) : H p = some o := w.at_ _ (List.mem_of_getElem? h)
theorem W.offI (w : W F L H) (i : Nat) (h : L[i]? = some (p, o)) : F p = none := w.off _ (List.mem_of_getElem? h)
theorem W.new (w : W F L H) (h : H p = none) : W F ((p, o) :: L) (upd H p o) := by
  refine ⟨fun b u e => ?_, ?_, fun q hq => ?_, fun q hq => ?_⟩
  · rw [upd_ne (ne_of_none (w.fr b u e) h)]; exact w.fr b u e
  · rw [List.map_cons, List.nodup_cons]
    refine ⟨fun hm => ?_, w.nd⟩
    obtain ⟨q, hq, e⟩ := List.mem_map.mp hm
    have z := w.at_ q hq
    rw [e, h] at z
    cases z
  · rcases List.mem_cons.mp hq with rfl | hq
    · exact upd_same
    · rw [upd_ne (ne_of_none (w.at_ q hq) h)]; exact w.at_ q hq
  · rcases List.mem_cons.mp hq with rfl | hq
    · cases e : F p with
      | none => rfl
      | some u =>
        have z := w.fr p u e
        rw [h] at z; cases z
    · exact w.off q hq
/-- what stood at p in the ledger is another thing now -/
theorem W.mut (w : W F L H) (i : Nat) (h : L[i]? = some (p, o)) (hb : But p H H') (hp : H' p = some o') : W F (L.set i (p, o')) H' := by
  have hm : (L.set i (p, o')).map (·.1) = L.map (·.1) := by
    obtain ⟨hi, e⟩ := List.getElem?_eq_some_iff.mp h
    rw [List.map_set]
    apply List.ext_getElem?
    intro n
    by_cases hn : i = n
    · subst hn
      rw [List.getElem?_set_self (by simpa using hi), List.getElem?_map, h]
      rfl
    · rw [List.getElem?_set_ne hn]
  have hF : F p = none := w.offI i h
  have key : ∀ q ∈ L.set i (p, o'), q = (p, o') ∨ (q ∈ L ∧ q.1 ≠ p) := fun q hq => by
    obtain ⟨n, hn, e⟩ := List.mem_iff_getElem.mp hq
    by_cases hi : i = n
    · subst hi
      rw [List.getElem_set_self] at e
      exact .inl e.symm
    · rw [List.getElem_set_ne hi] at e
      refine .inr ⟨e ▸ List.getElem_mem _, fun z => hi ?_⟩
      obtain ⟨hi', e'⟩ := List.getElem?_eq_some_iff.mp h
      have hn' : n < L.length := by simpa using hn
      have nd := w.nd
      have := (List.getElem_inj (i := i) (j := n) (h₀ := by simpa using hi') (h₁ := by simpa using hn') nd).mp (by rw [List.getElem_map, List.getElem_map, e', e]; exact z.symm)
      exact this
  refine ⟨fun b u e => hb b u (fun z => by rw [z, hF] at e; cases e) (w.fr b u e), by rw [hm]; exact w.nd, fun q hq => ?_, fun q hq => ?_⟩
  · rcases key q hq with rfl | ⟨h1, h2⟩
    · exact hp
    · exact hb _ _ h2 (w.at_ q h1)
  · rcases key q hq with rfl | ⟨h1, h2⟩
    · exact hF
    · exact w.off q h1
theorem But.upd : But p H (upd H p o) := fun b u hb e => by rw [upd_ne hb]; exact e
theorem W.upd (w : W F L H) (i : Nat) (h : L[i]? = some (p, o)) : W F (L.set i (p, o')) (upd H p o') := w.mut i h But.upd upd_same
/-- a call that changed nothing that stood -/
theorem W.grow (w : W F L H) (s : Same H H') : W F L H' := ⟨w.fr.trans s, w.nd, fun q hq => s _ _ (w.at_ q hq), w.off⟩
/-- a new thing of a call's -/
theorem W.add (w' : W F L' H') (w : W F L H) (hr : H r = none) (hr' : H' r = some o) (hm : L'.map (·.1) = L.map (·.1) := by rfl) : W F ((r, o) :: L') H' := by
  refine ⟨w'.fr, ?_, fun q hq => ?_, fun q hq => ?_⟩
  · rw [List.map_cons, List.nodup_cons]
    refine ⟨fun hx => ?_, w'.nd⟩
    rw [hm] at hx
    obtain ⟨q, hq, e⟩ := List.mem_map.mp hx
    have z := w.at_ q hq
    rw [e, hr] at z
    cases z
  · rcases List.mem_cons.mp hq with rfl | hq
    · exact hr'
    · exact w'.at_ q hq
  · rcases List.mem_cons.mp hq with rfl | hq
    · cases e : F r with
      | none => rfl
      | some u =>
        have z := w.fr r u e
        rw [hr] at z; cases z
    · exact w'.off q hq
/-- it will not change any more -/
theorem W.frz (w : W F ((p, o) :: L) H) : Same F (L2.upd F p o) ∧ W (L2.upd F p o) L H := by
  have hF := w.off _ List.mem_cons_self
  have nd := List.nodup_cons.mp w.nd
  refine ⟨fun b u e => by rw [upd_ne (ne_of_none e hF)]; exact e, fun b u e => ?_, nd.2, fun q hq => w.at_ q (List.mem_cons_of_mem _ hq), fun q hq => ?_⟩
  · by_cases hb : b = p
    · subst hb; rw [upd_same] at e; cases e
      exact w.at_ _ List.mem_cons_self
    · rw [upd_ne hb] at e; exact w.fr b u e
  · have hb : q.1 ≠ p := fun z => nd.1 (List.mem_map.mpr ⟨q, hq, z⟩)
    rw [upd_ne hb]; exact w.off q (List.mem_cons_of_mem _ hq)
/-- it is of no more use -/
theorem W.drop (w : W F ((p, o) :: L) H) : W F L H := ⟨w.fr, (List.nodup_cons.mp w.nd).2, fun q hq => w.at_ q (List.mem_cons_of_mem _ hq), fun q hq => w.off q (List.mem_cons_of_mem _ hq)⟩
theorem W.perm (w : W F L H) (h : L.Perm L') : W F L' H := ⟨w.fr, (h.map _).nodup w.nd, fun q hq => w.at_ q (h.mem_iff.mpr hq), fun q hq => w.off q (h.mem_iff.mpr hq)⟩
theorem Same.but (s : Same H H') : But p H H' := fun b o _ e => s b o e
theorem But.trans {H1 : Hp} (a : But p H H1) (b : But p H1 H') : But p H H' := fun c o hc e => b c o hc (a c o hc e)
/-- what a caller keeps: all that stood but p -/
theorem W.but (w : W (L2.rem H r) ((r, o) :: L) H') : But r H H' := fun b u hb e => w.fr b u (by rw [rem_ne hb]; exact e)
end
end L2
/-! The built-in names: none of them is bound by the module. -/
namespace L2
open PySem PySem.Spec PyProof.Rows
structure Blt (mg : Str → Option Value) : Prop where
  len : mg "len" = none
  abs : mg "abs" = none
  max : mg "max" = none
  min : mg "min" = none
  sum : mg "sum" = none
  sorted : mg "sorted" = none
  isinstance : mg "isinstance" = none
  iter : mg "iter" = none
  ord : mg "ord" = none
  any : mg "any" = none
  all : mg "all" = none
  int : mg "int" = none
  bool : mg "bool" = none
  str : mg "str" = none
  list : mg "list" = none
  tuple : mg "tuple" = none
  dict : mg "dict" = none
  set : mg "set" = none
  range : mg "range" = none
  enumerate : mg "enumerate" = none
  zip : mg "zip" = none
  reversed : mg "reversed" = none
  super : mg "super" = none
  ValueError : mg "ValueError" = none
theorem bt_len : bootBuiltins "len" = some (.builtin "len") := by first | boot_by_name | decide +kernel
theorem bt_abs : bootBuiltins "abs" = some (.builtin "abs") := by first | boot_by_name | decide +kernel
theorem bt_max : bootBuiltins "max" = some (.builtin "max") := by first | boot_by_name | decide +kernel
theorem bt_min : bootBuiltins "min" = some (.builtin "min") := by first | boot_by_name | decide +kernel
theorem bt_sum : bootBuiltins "sum" = some (.builtin "sum") := by first | boot_by_name | decide +kernel
theorem bt_sorted : bootBuiltins "sorted" = some (.builtin "sorted") := by first | boot_by_name | decide +kernel
theorem bt_isinstance : bootBuiltins "isinstance" = some (.builtin "isinstance") := by first | boot_by_name | decide +kernel
theorem bt_iter : bootBuiltins "iter" = some (.builtin "iter") := by first | boot_by_name | decide +kernel
theorem bt_ord : bootBuiltins "ord" = some (.builtin "ord") := by first | boot_by_name | decide +kernel
theorem bt_any : bootBuiltins "any" = some (.builtin "any") := by first | boot_by_name | decide +kernel
theorem bt_all : bootBuiltins "all" = some (.builtin "all") := by first | boot_by_name | decide +kernel
theorem bt_int : bootBuiltins "int" = some (.type "int") := by first | boot_by_name | decide +kernel
theorem bt_bool : bootBuiltins "bool" = some (.type "bool") := by first | boot_by_name | decide +kernel
theorem bt_str : bootBuiltins "str" = some (.type "str") := by first | boot_by_name | decide +kernel
theorem bt_list : bootBuiltins "list" = some (.type "list") := by first | boot_by_name | decide +kernel
theorem bt_tuple : bootBuiltins "tuple" = some (.type "tuple") := by first | boot_by_name | decide +kernel
theorem bt_dict : bootBuiltins "dict" = some (.type "dict") := by first | boot_by_name | decide +kernel
theorem bt_set : bootBuiltins "set" = some (.type "set") := by first | boot_by_name | decide +kernel
theorem bt_range : bootBuiltins "range" = some (.type "range") := by first | boot_by_name | decide +kernel
theorem bt_enumerate : bootBuiltins "enumerate" = some (.type "enumerate") := by first | boot_by_name | decide +kernel
theorem bt_zip : bootBuiltins "zip" = some (.type "zip") := by first | boot_by_name | decide +kernel
theorem bt_reversed : bootBuiltins "reversed" = some (.type "reversed") := by first | boot_by_name | decide +kernel
theorem bt_super : bootBuiltins "super" = some (.type "super") := by first | boot_by_name | decide +kernel
theorem bt_ValueError : bootBuiltins "ValueError" = some (.type "ValueError") := by first | boot_by_name | decide +kernel
theorem Blt.of {K : PySem.W.Frag} {h : Heap} {mg : Str → Option Value} (X : K.In h) (G : h.Ns mainGlobals mg)
    (z_len : PySem.W.nsIn K mainGlobals "len" = some none)    (z_abs : PySem.W.nsIn K mainGlobals "abs" = some none)    (z_max : PySem.W.nsIn K mainGlobals "max" = some none)    (z_min : PySem.W.nsIn K mainGlobals "min" = some none)    (z_sum : PySem.W.nsIn K mainGlobals "sum" = some none)    (z_sorted : PySem.W.nsIn K mainGlobals "sorted" = some none)    (z_isinstance : PySem.W.nsIn K mainGlobals "isinstance" = some none)    (z_iter : PySem.W.nsIn K mainGlobals "iter" = some none)    (z_ord : PySem.W.nsIn K mainGlobals "ord" = some none)    (z_any : PySem.W.nsIn K mainGlobals "any" = some none)    (z_all : PySem.W.nsIn K mainGlobals "all" = some none)    (z_int : PySem.W.nsIn K mainGlobals "int" = some none)    (z_bool : PySem.W.nsIn K mainGlobals "bool" = some none)    (z_str : PySem.W.nsIn K mainGlobals "str" = some none)    (z_list : PySem.W.nsIn K mainGlobals "list" = some none)    (z_tuple : PySem.W.nsIn K mainGlobals "tuple" = some none)    (z_dict : PySem.W.nsIn K mainGlobals "dict" = some none)    (z_set : PySem.W.nsIn K mainGlobals "set" = some none)    (z_range : PySem.W.nsIn K mainGlobals "range" = some none)    (z_enumerate : PySem.W.nsIn K mainGlobals "enumerate" = some none)    (z_zip : PySem.W.nsIn K mainGlobals "zip" = some none)    (z_reversed : PySem.W.nsIn K mainGlobals "reversed" = some none)    (z_super : PySem.W.nsIn K mainGlobals "super" = some none)    (z_ValueError : PySem.W.nsIn K mainGlobals "ValueError" = some none) : Blt mg := ⟨PySem.W.mg_none_of X G z_len, PySem.W.mg_none_of X G z_abs, PySem.W.mg_none_of X G z_max, PySem.W.mg_none_of X G z_min, PySem.W.mg_none_of X G z_sum, PySem.W.mg_none_of X G z_sorted, PySem.W.mg_none_of X G z_isinstance, PySem.W.mg_none_of X G z_iter, PySem.W.mg_none_of X G z_ord, PySem.W.mg_none_of X G z_any, PySem.W.mg_none_of X G z_all, PySem.W.mg_none_of X G z_int, PySem.W.mg_none_of X G z_bool, PySem.W.mg_none_of X G z_str, PySem.W.mg_none_of X G z_list, PySem.W.mg_none_of X G z_tuple, PySem.W.mg_none_of X G z_dict, PySem.W.mg_none_of X G z_set, PySem.W.mg_none_of X G z_range, PySem.W.mg_none_of X G z_enumerate, PySem.W.mg_none_of X G z_zip, PySem.W.mg_none_of X G z_reversed, PySem.W.mg_none_of X G z_super, PySem.W.mg_none_of X G z_ValueError⟩
end L2
/-! Nested data: what isinstance says of it; the same data. -/
namespace L2
open PySem PySem.Spec PyProof.Rows
def tyN : PyData → String
  | .none => "NoneType"
  | .bool _ => "bool"
  | .int _ => "int"
  | .str _ => "str"
  | .list _ => "list"
  | .tuple _ => "tuple"
  | .dict _ => "dict"
section
variable {K : PySem.W.Frag} {H H' : Hp} {v : V} {d : PyData} {Q : VK}
theorem Same.seqT {a : Addr} {xs : List V} (e : Same H H') (h : SqT K H a xs) : SqT K H' a xs := by
  rcases h with (h | ⟨o, h⟩) | h
  · exact .inl (.inl (e _ _ h))
  · exact .inl (.inr ⟨o, e _ _ h⟩)
  · exact .inr h
mutual
theorem Dp.mono (e : Same H H') : ∀ {v : V} {d : PyData}, Dp K H v d → Dp K H' v d
  | _, _, .non => .non
  | _, _, .bl b => .bl b
  | _, _, .int i => .int i
  | _, _, .str x => .str x
  | _, _, .lst h r => .lst (e.seq h) (DpAll.mono e r)
  | _, _, .tup h r => .tup (e.seqT h) (DpAll.mono e r)
theorem DpAll.mono (e : Same H H') : ∀ {vs : List V} {ds : List PyData}, DpAll K H vs ds → DpAll K H' vs ds
  | _, _, .nil => .nil
  | _, _, .cons h r => .cons (Dp.mono e h) (DpAll.mono e r)
end
theorem Dp.ty (h : Dp K H v d) : TyX K H v (.type (tyN d)) := by
  cases h with
  | non => exact .base .non
  | bl b => exact .base (.bl b)
  | int i => exact .base (.int i)
  | str x => exact .base (.str x)
  | lst h r =>
    rcases h with (h | ⟨o, h⟩) | ⟨o, its, n, h1, h2, _⟩
    · exact .base (.lst h)
    · exact .base (.frz h)
    · exact .kList h1 h2
  | tup h r =>
    rcases h with (h | ⟨o, h⟩) | ⟨o, its, n, h1, h2, _⟩
    · exact .base (.tup h)
    · exact .fTuple h
    · exact .kTuple h1 h2
theorem DpAll.length : ∀ {vs : List V} {ds : List PyData}, DpAll K H vs ds → vs.length = ds.length
  | _, _, .nil => rfl
  | _, _, .cons _ r => by simp [DpAll.length r]
theorem DpAll.get : ∀ {vs : List V} {ds : List PyData} {i : Nat} {d : PyData}, DpAll K H vs ds → ds[i]? = some d → ∃ v, vs[i]? = some v ∧ Dp K H v d
  | _, _, _, _, .nil, h => by simp at h
  | _, _, 0, _, .cons h r, e => by simp at e; subst e; exact ⟨_, rfl, h⟩
  | _, _, i + 1, d, .cons h r, e => by
    obtain ⟨v, h1, h2⟩ := DpAll.get (i := i) r (by simpa using e)
    exact ⟨v, by simpa using h1, h2⟩
theorem DpAll.ints : ∀ ns : List Int, DpAll K H (ns.map V.int) (ns.map PyData.int)
  | [] => .nil
  | n :: ns => .cons (.int n) (DpAll.ints ns)
theorem DpAll.strs : ∀ ns : List Str, DpAll K H (ns.map V.str) (ns.map PyData.str)
  | [] => .nil
  | n :: ns => .cons (.str n) (DpAll.strs ns)
theorem Dp.intL {a : Addr} {ns : List Int} (h : SqL K H a (ns.map V.int)) : Dp K H (.ref a) (.list (ns.map PyData.int)) := .lst h (DpAll.ints ns)
theorem Dp.intT {a : Addr} {ns : List Int} (h : SqT K H a (ns.map V.int)) : Dp K H (.ref a) (.tuple (ns.map PyData.int)) := .tup h (DpAll.ints ns)
/-- isinstance(v, T), T a built-in type -/
def isInt : PyData → Bool | .int _ => true | .bool _ => true | _ => false
def isBool : PyData → Bool | .bool _ => true | _ => false
def isStr : PyData → Bool | .str _ => true | _ => false
def isList : PyData → Bool | .list _ => true | _ => false
def isTuple : PyData → Bool | .tuple _ => true | _ => false
theorem isi_ty {T : String} {b : Bool} (h : Dp K H v d) (hb : kitB (tyN d) T = some b) (q : Q (.bl b) H) : rIsi K [v, .ty T] H Q :=
  ⟨v, .ty T, .type (tyN d), .type T, b, rfl, .ty T, h.ty, kit_ty hb, q⟩
theorem isi_int (h : Dp K H v d) (q : Q (.bl (isInt d)) H) : rIsi K [v, .ty "int"] H Q := isi_ty h (by
  cases d <;> first
    | (show kitB "NoneType" "int" = some false; decide +kernel)
    | (show kitB "bool" "int" = some true; decide +kernel)
    | (show kitB "int" "int" = some true; decide +kernel)
    | (show kitB "str" "int" = some false; decide +kernel)
    | (show kitB "list" "int" = some false; decide +kernel)
    | (show kitB "tuple" "int" = some false; decide +kernel)
    | (show kitB "dict" "int" = some false; decide +kernel)) q
theorem isi_bool (h : Dp K H v d) (q : Q (.bl (isBool d)) H) : rIsi K [v, .ty "bool"] H Q := isi_ty h (by
  cases d <;> first
    | (show kitB "NoneType" "bool" = some false; decide +kernel)
    | (show kitB "bool" "bool" = some true; decide +kernel)
    | (show kitB "int" "bool" = some false; decide +kernel)
    | (show kitB "str" "bool" = some false; decide +kernel)
    | (show kitB "list" "bool" = some false; decide +kernel)
    | (show kitB "tuple" "bool" = some false; decide +kernel)
    | (show kitB "dict" "bool" = some false; decide +kernel)) q
theorem isi_str (h : Dp K H v d) (q : Q (.bl (isStr d)) H) : rIsi K [v, .ty "str"] H Q := isi_ty h (by
  cases d <;> first
    | (show kitB "NoneType" "str" = some false; decide +kernel)
    | (show kitB "bool" "str" = some false; decide +kernel)
    | (show kitB "int" "str" = some false; decide +kernel)
    | (show kitB "str" "str" = some true; decide +kernel)
    | (show kitB "list" "str" = some false; decide +kernel)
    | (show kitB "tuple" "str" = some false; decide +kernel)
    | (show kitB "dict" "str" = some false; decide +kernel)) q
theorem isi_list (h : Dp K H v d) (q : Q (.bl (isList d)) H) : rIsi K [v, .ty "list"] H Q := isi_ty h (by
  cases d <;> first
    | (show kitB "NoneType" "list" = some false; decide +kernel)
    | (show kitB "bool" "list" = some false; decide +kernel)
    | (show kitB "int" "list" = some false; decide +kernel)
    | (show kitB "str" "list" = some false; decide +kernel)
    | (show kitB "list" "list" = some true; decide +kernel)
    | (show kitB "tuple" "list" = some false; decide +kernel)
    | (show kitB "dict" "list" = some false; decide +kernel)) q
theorem isi_tuple (h : Dp K H v d) (q : Q (.bl (isTuple d)) H) : rIsi K [v, .ty "tuple"] H Q := isi_ty h (by
  cases d <;> first
    | (show kitB "NoneType" "tuple" = some false; decide +kernel)
    | (show kitB "bool" "tuple" = some false; decide +kernel)
    | (show kitB "int" "tuple" = some false; decide +kernel)
    | (show kitB "str" "tuple" = some false; decide +kernel)
    | (show kitB "list" "tuple" = some false; decide +kernel)
    | (show kitB "tuple" "tuple" = some true; decide +kernel)
    | (show kitB "dict" "tuple" = some false; decide +kernel)) q
end
/-! ### the same data -/
mutual
def sm : PyData → PyData → Bool
  | .none, .none => true
  | .bool c, .bool b => c == b
  | .int j, .int i => j == i
  | .str t, .str s => t == s
  | .tuple gs, .tuple ds => smL gs ds
  | .list gs, .list ds => smL gs ds
  | _, _ => false
def smL : List PyData → List PyData → Bool
  | [], [] => true
  | g :: gs, d :: ds => sm g d && smL gs ds
  | _, _ => false
end
def fits : Nat → PyData → Prop
  | _, .none => True
  | _, .bool _ => True
  | _, .int _ => True
  | _, .str _ => True
  | n + 1, .tuple ds => ds.length ≤ 100000 ∧ ∀ d ∈ ds, fits n d
  | n + 1, .list ds => ds.length ≤ 100000 ∧ ∀ d ∈ ds, fits n d
  | _, _ => False
theorem smL_len : ∀ {gs ds : List PyData}, smL gs ds = true → gs.length = ds.length
  | [], [], _ => rfl
  | g :: gs, d :: ds, h => by
    simp only [smL, Bool.and_eq_true] at h
    simp [smL_len h.2]
theorem smL_all : ∀ {gs ds : List PyData}, gs.length = ds.length → smL gs ds = (List.range ds.length).all fun i => sm (gs.getD i .none) (ds.getD i .none)
  | [], [], _ => by simp [smL]
  | g :: gs, d :: ds, h => by
    have ih := smL_all (gs := gs) (ds := ds) (by simpa using h)
    rw [smL, ih, List.length_cons, List.range_succ_eq_map, List.all_cons, List.all_map]
    rfl
  | [], _ :: _, h => by simp at h
  | _ :: _, [], h => by simp at h
theorem sm_refl : ∀ (n : Nat) (d : PyData), fits n d → sm d d = true
  | _, .none, _ => by simp [sm]
  | _, .bool _, _ => by simp [sm]
  | _, .int _, _ => by simp [sm]
  | _, .str _, _ => by simp [sm]
  | n + 1, .tuple ds, h => by
    rw [sm, smL_all rfl, List.all_eq_true]
    intro i hi
    have hi' : i < ds.length := List.mem_range.mp hi
    have : ds.getD i .none = ds[i] := by simp [hi']
    rw [this]
    exact sm_refl n _ (h.2 _ (List.getElem_mem hi'))
  | n + 1, .list ds, h => by
    rw [sm, smL_all rfl, List.all_eq_true]
    intro i hi
    have hi' : i < ds.length := List.mem_range.mp hi
    have : ds.getD i .none = ds[i] := by simp [hi']
    rw [this]
    exact sm_refl n _ (h.2 _ (List.getElem_mem hi'))
  | _, .dict _, h => by cases ‹Nat› <;> exact h.elim
  | 0, .tuple _, h => h.elim
  | 0, .list _, h => h.elim
theorem sm_eq {n : Nat} {g d : PyData} (e : g = d) (h : fits n d) : sm g d = true := by rw [e]; exact sm_refl n d h
end L2
/-! The error classes of the text. -/
namespace L2
open PySem PySem.Spec PyProof.Rows
/-- an exception class of the text that stands at C -/
structure ExcB (K : PySem.W.Frag) (mg : Str → Option Value) (x : Str) (C : Addr) : Prop where
  g : mg x = some (.ref C)
  exC : PySem.W.subIn K (.ref C) (.type "BaseException") = some true
  veC : PySem.W.subIn K (.ref C) (.type "ValueError") = some true
  tyC : PySem.W.typeIn K (.ref C) = some (.type "type")
  hdC : PySem.W.hasDictIn K C = true
  seC : PySem.W.subIn K (.ref C) (.ref C) = some true
  ex : ExcC K C
  xf : XfC K C
/-- .. with fields -/
structure ErrC (K : PySem.W.Frag) (mg : Str → Option Value) (x : Str) (C fI : Addr) (fs : List Str) : Prop extends ExcB K mg x C where
  txt : PySem.NKE.ErrTxt K C fI fs
section
variable {K : PySem.W.Frag} {mg : Str → Option Value} {x : Str} {C D : Addr} {b : Bool}
theorem ExcB.cls (h : ExcB K mg x C) : (PySem.W.clsIn K C).isSome = true := by
  obtain ⟨cd, hc, _⟩ := PySem.W.any_some h.hdC
  rw [hc]; rfl
theorem ExcB.kit (h : ExcB K mg x C) {t : Value} (s : PySem.W.subIn K t (.ref C) = some b) : PySem.W.kitCls K t (.ref C) = some b := by
  have e2 : ((PySem.W.clsIn K C).isSome && PySem.W.typeIn K (.ref C) == some (.type "type")) = true := by rw [h.cls, h.tyC] <;> rfl
  show (if ((PySem.W.clsIn K C).isSome && PySem.W.typeIn K (.ref C) == some (.type "type")) = true then PySem.W.subIn K t (.ref C) else none) = some b
  rw [if_pos e2]; exact s
theorem ExcB.kit1 (h : ExcB K mg x C) {D : Addr} (s : PySem.W.subIn K (.ref D) (.ref C) = some b) : PySem.W.kitOne K (.ref D) (.ref C) = some b := by
  unfold PySem.W.kitOne
  by_cases e : D = C
  · subst e
    rw [h.seC] at s
    cases s
    rw [if_pos (by simp)]
  · rw [if_neg (by simp [e])]
    exact h.kit s
theorem ExcB.exm (h : ExcB K mg x C) {t : Value} (s : PySem.W.subIn K t (.ref C) = some b) : PySem.W.exmOne K t (.ref C) = some b := by
  have e1 : (PySem.W.subIn K (.ref C) (.type "BaseException") == some true) = true := by rw [h.exC] <;> rfl
  show (if (PySem.W.subIn K (.ref C) (.type "BaseException") == some true) = true then PySem.W.kitCls K t (.ref C) else none) = some b
  rw [if_pos e1]; exact h.kit s
theorem kit_VE {t : Addr} (s : PySem.W.subIn K (.ref t) (.type "ValueError") = some b) : PySem.W.kitOne K (.ref t) (.type "ValueError") = some b := by
  unfold PySem.W.kitOne
  rw [if_neg (by simp)]
  show (if PySem.W.kitMeta "ValueError" = true then PySem.W.subIn K (.ref t) (.type "ValueError") else none) = some b
  rw [if_pos (by decide +kernel)]; exact s
/-- isinstance of the error at hand -/
theorem w_isX {a : Addr} {d : Addr} {H : Hp} {Q : VK} {fs : List (Str × V)} (h : ExcB K mg x C) (hd : H d = some (.xd fs)) (s : PySem.W.subIn K (.ref D) (.ref C) = some b) (q : Q (.bl b) H) : rIsX K D a (.ref D) (some d) [.ref a, .ref C] H Q :=
  ⟨.ref C, .ref C, b, rfl, rfl, fun u r => r, fun dd e => by cases e; exact ⟨fs, hd⟩, h.kit1 s, q⟩
theorem w_isX0 {a : Addr} {H : Hp} {Q : VK} (h : ExcB K mg x C) (s : PySem.W.subIn K (.ref D) (.ref C) = some b) (q : Q (.bl b) H) : rIsX K D a (.ref D) none [.ref a, .ref C] H Q :=
  ⟨.ref C, .ref C, b, rfl, rfl, fun u r => r, fun dd e => (by cases e), h.kit1 s, q⟩
theorem w_isXV {a : Addr} {d : Addr} {H : Hp} {Q : VK} {fs : List (Str × V)} (hd : H d = some (.xd fs)) (s : PySem.W.subIn K (.ref D) (.type "ValueError") = some b) (q : Q (.bl b) H) : rIsX K D a (.ref D) (some d) [.ref a, .ty "ValueError"] H Q :=
  ⟨.ty "ValueError", .type "ValueError", b, rfl, rfl, fun u r => r, fun dd e => by cases e; exact ⟨fs, hd⟩, kit_VE s, q⟩
theorem w_isXV0 {a : Addr} {H : Hp} {Q : VK} (s : PySem.W.subIn K (.ref D) (.type "ValueError") = some b) (q : Q (.bl b) H) : rIsX K D a (.ref D) none [.ref a, .ty "ValueError"] H Q :=
  ⟨.ty "ValueError", .type "ValueError", b, rfl, rfl, fun u r => r, fun dd e => (by cases e), kit_VE s, q⟩
/-- a new error -/
def mkE (C : Addr) (fs : List Str) (vs : List V) (H1 : Hp) (Q : XK) : Prop := vs.length = fs.length ∧ ∀ d, H1 d = none → Q (.ref C) (some d) (upd H1 d (.xd (fs.zip vs)))
theorem s_mk {fs : List Str} {ta : TA} {σ : St} {H : Hp} {Q : XK} : tMkErr C fs ta σ H Q = ta σ H (fun vs H1 => mkE C fs vs H1 Q) := rfl
/-- a field of the error at hand -/
def xfV (a : Addr) (cls : Value) (d : Option Addr) (C : Addr) (f : Str) (x : V) (H : Hp) (Q : VK) : Prop := x = .ref a ∧ cls = .ref C ∧ ∃ (dd : Addr) (fs : List (Str × V)) (v : V), d = some dd ∧ H dd = some (.xd fs) ∧ fs.lookup f = some v ∧ Q v H
theorem s_xf {a : Addr} {cls : Value} {d : Option Addr} {f : Str} {te : TE} {σ : St} {H : Hp} {Q : VK} : tXf a cls d C f te σ H Q = te σ H (fun x H1 => xfV a cls d C f x H1 Q) := rfl
theorem w_xf {a d : Addr} {f : Str} {H : Hp} {Q : VK} {fs : List (Str × V)} {v : V} (hd : H d = some (.xd fs)) (l : fs.lookup f = some v) (q : Q v H) : xfV a (.ref C) (some d) C f (.ref a) H Q := ⟨rfl, rfl, d, fs, v, rfl, hd, l, q⟩
end
end L2
/-! More readings. -/
namespace L2
open PySem PySem.Spec PyProof.Rows
section
variable {K : PySem.W.Frag} {F H H' : Hp} {L : List (Addr × HO)} {a b p r : Addr} {o o' : HO} {Q : VK} {ns ms : List Int} {xs : List V}
theorem eqv_ints : PyData.eqv (.list (ns.map PyData.int)) (.list (ms.map PyData.int)) = decide (ns = ms) := by
  rw [PyData.eqv]; exact PySem.W.ked_eqvAll ns ms
theorem w_neIL (h : SqL K H a (ns.map V.int)) (h' : SqL K H b (ms.map V.int)) (q : Q (.bl (!decide (ns = ms))) H) : aNe K (.ref a) (.ref b) H Q :=
  ⟨_, _, Dp.intL h, Dp.intL h', PySem.W.ke_shaped_ints ns, PySem.W.ke_shaped_ints ms, by rw [eqv_ints]; exact q⟩
theorem w_eqIL (h : SqL K H a (ns.map V.int)) (h' : SqL K H b (ms.map V.int)) (q : Q (.bl (decide (ns = ms))) H) : aEq K (.ref a) (.ref b) H Q :=
  ⟨_, _, Dp.intL h, Dp.intL h', PySem.W.ke_shaped_ints ns, PySem.W.ke_shaped_ints ms, by rw [eqv_ints]; exact q⟩
theorem w_sum (h : SqL K H a (ns.map V.int)) (q : Q (.int ns.sum) H) : rSum K [.ref a] H Q := ⟨a, ns, rfl, h, q⟩
/-- [x] * k -/
theorem w_rep1 {x : V} {k : Int} (h : H p = some (.lst [x])) (h1 : -9223372036854775808 ≤ k) (h2 : k ≤ 100000) (q : ∀ r, H r = none → Q (.ref r) (upd H r (.lst (List.replicate k.toNat x)))) : aMul K (.ref p) (.int k) H Q := by
  refine ⟨p, k, [x], rfl, rfl, h, by omega, by omega, ?_, fun r hr => ?_⟩
  · have : k.toNat ≤ 100000 := by omega
    simp only [List.length_singleton, Nat.one_mul]
    exact Nat.le_of_lt (small1000' this)
  · have := q r hr
    rwa [List.flatten_replicate_singleton]
theorem at_last (h : 0 < ns.length) : atI (ns.map V.int) (-1) = some (.int (ns.getD (ns.length - 1) 0)) := by
  have hj : ns.length - 1 < ns.length := by omega
  have e : ixN (ns.map V.int).length (-1) = some (ns.length - 1) := by
    unfold ixN
    rw [List.length_map, if_neg (by decide), if_pos (by omega)]
    congr 1; omega
  unfold atI
  rw [e]
  simp [hj]
theorem FnAt.no {P : Program} {w : World} {mg : Str → Option Value} {base : Heap} {f : Addr} {fd : FuncData} {x : Str} {st : Stmt} {ps : List Str} {k : Nat} (F : Fun K x x st f fd) (hm : mg x = some (.ref f)) (hb : Binds K fd ps []) : FnAt P w K mg base k x ps (fun _ _ _ _ => False) :=
  ⟨f, fd, ⟨fun _ _ _ _ h => h.elim, fun _ _ _ _ _ _ _ _ _ _ _ _ _ h => h.elim⟩, hm, F.kp, hb⟩
section
variable {t u : TS} {D : Ends} {σ : St}
/-- an if whose ways meet again: J holds there -/
theorem w_brJ {p : Prop} [Decidable p] (J : St → Hp → Prop) (hJ : ∀ σ H, J σ H → D.nx σ H) (h1 : p → ∀ nx : St → Hp → Prop, (∀ σ H, J σ H → nx σ H) → t { D with nx := nx } σ H) (h2 : ¬ p → ∀ nx : St → Hp → Prop, (∀ σ H, J σ H → nx σ H) → u { D with nx := nx } σ H) : tBr t u D σ (decide p) H := by
  by_cases h : p
  · rw [decide_eq_true h]; exact h1 h D.nx hJ
  · rw [decide_eq_false h]; exact h2 h D.nx hJ
theorem w_brJN {p : Prop} [Decidable p] (J : St → Hp → Prop) (hJ : ∀ σ H, J σ H → D.nx σ H) (h1 : ¬ p → ∀ nx : St → Hp → Prop, (∀ σ H, J σ H → nx σ H) → t { D with nx := nx } σ H) (h2 : p → ∀ nx : St → Hp → Prop, (∀ σ H, J σ H → nx σ H) → u { D with nx := nx } σ H) : tBr t u D σ (!decide p) H := by
  by_cases h : p
  · rw [decide_eq_true h]; exact h2 h D.nx hJ
  · rw [decide_eq_false h]; exact h1 h D.nx hJ
theorem w_brJB {b : Bool} (J : St → Hp → Prop) (hJ : ∀ σ H, J σ H → D.nx σ H) (h1 : b = true → ∀ nx : St → Hp → Prop, (∀ σ H, J σ H → nx σ H) → t { D with nx := nx } σ H) (h2 : b = false → ∀ nx : St → Hp → Prop, (∀ σ H, J σ H → nx σ H) → u { D with nx := nx } σ H) : tBr t u D σ b H := by
  cases b with
  | true => exact h1 rfl D.nx hJ
  | false => exact h2 rfl D.nx hJ
end
theorem s_yes {σ : St} {QT : Bool → Hp → Prop} : tYes σ H QT = QT true H := rfl
theorem W.noF (w : W F L H) (h : H r = none) : F r = none := by
  cases e : F r with
  | none => rfl
  | some u => rw [w.fr r u e] at h; cases h
theorem W.noL (w : W F L H) (h : H r = none) : r ∉ L.map (·.1) := fun hm => by
  obtain ⟨q, hq, e⟩ := List.mem_map.mp hm
  have z := w.at_ q hq
  rw [e, h] at z
  cases z
theorem W.ins (w : W F L H) (h1 : F r = none) (h2 : r ∉ L.map (·.1)) (h3 : H r = some o) : W F ((r, o) :: L) H := by
  refine ⟨w.fr, List.nodup_cons.mpr ⟨h2, w.nd⟩, fun q hq => ?_, fun q hq => ?_⟩
  · rcases List.mem_cons.mp hq with rfl | hq
    · exact h3
    · exact w.at_ q hq
  · rcases List.mem_cons.mp hq with rfl | hq
    · exact h1
    · exact w.off q hq
/-- two new things -/
theorem W.add2 {L' : List (Addr × HO)} {c : Addr} (w' : W F L' H') (w : W F L H) (hr : H r = none) (hc : H c = none) (hr' : H' r = some o) (hc' : H' c = some o') (hne : o ≠ o') (hm : L'.map (·.1) = L.map (·.1) := by rfl) : W F ((r, o) :: (c, o') :: L') H' := by
  refine (w'.ins (w.noF hc) (by rw [hm]; exact w.noL hc) hc').ins (w.noF hr) ?_ hr'
  rw [List.map_cons, List.mem_cons, hm]
  rintro (z | z)
  · have z' : r = c := z
    subst z'
    rw [hr'] at hc'
    exact hne (Option.some.inj hc')
  · exact w.noL hr z
/-- what stands in F stands beside p -/
theorem W.frem (w : W F L H) (i : Nat) (h : L[i]? = some (p, o)) : Same F (rem H p) := fun b u e => by
  rw [rem_ne (ne_of_none e (w.offI i h))]; exact w.fr b u e
end
end L2
/-! What the written part must say, premise by premise. -/
namespace L2
open PySem PySem.Spec PyProof.Rows PySem.W PySem.NKE
section
variable {K : PySem.W.Frag} {h : Heap} {mg : Str → Option Value} {x : Str} {C fI : Addr} {fs : List Str}
theorem ExcB.of (X : K.In h) (G : h.Ns mainGlobals mg) (aC : nsIn K mainGlobals x = some (some (.ref C))) (exC : subIn K (.ref C) (.type "BaseException") = some true) (veC : subIn K (.ref C) (.type "ValueError") = some true)
    (tyC : typeIn K (.ref C) = some (.type "type")) (hdC : hasDictIn K C = true) (seC : subIn K (.ref C) (.ref C) = some true) (hg : findIn K (.ref C) "__getattribute__" = some (some (.builtin "BaseException.__getattribute__"))) (hk : findIn K (.ref C) "__getattr__" = some none)
    (ha : findIn K (.ref C) "__class__" = some (some (.builtin "object.__class__"))) (hn : specialIn K (.builtin "object.__class__") "__get__" = some (some (.builtin "getset_descriptor.__get__"))) (ht : takesIn K (.builtin "object.__class__") = some true) (hm : mroIn K C (.type "object") = some true) : ExcB K mg x C :=
  ⟨mg_of X G aC, exC, veC, tyC, hdC, seC, ⟨hg, hk, exC, hdC, ha, hn, ht, hm⟩, ⟨hg, hk, exC, hdC⟩⟩
/-- what the text of __init__ is -/
structure SupInit (st : Stmt) (fs : List Str) : Prop where
  ar : ∃ ar, ((defArgs st).posonlyargs ++ (defArgs st).args).head? = some ar ∧ ar.arg = "self"
  body : ∃ s0 sts, defBody st = s0 :: sts ∧ IsSup s0 ∧ IsFlds fs sts
  sup : (defScope st).names.lookup ("super" : Str) = some .globalImplicit
  cls : (defScope st).names.lookup ("__class__" : Str) = some .free
  loc : ∀ f ∈ ("self" : Str) :: fs, (defScope st).names.lookup f = some .local
  kind : (defScope st).kind = .function
  noc : ∀ x ∈ (defScope st).names, x.2 ≠ .cell
  coro : (defScope st).isCoroutine = false
  gen : (defScope st).isGenerator = false
  bind : ∀ (qual : Str) (dV kV doc pm : Value) (an : Option Addr) (cd ct : Value) (cc : Addr) (us : List Value), dV = .none → us.length = fs.length + 1 → bindArgs (ksFn "__init__" qual (defArgs st) (defBody st) (defScope st) dV kV doc pm an cd ct cc) ⟨us, []⟩ = pure ((("self" : Str) :: fs).zip us)
  nd : (("self" : Str) :: fs).Nodup
  nodbg : ∀ f ∈ fs, (f == ("__debug__" : Str)) = false
theorem ErrTxt.of {st : Stmt} {qual : Str} (S : SupInit st fs) {nm q : Str} {N : Addr} {bs bm : List Value} {sn : List Str} {sub : List Value} {ab : Bool} {col : Option Bool} {dd : Option Addr} {k0 k1 k2 k3 k5 : Option Value}
    {oc kV doc pm ct ccl cl : Value} {od an cdd cld : Option Addr} {osl ccs csl : Array (Option Value)} {cda cc : Addr} {vs : Array Value} {file : Str} {tf : Tok}
    (B : ExcB K mg x C) (lC : K.lookup C = some (excClassObj nm q C N bs bm true sn sub ab col dd k0 k1 k2 k3 k5 "ValueError.__new__")) (hb : PySem.HandSPX.refsVE bm = true)
    (sa : findIn K (.ref C) "__setattr__" = some (some (.builtin "object.__setattr__"))) (noN : ∀ f ∈ fs, findIn K (.ref C) f = some none) (iC : findIn K (.ref C) "__init__" = some (some (.ref fI))) (tC : typeIn K (.ref fI) = some (.type "function")) (kC : keepIn K (.ref C) = true)
    (sup : ks_superIn K C C "__init__" = some (some (.builtin "ValueError.__init__"))) (selfC : mroIn K C (.ref C) = some true) (tp : nsIn K cStatics "thirdparty.any" = some none) (nosup : nsIn K mainGlobals "super" = some none)
    (lI : K.lookup fI = some ⟨oc, od, .func (ksFn "__init__" qual (defArgs st) (defBody st) (defScope st) .none kV doc pm an (.ref cda) ct cc), osl⟩) (cI : codeIn K (.ref cda) qual = true)
    (lK : K.lookup cda = some ⟨ccl, cdd, .fields vs, ccs⟩) (hf : vs[2]? = some (.str file tf)) (hf2 : ((("/claim/cut.py" : Str)) == file) = true) (lc : K.lookup cc = some ⟨cl, cld, .cell (some (.ref C)), csl⟩) : ErrC K mg x C fI fs := by
  refine ⟨B, ⟨⟨nm, q, N, bs, bm, sn, sub, ab, col, dd, k0, k1, k2, k3, k5, lC, hb⟩, sa, noN, iC, tC, kC, B.exC, B.veC, B.tyC, sup, selfC, tp, nosup, ?_⟩⟩
  obtain ⟨ar, h1, h2⟩ := S.ar
  obtain ⟨s0, sts, h3, h4, h5⟩ := S.body
  exact ⟨oc, od, qual, _, _, _, _, kV, doc, pm, an, cda, ct, osl, cc, ar, ccl, cl, cdd, cld, vs, file, tf, ccs, csl, s0, sts, lI, cI, h1, h2, lK, hf, hf2, lc, h3, h4, h5, S.sup, S.cls, S.loc, S.kind, S.noc, S.coro, S.gen, fun us => S.bind _ _ _ _ _ _ _ _ _ us rfl, S.nd, S.nodbg⟩
end
end L2
/-! rows that fall, and their turned rows: plain Lean -/
namespace Row
/-- the entry at i is wrong -/
def Wr (ns : List Int) (i : Nat) : Prop := ns.getD i 0 < 1 ∨ (0 < i ∧ ns.getD (i - 1) 0 < ns.getD i 0)
instance (ns : List Int) (i : Nat) : Decidable (Wr ns i) := by unfold Wr; infer_instance
def Falling (ns : List Int) : Prop := ∀ i < ns.length, ¬ Wr ns i
/-- the first wrong place is i -/
def First (ns : List Int) (i : Nat) : Prop := i < ns.length ∧ Wr ns i ∧ ∀ j < i, ¬ Wr ns j
theorem First.uniq {ns : List Int} {i j : Nat} (h : First ns i) (h' : First ns j) : i = j := by
  rcases Nat.lt_trichotomy i j with l | l | l
  · exact absurd h.2.1 (h'.2.2 i l)
  · exact l
  · exact absurd h'.2.1 (h.2.2 j l)
theorem First.not {ns : List Int} {i : Nat} (h : First ns i) : ¬ Falling ns := fun f => f i h.1 h.2.1
theorem first_of {ns : List Int} (h : ¬ Falling ns) : ∃ i, First ns i := by
  have key : ∀ n, n ≤ ns.length → (∀ i < n, ¬ Wr ns i) ∨ ∃ i, First ns i := by
    intro n
    induction n with
    | zero => intro _; exact .inl fun i hi => absurd hi (Nat.not_lt_zero _)
    | succ n ih =>
      intro hn
      rcases ih (by omega) with h1 | h1
      · by_cases hw : Wr ns n
        · exact .inr ⟨n, by omega, hw, h1⟩
        · refine .inl fun i hi => ?_
          by_cases e : i = n
          · subst e; exact hw
          · exact h1 i (by omega)
      · exact .inr h1
  rcases key ns.length (Nat.le_refl _) with h1 | h1
  · exact absurd h1 h
  · exact h1
theorem Falling.pos {ns : List Int} (h : Falling ns) {i : Nat} (hi : i < ns.length) : 1 ≤ ns.getD i 0 := by
  have := h i hi
  unfold Wr at this
  omega
theorem Falling.step {ns : List Int} (h : Falling ns) {i : Nat} (hi : i + 1 < ns.length) : ns.getD (i + 1) 0 ≤ ns.getD i 0 := by
  have := h (i + 1) hi
  unfold Wr at this
  have e : i + 1 - 1 = i := by omega
  rw [e] at this
  omega
theorem Falling.le {ns : List Int} (h : Falling ns) {i j : Nat} (hij : i ≤ j) (hj : j < ns.length) : ns.getD j 0 ≤ ns.getD i 0 := by
  induction j with
  | zero => have : i = 0 := by omega
            subst this; exact Int.le_refl _
  | succ j ih =>
    by_cases e : i = j + 1
    · subst e; exact Int.le_refl _
    · exact Int.le_trans (h.step hj) (ih (by omega) (by omega))
/-- how many entries are above j -/
def cnt (ns : List Int) (j : Int) : Nat := ns.countP fun n => decide (j < n)
theorem cnt_le (ns : List Int) (j : Int) : cnt ns j ≤ ns.length := List.countP_le_length
/-- in a falling row these are the first ones -/
theorem cnt_prefix : ∀ {ns : List Int} {j : Int} {p : Nat}, p ≤ ns.length → (∀ i, i < p → j < ns.getD i 0) → (∀ i, p ≤ i → i < ns.length → ns.getD i 0 ≤ j) → cnt ns j = p
  | [], j, p, hp, _, _ => by simp at hp; subst hp; rfl
  | n :: ns, j, 0, _, _, h2 => by
    unfold cnt
    rw [List.countP_cons]
    have h0 : n ≤ j := h2 0 (Nat.le_refl _) (by simp)
    have ih : cnt ns j = 0 := cnt_prefix (p := 0) (Nat.zero_le _) (fun i hi => absurd hi (Nat.not_lt_zero _)) (fun i _ hi => h2 (i + 1) (Nat.zero_le _) (by simpa using hi))
    unfold cnt at ih
    rw [ih]
    simp; omega
  | n :: ns, j, p + 1, hp, h1, h2 => by
    unfold cnt
    rw [List.countP_cons]
    have h0 : j < n := h1 0 (by omega)
    have ih : cnt ns j = p := cnt_prefix (p := p) (by simpa using hp) (fun i hi => h1 (i + 1) (by omega)) (fun i a b => h2 (i + 1) (by omega) (by simpa using b))
    unfold cnt at ih
    rw [ih]
    simp [h0]
theorem cnt_iff {ns : List Int} (h : Falling ns) {i : Nat} (hi : i < ns.length) (j : Int) : j < ns.getD i 0 ↔ i < cnt ns j := by
  -- p: the first place at or below j
  have key : ∃ p, p ≤ ns.length ∧ (∀ i, i < p → j < ns.getD i 0) ∧ (∀ i, p ≤ i → i < ns.length → ns.getD i 0 ≤ j) := by
    have k : ∀ n, n ≤ ns.length → ∃ p, p ≤ n ∧ (∀ i, i < p → j < ns.getD i 0) ∧ (∀ i, p ≤ i → i < n → ns.getD i 0 ≤ j) := by
      intro n
      induction n with
      | zero => intro _; exact ⟨0, Nat.le_refl _, fun i hi => absurd hi (Nat.not_lt_zero _), fun i _ hi => absurd hi (Nat.not_lt_zero _)⟩
      | succ n ih =>
        intro hn
        obtain ⟨p, a, b, c⟩ := ih (by omega)
        by_cases e : p = n
        · subst e
          by_cases hj : j < ns.getD p 0
          · refine ⟨p + 1, Nat.le_refl _, fun i hi => ?_, fun i h1 h2 => by omega⟩
            by_cases e : i = p
            · subst e; exact hj
            · exact b i (by omega)
          · refine ⟨p, by omega, b, fun i h1 h2 => ?_⟩
            have : i = p := by omega
            subst this; omega
        · refine ⟨p, by omega, b, fun i h1 h2 => ?_⟩
          by_cases e2 : i = n
          · subst e2
            exact Int.le_trans (h.le h1 (by omega)) (c p (Nat.le_refl _) (by omega))
          · exact c i h1 (by omega)
    exact k ns.length (Nat.le_refl _)
  obtain ⟨p, a, b, c⟩ := key
  rw [cnt_prefix a b c]
  constructor
  · intro hj
    by_cases e : i < p
    · exact e
    · have := c i (by omega) hi
      omega
  · intro hp; exact b i hp
/-- the turned row -/
def conj (ns : List Int) : List Int := (List.range (ns.getD 0 0).toNat).map fun j => (cnt ns (j : Nat) : Int)
theorem conj_len (ns : List Int) : (conj ns).length = (ns.getD 0 0).toNat := by simp [conj]
theorem conj_at (ns : List Int) {j : Nat} (hj : j < (ns.getD 0 0).toNat) : (conj ns).getD j 0 = (cnt ns (j : Nat) : Int) := by
  unfold conj
  rw [List.getD_eq_getElem?_getD, List.getElem?_map, List.getElem?_range hj]
  rfl
theorem conj_falling {ns : List Int} (h : Falling ns) : Falling (conj ns) := by
  intro j hj
  rw [conj_len] at hj
  by_cases h0 : 0 < ns.length
  · unfold Wr
    rw [conj_at ns hj]
    have c0 : 0 < cnt ns (j : Nat) := (cnt_iff h h0 _).mp (by omega)
    rintro (h1 | ⟨h1, h2⟩)
    · omega
    · rw [conj_at ns (by omega)] at h2
      have mono : cnt ns (j : Nat) ≤ cnt ns ((j - 1 : Nat) : Int) := by
        unfold cnt
        refine List.countP_mono_left fun x _ hx => ?_
        simp at hx ⊢
        omega
      omega
  · have : ns = [] := List.length_eq_zero_iff.mp (by omega)
    subst this
    simp at hj
/-- turned twice it is as it was -/
theorem conj_conj {ns : List Int} (h : Falling ns) : conj (conj ns) = ns := by
  by_cases h0 : 0 < ns.length
  · have p0 := h.pos h0
    have c0 : cnt ns ((0 : Nat) : Int) = ns.length := cnt_prefix (Nat.le_refl _) (fun i hi => by have := h.pos hi; omega) (fun i a b => absurd b (by omega))
    have l : (conj ns).getD 0 0 = (ns.length : Int) := by rw [conj_at ns (by omega), c0]
    apply List.ext_getElem?
    intro i
    by_cases hi : i < ns.length
    · have e1 : (conj (conj ns)).getD i 0 = ns.getD i 0 := by
        rw [conj_at _ (by rw [l]; omega)]
        have : cnt (conj ns) (i : Nat) = (ns.getD i 0).toNat := by
          refine cnt_prefix ?_ (fun j hj => ?_) (fun j h1 h2 => ?_)
          · rw [conj_len]
            have := h.le (Nat.zero_le i) hi
            omega
          · have := h.le (Nat.zero_le i) hi
            rw [conj_at ns (by omega)]
            have := (cnt_iff h hi (j : Nat)).mp (by omega)
            omega
          · rw [conj_len] at h2
            rw [conj_at ns h2]
            have := mt (cnt_iff h hi (j : Nat)).mpr (by omega)
            omega
        rw [this]
        have := h.pos hi
        omega
      have hl : i < (conj (conj ns)).length := by rw [conj_len, l]; omega
      rw [List.getD_eq_getElem?_getD, List.getD_eq_getElem?_getD, List.getElem?_eq_getElem hl, List.getElem?_eq_getElem hi] at e1
      rw [List.getElem?_eq_getElem hl, List.getElem?_eq_getElem hi]
      exact congrArg some e1
    · have hl : (conj (conj ns)).length ≤ i := by rw [conj_len, l]; omega
      rw [List.getElem?_eq_none hl, List.getElem?_eq_none (by omega)]
  · have : ns = [] := List.length_eq_zero_iff.mp (by omega)
    subst this
    rfl
theorem Falling.nil : Falling [] := fun i hi => absurd hi (Nat.not_lt_zero _)
theorem getD_app1 {ns : List Int} {x : Int} {i : Nat} (h : i < ns.length) : (ns ++ [x]).getD i 0 = ns.getD i 0 := by
  rw [List.getD_eq_getElem?_getD, List.getD_eq_getElem?_getD, List.getElem?_append_left h]
theorem getD_app2 {ns : List Int} {x : Int} : (ns ++ [x]).getD ns.length 0 = x := by
  rw [List.getD_eq_getElem?_getD, List.getElem?_append_right (Nat.le_refl _)]; simp
theorem Falling.snoc {ns : List Int} {x : Int} (h : Falling ns) (h1 : 1 ≤ x) (h2 : 0 < ns.length → x ≤ ns.getD (ns.length - 1) 0) : Falling (ns ++ [x]) := by
  intro i hi
  rw [List.length_append, List.length_singleton] at hi
  by_cases e : i = ns.length
  · subst e
    unfold Wr
    rw [getD_app2]
    rintro (z | ⟨z, z'⟩)
    · omega
    · rw [getD_app1 (by omega)] at z'
      have := h2 z
      omega
  · have := h i (by omega)
    unfold Wr at this ⊢
    rw [getD_app1 (by omega), getD_app1 (by omega)]
    exact this
theorem cnt_take {ns : List Int} {i : Nat} (hi : i < ns.length) (j : Int) : cnt (ns.take (i + 1)) j = cnt (ns.take i) j + if j < ns.getD i 0 then 1 else 0 := by
  unfold cnt
  rw [List.take_succ_eq_append_getElem hi, List.countP_append, List.countP_singleton, List.getD_eq_getElem?_getD, List.getElem?_eq_getElem hi]
  simp
theorem eq_conj {ns cs : List Int} (hl : cs.length = (ns.getD 0 0).toNat) (h : ∀ j < cs.length, cs.getD j 0 = (cnt ns (j : Nat) : Int)) : cs = conj ns := by
  apply List.ext_getElem?
  intro j
  by_cases hj : j < cs.length
  · have e := h j hj
    rw [← conj_at ns (by omega)] at e
    have hl' : j < (conj ns).length := by rw [conj_len]; omega
    rw [List.getD_eq_getElem?_getD, List.getD_eq_getElem?_getD, List.getElem?_eq_getElem hj, List.getElem?_eq_getElem hl'] at e
    rw [List.getElem?_eq_getElem hj, List.getElem?_eq_getElem hl']
    exact congrArg some e
  · rw [List.getElem?_eq_none (by omega), List.getElem?_eq_none (by rw [conj_len]; omega)]
theorem getD_set {cs : List Int} {q j : Nat} {x : Int} (hq : q < cs.length) : (cs.set q x).getD j 0 = if j = q then x else cs.getD j 0 := by
  rw [List.getD_eq_getElem?_getD, List.getD_eq_getElem?_getD]
  by_cases e : j = q
  · subst e; rw [List.getElem?_set_self hq, if_pos rfl]; rfl
  · rw [List.getElem?_set_ne (by omega), if_neg e]
end Row
namespace Nk
open PySem L2
def topS (i : Nat) : Stmt := PySem.Challenge.pw_nightsoff_k32_turned_rows.main.body.getD i (.Pass ⟨0, 0, 0, 0⟩)
/-- the pool: [a, b, c] -/
def poolO (a b c : Int) : HO := .lst [.int a, .int b, .int c]
def POk (b : Int) : Prop := 0 ≤ b ∧ b < 2147483648
def spPool (K : PySem.W.Frag) : Sp := fun vs H Q _ => ∃ (a : Addr) (ns : List Int) (i : Nat), vs = [.ref a, .int i] ∧ SqL K H a (ns.map V.int) ∧
  ∀ (r : Addr) (x y z : Int), H r = none → POk y → Q (.ref r) (upd H r (poolO x y z))
def spDraw : Sp := fun vs H Q _ => ∃ (p : Addr) (m a b c : Int), vs = [.ref p, .int m] ∧ 0 < m ∧ m.natAbs.log2 < 9000 ∧ H p = some (poolO a b c) ∧ POk b ∧
  ∀ (v a' b' c' : Int), 0 ≤ v → v < m → POk b' → Q (.int v) (upd H p (poolO a' b' c'))
theorem w_draw {F H : Hp} {L : List (Addr × HO)} {p : Addr} {m a b c : Int} {Q : VK} {E : XK} (w : W F L H) (i : Nat) (hi : L[i]? = some (p, poolO a b c)) (hb : POk b) (hm : 0 < m) (hM : m ≤ 1000000000000000000000000000000000000000000000000000000000000)
    (q : ∀ v a' b' c' H', 0 ≤ v → v < m → POk b' → But p H H' → W F (L.set i (p, poolO a' b' c')) H' → Q (.int v) H') : spDraw [.ref p, .int m] H Q E := by
  refine ⟨p, m, a, b, c, rfl, hm, log2_lt (n := 200) hm ?_ (by decide) (by decide), w.get i hi, hb, fun v a' b' c' h0 h1 h2 => q v a' b' c' _ h0 h1 h2 But.upd (w.upd i hi)⟩
  have : (1000000000000000000000000000000000000000000000000000000000000 : Int).toNat < 2 ^ 200 := by decide
  omega
def spInt (K : PySem.W.Frag) : Sp := fun vs H Q _ => ∃ (v : V) (d : PyData), vs = [v] ∧ Dp K H v d ∧ Q (.bl (match d with | .int _ => true | _ => false)) H
def spSame (K : PySem.W.Frag) : Nat → Sp
  | 0 => fun _ _ _ _ => False
  | n + 1 => fun vs H Q _ => ∃ (g d : V) (x y : PyData), vs = [g, d] ∧ Dp K H g x ∧ Dp K H d y ∧ fits n y ∧ Q (.bl (sm x y)) H
theorem getD_map {ns : List Int} {i : Nat} {x : V} (hx : (ns.map V.int)[i]? = some x) : i < ns.length ∧ x = .int (ns.getD i 0) := by
  have hi : i < ns.length := by have := (List.getElem?_eq_some_iff.mp hx).1; simpa using this
  refine ⟨hi, ?_⟩
  rw [List.getElem?_map, List.getElem?_eq_getElem hi] at hx
  simp [hi] at hx ⊢
  exact hx.symm
end Nk
namespace Nk
open PySem L2
local macro_rules | `(tactic| walk_at "s") => `(tactic| try simp (decide := true) only [L2.cxK, L2.s_seq, L2.s_next, L2.s_brk, L2.s_cont, L2.s_drop, L2.s_ret, L2.s_retN, L2.s_ifS, L2.s_br1, L2.s_br0, L2.s_asg, L2.s_asI, L2.s_asB, L2.s_asN, L2.s_asS, L2.s_asR, L2.s_gName, L2.s_gSub, L2.s_var, L2.s_C, L2.s_op, L2.s_un, L2.s_chain, L2.s_test, L2.s_B, L2.s_and, L2.s_aB1, L2.s_aB0, L2.s_or, L2.s_oB1, L2.s_oB0, L2.s_not, L2.s_andV, L2.s_aE1, L2.s_aE0, L2.s_orV, L2.s_oE1, L2.s_oE0, L2.s_notV, L2.s_nE, L2.s_if, L2.s_iE1, L2.s_iE0, L2.s_tr, L2.s_trB, L2.s_trI, L2.s_trN, L2.s_nil, L2.s_cons, L2.s_CB, L2.s_call, L2.s_callS, L2.s_sl, L2.s_part, L2.s_noPart, L2.s_lst, L2.s_mk, L2.s_xf, L2.s_for, L2.s_lc, L2.s_rng1, L2.s_rng2, L2.s_rng3, L2.s_enum, L2.s_zip, L2.s_seqI, L2.s_tup, L2.s_BM, L2.s_BM0, L2.v_addI, L2.v_subI, L2.v_mulI, L2.v_divI, L2.v_modI, L2.v_powI, L2.v_negI, L2.v_cmp, L2.v_eqI, L2.v_neI, L2.v_isN, L2.v_isB, L2.v_isnotN, L2.v_isnotB, L2.v_int, L2.v_abs, L2.v_max2, L2.v_min2, L2.le_line, List.set_cons_succ, List.set_cons_zero, List.getElem?_cons_succ, List.getElem?_cons_zero, Option.some.injEq, exists_eq_left', V.bl.injEq, V.int.injEq, true_and, and_true, Bool.not_true, Bool.not_false, if_true, if_false, Bool.false_eq_true, List.append_nil, reduceCtorEq, decide_true, decide_false, ne_eq, not_false_eq_true, Int.reduceToNat, Int.reducePow, Int.reduceMul, Int.reduceAdd, Int.reduceSub, Int.reduceNeg, Nat.reduceAdd, List.length_cons, List.length_nil, List.nil_append, List.cons_append])
section
variable {P : Program} {w : World} {K : PySem.W.Frag} {mg : Str → Option Value} {base : Heap}
abbrev s__law_pool : Stmt := topS 10
theorem sc__law_pool : FnScope (["script", "at", "cell"] : List Str) (["script", "at"] : List Str) (defScope s__law_pool) := ⟨rfl, rfl, rfl, by decide +kernel, rfl, by decide +kernel, by decide +kernel⟩
theorem ok__law_pool {f : Addr} {fd : FuncData} (F : Fun K "_law_pool" "_law_pool" s__law_pool f fd) (B : Blt mg) : FnOk P w K mg base (L2.CX P w) 1 f fd (["script", "at"] : List Str) (spPool K) := by
  refine F.okX sc__law_pool (fun vs H Q E h => ?_) (fun cdv A outer s H vs Q E hr h => ?_)
  · obtain ⟨a, ns, i, rfl, _⟩ := h; rfl
  · have nd := sc__law_pool.nd
    have hu := hr.units
    refine ⟨_, by exact (pss_cons (ps_st 2 nd pe_int)
        (pss_cons (ps_if (pt_cmpR oa_lt (pv 1) (pe_callB ca_len (by rfl) B.len bt_len (pa_cons (pv 0) pa_nil)) (nomark _))
        (pss_one (ps_st 2 nd (pe_callB ca_abs (by rfl) B.abs bt_abs (pa_cons (pe_ix oa_ix (pv 0) (pv 1) (fun _ _ => rfl)) pa_nil))))
        pss_nil)
        (pss_cons (ps_if (pt_cmpR oa_ge (pv 2) (pe_op oa_pow pe_int pe_int) (nomark _))
        (pss_one (ps_ret (pe_lst (pa_cons (pe_op oa_sub (pv 2) (pe_op oa_pow pe_int pe_int)) (pa_cons pe_int (pa_cons pe_int pa_nil))))))
        pss_nil)
        (pss_one (ps_ret (pe_lst (pa_cons (pe_un oa_neg pe_int) (pa_cons (pe_op oa_mod (pe_callTy ca_int (by rfl) B.int bt_int (pa_cons (pv 2) pa_nil)) pe_int) (pa_cons (pe_op oa_add (pv 1) pe_int) pa_nil))))))))), ?_⟩
    obtain ⟨a, ns, i, rfl, hS, k⟩ := h
    show (tSeq _ _) _ [some (.ref a), some (.int i), none] H
    walk_at "s"
    refine w_lenL hS ?_
    walk_at "s"
    have fin : ∀ z : Int, (0 ≤ z % 2147483399 ∧ z % 2147483399 < 2147483648) := fun z => by omega
    refine w_br (fun c => ?_) (fun c => ?_)
    · walk_at "s"
      refine w_ixL hS (atI_int (by omega) (by simpa using c)) ?_
      walk_at "s"
      refine w_br (fun c => ?_) (fun c => ?_) <;> walk_at "s"
      · exact fun r hr => k r _ _ _ hr ⟨by decide, by decide⟩
      · exact fun r hr => k r _ _ _ hr (fin _)
    · walk_at "s"
      exact fun r hr => k r _ _ _ hr (fin _)
abbrev s__law_draw : Stmt := topS 11
theorem sc__law_draw : FnScope (["pool", "many", "value", "mixed"] : List Str) (["pool", "many"] : List Str) (defScope s__law_draw) := ⟨rfl, rfl, rfl, by decide +kernel, rfl, by decide +kernel, by decide +kernel⟩
theorem ok__law_draw {f : Addr} {fd : FuncData} (F : Fun K "_law_draw" "_law_draw" s__law_draw f fd) (B : Blt mg) : FnOk P w K mg base (L2.CX P w) 1 f fd (["pool", "many"] : List Str) spDraw := by
  refine F.okX sc__law_draw (fun vs H Q E h => ?_) (fun cdv A outer s H vs Q E hr h => ?_)
  · obtain ⟨p, m, a, b, c, rfl, _⟩ := h; rfl
  · have nd := sc__law_draw.nd
    have hu := hr.units
    refine ⟨_, by exact (pss_cons (ps_if (pt_cmpR oa_ge (pe_ix oa_ix (pv 0) pe_int (fun _ _ => rfl)) pe_int (nomark _))
        (pss_cons (ps_st 2 nd (pe_op oa_mod (pe_callTy ca_int (by rfl) B.int bt_int (pa_cons (pe_ix oa_ix (pv 0) pe_int (fun _ _ => rfl)) pa_nil)) (pv 1)))
        (pss_cons (ps_asg (pe_op oa_div (pe_ix oa_ix (pv 0) pe_int (fun _ _ => rfl)) (pv 1)) (pg_sub (pv 0) pe_int set_list))
        (pss_one (ps_ret (pv 2)))))
        pss_nil)
        (pss_cons (ps_asg (pe_op oa_add (pe_ix oa_ix (pv 0) pe_int (fun _ _ => rfl)) pe_int) (pg_sub (pv 0) pe_int set_list))
        (pss_cons (ps_st 3 nd (pe_ix oa_ix (pv 0) pe_int (fun _ _ => rfl)))
        (pss_cons (ps_st 3 nd (pe_op oa_mod (pe_callTy ca_int (by rfl) B.int bt_int (pa_cons (pe_op oa_add (pe_op oa_add (pe_op oa_mul (pv 3) (pv 3)) (pe_op oa_mul (pe_ix oa_ix (pv 0) pe_int (fun _ _ => rfl)) pe_int)) pe_int) pa_nil)) pe_int))
        (pss_cons (ps_st 3 nd (pe_op oa_mod (pe_callTy ca_int (by rfl) B.int bt_int (pa_cons (pe_op oa_add (pe_op oa_mul (pv 3) (pv 3)) (pe_op oa_div (pv 3) pe_int)) pa_nil)) pe_int))
        (pss_cons (ps_asg (pv 3) (pg_sub (pv 0) pe_int set_list))
        (pss_one (ps_ret (pe_op oa_mod (pe_callTy ca_int (by rfl) B.int bt_int (pa_cons (pe_op oa_div (pv 3) pe_int) pa_nil)) (pv 1)))))))))), ?_⟩
    obtain ⟨p, m, a, b, c, rfl, hm, h9, hp, hb, k⟩ := h
    have hS : SqL K H p [.int a, .int b, .int c] := SqL.of hp
    show (tSeq _ _) _ [some (.ref p), some (.int m), none, none] H
    walk_at "s"
    refine w_ixL hS (w := .int a) rfl ?_
    walk_at "s"
    refine w_br (fun c0 => ?_) (fun c0 => ?_)
    · walk_at "s"
      refine w_ixL hS (w := .int a) rfl ?_
      walk_at "s"
      rw [v_modI hm]
      walk_at "s"
      refine w_ixL hS (w := .int a) rfl ?_
      walk_at "s"
      rw [v_divI hm h9]
      walk_at "s"
      refine w_set hp (jj := 0) rfl ?_
      walk_at "s"
      exact k _ _ _ _ (Int.emod_nonneg _ (by omega)) (Int.emod_lt_of_pos _ hm) hb
    · walk_at "s"
      refine w_ixL hS (w := .int _) rfl ?_
      walk_at "s"
      refine w_set hp (jj := 2) rfl ?_
      walk_at "s"
      refine w_ixL (SqL.of upd_same) (w := .int _) rfl ?_
      walk_at "s"
      refine ⟨mulokL (by have := hb.1; have := hb.2; omega), ?_⟩
      walk_at "s"
      refine w_ixL (SqL.of upd_same) (w := .int _) rfl ?_
      walk_at "s"
      refine ⟨mulokR (by decide), ?_⟩
      walk_at "s"
      have h1 : ∀ z : Int, 0 ≤ z % 2147483399 ∧ z % 2147483399 < 2147483399 := fun z => by omega
      have h2 : ∀ z : Int, 0 ≤ z % 2147483629 ∧ z % 2147483629 < 2147483629 := fun z => by omega
      obtain ⟨h3, h4⟩ := h1 (b * b + (c + 1) * 3571 + 40692)
      generalize (b * b + (c + 1) * 3571 + 40692) % 2147483399 = d at h3 h4 ⊢
      refine ⟨mulokL (by omega), ?_⟩
      walk_at "s"
      obtain ⟨h5, h6⟩ := h2 (d * d + d / 97)
      generalize (d * d + d / 97) % 2147483629 = e at h5 h6 ⊢
      refine w_set upd_same (jj := 1) rfl ?_
      walk_at "s"
      rw [v_modI hm, upd_upd]
      exact k _ _ _ _ (Int.emod_nonneg _ (by omega)) (Int.emod_lt_of_pos _ hm) ⟨h5, by omega⟩
end
end Nk
namespace Nk
open PySem L2
local macro_rules | `(tactic| walk_at "s") => `(tactic| try simp (decide := true) only [L2.cxK, L2.s_seq, L2.s_next, L2.s_brk, L2.s_cont, L2.s_drop, L2.s_ret, L2.s_retN, L2.s_ifS, L2.s_br1, L2.s_br0, L2.s_asg, L2.s_asI, L2.s_asB, L2.s_asN, L2.s_asS, L2.s_asR, L2.s_gName, L2.s_gSub, L2.s_var, L2.s_C, L2.s_op, L2.s_un, L2.s_chain, L2.s_test, L2.s_B, L2.s_and, L2.s_aB1, L2.s_aB0, L2.s_or, L2.s_oB1, L2.s_oB0, L2.s_not, L2.s_andV, L2.s_aE1, L2.s_aE0, L2.s_orV, L2.s_oE1, L2.s_oE0, L2.s_notV, L2.s_nE, L2.s_if, L2.s_iE1, L2.s_iE0, L2.s_tr, L2.s_trB, L2.s_trI, L2.s_trN, L2.s_nil, L2.s_cons, L2.s_CB, L2.s_call, L2.s_callS, L2.s_sl, L2.s_part, L2.s_noPart, L2.s_lst, L2.s_mk, L2.s_xf, L2.s_for, L2.s_lc, L2.s_rng1, L2.s_rng2, L2.s_rng3, L2.s_enum, L2.s_zip, L2.s_seqI, L2.s_tup, L2.s_BM, L2.s_BM0, L2.v_addI, L2.v_subI, L2.v_mulI, L2.v_divI, L2.v_modI, L2.v_powI, L2.v_negI, L2.v_cmp, L2.v_eqI, L2.v_neI, L2.v_isN, L2.v_isB, L2.v_isnotN, L2.v_isnotB, L2.v_int, L2.v_abs, L2.v_max2, L2.v_min2, L2.le_line, List.set_cons_succ, List.set_cons_zero, List.getElem?_cons_succ, List.getElem?_cons_zero, Option.some.injEq, exists_eq_left', V.bl.injEq, V.int.injEq, true_and, and_true, Bool.not_true, Bool.not_false, if_true, if_false, Bool.false_eq_true, List.append_nil, reduceCtorEq, decide_true, decide_false, ne_eq, not_false_eq_true, Int.reduceToNat, Int.reducePow, Int.reduceMul, Int.reduceAdd, Int.reduceSub, Int.reduceNeg, Nat.reduceAdd, List.length_cons, List.length_nil, List.nil_append, List.cons_append])
section
variable {P : Program} {w : World} {K : PySem.W.Frag} {mg : Str → Option Value} {base : Heap}
abbrev s__law_int : Stmt := topS 15
theorem sc__law_int : FnScope (["x"] : List Str) (["x"] : List Str) (defScope s__law_int) := ⟨rfl, rfl, rfl, by decide +kernel, rfl, by decide +kernel, by decide +kernel⟩
theorem ok__law_int {f : Addr} {fd : FuncData} (F : Fun K "_law_int" "_law_int" s__law_int f fd) (B : Blt mg) : FnOk P w K mg base (L2.CX P w) 1 f fd (["x"] : List Str) (spInt K) := by
  refine F.okX sc__law_int (fun vs H Q E h => ?_) (fun cdv A outer s H vs Q E hr h => ?_)
  · obtain ⟨v, d, rfl, _⟩ := h; rfl
  · have nd := sc__law_int.nd
    have hu := hr.units
    refine ⟨_, by exact (pss_one (ps_ret (pe_and (pe_callB call_isi (by rfl) B.isinstance bt_isinstance (pa_cons (pv 0) (pa_cons (pe_bltn (v := .ty "int") (by rfl) B.int bt_int rfl) pa_nil))) (pe_one (pe_not (pe_callB call_isi (by rfl) B.isinstance bt_isinstance (pa_cons (pv 0) (pa_cons (pe_bltn (v := .ty "bool") (by rfl) B.bool bt_bool rfl) pa_nil)))))))), ?_⟩
    obtain ⟨v, d, rfl, hd, k⟩ := h
    show (tRet _) _ [some v] H
    walk_at "s"
    refine isi_int hd ?_
    refine w_aEB (fun c => ?_) (fun c => ?_) <;> walk_at "s"
    · refine isi_bool hd ?_
      walk_at "s"
      cases d <;> first
        | exact k
        | cases c
    · cases d <;> first
        | exact k
        | cases c
abbrev s__law_same : Stmt := topS 16
theorem sc__law_same : FnScope (["got", "due", "place"] : List Str) (["got", "due"] : List Str) (defScope s__law_same) := ⟨rfl, rfl, rfl, by decide +kernel, rfl, by decide +kernel, by decide +kernel⟩
theorem ok__law_same {f : Addr} {fd : FuncData} (F : Fun K "_law_same" "_law_same" s__law_same f fd) (B : Blt mg) {n : Nat} (C__law_int : FnAt P w K mg base 1 "_law_int" ["x"] (spInt K)) (C__law_same : FnAt P w K mg base (n + 2) "_law_same" ["got", "due"] (spSame K n)) : FnOk P w K mg base (L2.CX P w) (n + 3) f fd (["got", "due"] : List Str) (spSame K (n + 1)) := by
  refine F.okX sc__law_same (fun vs H Q E h => ?_) (fun cdv A outer s H vs Q E hr h => ?_)
  · obtain ⟨g, d, x, y, rfl, _⟩ := h; rfl
  · have nd := sc__law_same.nd
    have hu := hr.units
    refine ⟨_, by exact (pss_cons (ps_if (pt_cmpR oa_is (pv 1) pe_non (nomark _))
        (pss_one (ps_ret (pe_cmpR oa_is (pv 0) pe_non (nomark _))))
        pss_nil)
        (pss_cons (ps_if (pt_cmpR oa_is (pv 1) pe_bl (nomark _))
        (pss_one (ps_ret (pe_cmpR oa_is (pv 0) pe_bl (nomark _))))
        pss_nil)
        (pss_cons (ps_if (pt_cmpR oa_is (pv 1) pe_bl (nomark _))
        (pss_one (ps_ret (pe_cmpR oa_is (pv 0) pe_bl (nomark _))))
        pss_nil)
        (pss_cons (ps_if (pt_tr (pe_callB call_isi (by rfl) B.isinstance bt_isinstance (pa_cons (pv 1) (pa_cons (pe_bltn (v := .ty "int") (by rfl) B.int bt_int rfl) pa_nil))))
        (pss_one (ps_ret (pe_and (pe_fn C__law_int (hr.mono (by first | decide | omega)) passL (pa_cons (pv 0) pa_nil)) (pe_one (pe_cmpR (oa_eq hu) (pv 0) (pv 1) (nomark _))))))
        pss_nil)
        (pss_cons (ps_if (pt_tr (pe_callB call_isi (by rfl) B.isinstance bt_isinstance (pa_cons (pv 1) (pa_cons (pe_bltn (v := .ty "str") (by rfl) B.str bt_str rfl) pa_nil))))
        (pss_one (ps_ret (pe_and (pe_callB call_isi (by rfl) B.isinstance bt_isinstance (pa_cons (pv 0) (pa_cons (pe_bltn (v := .ty "str") (by rfl) B.str bt_str rfl) pa_nil))) (pe_one (pe_cmpR (oa_eq hu) (pv 0) (pv 1) (nomark _))))))
        pss_nil)
        (pss_cons (ps_if (pt_tr (pe_callB call_isi (by rfl) B.isinstance bt_isinstance (pa_cons (pv 1) (pa_cons (pe_bltn (v := .ty "tuple") (by rfl) B.tuple bt_tuple rfl) pa_nil))))
        (pss_one (ps_if (PW.pt (pw_or (pt_not (pt_tr (pe_callB call_isi (by rfl) B.isinstance bt_isinstance (pa_cons (pv 0) (pa_cons (pe_bltn (v := .ty "tuple") (by rfl) B.tuple bt_tuple rfl) pa_nil))))) (pw_or1 (pt_cmpR (oa_ne hu) (pe_callB ca_len (by rfl) B.len bt_len (pa_cons (pv 0) pa_nil)) (pe_callB ca_len (by rfl) B.len bt_len (pa_cons (pv 1) pa_nil)) (nomark _)))))
        (pss_one (ps_ret pe_bl))
        pss_nil))
        (pss_one (ps_if (PW.pt (pw_or (pt_not (pt_tr (pe_callB call_isi (by rfl) B.isinstance bt_isinstance (pa_cons (pv 0) (pa_cons (pe_bltn (v := .ty "list") (by rfl) B.list bt_list rfl) pa_nil))))) (pw_or1 (pt_cmpR (oa_ne hu) (pe_callB ca_len (by rfl) B.len bt_len (pa_cons (pv 0) pa_nil)) (pe_callB ca_len (by rfl) B.len bt_len (pa_cons (pv 1) pa_nil)) (nomark _)))))
        (pss_one (ps_ret pe_bl))
        pss_nil)))
        (pss_cons (ps_for (passes_of rfl) rfl (pi_range1 rfl B.range (pa_cons (pe_callB ca_len (by rfl) B.len bt_len (pa_cons (pv 1) pa_nil)) pa_nil)) (pg_n 2 nd)
        (pss_one (ps_if (pt_not (pt_tr (pe_fn C__law_same (hr.mono (by first | decide | omega)) passL (pa_cons (pe_ix oa_ix (pv 0) (pv 2) (fun _ _ => rfl)) (pa_cons (pe_ix oa_ix (pv 1) (pv 2) (fun _ _ => rfl)) pa_nil)))))
        (pss_one (ps_ret pe_bl))
        pss_nil)))
        (pss_one (ps_ret pe_bl))))))))), ?_⟩
    obtain ⟨g, d, x, y, rfl, hg, hd, hf, k⟩ := h
    show (tSeq _ _) _ [some g, some d, none] H
    walk_at "s"
    cases hd with
    | non =>
      refine w_br (fun _ => ?_) (fun c => absurd rfl c)
      walk_at "s"
      cases hg <;> exact k
    | bl b =>
      walk_at "s"
      cases b with
      | true =>
        walk_at "s"
        cases hg with
        | bl b => cases b <;> exact k
        | _ => exact k
      | false =>
        walk_at "s"
        cases hg with
        | bl b => cases b <;> exact k
        | _ => exact k
    | int i =>
      walk_at "s"
      refine isi_int (.int i) ?_
      simp only [isInt]
      walk_at "s"
      refine ⟨g, x, rfl, hg, ?_⟩
      cases hg with
      | int j =>
        walk_at "s"
        exact k
      | _ => walk_at "s"; exact k
    | str i =>
      walk_at "s"
      refine isi_int (.str i) ?_
      simp only [isInt]
      walk_at "s"
      refine isi_str (.str i) ?_
      simp only [isStr]
      walk_at "s"
      refine isi_str hg ?_
      cases hg with
      | str j =>
        simp only [isStr]
        walk_at "s"
        refine ⟨rfl, ?_⟩
        rw [sm] at k
        have e : decide (V.str j = V.str i) = (j == i) := by
          rw [Bool.eq_iff_iff]; simp
        rw [e]
        exact k
      | _ =>
        simp only [isStr]
        walk_at "s"
        exact k
    | @lst da dvs ds h1 h2 =>
      cases n with
      | zero => exact hf.elim
      | succ n =>
      obtain ⟨hz, hfs⟩ := hf
      walk_at "s"
      refine isi_int (.lst h1 h2) ?_
      simp only [isInt]
      walk_at "s"
      refine isi_str (.lst h1 h2) ?_
      simp only [isStr]
      walk_at "s"
      refine isi_tuple (.lst h1 h2) ?_
      simp only [isTuple]
      walk_at "s"
      refine isi_list hg ?_
      cases hg with
      | @lst ga gvs gs g1 g1' =>
        simp only [isList]
        walk_at "s"
        refine w_lenL g1 ?_
        refine w_lenL h1 ?_
        walk_at "s"
        have l1 := g1'.length
        have l2 := h2.length
        refine w_brN (fun c => ?_) (fun c => ?_)
        · walk_at "s"
          have e : sm (.list gs) (.list ds) = false := by
            rw [sm, Bool.eq_false_iff]
            intro z
            have := smL_len z
            omega
          rw [← e]; exact k
        · have hlen : gs.length = ds.length := by omega
          walk_at "s"
          refine w_lenL h1 ?_
          refine w_rg1 (by omega) (by omega) ?_
          refine w_forR (fun i σ H' => H' = H ∧ (∃ v, σ = [some (.ref ga), some (.ref da), v]) ∧ ∀ j < i, sm (gs.getD j .none) (ds.getD j .none) = true) ⟨rfl, ⟨_, rfl⟩, fun j hj => absurd hj (Nat.not_lt_zero _)⟩ ?_ ?_
          · rintro i σ H' hi ⟨rfl, ⟨v, rfl⟩, hall⟩
            have hi' : i < ds.length := by omega
            walk_at "s"
            obtain ⟨gv, e1, gd⟩ := g1'.get (i := i) (d := gs.getD i .none) (by rw [List.getD_eq_getElem?_getD, List.getElem?_eq_getElem (by omega)]; rfl)
            obtain ⟨dv, e2, dd⟩ := h2.get (i := i) (d := ds.getD i .none) (by rw [List.getD_eq_getElem?_getD, List.getElem?_eq_getElem (by omega)]; rfl)
            refine w_ixL g1 (at_of (by omega) e1) ?_
            refine w_ixL h1 (at_of (by omega) e2) ?_
            have hfi : fits n (ds.getD i .none) := hfs _ (by rw [List.getD_eq_getElem?_getD, List.getElem?_eq_getElem hi']; exact List.getElem_mem hi')
            refine ⟨gv, dv, _, _, rfl, gd, dd, hfi, ?_⟩
            walk_at "s"
            refine w_brNB (fun c => ?_) (fun c => ?_) <;> walk_at "s"
            · have e : sm (.list gs) (.list ds) = false := by
                rw [sm, smL_all hlen, Bool.eq_false_iff]
                intro z
                rw [List.all_eq_true] at z
                rw [z i (List.mem_range.mpr hi')] at c
                cases c
              rw [← e]; exact k
            · refine ⟨⟨_, rfl⟩, fun j hj => ?_⟩
              by_cases hj' : j = i
              · subst hj'; exact c
              · exact hall j (by omega)
          · rintro σ H' ⟨rfl, ⟨v, rfl⟩, hall⟩
            walk_at "s"
            have e : sm (.list gs) (.list ds) = true := by
              rw [sm, smL_all hlen, List.all_eq_true]
              intro j hj
              have := List.mem_range.mp hj
              exact hall j (by omega)
            rw [← e]; exact k
      | _ =>
        simp only [isList]
        walk_at "s"
        exact k
    | @tup da dvs ds h1 h2 =>
      cases n with
      | zero => exact hf.elim
      | succ n =>
      obtain ⟨hz, hfs⟩ := hf
      walk_at "s"
      refine isi_int (.tup h1 h2) ?_
      simp only [isInt]
      walk_at "s"
      refine isi_str (.tup h1 h2) ?_
      simp only [isStr]
      walk_at "s"
      refine isi_tuple (.tup h1 h2) ?_
      simp only [isTuple]
      walk_at "s"
      refine isi_tuple hg ?_
      cases hg with
      | @tup ga gvs gs g1 g1' =>
        simp only [isTuple]
        walk_at "s"
        refine w_lenT g1 ?_
        refine w_lenT h1 ?_
        walk_at "s"
        have l1 := g1'.length
        have l2 := h2.length
        refine w_brN (fun c => ?_) (fun c => ?_)
        · walk_at "s"
          have e : sm (.tuple gs) (.tuple ds) = false := by
            rw [sm, Bool.eq_false_iff]
            intro z
            have := smL_len z
            omega
          rw [← e]; exact k
        · have hlen : gs.length = ds.length := by omega
          walk_at "s"
          refine w_lenT h1 ?_
          refine w_rg1 (by omega) (by omega) ?_
          refine w_forR (fun i σ H' => H' = H ∧ (∃ v, σ = [some (.ref ga), some (.ref da), v]) ∧ ∀ j < i, sm (gs.getD j .none) (ds.getD j .none) = true) ⟨rfl, ⟨_, rfl⟩, fun j hj => absurd hj (Nat.not_lt_zero _)⟩ ?_ ?_
          · rintro i σ H' hi ⟨rfl, ⟨v, rfl⟩, hall⟩
            have hi' : i < ds.length := by omega
            walk_at "s"
            obtain ⟨gv, e1, gd⟩ := g1'.get (i := i) (d := gs.getD i .none) (by rw [List.getD_eq_getElem?_getD, List.getElem?_eq_getElem (by omega)]; rfl)
            obtain ⟨dv, e2, dd⟩ := h2.get (i := i) (d := ds.getD i .none) (by rw [List.getD_eq_getElem?_getD, List.getElem?_eq_getElem (by omega)]; rfl)
            refine w_ixT g1 (at_of (by omega) e1) ?_
            refine w_ixT h1 (at_of (by omega) e2) ?_
            have hfi : fits n (ds.getD i .none) := hfs _ (by rw [List.getD_eq_getElem?_getD, List.getElem?_eq_getElem hi']; exact List.getElem_mem hi')
            refine ⟨gv, dv, _, _, rfl, gd, dd, hfi, ?_⟩
            walk_at "s"
            refine w_brNB (fun c => ?_) (fun c => ?_) <;> walk_at "s"
            · have e : sm (.tuple gs) (.tuple ds) = false := by
                rw [sm, smL_all hlen, Bool.eq_false_iff]
                intro z
                rw [List.all_eq_true] at z
                rw [z i (List.mem_range.mpr hi')] at c
                cases c
              rw [← e]; exact k
            · refine ⟨⟨_, rfl⟩, fun j hj => ?_⟩
              by_cases hj' : j = i
              · subst hj'; exact c
              · exact hall j (by omega)
          · rintro σ H' ⟨rfl, ⟨v, rfl⟩, hall⟩
            walk_at "s"
            have e : sm (.tuple gs) (.tuple ds) = true := by
              rw [sm, smL_all hlen, List.all_eq_true]
              intro j hj
              have := List.mem_range.mp hj
              exact hall j (by omega)
            rw [← e]; exact k
      | _ =>
        simp only [isTuple]
        walk_at "s"
        exact k

end
end Nk
namespace Nk
open PySem L2
open Row
local macro_rules | `(tactic| walk_at "s") => `(tactic| try simp (decide := true) only [L2.cxK, L2.s_seq, L2.s_next, L2.s_brk, L2.s_cont, L2.s_drop, L2.s_ret, L2.s_retN, L2.s_ifS, L2.s_br1, L2.s_br0, L2.s_asg, L2.s_asI, L2.s_asB, L2.s_asN, L2.s_asS, L2.s_asR, L2.s_gName, L2.s_gSub, L2.s_var, L2.s_C, L2.s_op, L2.s_un, L2.s_chain, L2.s_test, L2.s_B, L2.s_and, L2.s_aB1, L2.s_aB0, L2.s_or, L2.s_oB1, L2.s_oB0, L2.s_not, L2.s_andV, L2.s_aE1, L2.s_aE0, L2.s_orV, L2.s_oE1, L2.s_oE0, L2.s_notV, L2.s_nE, L2.s_if, L2.s_iE1, L2.s_iE0, L2.s_tr, L2.s_trB, L2.s_trI, L2.s_trN, L2.s_nil, L2.s_cons, L2.s_CB, L2.s_call, L2.s_callS, L2.s_sl, L2.s_part, L2.s_noPart, L2.s_lst, L2.s_mk, L2.s_xf, L2.s_for, L2.s_lc, L2.s_rng1, L2.s_rng2, L2.s_rng3, L2.s_enum, L2.s_zip, L2.s_seqI, L2.s_tup, L2.s_BM, L2.s_BM0, L2.v_addI, L2.v_subI, L2.v_mulI, L2.v_divI, L2.v_modI, L2.v_powI, L2.v_negI, L2.v_cmp, L2.v_eqI, L2.v_neI, L2.v_isN, L2.v_isB, L2.v_isnotN, L2.v_isnotB, L2.v_int, L2.v_abs, L2.v_max2, L2.v_min2, L2.le_line, List.set_cons_succ, List.set_cons_zero, List.getElem?_cons_succ, List.getElem?_cons_zero, Option.some.injEq, exists_eq_left', V.bl.injEq, V.int.injEq, true_and, and_true, Bool.not_true, Bool.not_false, if_true, if_false, Bool.false_eq_true, List.append_nil, reduceCtorEq, decide_true, decide_false, ne_eq, not_false_eq_true, Int.reduceToNat, Int.reducePow, Int.reduceMul, Int.reduceAdd, Int.reduceSub, Int.reduceNeg, Nat.reduceAdd, List.length_cons, List.length_nil, List.nil_append, List.cons_append])

theorem refl_same {H H' : Hp} {L : List (Addr × HO)} (w : W H L H') : Same H H' := w.fr
def spCheck (K : PySem.W.Frag) (C : Addr) : Sp := fun vs H Q E => ∃ (a : Addr) (ns : List Int), vs = [.ref a] ∧ SqL K H a (ns.map V.int) ∧ ns.length ≤ 5000 ∧
  (Falling ns → ∀ H', Same H H' → Q .non H') ∧ (∀ i, First ns i → ∀ d H', Same H H' → H d = none → H' d = some (.xd [("place", .int (i : Nat))]) → E (.ref C) (some d) H')
def spTurn (K : PySem.W.Frag) : Sp := fun vs H Q _ => ∃ (a : Addr) (ns : List Int), vs = [.ref a] ∧ SqL K H a (ns.map V.int) ∧ Falling ns ∧ ns.length ≤ 5000 ∧ ns.getD 0 0 ≤ 5000 ∧
  ∀ r H', Same H H' → H r = none → H' r = some (.lst ((conj ns).map V.int)) → Q (.ref r) H'
def spTurned (K : PySem.W.Frag) (C : Addr) : Sp := fun vs H Q E => ∃ (a : Addr) (ns : List Int), vs = [.ref a] ∧ SqL K H a (ns.map V.int) ∧ ns.length ≤ 5000 ∧ ns.getD 0 0 ≤ 5000 ∧
  (Falling ns → ∀ r H', Same H H' → H r = none → H' r = some (.lst ((conj ns).map V.int)) → Q (.ref r) H') ∧
  (∀ i, First ns i → ∀ d H', Same H H' → H d = none → H' d = some (.xd [("place", .int (i : Nat))]) → E (.ref C) (some d) H')
structure Tx (K : PySem.W.Frag) (mg : Str → Option Value) (cNE cBN cNF cUS iBN iNF iUS : Addr) : Prop where
  x_NotFalling : ErrC K mg "NotFalling" cNF iNF ["place"]
  x_NightsError : ExcB K mg "NightsError" cNE
  x_BadNumber : ExcB K mg "BadNumber" cBN
  x_UnlikeSums : ExcB K mg "UnlikeSums" cUS
  s_NF_NE : PySem.W.subIn K (.ref cNF) (.ref cNE) = some true
  s_NF_BN : PySem.W.subIn K (.ref cNF) (.ref cBN) = some false
  s_NF_US : PySem.W.subIn K (.ref cNF) (.ref cUS) = some false
section
variable {P : Program} {w : World} {K : PySem.W.Frag} {mg : Str → Option Value} {base : Heap}
variable {cNE cBN cNF cUS iBN iNF iUS : Addr}
abbrev s_check_row : Stmt := topS 6
theorem sc_check_row : FnScope (["row", "place", "number"] : List Str) (["row"] : List Str) (defScope s_check_row) := ⟨rfl, rfl, rfl, by decide +kernel, rfl, by decide +kernel, by decide +kernel⟩
theorem ok_check_row {f : Addr} {fd : FuncData} (F : Fun K "check_row" "check_row" s_check_row f fd) (B : Blt mg) (T : Tx K mg cNE cBN cNF cUS iBN iNF iUS) (hfile : ((P.main.file : Str) == "/claim/cut.py") = true) (htop : (P.main.scope.names.lookup ("super" : Str)).isSome = false) : FnOk P w K mg base (L2.CX P w) 2 f fd (["row"] : List Str) (spCheck K cNF) := by
  refine F.okX sc_check_row (fun vs H Q E h => ?_) (fun cdv A outer s H vs Q E hr h => ?_)
  · obtain ⟨a, ns, rfl, _⟩ := h; rfl
  · have nd := sc_check_row.nd
    have hu := hr.units
    refine ⟨_, by exact (pss_one (ps_for (passes_of rfl) rfl (pi_enum rfl B.enumerate (pa_cons (pv 0) pa_nil)) (pg_tup (n := 2) rfl (pgs_cons (pg_n 1 nd) (pgs_cons (pg_n 2 nd) pgs_nil)))
        (pss_one (ps_if (PW.pt (pw_or (pt_cmpR oa_lt (pv 2) pe_int (nomark _)) (pw_or1 (PW.pt (pw_and (pt_cmpR oa_gt (pv 1) pe_int (nomark _)) (pw_and1 (pt_cmpR oa_gt (pv 2) (pe_ix oa_ix (pv 0) (pe_op oa_sub (pv 1) pe_int) (fun _ _ => rfl)) (nomark _))))))))
        (pss_one (ps_raise rfl (takes_of rfl rfl rfl rfl) (pmk_err T.x_NotFalling.txt (by simp) (by decide) (by decide +kernel) hfile htop B.super hr T.x_NotFalling.g (pa_cons (pv 1) pa_nil))))
        pss_nil)))), ?_⟩
    obtain ⟨a, ns, rfl, hS, hl, kf, kw⟩ := h
    show (tFor _ _ _) _ [some (.ref a), none, none] H
    walk_at "s"
    refine w_enum hS ?_
    refine w_forE (xs := ns.map V.int) (fun i σ H' => (∃ u v, σ = [some (.ref a), u, v]) ∧ Same H H' ∧ ∀ j < i, ¬ Wr ns j) ⟨⟨_, _, rfl⟩, Same.refl _, fun j hj => absurd hj (Nat.not_lt_zero _)⟩ (fun i σ H' _ h => h.2.1.seq hS) ?_ ?_
    · rintro i x σ H1 H2 hx ⟨⟨u, v, rfl⟩, s1, hj⟩ s2
      have hi : i < ns.length := by have := (List.getElem?_eq_some_iff.mp hx).1; simpa using this
      obtain rfl : x = .int (ns.getD i 0) := by
        rw [List.getElem?_map, List.getElem?_eq_getElem hi] at hx
        simp [hi] at hx ⊢
        exact hx.symm
      have s12 := s1.trans s2
      have raise : Wr ns i → ∀ d : Addr, H2 d = none → E (Value.ref cNF) (some d) (upd H2 d (HO.xd [(("place" : Str), V.int (i : Nat))])) := fun hw d hd =>
        kw i ⟨hi, hw, hj⟩ d _ (fun b o e => by rw [upd_ne (ne_of_none (s12 b o e) hd)]; exact s12 b o e) (s12.free hd) upd_same
      have next : ¬ Wr ns i → ∀ j < i + 1, ¬ Wr ns j := fun hw j hj' => by
        by_cases e : j = i
        · subst e; exact hw
        · exact hj j (by omega)
      walk_at "s"
      refine w_oB (fun c1 => ?_) (fun c1 => ?_) <;> walk_at "s"
      · exact ⟨rfl, raise (.inl c1)⟩
      · refine w_aB (fun c2 => ?_) (fun c2 => ?_) <;> walk_at "s"
        · refine w_ixL (s12.seq hS) (atI_int (by omega) (by omega)) ?_
          walk_at "s"
          have e : ((i : Int) - 1).toNat = i - 1 := by omega
          rw [e]
          refine w_br (fun c3 => ?_) (fun c3 => ?_) <;> walk_at "s"
          · exact ⟨rfl, raise (.inr ⟨by omega, c3⟩)⟩
          · exact ⟨⟨_, _, rfl⟩, s12, next fun hw => hw.elim (fun z => c1 z) fun z => c3 z.2⟩
        · exact ⟨⟨_, _, rfl⟩, s12, next fun hw => hw.elim (fun z => c1 z) fun z => c2 (by omega)⟩
    · rintro σ H1 ⟨⟨u, v, rfl⟩, s1, hj⟩
      rw [List.length_map] at hj
      exact kf hj _ s1

def csO (ns : List Int) (L : Nat) : HO := .lst (((List.range L).map fun j => ((cnt ns (j : Nat) : Nat) : Int)).map V.int)
abbrev s_turn : Stmt := topS 7
theorem sc_turn : FnScope (["row", "counts", "place"] : List Str) (["row"] : List Str) (defScope s_turn) := ⟨rfl, rfl, rfl, by decide +kernel, rfl, by decide +kernel, by decide +kernel⟩
theorem ok_turn {f : Addr} {fd : FuncData} (F : Fun K "turn" "turn" s_turn f fd) (B : Blt mg) : FnOk P w K mg base (L2.CX P w) 2 f fd (["row"] : List Str) (spTurn K) := by
  refine F.okX sc_turn (fun vs H Q E h => ?_) (fun cdv A outer s H vs Q E hr h => ?_)
  · obtain ⟨a, ns, rfl, _⟩ := h; rfl
  · have nd := sc_turn.nd
    have hu := hr.units
    refine ⟨_, by exact (pss_cons (ps_st 1 nd (pe_lst pa_nil))
        (pss_cons (ps_for (passes_of rfl) rfl (pi_range3 rfl B.range (pa_cons (pe_callB ca_len (by rfl) B.len bt_len (pa_cons (pv 0) pa_nil)) (pa_cons pe_int (pa_cons (pe_un oa_neg pe_int) pa_nil)))) (pg_n 2 nd)
        (pss_one (ps_while (passes_of rfl) (pt_cmpR oa_lt (pe_callB ca_len (by rfl) B.len bt_len (pa_cons (pv 1) pa_nil)) (pe_ix oa_ix (pv 0) (pe_op oa_sub (pv 2) pe_int) (fun _ _ => rfl)) (nomark _))
        (pss_one (ps_expr (pe_bm PySem.F.plainAttrs_list PySem.F.slot_list_append PySem.F.type_list_append mt_append (pv 1) (pa_cons (pv 2) pa_nil)))))))
        (pss_one (ps_ret (pv 1))))), ?_⟩
    obtain ⟨a, ns, rfl, hS, hf, hl, h0, k⟩ := h
    show (tSeq _ _) _ [some (.ref a), none, none] H
    walk_at "s"
    intro c hc
    have w0 : W H [(c, csO ns 0)] (upd H c (csO ns 0)) := W.start.new hc
    refine w_lenL (w0.fr.seq hS) ?_
    walk_at "s"
    rw [List.length_map]
    refine ⟨_, _, _, _, rfl, RgC.neg (by omega) (by omega) (by decide) (by decide), ?_⟩
    refine w_forC (fun t σ H' => ∃ L v, σ = [some (.ref a), some (.ref c), v] ∧ W H [(c, csO ns L)] H' ∧ L = if t = 0 then 0 else (ns.getD (ns.length - t) 0).toNat) ⟨0, none, rfl, w0, rfl⟩ ?_ ?_
    · rintro t σ H' ht ⟨L, v, rfl, w, hL⟩
      have ht' : t < ns.length := by omega
      walk_at "s"
      have ep : ((ns.length : Int) + (t : Nat) * -1) = ((ns.length - t : Nat) : Int) := by omega
      rw [ep]
      have hLle : (L : Int) ≤ ns.getD (ns.length - t - 1) 0 := by
        rw [hL]
        by_cases e : t = 0
        · subst e
          have := hf.pos (i := ns.length - 0 - 1) (by omega)
          rw [if_pos rfl]; omega
        · rw [if_neg e]
          have h1 := hf.step (i := ns.length - t - 1) (by omega)
          have e2 : ns.length - t - 1 + 1 = ns.length - t := by omega
          rw [e2] at h1
          have := hf.pos (i := ns.length - t) (by omega)
          omega
      have hnx := hf.pos (i := ns.length - t - 1) (by omega)
      have hbd : ns.getD (ns.length - t - 1) 0 ≤ 5000 := Int.le_trans (hf.le (Nat.zero_le _) (by omega)) h0
      refine w_while (fun m σ H' => ∃ L' : Nat, σ = [some (.ref a), some (.ref c), some (.int ((ns.length - t : Nat) : Int))] ∧ W H [(c, csO ns L')] H' ∧ L ≤ L' ∧ L' + m = (ns.getD (ns.length - t - 1) 0).toNat) ((ns.getD (ns.length - t - 1) 0).toNat - L) ⟨L, rfl, w, Nat.le_refl _, by omega⟩ ?_
      rintro m σ H' ⟨L', rfl, w, hLL, hm⟩
      walk_at "s"
      refine w_lenL (SqL.of (w.get 0 rfl)) ?_
      walk_at "s"
      have e1 : ((ns.length - t : Nat) : Int) - 1 = ((ns.length - t - 1 : Nat) : Int) := by omega
      rw [e1]
      refine w_ixL (w.fr.seq hS) (atI_int (by omega) (by omega)) ?_
      walk_at "s"
      rw [Int.toNat_natCast]
      simp only [List.length_map, List.length_range]
      refine w_wh (fun c1 => ?_) (fun c1 => ?_) <;> walk_at "s"
      · refine w_app (w.get 0 rfl) (by simp only [List.length_map, List.length_range]; exact small1000' (by omega)) ?_
        have e2 : HO.lst (((List.range L').map fun j => ((cnt ns (j : Nat) : Nat) : Int)).map V.int ++ [V.int ((ns.length - t : Nat) : Int)]) = csO ns (L' + 1) := by
          have : cnt ns (L' : Nat) = ns.length - t := by
            refine cnt_prefix (by omega) (fun i hi => ?_) (fun i h1 h2 => ?_)
            · have := hf.le (i := i) (j := ns.length - t - 1) (by omega) (by omega)
              omega
            · rw [hL] at hLL
              rw [if_neg (by omega)] at hLL
              have := hf.le (i := ns.length - t) (j := i) h1 h2
              omega
          unfold csO
          rw [List.range_succ, List.map_append, List.map_append, List.map_singleton, List.map_singleton, this]
        rw [e2]
        exact ⟨m - 1, by omega, L' + 1, w.upd 0 rfl, by omega, by omega⟩
      · refine ⟨L', _, rfl, w, ?_⟩
        have e3 : ns.length - (t + 1) = ns.length - t - 1 := by omega
        rw [e3]; omega
    · rintro σ H' ⟨L, v, rfl, w, hL⟩
      walk_at "s"
      refine k c H' w.fr hc ?_
      have e : csO ns L = .lst ((conj ns).map V.int) := by
        have : L = (ns.getD 0 0).toNat := by
          rw [hL]
          have : ((ns.length : Int) - 0).toNat = ns.length := by omega
          rw [this]
          by_cases e : ns.length = 0
          · rw [if_pos e]
            have : ns = [] := List.length_eq_zero_iff.mp e
            subst this; rfl
          · rw [if_neg e, Nat.sub_self]
        rw [this]; rfl
      rw [← e]
      exact w.get 0 rfl
abbrev s_turned : Stmt := topS 8
theorem sc_turned : FnScope (["row"] : List Str) (["row"] : List Str) (defScope s_turned) := ⟨rfl, rfl, rfl, by decide +kernel, rfl, by decide +kernel, by decide +kernel⟩
theorem ok_turned {f : Addr} {fd : FuncData} (F : Fun K "turned" "turned" s_turned f fd) (B : Blt mg) (C_check_row : FnAt P w K mg base 2 "check_row" ["row"] (spCheck K cNF)) (C_turn : FnAt P w K mg base 2 "turn" ["row"] (spTurn K)) : FnOk P w K mg base (L2.CX P w) 3 f fd (["row"] : List Str) (spTurned K cNF) := by
  refine F.okX sc_turned (fun vs H Q E h => ?_) (fun cdv A outer s H vs Q E hr h => ?_)
  · obtain ⟨a, ns, rfl, _⟩ := h; rfl
  · have nd := sc_turned.nd
    have hu := hr.units
    refine ⟨_, by exact (pss_cons (ps_expr (pe_fn C_check_row (hr.mono (by first | decide | omega)) (passE (takes_of rfl rfl rfl rfl) (fun _ _ _ _ h => h)) (pa_cons (pv 0) pa_nil)))
        (pss_one (ps_ret (pe_fn C_turn (hr.mono (by first | decide | omega)) passL (pa_cons (pv 0) pa_nil))))), ?_⟩
    obtain ⟨a, ns, rfl, hS, hl, h0, kf, kw⟩ := h
    show (tSeq _ _) _ [some (.ref a)] H
    walk_at "s"
    refine ⟨a, ns, rfl, hS, hl, fun hf H1 s1 => ?_, kw⟩
    exact ⟨a, ns, rfl, s1.seq hS, hf, hl, h0, fun r H2 s2 hr hr' => kf hf r H2 (s1.trans s2) (s1.free hr) hr'⟩
end
end Nk
namespace Nk
open PySem L2
open Row
local macro_rules | `(tactic| walk_at "s") => `(tactic| try simp (decide := true) only [L2.cxK, L2.s_seq, L2.s_next, L2.s_brk, L2.s_cont, L2.s_drop, L2.s_ret, L2.s_retN, L2.s_ifS, L2.s_br1, L2.s_br0, L2.s_asg, L2.s_asI, L2.s_asB, L2.s_asN, L2.s_asS, L2.s_asR, L2.s_gName, L2.s_gSub, L2.s_var, L2.s_C, L2.s_op, L2.s_un, L2.s_chain, L2.s_test, L2.s_B, L2.s_and, L2.s_aB1, L2.s_aB0, L2.s_or, L2.s_oB1, L2.s_oB0, L2.s_not, L2.s_andV, L2.s_aE1, L2.s_aE0, L2.s_orV, L2.s_oE1, L2.s_oE0, L2.s_notV, L2.s_nE, L2.s_if, L2.s_iE1, L2.s_iE0, L2.s_tr, L2.s_trB, L2.s_trI, L2.s_trN, L2.s_nil, L2.s_cons, L2.s_CB, L2.s_call, L2.s_callS, L2.s_sl, L2.s_part, L2.s_noPart, L2.s_lst, L2.s_mk, L2.s_xf, L2.s_for, L2.s_lc, L2.s_rng1, L2.s_rng2, L2.s_rng3, L2.s_enum, L2.s_zip, L2.s_seqI, L2.s_tup, L2.s_BM, L2.s_BM0, L2.v_addI, L2.v_subI, L2.v_mulI, L2.v_divI, L2.v_modI, L2.v_powI, L2.v_negI, L2.v_cmp, L2.v_eqI, L2.v_neI, L2.v_isN, L2.v_isB, L2.v_isnotN, L2.v_isnotB, L2.v_int, L2.v_abs, L2.v_max2, L2.v_min2, L2.le_line, List.set_cons_succ, List.set_cons_zero, List.getElem?_cons_succ, List.getElem?_cons_zero, Option.some.injEq, exists_eq_left', V.bl.injEq, V.int.injEq, true_and, and_true, Bool.not_true, Bool.not_false, if_true, if_false, Bool.false_eq_true, List.append_nil, reduceCtorEq, decide_true, decide_false, ne_eq, not_false_eq_true, Int.reduceToNat, Int.reducePow, Int.reduceMul, Int.reduceAdd, Int.reduceSub, Int.reduceNeg, Nat.reduceAdd, List.length_cons, List.length_nil, List.nil_append, List.cons_append])

def spFalling : Sp := fun vs H Q _ => ∃ (p : Addr) (t a b c : Int), vs = [.ref p, .int t] ∧ 0 ≤ t ∧ t ≤ 2000 ∧ H p = some (poolO a b c) ∧ POk b ∧
  ∀ (r : Addr) (ns : List Int) (a' b' c' : Int) (H' : Hp), Falling ns → (ns.length : Int) ≤ t → ns.getD 0 0 ≤ t → But p H H' → H' p = some (poolO a' b' c') → POk b' → H r = none → H' r = some (.lst (ns.map V.int)) → Q (.ref r) H'
def spSpoil1 (K : PySem.W.Frag) : Sp := fun vs H Q _ => ∃ (p s : Addr) (ns : List Int) (a b c : Int), vs = [.ref p, .ref s] ∧ SqL K (rem H p) s (ns.map V.int) ∧ ns.length ≤ 3000 ∧ ns.getD 0 0 ≤ 2000 ∧ H p = some (poolO a b c) ∧ POk b ∧
  ∀ (r : Addr) (ms : List Int) (a' b' c' : Int) (H' : Hp), ms.length ≤ ns.length + 1 → ms.getD 0 0 ≤ 2000 → But p H H' → H' p = some (poolO a' b' c') → POk b' → H r = none → H' r = some (.lst (ms.map V.int)) → Q (.ref r) H'
def spSpoiled (K : PySem.W.Frag) : Sp := fun vs H Q _ => ∃ (p s : Addr) (ns : List Int) (a b c : Int), vs = [.ref p, .ref s] ∧ SqL K (rem H p) s (ns.map V.int) ∧ ns.length ≤ 2000 ∧ ns.getD 0 0 ≤ 2000 ∧ H p = some (poolO a b c) ∧ POk b ∧
  ∀ (r : Addr) (ms : List Int) (a' b' c' : Int) (H' : Hp), ms.length ≤ 2002 → ms.getD 0 0 ≤ 2000 → But p H H' → H' p = some (poolO a' b' c') → POk b' → H r = none → H' r = some (.lst (ms.map V.int)) → Q (.ref r) H'
section
variable {P : Program} {w : World} {K : PySem.W.Frag} {mg : Str → Option Value} {base : Heap}
abbrev s__law_falling : Stmt := topS 12
theorem sc__law_falling : FnScope (["pool", "total", "row", "left", "turn_v", "most", "number"] : List Str) (["pool", "total"] : List Str) (defScope s__law_falling) := ⟨rfl, rfl, rfl, by decide +kernel, rfl, by decide +kernel, by decide +kernel⟩
theorem ok__law_falling {f : Addr} {fd : FuncData} (F : Fun K "_law_falling" "_law_falling" s__law_falling f fd) (B : Blt mg) (C__law_draw : FnAt P w K mg base 1 "_law_draw" ["pool", "many"] spDraw) : FnOk P w K mg base (L2.CX P w) 2 f fd (["pool", "total"] : List Str) spFalling := by
  refine F.okX sc__law_falling (fun vs H Q E h => ?_) (fun cdv A outer s H vs Q E hr h => ?_)
  · obtain ⟨p, t, a, b, c, rfl, _⟩ := h; rfl
  · have nd := sc__law_falling.nd
    have hu := hr.units
    refine ⟨_, by exact (pss_cons (ps_st 2 nd (pe_lst pa_nil))
        (pss_cons (ps_st 3 nd (pv 1))
        (pss_cons (ps_for (passes_of rfl) rfl (pi_range1 rfl B.range (pa_cons (pv 1) pa_nil)) (pg_n 4 nd)
        (pss_cons (ps_if (pt_cmpR (oa_eq hu) (pv 3) pe_int (nomark _))
        (pss_one ps_break)
        pss_nil)
        (pss_cons (ps_st 5 nd (pv 3))
        (pss_cons (ps_if (pt_cmpR oa_gt (pe_callB ca_len (by rfl) B.len bt_len (pa_cons (pv 2) pa_nil)) pe_int (nomark _))
        (pss_one (ps_st 5 nd (pe_callB (ca_min rfl) (by rfl) B.min bt_min (pa_cons (pv 3) (pa_cons (pe_ix oa_ix (pv 2) (pe_un oa_neg pe_int) (fun _ _ => rfl)) pa_nil)))))
        pss_nil)
        (pss_cons (ps_st 6 nd (pe_op oa_add pe_int (pe_fn C__law_draw (hr.mono (by first | decide | omega)) passL (pa_cons (pv 0) (pa_cons (pv 5) pa_nil)))))
        (pss_cons (ps_expr (pe_bm PySem.F.plainAttrs_list PySem.F.slot_list_append PySem.F.type_list_append mt_append (pv 2) (pa_cons (pv 6) pa_nil)))
        (pss_one (ps_st 3 nd (pe_op oa_sub (pv 3) (pv 6))))))))))
        (pss_one (ps_ret (pv 2)))))), ?_⟩
    obtain ⟨p, t, a, b, c, rfl, ht0, ht1, hp, hb, k⟩ := h
    show (tSeq _ _) _ [some (.ref p), some (.int t), none, none, none, none, none] H
    walk_at "s"
    intro l hl
    have w0 : W (rem H p) [(l, .lst (([] : List Int).map V.int)), (p, poolO a b c)] (upd H l (.lst [])) := (W.own hp).new hl
    refine w_rg1 (by omega) (by omega) ?_
    refine w_forR (fun i σ H' => ∃ (ns : List Int) (left : Int) (v1 v2 v3 : Option V) (a b c : Int), σ = [some (.ref p), some (.int t), some (.ref l), some (.int left), v1, v2, v3] ∧ W (rem H p) [(l, .lst (ns.map V.int)), (p, poolO a b c)] H' ∧ POk b ∧ ns.length ≤ i ∧ 0 ≤ left ∧ left ≤ t ∧ Falling ns ∧ ns.getD 0 0 ≤ t) ⟨[], t, none, none, none, a, b, c, rfl, w0, hb, Nat.le_refl _, ht0, Int.le_refl _, Falling.nil, ht0⟩ ?_ ?_
    · rintro i σ H' hi ⟨ns, left, v1, v2, v3, a, b, c, rfl, w, hb, hn, hl0, hlt, hf, h0⟩
      have fin : ∀ (H' : Hp) (ns : List Int) (a b c : Int), W (rem H p) [(l, .lst (ns.map V.int)), (p, poolO a b c)] H' → POk b → ns.length ≤ i + 1 → Falling ns → ns.getD 0 0 ≤ t → Q (.ref l) H' := fun H' ns a b c w hb hn hf h0 =>
        k l ns a b c H' hf (by omega) h0 (W.but (r := p) (o := poolO a b c) (w.perm (List.Perm.swap _ _ _))) (w.get 1 rfl) hb hl (w.get 0 rfl)
      walk_at "s"
      refine w_br (fun c1 => ?_) (fun c1 => ?_)
      · walk_at "s"
        exact fin _ ns a b c w hb (by omega) hf h0
      · walk_at "s"
        refine w_lenL (SqL.of (w.get 0 rfl)) ?_
        walk_at "s"
        rw [List.length_map]
        have main : ∀ most : Int, 1 ≤ most → most ≤ left → (0 < ns.length → most ≤ ns.getD (ns.length - 1) 0) → ∀ v3' : Option V, ∀ v1' : Option V,
          spDraw [.ref p, .int most] H' (fun y H2 => ∃ number : Int, y = .int number ∧ 0 ≤ number ∧ number < most ∧ ∃ a b c, POk b ∧ W (rem H p) [(l, .lst (ns.map V.int)), (p, poolO a b c)] H2) (fun _ _ _ => False) := fun most m1 m2 m3 _ _ =>
          w_draw w 1 rfl hb (by omega) (by omega) fun v a' b' c' H2 h0 h1 hb' _ w2 => ⟨v, rfl, h0, h1, a', b', c', hb', w2⟩
        refine w_br (fun c2 => ?_) (fun c2 => ?_)
        · walk_at "s"
          refine w_ixL (SqL.of (w.get 0 rfl)) (at_last (by omega)) ?_
          walk_at "s"
          have hlast := hf.pos (i := ns.length - 1) (by omega)
          have hlast0 := hf.le (i := 0) (j := ns.length - 1) (by omega) (by omega)
          generalize hm : ns.getD (ns.length - 1) 0 = last at hlast hlast0 ⊢
          refine w_draw w 1 rfl hb (by omega) (by omega) fun v a' b' c' H2 g0 g1 hb' _ w2 => ?_
          walk_at "s"
          refine w_app (w2.get 0 rfl) (by rw [List.length_map]; exact small1000' (by omega)) ?_
          have w3 := w2.upd (o' := .lst ((ns ++ [1 + v]).map V.int)) 0 rfl
          walk_at "s"
          refine ⟨ns ++ [1 + v], _, _, _, _, a', b', c', rfl, by simpa using w3, hb', by simp; omega, by omega, by omega, hf.snoc (by omega) (fun _ => by rw [hm]; omega), by rw [getD_app1 (by omega)]; omega⟩
        · walk_at "s"
          refine w_draw w 1 rfl hb (by omega) (by omega) fun v a' b' c' H2 g0 g1 hb' _ w2 => ?_
          walk_at "s"
          refine w_app (w2.get 0 rfl) (by rw [List.length_map]; exact small1000' (by omega)) ?_
          have w3 := w2.upd (o' := .lst ((ns ++ [1 + v]).map V.int)) 0 rfl
          walk_at "s"
          have e : ns = [] := List.length_eq_zero_iff.mp (by omega)
          subst e
          refine ⟨[] ++ [1 + v], _, _, _, _, a', b', c', rfl, by simpa using w3, hb', by simp, by omega, by omega, hf.snoc (by omega) (fun z => by simp at z), by simp; omega⟩
    · rintro σ H' ⟨ns, left, v1, v2, v3, a, b, c, rfl, w, hb, hn, hl0, hlt, hf, h0⟩
      walk_at "s"
      exact k l ns a b c H' hf (by omega) h0 (W.but (r := p) (o := poolO a b c) (w.perm (List.Perm.swap _ _ _))) (w.get 1 rfl) hb hl (w.get 0 rfl)
abbrev s__law_spoil_one : Stmt := topS 13
theorem sc__law_spoil_one : FnScope (["pool", "row", "bent", "way", "place"] : List Str) (["pool", "row"] : List Str) (defScope s__law_spoil_one) := ⟨rfl, rfl, rfl, by decide +kernel, rfl, by decide +kernel, by decide +kernel⟩
theorem ok__law_spoil_one {f : Addr} {fd : FuncData} (F : Fun K "_law_spoil_one" "_law_spoil_one" s__law_spoil_one f fd) (B : Blt mg) (C__law_draw : FnAt P w K mg base 1 "_law_draw" ["pool", "many"] spDraw) : FnOk P w K mg base (L2.CX P w) 2 f fd (["pool", "row"] : List Str) (spSpoil1 K) := by
  refine F.okX sc__law_spoil_one (fun vs H Q E h => ?_) (fun cdv A outer s H vs Q E hr h => ?_)
  · obtain ⟨p, t, ns, a, b, c, rfl, _⟩ := h; rfl
  · have nd := sc__law_spoil_one.nd
    have hu := hr.units
    refine ⟨_, by exact (pss_cons (ps_st 2 nd (pe_callTy ca_list (by rfl) B.list bt_list (pa_cons (pv 1) pa_nil)))
        (pss_cons (ps_st 3 nd (pe_fn C__law_draw (hr.mono (by first | decide | omega)) passL (pa_cons (pv 0) (pa_cons pe_int pa_nil))))
        (pss_cons (ps_if (PW.pt (pw_or (pt_cmpR (oa_eq hu) (pe_callB ca_len (by rfl) B.len bt_len (pa_cons (pv 2) pa_nil)) pe_int (nomark _)) (pw_or1 (pt_cmpR (oa_eq hu) (pv 3) pe_int (nomark _)))))
        (pss_cons (ps_expr (pe_bm PySem.F.plainAttrs_list PySem.F.slot_list_append PySem.F.type_list_append mt_append (pv 2) (pa_cons pe_int pa_nil)))
        (pss_one (ps_ret (pv 2))))
        pss_nil)
        (pss_cons (ps_st 4 nd (pe_fn C__law_draw (hr.mono (by first | decide | omega)) passL (pa_cons (pv 0) (pa_cons (pe_callB ca_len (by rfl) B.len bt_len (pa_cons (pv 2) pa_nil)) pa_nil))))
        (pss_cons (ps_if (pt_cmpR (oa_eq hu) (pv 3) pe_int (nomark _))
        (pss_one (ps_asg pe_int (pg_sub (pv 2) (pv 4) set_list)))
        (pss_one (ps_if (pt_cmpR (oa_eq hu) (pv 3) pe_int (nomark _))
        (pss_one (ps_asg (pe_un oa_neg pe_int) (pg_sub (pv 2) (pv 4) set_list)))
        (pss_one (ps_if (PW.pt (pw_and (pt_cmpR oa_gt (pv 4) pe_int (nomark _)) (pw_and1 (pt_cmpR oa_le (pe_callB (cr_sum rfl) (by rfl) B.sum bt_sum (pa_cons (pv 1) pa_nil)) pe_int (nomark _)))))
        (pss_one (ps_asg (pe_op oa_add (pe_ix oa_ix (pv 2) (pe_op oa_sub (pv 4) pe_int) (fun _ _ => rfl)) pe_int) (pg_sub (pv 2) (pv 4) set_list)))
        pss_nil)))))
        (pss_one (ps_ret (pv 2)))))))), ?_⟩
    obtain ⟨p, s', ns, a, b, c, rfl, hS, hn, h0, hp, hb, k⟩ := h
    show (tSeq _ _) _ [some (.ref p), some (.ref s'), none, none, none] H
    walk_at "s"
    have wp := W.own hp
    refine w_list (.inl (wp.fr.seq hS)) fun l hl => ?_
    have w0 : W (rem H p) [(l, .lst (ns.map V.int)), (p, poolO a b c)] (upd H l (.lst (ns.map V.int))) := wp.new hl
    walk_at "s"
    have fin : ∀ (H' : Hp) (ms : List Int) (a b c : Int), W (rem H p) [(l, .lst (ms.map V.int)), (p, poolO a b c)] H' → POk b → ms.length ≤ ns.length + 1 → ms.getD 0 0 ≤ 2000 → Q (.ref l) H' := fun H' ms a b c w hb hn h0 =>
      k l ms a b c H' hn h0 (W.but (r := p) (o := poolO a b c) (w.perm (List.Perm.swap _ _ _))) (w.get 1 rfl) hb hl (w.get 0 rfl)
    refine w_draw w0 1 rfl hb (by omega) (by omega) fun way a b c H1 g0 g1 hb _ w1 => ?_
    clear w0
    walk_at "s"
    refine w_lenL (SqL.of (w1.get 0 rfl)) ?_
    walk_at "s"
    rw [List.length_map]
    have app : tyV K "list" (.ref l) H1 ∧ rAppend (.ref l) [.int 0] H1 (fun _ H' => Q (.ref l) H') := by
      refine w_app (w1.get 0 rfl) (by rw [List.length_map]; exact small1000' (by omega)) ?_
      have w3 := w1.upd (o' := .lst ((ns ++ [0]).map V.int)) 0 rfl
      refine fin _ (ns ++ [0]) a b c (by simpa using w3) hb (by simp <;> omega) ?_
      by_cases e : 0 < ns.length
      · rw [getD_app1 e]; exact h0
      · have e : ns = [] := List.length_eq_zero_iff.mp (by omega)
        subst e; simp
    refine w_oB (fun c1 => ?_) (fun c1 => ?_)
    · walk_at "s"
      exact app
    walk_at "s"
    refine w_br (fun c2 => ?_) (fun c2 => ?_)
    · walk_at "s"
      exact app
    clear app
    walk_at "s"
    refine w_lenL (SqL.of (w1.get 0 rfl)) ?_
    walk_at "s"
    rw [List.length_map]
    refine w_draw w1 1 rfl hb (by omega) (by omega) fun place a b c H2 q0 q1 hb _ w2 => ?_
    walk_at "s"
    have ei : ixN (ns.map V.int).length place = some place.toNat := by unfold ixN; rw [List.length_map, if_pos q0, if_pos q1]
    have st : ∀ x : Int, x ≤ 0 ∨ 0 < place → Q (.ref l) (upd H2 l (.lst ((ns.map V.int).set place.toNat (.int x)))) := fun x hx => by
      have w3 := w2.upd (o' := .lst ((ns.set place.toNat x).map V.int)) 0 rfl
      rw [List.map_set] at w3
      refine fin _ (ns.set place.toNat x) a b c (by rw [List.map_set]; exact w3) hb (by simp <;> omega) ?_
      rw [getD_set (by omega)]
      split <;> omega
    refine w_br (fun c3 => ?_) (fun c3 => ?_)
    · walk_at "s"
      refine w_set (w2.get 0 rfl) ei ?_
      walk_at "s"
      exact st 0 (.inl (by decide))
    walk_at "s"
    refine w_br (fun c3 => ?_) (fun c3 => ?_)
    · walk_at "s"
      refine w_set (w2.get 0 rfl) ei ?_
      walk_at "s"
      exact st (-3) (.inl (by decide))
    walk_at "s"
    refine w_aB (fun c4 => ?_) (fun c4 => ?_)
    · walk_at "s"
      refine w_sum (w2.fr.seq hS) ?_
      walk_at "s"
      refine w_br (fun c5 => ?_) (fun c5 => ?_)
      · walk_at "s"
        refine w_ixL (SqL.of (w2.get 0 rfl)) (atI_int (by omega) (by omega)) ?_
        walk_at "s"
        refine w_set (w2.get 0 rfl) ei ?_
        walk_at "s"
        exact st _ (.inr c4)
      · walk_at "s"
        exact fin _ ns a b c w2 hb (by omega) h0
    · walk_at "s"
      exact fin _ ns a b c w2 hb (by omega) h0
end
end Nk
namespace Nk
open PySem L2
open Row
local macro_rules | `(tactic| walk_at "s") => `(tactic| try simp (decide := true) only [L2.cxK, L2.s_seq, L2.s_next, L2.s_brk, L2.s_cont, L2.s_drop, L2.s_ret, L2.s_retN, L2.s_ifS, L2.s_br1, L2.s_br0, L2.s_asg, L2.s_asI, L2.s_asB, L2.s_asN, L2.s_asS, L2.s_asR, L2.s_gName, L2.s_gSub, L2.s_var, L2.s_C, L2.s_op, L2.s_un, L2.s_chain, L2.s_test, L2.s_B, L2.s_and, L2.s_aB1, L2.s_aB0, L2.s_or, L2.s_oB1, L2.s_oB0, L2.s_not, L2.s_andV, L2.s_aE1, L2.s_aE0, L2.s_orV, L2.s_oE1, L2.s_oE0, L2.s_notV, L2.s_nE, L2.s_if, L2.s_iE1, L2.s_iE0, L2.s_tr, L2.s_trB, L2.s_trI, L2.s_trN, L2.s_nil, L2.s_cons, L2.s_CB, L2.s_call, L2.s_callS, L2.s_sl, L2.s_part, L2.s_noPart, L2.s_lst, L2.s_mk, L2.s_xf, L2.s_for, L2.s_lc, L2.s_rng1, L2.s_rng2, L2.s_rng3, L2.s_enum, L2.s_zip, L2.s_seqI, L2.s_tup, L2.s_BM, L2.s_BM0, L2.v_addI, L2.v_subI, L2.v_mulI, L2.v_divI, L2.v_modI, L2.v_powI, L2.v_negI, L2.v_cmp, L2.v_eqI, L2.v_neI, L2.v_isN, L2.v_isB, L2.v_isnotN, L2.v_isnotB, L2.v_int, L2.v_abs, L2.v_max2, L2.v_min2, L2.le_line, List.set_cons_succ, List.set_cons_zero, List.getElem?_cons_succ, List.getElem?_cons_zero, Option.some.injEq, exists_eq_left', V.bl.injEq, V.int.injEq, true_and, and_true, Bool.not_true, Bool.not_false, if_true, if_false, Bool.false_eq_true, List.append_nil, reduceCtorEq, decide_true, decide_false, ne_eq, not_false_eq_true, Int.reduceToNat, Int.reducePow, Int.reduceMul, Int.reduceAdd, Int.reduceSub, Int.reduceNeg, Nat.reduceAdd, List.length_cons, List.length_nil, List.nil_append, List.cons_append])

def spCounted (K : PySem.W.Frag) : Sp := fun vs H Q _ => ∃ (s : Addr) (ns : List Int), vs = [.ref s] ∧ SqL K H s (ns.map V.int) ∧ Falling ns ∧ ns.length ≤ 5000 ∧ ns.getD 0 0 ≤ 5000 ∧
  ∀ (r : Addr) (H' : Hp), Same H H' → H r = none → H' r = some (.lst ((conj ns).map V.int)) → Q (.ref r) H'
def spFirst (K : PySem.W.Frag) : Sp := fun vs H Q _ => ∃ (s : Addr) (ns : List Int), vs = [.ref s] ∧ SqL K H s (ns.map V.int) ∧ ns.length ≤ 5000 ∧
  (Falling ns → Q (.int (-1)) H) ∧ (∀ i, First ns i → Q (.int (i : Nat)) H)
section
variable {P : Program} {w : World} {K : PySem.W.Frag} {mg : Str → Option Value} {base : Heap}
abbrev s__law_spoiled : Stmt := topS 14
theorem sc__law_spoiled : FnScope (["pool", "row", "way", "place", "bent"] : List Str) (["pool", "row"] : List Str) (defScope s__law_spoiled) := ⟨rfl, rfl, rfl, by decide +kernel, rfl, by decide +kernel, by decide +kernel⟩
theorem ok__law_spoiled {f : Addr} {fd : FuncData} (F : Fun K "_law_spoiled" "_law_spoiled" s__law_spoiled f fd) (B : Blt mg) (C__law_draw : FnAt P w K mg base 1 "_law_draw" ["pool", "many"] spDraw) (C__law_spoil_one : FnAt P w K mg base 2 "_law_spoil_one" ["pool", "row"] (spSpoil1 K)) : FnOk P w K mg base (L2.CX P w) 3 f fd (["pool", "row"] : List Str) (spSpoiled K) := by
  refine F.okX sc__law_spoiled (fun vs H Q E h => ?_) (fun cdv A outer s H vs Q E hr h => ?_)
  · obtain ⟨p, t, ns, a, b, c, rfl, _⟩ := h; rfl
  · have nd := sc__law_spoiled.nd
    have hu := hr.units
    refine ⟨_, by exact (pss_cons (ps_st 2 nd (pe_fn C__law_draw (hr.mono (by first | decide | omega)) passL (pa_cons (pv 0) (pa_cons pe_int pa_nil))))
        (pss_cons (ps_if (pt_cmpR (oa_eq hu) (pv 2) pe_int (nomark _))
        (pss_one (ps_ret (pe_lc (own := [("place", 3)]) (g := gName 3) (tt := tYes) rfl nd (pi_range1 rfl B.range (pa_cons (pe_fn C__law_draw (hr.mono (by first | decide | omega)) passL (pa_cons (pv 0) (pa_cons pe_int pa_nil))) pa_nil)) (blkOk_by (N := (["pool", "row", "way", "place", "bent"] : List Str)) (sc := defScope (topS 14)) (by decide +kernel)) (fun _ _ _ _ _ => (pg_n 3 nd)) (fun _ _ _ _ _ => pts_nil) (fun _ _ _ _ _ => (pe_op oa_sub (pe_fn C__law_draw (hr.mono (by first | decide | omega)) passL (pa_cons (pv 0) (pa_cons pe_int pa_nil))) pe_int)))))
        pss_nil)
        (pss_cons (ps_if (pt_cmpR oa_lt (pv 2) pe_int (nomark _))
        (pss_one (ps_ret (pe_callTy ca_list (by rfl) B.list bt_list (pa_cons (pv 1) pa_nil))))
        pss_nil)
        (pss_cons (ps_st 4 nd (pe_fn C__law_spoil_one (hr.mono (by first | decide | omega)) passL (pa_cons (pv 0) (pa_cons (pv 1) pa_nil))))
        (pss_cons (ps_if (PW.pt (pw_and (pt_cmpR (oa_eq hu) (pv 2) pe_int (nomark _)) (pw_and1 (pt_cmpR oa_le (pe_callB (cr_sum rfl) (by rfl) B.sum bt_sum (pa_cons (pv 4) pa_nil)) pe_int (nomark _)))))
        (pss_one (ps_st 4 nd (pe_fn C__law_spoil_one (hr.mono (by first | decide | omega)) passL (pa_cons (pv 0) (pa_cons (pv 4) pa_nil)))))
        pss_nil)
        (pss_one (ps_ret (pv 4)))))))), ?_⟩
    obtain ⟨p, s', ns, a, b, c, rfl, hS, hn, h0, hp, hb, k⟩ := h
    show (tSeq _ _) _ [some (.ref p), some (.ref s'), none, none, none] H
    walk_at "s"
    have wp := W.own hp
    refine w_draw wp 0 rfl hb (by omega) (by omega) fun way a b c H1 g0 g1 hb b1 w1 => ?_
    walk_at "s"
    refine w_br (fun c1 => ?_) (fun c1 => ?_)
    · walk_at "s"
      refine w_draw w1 0 rfl hb (by omega) (by omega) fun many a b c H2 m0 m1 hb b2 w2 => ?_
      walk_at "s"
      refine w_rg1 (by omega) (by omega) ?_
      refine w_lcR (fun L i H' => ∃ (ms : List Int) (a b c : Int), W (rem H p) [(L, .lst (ms.map V.int)), (p, poolO a b c)] H' ∧ POk b ∧ ms.length = i ∧ ms.getD 0 0 ≤ 2000) (fun L hL => ⟨[], a, b, c, w2.new hL, hb, rfl, by decide⟩) ?_ ?_
      · rintro L i H' hi ⟨ms, a, b, c, w, hb, hl, h0⟩
        walk_at "s"
        refine ⟨rfl, ?_⟩
        rw [s_yes, if_pos rfl]
        refine ⟨_, rfl, ?_⟩
        refine w_draw w 1 rfl hb (by omega) (by omega) fun x a b c H2 q0 q1 hb _ w2 => ?_
        walk_at "s"
        refine ⟨_, w2.get 0 rfl, by rw [List.length_map]; exact small1000' (by omega), ms ++ [x - 2], a, b, c, ?_, hb, by simp; omega, ?_⟩
        · have := w2.upd (o' := .lst ((ms ++ [x - 2]).map V.int)) 0 rfl
          simpa using this
        · by_cases e : 0 < ms.length
          · rw [getD_app1 e]; exact h0
          · have e : ms = [] := List.length_eq_zero_iff.mp (by omega)
            subst e; simp; omega
      · rintro L H' hL ⟨ms, a, b, c, w, hb, hl, h0⟩
        exact k L ms a b c H' (by omega) h0 (W.but (r := p) (o := poolO a b c) (w.perm (List.Perm.swap _ _ _))) (w.get 1 rfl) hb (by
          cases e : H L with
          | none => rfl
          | some o =>
            by_cases hLp : L = p
            · subst hLp; rw [w2.get 0 rfl] at hL; cases hL
            · rw [b2 _ _ hLp (b1 _ _ hLp e)] at hL; cases hL) (w.get 0 rfl)
    walk_at "s"
    refine w_br (fun c2 => ?_) (fun c2 => ?_)
    · walk_at "s"
      refine w_list (.inl (w1.fr.seq hS)) fun l hl => ?_
      have w2 := w1.new (o := .lst (ns.map V.int)) hl
      exact k l ns a b c _ (by omega) h0 (W.but (r := p) (o := poolO a b c) (w2.perm (List.Perm.swap _ _ _))) (w2.get 1 rfl) hb (by
          cases e : H l with
          | none => rfl
          | some o =>
            by_cases hLp : l = p
            · subst hLp; rw [w1.get 0 rfl] at hl; cases hl
            · rw [b1 _ _ hLp e] at hl; cases hl) (w2.get 0 rfl)
    walk_at "s"
    refine ⟨p, s', ns, a, b, c, rfl, (w1.frem 0 rfl).seq hS, by omega, h0, w1.get 0 rfl, hb, fun r ms a b c H2 ml m0 b2 hp2 hb2 hr hr2 => ?_⟩
    have w2 := w1.mut 0 rfl b2 hp2
    have w3 := w2.add w1 hr hr2
    have hr0 : H r = none := by
          cases e : H r with
          | none => rfl
          | some o =>
            by_cases hLp : r = p
            · subst hLp; rw [w1.get 0 rfl] at hr; cases hr
            · rw [b1 _ _ hLp e] at hr; cases hr
    walk_at "s"
    refine w_aB (fun c3 => ?_) (fun c3 => ?_)
    · walk_at "s"
      refine w_sum (SqL.of hr2) ?_
      walk_at "s"
      refine w_br (fun c4 => ?_) (fun c4 => ?_)
      · walk_at "s"
        obtain ⟨sF, w4⟩ := w3.frz
        refine ⟨p, r, ms, a, b, c, rfl, (w4.frem 0 rfl).seq (SqL.of upd_same), by omega, m0, w4.get 0 rfl, hb2, fun r3 ms3 a b c H3 ml3 m03 b3 hp3 hb3 hr3 hr33 => ?_⟩
        have w5 := (w4.mut 0 rfl b3 hp3).add w4 hr3 hr33
        walk_at "s"
        refine k r3 ms3 a b c H3 (by omega) m03 (b1.trans (b2.trans b3)) hp3 hb3 ?_ hr33
        cases e : H r3 with
        | none => rfl
        | some o =>
          by_cases hLp : r3 = p
          · subst hLp; rw [hp2] at hr3; cases hr3
          · rw [b2 _ _ hLp (b1 _ _ hLp e)] at hr3; cases hr3
      · walk_at "s"
        exact k r ms a b c H2 (by omega) m0 (b1.trans b2) hp2 hb2 hr0 hr2
    · walk_at "s"
      exact k r ms a b c H2 (by omega) m0 (b1.trans b2) hp2 hb2 hr0 hr2
abbrev s__law_counted : Stmt := topS 17
theorem sc__law_counted : FnScope (["row", "counts", "number", "place"] : List Str) (["row"] : List Str) (defScope s__law_counted) := ⟨rfl, rfl, rfl, by decide +kernel, rfl, by decide +kernel, by decide +kernel⟩
theorem ok__law_counted {f : Addr} {fd : FuncData} (F : Fun K "_law_counted" "_law_counted" s__law_counted f fd) (B : Blt mg) : FnOk P w K mg base (L2.CX P w) 1 f fd (["row"] : List Str) (spCounted K) := by
  refine F.okX sc__law_counted (fun vs H Q E h => ?_) (fun cdv A outer s H vs Q E hr h => ?_)
  · obtain ⟨p, ns, rfl, _⟩ := h; rfl
  · have nd := sc__law_counted.nd
    have hu := hr.units
    refine ⟨_, by exact (pss_cons (ps_if (pt_cmpR (oa_eq hu) (pe_callB ca_len (by rfl) B.len bt_len (pa_cons (pv 0) pa_nil)) pe_int (nomark _))
        (pss_one (ps_ret (pe_lst pa_nil)))
        pss_nil)
        (pss_cons (ps_st 1 nd (pe_op oa_mul (pe_lst (pa_cons pe_int pa_nil)) (pe_ix oa_ix (pv 0) pe_int (fun _ _ => rfl))))
        (pss_cons (ps_for (passes_of rfl) rfl (pi_seq (pv 0)) (pg_n 2 nd)
        (pss_one (ps_for (passes_of rfl) rfl (pi_range1 rfl B.range (pa_cons (pv 2) pa_nil)) (pg_n 3 nd)
        (pss_one (ps_asg (pe_op oa_add (pe_ix oa_ix (pv 1) (pv 3) (fun _ _ => rfl)) pe_int) (pg_sub (pv 1) (pv 3) set_list))))))
        (pss_one (ps_ret (pv 1)))))), ?_⟩
    obtain ⟨s', ns, rfl, hS, hf, hn, h0, k⟩ := h
    show (tSeq _ _) _ [some (.ref s'), none, none, none] H
    walk_at "s"
    refine w_lenL hS ?_
    walk_at "s"
    rw [List.length_map]
    refine w_br (fun c1 => ?_) (fun c1 => ?_)
    · have e : ns = [] := List.length_eq_zero_iff.mp (by omega)
      subst e
      walk_at "s"
      exact fun r hr => k r _ (W.start.new hr).fr hr upd_same
    walk_at "s"
    intro z hz
    refine w_ixL ((W.start.new hz).fr.seq hS) (atI_int (ns := ns) (by omega) (by omega)) ?_
    walk_at "s"
    have hp0 := hf.pos (i := 0) (by omega)
    refine w_rep1 upd_same (by omega) (by omega) fun l hl => ?_
    have wz := (W.start (H := H)).new (o := .lst [.int 0]) hz
    have w1 := (wz.new (o := .lst ((List.replicate (ns.getD 0 0).toNat (0 : Int)).map V.int)) hl)
    have w2 : W H [(l, .lst ((List.replicate (ns.getD 0 0).toNat (0 : Int)).map V.int))] _ := (w1.perm (List.Perm.swap _ _ _)).drop
    rw [List.map_replicate] at w2
    have hl0 : H l = none := w2.offI 0 rfl
    walk_at "s"
    refine w_sqL (w2.fr.seq hS) ?_
    refine w_forL (xs := ns.map V.int) (fun i σ H' => ∃ (cs : List Int) (v1 v2 : Option V), σ = [some (.ref s'), some (.ref l), v1, v2] ∧ W H [(l, .lst (cs.map V.int))] H' ∧ cs.length = (ns.getD 0 0).toNat ∧ ∀ j < cs.length, cs.getD j 0 = (cnt (ns.take i) (j : Nat) : Int)) ⟨_, _, _, rfl, by rw [List.map_replicate]; exact w2, by simp, fun j hj => ?_⟩ (fun i σ H' _ ⟨cs, v1, v2, _, w, _⟩ => w.fr.seq hS) ?_ ?_
    · rw [List.length_replicate] at hj
      rw [List.getD_eq_getElem?_getD, List.getElem?_replicate, if_pos hj]; rfl
    · rintro i x σ H1 hx ⟨cs, v1, v2, rfl, w, hcl, hcj⟩
      obtain ⟨hi, rfl⟩ := getD_map hx
      have hip := hf.pos hi
      have hi0 := hf.le (Nat.zero_le i) hi
      walk_at "s"
      refine w_rg1 (by omega) (by omega) ?_
      refine w_forR (fun q σ H' => ∃ (cs : List Int) (v2 : Option V), σ = [some (.ref s'), some (.ref l), some (.int (ns.getD i 0)), v2] ∧ W H [(l, .lst (cs.map V.int))] H' ∧ cs.length = (ns.getD 0 0).toNat ∧ ∀ j < cs.length, cs.getD j 0 = (cnt (ns.take i) (j : Nat) : Int) + if j < q then 1 else 0) ⟨cs, v2, rfl, w, hcl, fun j hj => by rw [hcj j hj]; simp⟩ ?_ ?_
      · rintro q σ H2 hq ⟨cs, v2, rfl, w, hcl, hcj⟩
        walk_at "s"
        have hqc : q < cs.length := by omega
        refine w_ixL (SqL.of (w.get 0 rfl)) (atI_int (by omega) (by omega)) ?_
        walk_at "s"
        have e0 : ((0 : Int) + (q : Nat)) = (q : Nat) := Int.zero_add _
        rw [e0, Int.toNat_natCast]
        refine w_set (w.get 0 rfl) (jj := q) (by unfold ixN; rw [List.length_map, if_pos (by omega), if_pos (by omega)]; rfl) ?_
        walk_at "s"
        refine ⟨cs.set q (cs.getD q 0 + 1), _, rfl, by rw [List.map_set]; exact w.upd 0 rfl, by rw [List.length_set]; exact hcl, fun j hj => ?_⟩
        rw [List.length_set] at hj
        rw [getD_set hqc]
        by_cases e : j = q
        · subst e
          rw [if_pos rfl, hcj j hj, if_neg (by omega), if_pos (by omega)]; omega
        · rw [if_neg e, hcj j hj]
          by_cases e2 : j < q
          · rw [if_pos e2, if_pos (by omega)]
          · rw [if_neg e2, if_neg (by omega)]
      · rintro σ H2 ⟨cs, v2, rfl, w, hcl, hcj⟩
        walk_at "s"
        refine ⟨cs, _, _, rfl, w, hcl, fun j hj => ?_⟩
        rw [hcj j hj, cnt_take hi]
        by_cases e : (j : Int) < ns.getD i 0
        · rw [if_pos e, if_pos (by omega)]; omega
        · rw [if_neg e, if_neg (by omega)]; omega
    · rintro σ H1 ⟨cs, v1, v2, rfl, w, hcl, hcj⟩
      rw [List.length_map] at hcj
      walk_at "s"
      have e : cs = conj ns := eq_conj hcl fun j hj => by rw [hcj j hj, List.take_length]
      subst e
      exact k l H1 w.fr hl0 (w.get 0 rfl)
abbrev s__law_first_wrong : Stmt := topS 18
theorem sc__law_first_wrong : FnScope (["row", "place"] : List Str) (["row"] : List Str) (defScope s__law_first_wrong) := ⟨rfl, rfl, rfl, by decide +kernel, rfl, by decide +kernel, by decide +kernel⟩
theorem ok__law_first_wrong {f : Addr} {fd : FuncData} (F : Fun K "_law_first_wrong" "_law_first_wrong" s__law_first_wrong f fd) (B : Blt mg) : FnOk P w K mg base (L2.CX P w) 1 f fd (["row"] : List Str) (spFirst K) := by
  refine F.okX sc__law_first_wrong (fun vs H Q E h => ?_) (fun cdv A outer s H vs Q E hr h => ?_)
  · obtain ⟨p, ns, rfl, _⟩ := h; rfl
  · have nd := sc__law_first_wrong.nd
    have hu := hr.units
    refine ⟨_, by exact (pss_cons (ps_for (passes_of rfl) rfl (pi_range1 rfl B.range (pa_cons (pe_callB ca_len (by rfl) B.len bt_len (pa_cons (pv 0) pa_nil)) pa_nil)) (pg_n 1 nd)
        (pss_cons (ps_if (pt_cmpR oa_lt (pe_ix oa_ix (pv 0) (pv 1) (fun _ _ => rfl)) pe_int (nomark _))
        (pss_one (ps_ret (pv 1)))
        pss_nil)
        (pss_one (ps_if (PW.pt (pw_and (pt_cmpR oa_gt (pv 1) pe_int (nomark _)) (pw_and1 (pt_cmpR oa_gt (pe_ix oa_ix (pv 0) (pv 1) (fun _ _ => rfl)) (pe_ix oa_ix (pv 0) (pe_op oa_sub (pv 1) pe_int) (fun _ _ => rfl)) (nomark _)))))
        (pss_one (ps_ret (pv 1)))
        pss_nil))))
        (pss_one (ps_ret (pe_un oa_neg pe_int)))), ?_⟩
    obtain ⟨s', ns, rfl, hS, hn, kf, kw⟩ := h
    show (tSeq _ _) _ [some (.ref s'), none] H
    walk_at "s"
    refine w_lenL hS ?_
    rw [List.length_map]
    refine w_rg1 (by omega) (by omega) ?_
    refine w_forR (fun i σ H' => H' = H ∧ (∃ v1, σ = [some (.ref s'), v1]) ∧ ∀ j < i, ¬ Wr ns j) ⟨rfl, ⟨_, rfl⟩, fun j hj => absurd hj (Nat.not_lt_zero _)⟩ ?_ ?_
    · rintro i σ H' hi ⟨rfl, ⟨v1, rfl⟩, hj⟩
      have hi' : i < ns.length := by omega
      walk_at "s"
      have e0 : ((0 : Int) + (i : Nat)) = (i : Nat) := Int.zero_add _
      rw [e0]
      refine w_ixL hS (atI_int (by omega) (by omega)) ?_
      walk_at "s"
      rw [Int.toNat_natCast]
      refine w_br (fun c1 => ?_) (fun c1 => ?_)
      · walk_at "s"
        exact kw i ⟨hi', .inl c1, hj⟩
      walk_at "s"
      have next : ¬ (0 < i ∧ ns.getD (i - 1) 0 < ns.getD i 0) → ∀ j < i + 1, ¬ Wr ns j := fun hw j hj' => by
          by_cases e : j = i
          · subst e; exact fun z => z.elim c1 hw
          · exact hj j (by omega)
      refine w_aB (fun c2 => ?_) (fun c2 => ?_)
      · walk_at "s"
        refine w_ixL hS (atI_int (by omega) (by omega)) ?_
        walk_at "s"
        refine w_ixL hS (atI_int (by omega) (by omega)) ?_
        walk_at "s"
        have e : ((i : Int) - 1).toNat = i - 1 := by omega
        rw [e, Int.toNat_natCast]
        refine w_br (fun c3 => ?_) (fun c3 => ?_)
        · walk_at "s"
          exact kw i ⟨hi', .inr ⟨by omega, c3⟩, hj⟩
        · walk_at "s"
          exact ⟨⟨_, rfl⟩, next fun z => c3 z.2⟩
      · walk_at "s"
        exact ⟨⟨_, rfl⟩, next fun z => c2 (by omega)⟩
    · rintro σ H' ⟨rfl, ⟨v1, rfl⟩, hj⟩
      walk_at "s"
      exact kf fun i hi => hj i (by omega)
end
end Nk
namespace Nk
open PySem L2
open Row
local macro_rules | `(tactic| walk_at "s") => `(tactic| try simp (decide := true) only [L2.cxK, L2.s_seq, L2.s_next, L2.s_brk, L2.s_cont, L2.s_drop, L2.s_ret, L2.s_retN, L2.s_ifS, L2.s_br1, L2.s_br0, L2.s_asg, L2.s_asI, L2.s_asB, L2.s_asN, L2.s_asS, L2.s_asR, L2.s_gName, L2.s_gSub, L2.s_var, L2.s_C, L2.s_op, L2.s_un, L2.s_chain, L2.s_test, L2.s_B, L2.s_and, L2.s_aB1, L2.s_aB0, L2.s_or, L2.s_oB1, L2.s_oB0, L2.s_not, L2.s_andV, L2.s_aE1, L2.s_aE0, L2.s_orV, L2.s_oE1, L2.s_oE0, L2.s_notV, L2.s_nE, L2.s_if, L2.s_iE1, L2.s_iE0, L2.s_tr, L2.s_trB, L2.s_trI, L2.s_trN, L2.s_nil, L2.s_cons, L2.s_CB, L2.s_call, L2.s_callS, L2.s_sl, L2.s_part, L2.s_noPart, L2.s_lst, L2.s_mk, L2.s_xf, L2.s_for, L2.s_lc, L2.s_rng1, L2.s_rng2, L2.s_rng3, L2.s_enum, L2.s_zip, L2.s_seqI, L2.s_tup, L2.s_BM, L2.s_BM0, L2.v_addI, L2.v_subI, L2.v_mulI, L2.v_divI, L2.v_modI, L2.v_powI, L2.v_negI, L2.v_cmp, L2.v_eqI, L2.v_neI, L2.v_isN, L2.v_isB, L2.v_isnotN, L2.v_isnotB, L2.v_int, L2.v_abs, L2.v_max2, L2.v_min2, L2.le_line, List.set_cons_succ, List.set_cons_zero, List.getElem?_cons_succ, List.getElem?_cons_zero, Option.some.injEq, exists_eq_left', V.bl.injEq, V.int.injEq, true_and, and_true, Bool.not_true, Bool.not_false, if_true, if_false, Bool.false_eq_true, List.append_nil, reduceCtorEq, decide_true, decide_false, ne_eq, not_false_eq_true, Int.reduceToNat, Int.reducePow, Int.reduceMul, Int.reduceAdd, Int.reduceSub, Int.reduceNeg, Nat.reduceAdd, List.length_cons, List.length_nil, List.nil_append, List.cons_append])

def wroO (i : Nat) : HO := .tup [.str "NotFalling", .int i, .bl true, .bl true, .bl false, .bl false]
def spTry (K : PySem.W.Frag) : Sp := fun vs H Q _ => ∃ (s : Addr) (ns : List Int), vs = [.ref s] ∧ SqL K H s (ns.map V.int) ∧ ns.length ≤ 5000 ∧ ns.getD 0 0 ≤ 5000 ∧
  (Falling ns → ∀ (r c : Addr) (H' : Hp), Same H H' → H r = none → H c = none → H' r = some (.tup [.str "turned", .ref c]) → H' c = some (.lst ((conj ns).map V.int)) → Q (.ref r) H') ∧
  (∀ i, First ns i → ∀ (r : Addr) (H' : Hp), Same H H' → H r = none → H' r = some (wroO i) → Q (.ref r) H')
section
variable {P : Program} {w : World} {K : PySem.W.Frag} {mg : Str → Option Value} {base : Heap}
variable {cNE cBN cNF cUS iBN iNF iUS : Addr}
abbrev s__law_try_turned : Stmt := topS 19
theorem sc__law_try_turned : FnScope (["row", "found", "word", "e"] : List Str) (["row"] : List Str) (defScope s__law_try_turned) := ⟨rfl, rfl, rfl, by decide +kernel, rfl, by decide +kernel, by decide +kernel⟩
theorem ok__law_try_turned {f : Addr} {fd : FuncData} (F : Fun K "_law_try_turned" "_law_try_turned" s__law_try_turned f fd) (B : Blt mg) (T : Tx K mg cNE cBN cNF cUS iBN iNF iUS) (C_turned : FnAt P w K mg base 3 "turned" ["row"] (spTurned K cNF)) : FnOk P w K mg base (L2.CX P w) 4 f fd (["row"] : List Str) (spTry K) := by
  refine F.okX sc__law_try_turned (fun vs H Q E h => ?_) (fun cdv A outer s H vs Q E hr h => ?_)
  · obtain ⟨p, ns, rfl, _⟩ := h; rfl
  · have nd := sc__law_try_turned.nd
    have hu := hr.units
    refine ⟨_, by exact (pss_cons (ps_st 1 nd pe_non)
        (pss_cons (ps_st 2 nd (pe_tup (pa_cons pe_str pa_nil)))
        (pss_cons (ps_try_hds rfl rfl nd takes0 (fun W pn xe tk po =>
        (pss_one (ps_st 1 nd (pe_fnS C_turned (hr.mono (by first | decide | omega)) (fun σ => passAt tk σ) (pa_cons (pv 0) pa_nil)))))
        (HdsN.as_ (i := 3) rfl rfl ⟨rfl, by decide, .inl T.x_NotFalling.g⟩ (fun a oe cls dd pn hz hf => (pss_one (ps_st 2 nd (pe_tup (pa_cons pe_str (pa_cons (pe_xf T.x_NotFalling.xf (T.x_NotFalling.txt.noN "place" (by simp)) hz hf (pv 3)) (pa_cons (pe_callB (call_isX T.x_NotFalling.ex hz hf) (by rfl) B.isinstance bt_isinstance (pa_cons (pv 3) (pa_cons (pe_glob (v := .ref _) rfl T.x_NightsError.g rfl) pa_nil))) (pa_cons (pe_callB (call_isX T.x_NotFalling.ex hz hf) (by rfl) B.isinstance bt_isinstance (pa_cons (pv 3) (pa_cons (pe_bltn (v := .ty "ValueError") (by rfl) B.ValueError bt_ValueError rfl) pa_nil))) (pa_cons (pe_callB (call_isX T.x_NotFalling.ex hz hf) (by rfl) B.isinstance bt_isinstance (pa_cons (pv 3) (pa_cons (pe_glob (v := .ref _) rfl T.x_BadNumber.g rfl) pa_nil))) (pa_cons (pe_callB (call_isX T.x_NotFalling.ex hz hf) (by rfl) B.isinstance bt_isinstance (pa_cons (pv 3) (pa_cons (pe_glob (v := .ref _) rfl T.x_UnlikeSums.g rfl) pa_nil))) pa_nil)))))))))) HdsN.nil))
        (pss_cons (ps_if (pt_cmpR oa_isnot (pv 1) pe_non (nomark _))
        (pss_one (ps_st 2 nd (pe_tup (pa_cons pe_str (pa_cons (pv 1) pa_nil)))))
        pss_nil)
        (pss_one (ps_ret (pv 2))))))), ?_⟩
    obtain ⟨s', ns, rfl, hS, hl, h0, kf, kw⟩ := h
    show (tSeq _ _) _ [some (.ref s'), none, none, none] H
    walk_at "s"
    intro z hz
    have wz : W H [(z, .tup [.str "none"])] _ := W.start.new hz
    refine ⟨s', ns, rfl, wz.fr.seq hS, hl, h0, fun hf r H1 s1 hr hr1 => ?_, fun i hi d H1 s1 hd hd1 => ?_⟩
    · walk_at "s"
      intro t ht
      have w1 : W H [(r, .lst ((conj ns).map V.int)), (z, .tup [.str "none"])] H1 := (wz.grow s1).add wz hr hr1
      have w2 := w1.new (o := .tup [.str "turned", .ref r]) ht
      exact kf hf t r _ w2.fr (w2.offI 0 rfl) (w2.offI 1 rfl) (w2.get 0 rfl) (w2.get 1 rfl)
    · unfold wHds
      have wd := (wz.grow s1).add wz hd hd1
      refine ⟨true, T.x_NotFalling.exm T.x_NotFalling.seC, fun _ x hx => ?_, fun z => by cases z⟩
      show tAsg _ _ _ _ _
      walk_at "s"
      refine w_xf hd1 (v := .int i) (by rfl) ?_
      walk_at "s"
      refine w_isX T.x_NightsError hd1 T.s_NF_NE ?_
      walk_at "s"
      refine w_isXV hd1 T.x_NotFalling.veC ?_
      walk_at "s"
      refine w_isX T.x_BadNumber hd1 T.s_NF_BN ?_
      walk_at "s"
      refine w_isX T.x_UnlikeSums hd1 T.s_NF_US ?_
      walk_at "s"
      intro t ht
      exact kw i hi t _ (wd.new ht).fr ((wd.new (o := .lst []) ht).offI 0 rfl) upd_same

theorem dp_turned {K : PySem.W.Frag} {H : Hp} {r c : Addr} {ns : List Int} (h : H r = some (.tup [.str "turned", .ref c])) (h' : SqL K H c (ns.map V.int)) : Dp K H (.ref r) (.tuple [.str "turned", .list (ns.map PyData.int)]) :=
  .tup (SqT.of h) (.cons (.str _) (.cons (Dp.intL h') .nil))
theorem fits_turned {ns : List Int} (h : ns.length ≤ 5000) : fits 2 (.tuple [.str "turned", .list (ns.map PyData.int)]) := by
  refine ⟨by simp, fun d hd => ?_⟩
  simp only [List.mem_cons, List.not_mem_nil, or_false] at hd
  rcases hd with rfl | rfl
  · trivial
  · refine ⟨by rw [List.length_map]; omega, fun d hd => ?_⟩
    obtain ⟨n, _, rfl⟩ := List.mem_map.mp hd
    trivial
theorem dp_wrong {K : PySem.W.Frag} {H : Hp} {r : Addr} {i : Nat} (h : H r = some (wroO i)) : Dp K H (.ref r) (.tuple [.str "NotFalling", .int i, .bool true, .bool true, .bool false, .bool false]) :=
  .tup (SqT.of h) (.cons (.str _) (.cons (.int _) (.cons (.bl _) (.cons (.bl _) (.cons (.bl _) (.cons (.bl _) .nil))))))
theorem fits_wrong {i : Nat} : fits 2 (.tuple [.str "NotFalling", .int i, .bool true, .bool true, .bool false, .bool false]) := by
  refine ⟨by simp, fun d hd => ?_⟩
  simp only [List.mem_cons, List.not_mem_nil, or_false] at hd
  rcases hd with rfl | rfl | rfl | rfl | rfl | rfl <;> trivial
def spRight (K : PySem.W.Frag) : Sp := fun vs H Q _ => ∃ (s : Addr) (ns : List Int), vs = [.ref s] ∧ SqL K H s (ns.map V.int) ∧ ns.length ≤ 5000 ∧ ns.getD 0 0 ≤ 5000 ∧ ∀ H', Same H H' → Q (.bl true) H'
abbrev s__law_turned_right : Stmt := topS 20
theorem sc__law_turned_right : FnScope (["row", "wrong", "handed", "told", "due"] : List Str) (["row"] : List Str) (defScope s__law_turned_right) := ⟨rfl, rfl, rfl, by decide +kernel, rfl, by decide +kernel, by decide +kernel⟩
theorem ok__law_turned_right {f : Addr} {fd : FuncData} (F : Fun K "_law_turned_right" "_law_turned_right" s__law_turned_right f fd) (B : Blt mg) (C__law_same : FnAt P w K mg base 5 "_law_same" ["got", "due"] (spSame K 3)) (C__law_try_turned : FnAt P w K mg base 4 "_law_try_turned" ["row"] (spTry K)) (C__law_counted : FnAt P w K mg base 1 "_law_counted" ["row"] (spCounted K)) (C__law_first_wrong : FnAt P w K mg base 1 "_law_first_wrong" ["row"] (spFirst K)) : FnOk P w K mg base (L2.CX P w) 6 f fd (["row"] : List Str) (spRight K) := by
  refine F.okX sc__law_turned_right (fun vs H Q E h => ?_) (fun cdv A outer s H vs Q E hr h => ?_)
  · obtain ⟨p, ns, rfl, _⟩ := h; rfl
  · have nd := sc__law_turned_right.nd
    have hu := hr.units
    refine ⟨_, by exact (pss_cons (ps_st 1 nd (pe_fn C__law_first_wrong (hr.mono (by first | decide | omega)) passL (pa_cons (pv 0) pa_nil)))
        (pss_cons (ps_st 2 nd (pe_callTy ca_list (by rfl) B.list bt_list (pa_cons (pv 0) pa_nil)))
        (pss_cons (ps_st 3 nd (pe_fn C__law_try_turned (hr.mono (by first | decide | omega)) passL (pa_cons (pv 2) pa_nil)))
        (pss_cons (ps_if (pt_cmpR (oa_ne hu) (pv 2) (pv 0) (nomark _))
        (pss_one (ps_ret pe_bl))
        pss_nil)
        (pss_cons (ps_if (pt_cmpR oa_ge (pv 1) pe_int (nomark _))
        (pss_one (ps_ret (pe_fn C__law_same (hr.mono (by first | decide | omega)) passL (pa_cons (pv 3) (pa_cons (pe_tup (pa_cons pe_str (pa_cons (pv 1) (pa_cons pe_bl (pa_cons pe_bl (pa_cons pe_bl (pa_cons pe_bl pa_nil))))))) pa_nil)))))
        pss_nil)
        (pss_cons (ps_st 4 nd (pe_fn C__law_counted (hr.mono (by first | decide | omega)) passL (pa_cons (pv 0) pa_nil)))
        (pss_cons (ps_if (pt_not (pt_tr (pe_fn C__law_same (hr.mono (by first | decide | omega)) passL (pa_cons (pv 3) (pa_cons (pe_tup (pa_cons pe_str (pa_cons (pv 4) pa_nil))) pa_nil)))))
        (pss_one (ps_ret pe_bl))
        pss_nil)
        (pss_cons (ps_expr (pe_bm PySem.F.plainAttrs_list PySem.F.slot_list_append PySem.F.type_list_append mt_append (pe_ix oa_ix (pv 3) pe_int (fun _ _ => rfl)) (pa_cons pe_int pa_nil)))
        (pss_cons (ps_if (pt_cmpR (oa_ne hu) (pv 2) (pv 0) (nomark _))
        (pss_one (ps_ret pe_bl))
        pss_nil)
        (pss_one (ps_ret (pe_fn C__law_same (hr.mono (by first | decide | omega)) passL (pa_cons (pe_fn C__law_try_turned (hr.mono (by first | decide | omega)) passL (pa_cons (pv 4) pa_nil)) (pa_cons (pe_tup (pa_cons pe_str (pa_cons (pv 0) pa_nil))) pa_nil)))))))))))))), ?_⟩
    obtain ⟨s', ns, rfl, hS, hl, h0, k⟩ := h
    show (tSeq _ _) _ [some (.ref s'), none, none, none, none] H
    walk_at "s"
    refine ⟨s', ns, rfl, hS, hl, fun hf => ?_, fun i hi => ?_⟩
    · walk_at "s"
      refine w_list (.inl hS) fun l hl' => ?_
      have w0 := (W.start (H := H)).new (o := .lst (ns.map V.int)) hl'
      walk_at "s"
      refine ⟨l, ns, rfl, SqL.of upd_same, hl, h0, fun _ r c H1 s1 hr hc hr1 hc1 => ?_, fun i hi => absurd hf hi.not⟩
      have w1 := (w0.grow s1).add2 w0 hr hc hr1 hc1 (fun z => by cases z)
      walk_at "s"
      refine w_neIL (SqL.of (w1.get 2 rfl)) (w1.fr.seq hS) ?_
      walk_at "s"
      refine ⟨s', ns, rfl, w1.fr.seq hS, hf, hl, h0, fun c2 H2 s2 hc2 hc22 => ?_⟩
      have w2 := (w1.grow s2).add w1 hc2 hc22
      walk_at "s"
      intro t2 ht2
      have w3 := w2.new (o := .tup [.str "turned", .ref c2]) ht2
      have cl : (conj ns).length ≤ 5000 := by rw [conj_len]; omega
      refine ⟨.ref r, .ref t2, _, _, rfl, dp_turned (w3.get 2 rfl) (SqL.of (w3.get 3 rfl)), dp_turned (w3.get 0 rfl) (SqL.of (w3.get 1 rfl)), fits_turned cl, ?_⟩
      rw [sm_eq rfl (fits_turned cl)]
      walk_at "s"
      refine w_ixT (SqT.of (w3.get 2 rfl)) (w := .ref c) rfl ?_
      refine w_app (w3.get 3 rfl) (by rw [List.length_map]; exact small1000' (by omega)) ?_
      have w4 := w3.upd (o' := .lst ((conj ns).map V.int ++ [.int 1])) 3 rfl
      walk_at "s"
      refine w_neIL (SqL.of (w4.get 4 rfl)) (w4.fr.seq hS) ?_
      walk_at "s"
      have c0 : (conj ns).getD 0 0 ≤ 5000 := by
        by_cases e : 0 < (ns.getD 0 0).toNat
        · rw [conj_at ns e]
          have := cnt_le ns ((0 : Nat) : Int)
          omega
        · have e : conj ns = [] := List.length_eq_zero_iff.mp (by rw [conj_len]; omega)
          rw [e]; decide
      refine ⟨c2, conj ns, rfl, SqL.of (w4.get 1 rfl), cl, c0, fun _ r5 c5 H5 s5 hr5 hc5 hr55 hc55 => ?_, fun i hi => absurd (conj_falling hf) hi.not⟩
      rw [conj_conj hf] at hc55
      have w5 := (w4.grow s5).add2 w4 hr5 hc5 hr55 hc55 (fun z => by cases z)
      walk_at "s"
      intro t6 ht6
      have w6 := w5.new (o := .tup [.str "turned", .ref s']) ht6
      refine ⟨.ref r5, .ref t6, _, _, rfl, dp_turned (w6.get 1 rfl) (SqL.of (w6.get 2 rfl)), dp_turned (w6.get 0 rfl) (w6.fr.seq hS), fits_turned hl, ?_⟩
      rw [sm_eq rfl (fits_turned hl)]
      exact k _ w6.fr
    · walk_at "s"
      refine w_list (.inl hS) fun l hl' => ?_
      have w0 := (W.start (H := H)).new (o := .lst (ns.map V.int)) hl'
      walk_at "s"
      refine ⟨l, ns, rfl, SqL.of upd_same, hl, h0, fun hf => absurd hf hi.not, fun i' hi' r H1 s1 hr hr1 => ?_⟩
      obtain rfl := hi'.uniq hi
      have w1 := (w0.grow s1).add w0 hr hr1
      walk_at "s"
      refine w_neIL (SqL.of (w1.get 1 rfl)) (w1.fr.seq hS) ?_
      walk_at "s"
      refine w_br (fun c1 => ?_) (fun c1 => absurd (Int.natCast_nonneg _) c1)
      walk_at "s"
      intro t2 ht2
      have w3 := w1.new (o := wroO i') ht2
      refine ⟨.ref r, .ref t2, _, _, rfl, dp_wrong (w3.get 1 rfl), dp_wrong (w3.get 0 rfl), fits_wrong, ?_⟩
      rw [sm_eq rfl fits_wrong]
      exact k _ w3.fr
end
end Nk
namespace Nk
open PySem L2
open Row
local macro_rules | `(tactic| walk_at "s") => `(tactic| try simp (decide := true) only [L2.cxK, L2.s_seq, L2.s_next, L2.s_brk, L2.s_cont, L2.s_drop, L2.s_ret, L2.s_retN, L2.s_ifS, L2.s_br1, L2.s_br0, L2.s_asg, L2.s_asI, L2.s_asB, L2.s_asN, L2.s_asS, L2.s_asR, L2.s_gName, L2.s_gSub, L2.s_var, L2.s_C, L2.s_op, L2.s_un, L2.s_chain, L2.s_test, L2.s_B, L2.s_and, L2.s_aB1, L2.s_aB0, L2.s_or, L2.s_oB1, L2.s_oB0, L2.s_not, L2.s_andV, L2.s_aE1, L2.s_aE0, L2.s_orV, L2.s_oE1, L2.s_oE0, L2.s_notV, L2.s_nE, L2.s_if, L2.s_iE1, L2.s_iE0, L2.s_tr, L2.s_trB, L2.s_trI, L2.s_trN, L2.s_nil, L2.s_cons, L2.s_CB, L2.s_call, L2.s_callS, L2.s_sl, L2.s_part, L2.s_noPart, L2.s_lst, L2.s_mk, L2.s_xf, L2.s_for, L2.s_lc, L2.s_rng1, L2.s_rng2, L2.s_rng3, L2.s_enum, L2.s_zip, L2.s_seqI, L2.s_tup, L2.s_BM, L2.s_BM0, L2.v_addI, L2.v_subI, L2.v_mulI, L2.v_divI, L2.v_modI, L2.v_powI, L2.v_negI, L2.v_cmp, L2.v_eqI, L2.v_neI, L2.v_isN, L2.v_isB, L2.v_isnotN, L2.v_isnotB, L2.v_int, L2.v_abs, L2.v_max2, L2.v_min2, L2.le_line, List.set_cons_succ, List.set_cons_zero, List.getElem?_cons_succ, List.getElem?_cons_zero, Option.some.injEq, exists_eq_left', V.bl.injEq, V.int.injEq, true_and, and_true, Bool.not_true, Bool.not_false, if_true, if_false, Bool.false_eq_true, List.append_nil, reduceCtorEq, decide_true, decide_false, ne_eq, not_false_eq_true, Int.reduceToNat, Int.reducePow, Int.reduceMul, Int.reduceAdd, Int.reduceSub, Int.reduceNeg, Nat.reduceAdd, List.length_cons, List.length_nil, List.nil_append, List.cons_append])

def spLaw (K : PySem.W.Frag) : Sp := fun vs H Q _ => ∃ (s : Addr) (ns : List Int), vs = [.ref s] ∧ SqL K H s (ns.map V.int) ∧ ∀ H', Q (.bl true) H'
section
variable {P : Program} {w : World} {K : PySem.W.Frag} {mg : Str → Option Value} {base : Heap}
abbrev s_law : Stmt := topS 21
theorem sc_law : FnScope (["script", "pool", "total", "row", "other", "bent"] : List Str) (["script"] : List Str) (defScope s_law) := ⟨rfl, rfl, rfl, by decide +kernel, rfl, by decide +kernel, by decide +kernel⟩
theorem ok_law {f : Addr} {fd : FuncData} (F : Fun K "law" "law" s_law f fd) (B : Blt mg) (C__law_pool : FnAt P w K mg base 1 "_law_pool" ["script", "at"] (spPool K)) (C__law_draw : FnAt P w K mg base 1 "_law_draw" ["pool", "many"] spDraw) (C__law_falling : FnAt P w K mg base 2 "_law_falling" ["pool", "total"] spFalling) (C__law_spoiled : FnAt P w K mg base 3 "_law_spoiled" ["pool", "row"] (spSpoiled K)) (C__law_turned_right : FnAt P w K mg base 6 "_law_turned_right" ["row"] (spRight K)) (C__law_same : FnAt P w K mg base 5 "_law_same" ["got", "due"] (spSame K 3)) (C__law_try_turned : FnAt P w K mg base 4 "_law_try_turned" ["row"] (spTry K)) (C__law_counted : FnAt P w K mg base 1 "_law_counted" ["row"] (spCounted K)) : FnOk P w K mg base (L2.CX P w) 7 f fd (["script"] : List Str) (spLaw K) := by
  refine F.okX sc_law (fun vs H Q E h => ?_) (fun cdv A outer s H vs Q E hr h => ?_)
  · obtain ⟨p, ns, rfl, _⟩ := h; rfl
  · have nd := sc_law.nd
    have hu := hr.units
    refine ⟨_, by exact (pss_cons (ps_st 1 nd (pe_fn C__law_pool (hr.mono (by first | decide | omega)) passL (pa_cons (pv 0) (pa_cons pe_int pa_nil))))
        (pss_cons (ps_st 2 nd (pe_fn C__law_draw (hr.mono (by first | decide | omega)) passL (pa_cons (pv 1) (pa_cons pe_int pa_nil))))
        (pss_cons (ps_if (pt_cmpR (oa_eq hu) (pe_fn C__law_draw (hr.mono (by first | decide | omega)) passL (pa_cons (pv 1) (pa_cons pe_int pa_nil))) pe_int (nomark _))
        (pss_one (ps_st 2 nd (pe_fn C__law_draw (hr.mono (by first | decide | omega)) passL (pa_cons (pv 1) (pa_cons (pe_ix oa_ix (pe_lst (pa_cons pe_int (pa_cons pe_int (pa_cons pe_int (pa_cons pe_int pa_nil))))) (pe_fn C__law_draw (hr.mono (by first | decide | omega)) passL (pa_cons (pv 1) (pa_cons pe_int pa_nil))) (fun _ _ => rfl)) pa_nil)))))
        pss_nil)
        (pss_cons (ps_st 3 nd (pe_fn C__law_falling (hr.mono (by first | decide | omega)) passL (pa_cons (pv 1) (pa_cons (pv 2) pa_nil))))
        (pss_cons (ps_st 4 nd (pe_fn C__law_falling (hr.mono (by first | decide | omega)) passL (pa_cons (pv 1) (pa_cons (pe_fn C__law_draw (hr.mono (by first | decide | omega)) passL (pa_cons (pv 1) (pa_cons pe_int pa_nil))) pa_nil))))
        (pss_cons (ps_st 5 nd (pe_fn C__law_spoiled (hr.mono (by first | decide | omega)) passL (pa_cons (pv 1) (pa_cons (pv 3) pa_nil))))
        (pss_cons (ps_if (PW.pt (pw_or (pt_not (pt_tr (pe_fn C__law_turned_right (hr.mono (by first | decide | omega)) passL (pa_cons (pv 5) pa_nil)))) (pw_or1 (pt_not (pt_tr (pe_fn C__law_turned_right (hr.mono (by first | decide | omega)) passL (pa_cons (pv 3) pa_nil)))))))
        (pss_one (ps_ret pe_bl))
        pss_nil)
        (pss_cons (ps_if (PW.pt (pw_or (pt_not (pt_tr (pe_fn C__law_turned_right (hr.mono (by first | decide | omega)) passL (pa_cons (pv 4) pa_nil)))) (pw_or1 (pt_not (pt_tr (pe_fn C__law_turned_right (hr.mono (by first | decide | omega)) passL (pa_cons (pe_lst pa_nil) pa_nil)))))))
        (pss_one (ps_ret pe_bl))
        pss_nil)
        (pss_one (ps_ret (pe_fn C__law_same (hr.mono (by first | decide | omega)) passL (pa_cons (pe_fn C__law_try_turned (hr.mono (by first | decide | omega)) passL (pa_cons (pe_callTy ca_list (by rfl) B.list bt_list (pa_cons (pv 3) pa_nil)) pa_nil)) (pa_cons (pe_tup (pa_cons pe_str (pa_cons (pe_fn C__law_counted (hr.mono (by first | decide | omega)) passL (pa_cons (pv 3) pa_nil)) pa_nil))) pa_nil))))))))))))), ?_⟩
    obtain ⟨s', ss, rfl, hS, k⟩ := h
    show (tSeq _ _) _ [some (.ref s'), none, none, none, none, none] H
    walk_at "s"
    refine ⟨s', ss, 0, rfl, hS, fun p a b c hp hb => ?_⟩
    have w0 := (W.start (H := H)).new (o := poolO a b c) hp
    walk_at "s"
    refine w_draw w0 0 rfl hb (by omega) (by omega) fun t1 a b c H1 g0 g1 hb _ w1 => ?_
    clear w0
    walk_at "s"
    refine w_draw w1 0 rfl hb (by omega) (by omega) fun d1 a b c H2 _ _ hb _ w2 => ?_
    clear w1
    walk_at "s"
    refine w_brJ (fun σ H' => ∃ (total a b c : Int), σ = [some (.ref s'), some (.ref p), some (.int total), none, none, none] ∧ 0 ≤ total ∧ total ≤ 2000 ∧ POk b ∧ W H [(p, poolO a b c)] H') ?_ (fun c1 nx hnx => ?_) (fun c1 nx hnx => ?_)
    · clear w2 hb g0 g1
      rintro σ H3 ⟨total, a, b, c, rfl, t0, t1, hb, w3⟩
      walk_at "s"
      refine ⟨p, total, a, b, c, rfl, t0, t1, w3.get 0 rfl, hb, fun row rs a b c H4 rf rl r0 b4 hp4 hb hr hr4 => ?_⟩
      obtain ⟨sR, w4⟩ := ((w3.mut 0 rfl b4 hp4).add w3 hr hr4).frz
      have rS : SqL K (upd H row (.lst (rs.map V.int))) row (rs.map V.int) := SqL.of upd_same
      clear w3
      walk_at "s"
      refine w_draw w4 0 rfl hb (by omega) (by omega) fun t5 a b c H5 g0 g1 hb _ w5 => ?_
      clear w4
      walk_at "s"
      refine ⟨p, t5, a, b, c, rfl, g0, by omega, w5.get 0 rfl, hb, fun oth os a b c H6 of ol o0 b6 hp6 hb ho ho6 => ?_⟩
      obtain ⟨sO, w6⟩ := ((w5.mut 0 rfl b6 hp6).add w5 ho ho6).frz
      have rS := sO.seq rS
      have oS : SqL K (upd (upd H row (.lst (rs.map V.int))) oth (.lst (os.map V.int))) oth (os.map V.int) := SqL.of upd_same
      clear w5
      generalize upd (upd H row (.lst (rs.map V.int))) oth (.lst (os.map V.int)) = F at rS oS w6
      walk_at "s"
      refine ⟨p, row, rs, a, b, c, rfl, (w6.frem 0 rfl).seq rS, by omega, by omega, w6.get 0 rfl, hb, fun bent bs a b c H7 bl b0 b7 hp7 hb hbt hbt7 => ?_⟩
      obtain ⟨sB, w7⟩ := ((w6.mut 0 rfl b7 hp7).add w6 hbt hbt7).frz
      have w8 := w7.drop
      have s8 : Same F H7 := sB.trans w8.fr
      have rS := s8.seq rS
      have oS := s8.seq oS
      have bS : SqL K H7 bent (bs.map V.int) := SqL.of hbt7
      clear w8 w7 w6 s8
      walk_at "s"
      refine ⟨bent, bs, rfl, bS, by omega, by omega, fun H8 s8 => ?_⟩
      walk_at "s"
      refine ⟨row, rs, rfl, s8.seq rS, by omega, by omega, fun H9 s9 => ?_⟩
      have s9 := s8.trans s9
      walk_at "s"
      refine ⟨oth, os, rfl, s9.seq oS, by omega, by omega, fun H10 s10 => ?_⟩
      have s10 := s9.trans s10
      walk_at "s"
      intro z hz
      have wz := (W.start (H := H10)).new (o := .lst []) hz
      refine ⟨z, [], rfl, SqL.of upd_same, by decide, by decide, fun H11 s11 => ?_⟩
      have s11 := s10.trans (wz.fr.trans s11)
      have rS := s11.seq rS
      walk_at "s"
      refine w_list (.inl rS) fun l hl => ?_
      have wl := (W.start (H := H11)).new (o := .lst (rs.map V.int)) hl
      refine ⟨l, rs, rfl, SqL.of upd_same, by omega, by omega, fun _ r c H12 s12 hr hc hr12 hc12 => ?_, fun i hi => absurd rf hi.not⟩
      have w12 := (wl.grow s12).add2 wl hr hc hr12 hc12 (fun z => by cases z)
      refine ⟨row, rs, rfl, w12.fr.seq rS, rf, by omega, by omega, fun c2 H13 s13 hc2 hc23 => ?_⟩
      have w13 := (w12.grow s13).add w12 hc2 hc23
      walk_at "s"
      intro t2 ht2
      have w14 := w13.new (o := .tup [.str "turned", .ref c2]) ht2
      have cl : (conj rs).length ≤ 5000 := by rw [conj_len]; omega
      refine ⟨.ref r, .ref t2, _, _, rfl, dp_turned (w14.get 2 rfl) (SqL.of (w14.get 3 rfl)), dp_turned (w14.get 0 rfl) (SqL.of (w14.get 1 rfl)), fits_turned cl, ?_⟩
      rw [sm_eq rfl (fits_turned cl)]
      exact k _
    · walk_at "s"
      intro q hq
      have w3 := w2.new (o := .lst [.int 301, .int 301, .int 301, .int 1801]) hq
      refine w_draw w3 1 rfl hb (by omega) (by omega) fun x a b c H4 x0 x1 hb _ w4 => ?_
      clear w3
      have ix : ∃ m : Int, atI [V.int 301, .int 301, .int 301, .int 1801] x = some (.int m) ∧ 0 < m ∧ m ≤ 1801 := by
        have : x = 0 ∨ x = 1 ∨ x = 2 ∨ x = 3 := by omega
        rcases this with rfl | rfl | rfl | rfl
        · exact ⟨301, rfl, by decide, by decide⟩
        · exact ⟨301, rfl, by decide, by decide⟩
        · exact ⟨301, rfl, by decide, by decide⟩
        · exact ⟨1801, rfl, by decide, by decide⟩
      obtain ⟨m, hm, m0, m1⟩ := ix
      refine w_ixL (SqL.of (w4.get 0 rfl)) hm ?_
      walk_at "s"
      refine w_draw w4 1 rfl hb m0 (by omega) fun x a b c H5 x0 x1 hb _ w5 => ?_
      walk_at "s"
      exact hnx _ _ ⟨x, a, b, c, rfl, x0, by omega, hb, w5.drop⟩
    · walk_at "s"
      exact hnx _ _ ⟨t1, _, _, _, rfl, g0, by omega, hb, w2⟩
end
end Nk
namespace Nk
open PySem PySem.Spec PyProof.Rows L2
open Row
abbrev s_NotFalling___init__ : Stmt := inClass (topS 3) 0
theorem si_NotFalling : SupInit s_NotFalling___init__ (["place"] : List Str) := ⟨⟨_, rfl, rfl⟩, ⟨_, _, rfl, ⟨_, _, _, _, _, _, _, _, rfl, rfl⟩, (.cons ⟨_, _, _, _, rfl⟩ .nil)⟩, by decide +kernel, by decide +kernel, by decide +kernel, rfl, by decide +kernel, rfl, rfl, fun _ _ _ _ _ _ _ _ _ us hd hl => by subst hd; exact match us, hl with | [_, _], _ => rfl, by decide +kernel, by decide +kernel⟩
theorem all_mk {l : PySem.W.OpenLaw} {w : World} {K : PySem.W.Frag} {h : Heap} {mg : Str → Option Value} {fa : Addr} (hfile : ((l.prog.main.file : Str) == "/claim/cut.py") = true) (htop : (l.prog.main.scope.names.lookup ("super" : Str)).isSome = false) (X : K.In h) (G : h.Ns mainGlobals mg) (hfa : mg "law" = some (.ref fa))
    {cNE : Addr}
    {cBN : Addr}
    {cUS : Addr}
    {cNF : Addr}
    {iNF : Addr} {nm_NotFalling q_NotFalling : Str} {N_NotFalling : Addr} {bs_NotFalling bm_NotFalling : List Value} {sn_NotFalling : List Str} {sub_NotFalling : List Value} {ab_NotFalling : Bool} {col_NotFalling : Option Bool} {dd_NotFalling : Option Addr} {u0_NotFalling u1_NotFalling u2_NotFalling u3_NotFalling u5_NotFalling : Option Value} {oc_NotFalling kV_NotFalling doc_NotFalling pm_NotFalling ct_NotFalling ccl_NotFalling cl_NotFalling : Value} {od_NotFalling an_NotFalling cdd_NotFalling cld_NotFalling : Option Addr} {osl_NotFalling ccs_NotFalling csl_NotFalling : Array (Option Value)} {cda_NotFalling cc_NotFalling : Addr} {vs_NotFalling : Array Value} {file_NotFalling : Str} {tf_NotFalling : Tok}
    {f_check_row : Addr} {od_check_row an_check_row : Option Addr} {sl_check_row : Array (Option Value)} {oc_check_row kV_check_row dc_check_row pm_check_row cd_check_row ct_check_row : Value}
    {f_turn : Addr} {od_turn an_turn : Option Addr} {sl_turn : Array (Option Value)} {oc_turn kV_turn dc_turn pm_turn cd_turn ct_turn : Value}
    {f_turned : Addr} {od_turned an_turned : Option Addr} {sl_turned : Array (Option Value)} {oc_turned kV_turned dc_turned pm_turned cd_turned ct_turned : Value}
    {f__law_pool : Addr} {od__law_pool an__law_pool : Option Addr} {sl__law_pool : Array (Option Value)} {oc__law_pool kV__law_pool dc__law_pool pm__law_pool cd__law_pool ct__law_pool : Value}
    {f__law_draw : Addr} {od__law_draw an__law_draw : Option Addr} {sl__law_draw : Array (Option Value)} {oc__law_draw kV__law_draw dc__law_draw pm__law_draw cd__law_draw ct__law_draw : Value}
    {f__law_falling : Addr} {od__law_falling an__law_falling : Option Addr} {sl__law_falling : Array (Option Value)} {oc__law_falling kV__law_falling dc__law_falling pm__law_falling cd__law_falling ct__law_falling : Value}
    {f__law_spoil_one : Addr} {od__law_spoil_one an__law_spoil_one : Option Addr} {sl__law_spoil_one : Array (Option Value)} {oc__law_spoil_one kV__law_spoil_one dc__law_spoil_one pm__law_spoil_one cd__law_spoil_one ct__law_spoil_one : Value}
    {f__law_spoiled : Addr} {od__law_spoiled an__law_spoiled : Option Addr} {sl__law_spoiled : Array (Option Value)} {oc__law_spoiled kV__law_spoiled dc__law_spoiled pm__law_spoiled cd__law_spoiled ct__law_spoiled : Value}
    {f__law_int : Addr} {od__law_int an__law_int : Option Addr} {sl__law_int : Array (Option Value)} {oc__law_int kV__law_int dc__law_int pm__law_int cd__law_int ct__law_int : Value}
    {f__law_same : Addr} {od__law_same an__law_same : Option Addr} {sl__law_same : Array (Option Value)} {oc__law_same kV__law_same dc__law_same pm__law_same cd__law_same ct__law_same : Value}
    {f__law_counted : Addr} {od__law_counted an__law_counted : Option Addr} {sl__law_counted : Array (Option Value)} {oc__law_counted kV__law_counted dc__law_counted pm__law_counted cd__law_counted ct__law_counted : Value}
    {f__law_first_wrong : Addr} {od__law_first_wrong an__law_first_wrong : Option Addr} {sl__law_first_wrong : Array (Option Value)} {oc__law_first_wrong kV__law_first_wrong dc__law_first_wrong pm__law_first_wrong cd__law_first_wrong ct__law_first_wrong : Value}
    {f__law_try_turned : Addr} {od__law_try_turned an__law_try_turned : Option Addr} {sl__law_try_turned : Array (Option Value)} {oc__law_try_turned kV__law_try_turned dc__law_try_turned pm__law_try_turned cd__law_try_turned ct__law_try_turned : Value}
    {f__law_turned_right : Addr} {od__law_turned_right an__law_turned_right : Option Addr} {sl__law_turned_right : Array (Option Value)} {oc__law_turned_right kV__law_turned_right dc__law_turned_right pm__law_turned_right cd__law_turned_right ct__law_turned_right : Value}
    {f_law : Addr} {od_law an_law : Option Addr} {sl_law : Array (Option Value)} {oc_law kV_law dc_law pm_law cd_law ct_law : Value}
    (z_len : PySem.W.nsIn K mainGlobals "len" = some none)
    (z_abs : PySem.W.nsIn K mainGlobals "abs" = some none)
    (z_max : PySem.W.nsIn K mainGlobals "max" = some none)
    (z_min : PySem.W.nsIn K mainGlobals "min" = some none)
    (z_sum : PySem.W.nsIn K mainGlobals "sum" = some none)
    (z_sorted : PySem.W.nsIn K mainGlobals "sorted" = some none)
    (z_isinstance : PySem.W.nsIn K mainGlobals "isinstance" = some none)
    (z_iter : PySem.W.nsIn K mainGlobals "iter" = some none)
    (z_ord : PySem.W.nsIn K mainGlobals "ord" = some none)
    (z_any : PySem.W.nsIn K mainGlobals "any" = some none)
    (z_all : PySem.W.nsIn K mainGlobals "all" = some none)
    (z_int : PySem.W.nsIn K mainGlobals "int" = some none)
    (z_bool : PySem.W.nsIn K mainGlobals "bool" = some none)
    (z_str : PySem.W.nsIn K mainGlobals "str" = some none)
    (z_list : PySem.W.nsIn K mainGlobals "list" = some none)
    (z_tuple : PySem.W.nsIn K mainGlobals "tuple" = some none)
    (z_dict : PySem.W.nsIn K mainGlobals "dict" = some none)
    (z_set : PySem.W.nsIn K mainGlobals "set" = some none)
    (z_range : PySem.W.nsIn K mainGlobals "range" = some none)
    (z_enumerate : PySem.W.nsIn K mainGlobals "enumerate" = some none)
    (z_zip : PySem.W.nsIn K mainGlobals "zip" = some none)
    (z_reversed : PySem.W.nsIn K mainGlobals "reversed" = some none)
    (z_super : PySem.W.nsIn K mainGlobals "super" = some none)
    (z_ValueError : PySem.W.nsIn K mainGlobals "ValueError" = some none)
    (q_get : PySem.W.specialIn K (.builtin "object.__class__") "__get__" = some (some (.builtin "getset_descriptor.__get__")))
    (q_takes : PySem.W.takesIn K (.builtin "object.__class__") = some true)
    (q_tp : PySem.W.nsIn K cStatics "thirdparty.any" = some none)
    (e0_NightsError : PySem.W.nsIn K mainGlobals "NightsError" = some (some (.ref cNE)))
    (e1_NightsError : PySem.W.subIn K (.ref cNE) (.type "BaseException") = some true)
    (e2_NightsError : PySem.W.subIn K (.ref cNE) (.type "ValueError") = some true)
    (e3_NightsError : PySem.W.typeIn K (.ref cNE) = some (.type "type"))
    (e4_NightsError : PySem.W.hasDictIn K cNE = true)
    (e5_NightsError : PySem.W.subIn K (.ref cNE) (.ref cNE) = some true)
    (e6_NightsError : PySem.W.findIn K (.ref cNE) "__getattribute__" = some (some (.builtin "BaseException.__getattribute__")))
    (e7_NightsError : PySem.W.findIn K (.ref cNE) "__getattr__" = some none)
    (e8_NightsError : PySem.W.findIn K (.ref cNE) "__class__" = some (some (.builtin "object.__class__")))
    (e9_NightsError : PySem.W.mroIn K cNE (.type "object") = some true)
    (e0_BadNumber : PySem.W.nsIn K mainGlobals "BadNumber" = some (some (.ref cBN)))
    (e1_BadNumber : PySem.W.subIn K (.ref cBN) (.type "BaseException") = some true)
    (e2_BadNumber : PySem.W.subIn K (.ref cBN) (.type "ValueError") = some true)
    (e3_BadNumber : PySem.W.typeIn K (.ref cBN) = some (.type "type"))
    (e4_BadNumber : PySem.W.hasDictIn K cBN = true)
    (e5_BadNumber : PySem.W.subIn K (.ref cBN) (.ref cBN) = some true)
    (e6_BadNumber : PySem.W.findIn K (.ref cBN) "__getattribute__" = some (some (.builtin "BaseException.__getattribute__")))
    (e7_BadNumber : PySem.W.findIn K (.ref cBN) "__getattr__" = some none)
    (e8_BadNumber : PySem.W.findIn K (.ref cBN) "__class__" = some (some (.builtin "object.__class__")))
    (e9_BadNumber : PySem.W.mroIn K cBN (.type "object") = some true)
    (e0_UnlikeSums : PySem.W.nsIn K mainGlobals "UnlikeSums" = some (some (.ref cUS)))
    (e1_UnlikeSums : PySem.W.subIn K (.ref cUS) (.type "BaseException") = some true)
    (e2_UnlikeSums : PySem.W.subIn K (.ref cUS) (.type "ValueError") = some true)
    (e3_UnlikeSums : PySem.W.typeIn K (.ref cUS) = some (.type "type"))
    (e4_UnlikeSums : PySem.W.hasDictIn K cUS = true)
    (e5_UnlikeSums : PySem.W.subIn K (.ref cUS) (.ref cUS) = some true)
    (e6_UnlikeSums : PySem.W.findIn K (.ref cUS) "__getattribute__" = some (some (.builtin "BaseException.__getattribute__")))
    (e7_UnlikeSums : PySem.W.findIn K (.ref cUS) "__getattr__" = some none)
    (e8_UnlikeSums : PySem.W.findIn K (.ref cUS) "__class__" = some (some (.builtin "object.__class__")))
    (e9_UnlikeSums : PySem.W.mroIn K cUS (.type "object") = some true)
    (e0_NotFalling : PySem.W.nsIn K mainGlobals "NotFalling" = some (some (.ref cNF)))
    (e1_NotFalling : PySem.W.subIn K (.ref cNF) (.type "BaseException") = some true)
    (e2_NotFalling : PySem.W.subIn K (.ref cNF) (.type "ValueError") = some true)
    (e3_NotFalling : PySem.W.typeIn K (.ref cNF) = some (.type "type"))
    (e4_NotFalling : PySem.W.hasDictIn K cNF = true)
    (e5_NotFalling : PySem.W.subIn K (.ref cNF) (.ref cNF) = some true)
    (e6_NotFalling : PySem.W.findIn K (.ref cNF) "__getattribute__" = some (some (.builtin "BaseException.__getattribute__")))
    (e7_NotFalling : PySem.W.findIn K (.ref cNF) "__getattr__" = some none)
    (e8_NotFalling : PySem.W.findIn K (.ref cNF) "__class__" = some (some (.builtin "object.__class__")))
    (e9_NotFalling : PySem.W.mroIn K cNF (.type "object") = some true)
    (g1_NotFalling : K.lookup cNF = some (excClassObj nm_NotFalling q_NotFalling cNF N_NotFalling bs_NotFalling bm_NotFalling true sn_NotFalling sub_NotFalling ab_NotFalling col_NotFalling dd_NotFalling u0_NotFalling u1_NotFalling u2_NotFalling u3_NotFalling u5_NotFalling "ValueError.__new__"))
    (g2_NotFalling : PySem.HandSPX.refsVE bm_NotFalling = true)
    (g3_NotFalling : PySem.W.findIn K (.ref cNF) "__setattr__" = some (some (.builtin "object.__setattr__")))
    (n0_NotFalling : PySem.W.findIn K (.ref cNF) "place" = some none)
    (g4_NotFalling : PySem.W.findIn K (.ref cNF) "__init__" = some (some (.ref iNF)))
    (g5_NotFalling : PySem.W.typeIn K (.ref iNF) = some (.type "function"))
    (g6_NotFalling : PySem.W.keepIn K (.ref cNF) = true)
    (g7_NotFalling : PySem.W.ks_superIn K cNF cNF "__init__" = some (some (.builtin "ValueError.__init__")))
    (g8_NotFalling : PySem.W.mroIn K cNF (.ref cNF) = some true)
    (g9_NotFalling : K.lookup iNF = some ⟨oc_NotFalling, od_NotFalling, .func (PySem.W.ksFn "__init__" "NotFalling.__init__" (defArgs s_NotFalling___init__) (defBody s_NotFalling___init__) (defScope s_NotFalling___init__) .none kV_NotFalling doc_NotFalling pm_NotFalling an_NotFalling (.ref cda_NotFalling) ct_NotFalling cc_NotFalling), osl_NotFalling⟩)
    (h1_NotFalling : PySem.W.codeIn K (.ref cda_NotFalling) "NotFalling.__init__" = true)
    (h2_NotFalling : K.lookup cda_NotFalling = some ⟨ccl_NotFalling, cdd_NotFalling, .fields vs_NotFalling, ccs_NotFalling⟩)
    (h3_NotFalling : vs_NotFalling[2]? = some (.str file_NotFalling tf_NotFalling))
    (h4_NotFalling : ((("/claim/cut.py" : Str)) == file_NotFalling) = true)
    (h5_NotFalling : K.lookup cc_NotFalling = some ⟨cl_NotFalling, cld_NotFalling, .cell (some (.ref cNF)), csl_NotFalling⟩)
    (s1 : PySem.W.subIn K (.ref cNF) (.ref cNE) = some true)
    (s2 : PySem.W.subIn K (.ref cNF) (.ref cBN) = some false)
    (s3 : PySem.W.subIn K (.ref cNF) (.ref cUS) = some false)
    (a_check_row : PySem.W.nsIn K mainGlobals "check_row" = some (some (.ref f_check_row)))
    (l_check_row : K.lookup f_check_row = some ⟨oc_check_row, od_check_row, .func (PySem.W.fnOf "check_row" "check_row" (defArgs s_check_row) (defBody s_check_row) (defScope s_check_row) .none kV_check_row dc_check_row pm_check_row an_check_row cd_check_row ct_check_row), sl_check_row⟩)
    (c_check_row : PySem.W.codeIn K cd_check_row "check_row" = true)
    (k_check_row : PySem.W.keepIn K (.ref f_check_row) = true)
    (a_turn : PySem.W.nsIn K mainGlobals "turn" = some (some (.ref f_turn)))
    (l_turn : K.lookup f_turn = some ⟨oc_turn, od_turn, .func (PySem.W.fnOf "turn" "turn" (defArgs s_turn) (defBody s_turn) (defScope s_turn) .none kV_turn dc_turn pm_turn an_turn cd_turn ct_turn), sl_turn⟩)
    (c_turn : PySem.W.codeIn K cd_turn "turn" = true)
    (k_turn : PySem.W.keepIn K (.ref f_turn) = true)
    (a_turned : PySem.W.nsIn K mainGlobals "turned" = some (some (.ref f_turned)))
    (l_turned : K.lookup f_turned = some ⟨oc_turned, od_turned, .func (PySem.W.fnOf "turned" "turned" (defArgs s_turned) (defBody s_turned) (defScope s_turned) .none kV_turned dc_turned pm_turned an_turned cd_turned ct_turned), sl_turned⟩)
    (c_turned : PySem.W.codeIn K cd_turned "turned" = true)
    (k_turned : PySem.W.keepIn K (.ref f_turned) = true)
    (a__law_pool : PySem.W.nsIn K mainGlobals "_law_pool" = some (some (.ref f__law_pool)))
    (l__law_pool : K.lookup f__law_pool = some ⟨oc__law_pool, od__law_pool, .func (PySem.W.fnOf "_law_pool" "_law_pool" (defArgs s__law_pool) (defBody s__law_pool) (defScope s__law_pool) .none kV__law_pool dc__law_pool pm__law_pool an__law_pool cd__law_pool ct__law_pool), sl__law_pool⟩)
    (c__law_pool : PySem.W.codeIn K cd__law_pool "_law_pool" = true)
    (k__law_pool : PySem.W.keepIn K (.ref f__law_pool) = true)
    (a__law_draw : PySem.W.nsIn K mainGlobals "_law_draw" = some (some (.ref f__law_draw)))
    (l__law_draw : K.lookup f__law_draw = some ⟨oc__law_draw, od__law_draw, .func (PySem.W.fnOf "_law_draw" "_law_draw" (defArgs s__law_draw) (defBody s__law_draw) (defScope s__law_draw) .none kV__law_draw dc__law_draw pm__law_draw an__law_draw cd__law_draw ct__law_draw), sl__law_draw⟩)
    (c__law_draw : PySem.W.codeIn K cd__law_draw "_law_draw" = true)
    (k__law_draw : PySem.W.keepIn K (.ref f__law_draw) = true)
    (a__law_falling : PySem.W.nsIn K mainGlobals "_law_falling" = some (some (.ref f__law_falling)))
    (l__law_falling : K.lookup f__law_falling = some ⟨oc__law_falling, od__law_falling, .func (PySem.W.fnOf "_law_falling" "_law_falling" (defArgs s__law_falling) (defBody s__law_falling) (defScope s__law_falling) .none kV__law_falling dc__law_falling pm__law_falling an__law_falling cd__law_falling ct__law_falling), sl__law_falling⟩)
    (c__law_falling : PySem.W.codeIn K cd__law_falling "_law_falling" = true)
    (k__law_falling : PySem.W.keepIn K (.ref f__law_falling) = true)
    (a__law_spoil_one : PySem.W.nsIn K mainGlobals "_law_spoil_one" = some (some (.ref f__law_spoil_one)))
    (l__law_spoil_one : K.lookup f__law_spoil_one = some ⟨oc__law_spoil_one, od__law_spoil_one, .func (PySem.W.fnOf "_law_spoil_one" "_law_spoil_one" (defArgs s__law_spoil_one) (defBody s__law_spoil_one) (defScope s__law_spoil_one) .none kV__law_spoil_one dc__law_spoil_one pm__law_spoil_one an__law_spoil_one cd__law_spoil_one ct__law_spoil_one), sl__law_spoil_one⟩)
    (c__law_spoil_one : PySem.W.codeIn K cd__law_spoil_one "_law_spoil_one" = true)
    (k__law_spoil_one : PySem.W.keepIn K (.ref f__law_spoil_one) = true)
    (a__law_spoiled : PySem.W.nsIn K mainGlobals "_law_spoiled" = some (some (.ref f__law_spoiled)))
    (l__law_spoiled : K.lookup f__law_spoiled = some ⟨oc__law_spoiled, od__law_spoiled, .func (PySem.W.fnOf "_law_spoiled" "_law_spoiled" (defArgs s__law_spoiled) (defBody s__law_spoiled) (defScope s__law_spoiled) .none kV__law_spoiled dc__law_spoiled pm__law_spoiled an__law_spoiled cd__law_spoiled ct__law_spoiled), sl__law_spoiled⟩)
    (c__law_spoiled : PySem.W.codeIn K cd__law_spoiled "_law_spoiled" = true)
    (k__law_spoiled : PySem.W.keepIn K (.ref f__law_spoiled) = true)
    (a__law_int : PySem.W.nsIn K mainGlobals "_law_int" = some (some (.ref f__law_int)))
    (l__law_int : K.lookup f__law_int = some ⟨oc__law_int, od__law_int, .func (PySem.W.fnOf "_law_int" "_law_int" (defArgs s__law_int) (defBody s__law_int) (defScope s__law_int) .none kV__law_int dc__law_int pm__law_int an__law_int cd__law_int ct__law_int), sl__law_int⟩)
    (c__law_int : PySem.W.codeIn K cd__law_int "_law_int" = true)
    (k__law_int : PySem.W.keepIn K (.ref f__law_int) = true)
    (a__law_same : PySem.W.nsIn K mainGlobals "_law_same" = some (some (.ref f__law_same)))
    (l__law_same : K.lookup f__law_same = some ⟨oc__law_same, od__law_same, .func (PySem.W.fnOf "_law_same" "_law_same" (defArgs s__law_same) (defBody s__law_same) (defScope s__law_same) .none kV__law_same dc__law_same pm__law_same an__law_same cd__law_same ct__law_same), sl__law_same⟩)
    (c__law_same : PySem.W.codeIn K cd__law_same "_law_same" = true)
    (k__law_same : PySem.W.keepIn K (.ref f__law_same) = true)
    (a__law_counted : PySem.W.nsIn K mainGlobals "_law_counted" = some (some (.ref f__law_counted)))
    (l__law_counted : K.lookup f__law_counted = some ⟨oc__law_counted, od__law_counted, .func (PySem.W.fnOf "_law_counted" "_law_counted" (defArgs s__law_counted) (defBody s__law_counted) (defScope s__law_counted) .none kV__law_counted dc__law_counted pm__law_counted an__law_counted cd__law_counted ct__law_counted), sl__law_counted⟩)
    (c__law_counted : PySem.W.codeIn K cd__law_counted "_law_counted" = true)
    (k__law_counted : PySem.W.keepIn K (.ref f__law_counted) = true)
    (a__law_first_wrong : PySem.W.nsIn K mainGlobals "_law_first_wrong" = some (some (.ref f__law_first_wrong)))
    (l__law_first_wrong : K.lookup f__law_first_wrong = some ⟨oc__law_first_wrong, od__law_first_wrong, .func (PySem.W.fnOf "_law_first_wrong" "_law_first_wrong" (defArgs s__law_first_wrong) (defBody s__law_first_wrong) (defScope s__law_first_wrong) .none kV__law_first_wrong dc__law_first_wrong pm__law_first_wrong an__law_first_wrong cd__law_first_wrong ct__law_first_wrong), sl__law_first_wrong⟩)
    (c__law_first_wrong : PySem.W.codeIn K cd__law_first_wrong "_law_first_wrong" = true)
    (k__law_first_wrong : PySem.W.keepIn K (.ref f__law_first_wrong) = true)
    (a__law_try_turned : PySem.W.nsIn K mainGlobals "_law_try_turned" = some (some (.ref f__law_try_turned)))
    (l__law_try_turned : K.lookup f__law_try_turned = some ⟨oc__law_try_turned, od__law_try_turned, .func (PySem.W.fnOf "_law_try_turned" "_law_try_turned" (defArgs s__law_try_turned) (defBody s__law_try_turned) (defScope s__law_try_turned) .none kV__law_try_turned dc__law_try_turned pm__law_try_turned an__law_try_turned cd__law_try_turned ct__law_try_turned), sl__law_try_turned⟩)
    (c__law_try_turned : PySem.W.codeIn K cd__law_try_turned "_law_try_turned" = true)
    (k__law_try_turned : PySem.W.keepIn K (.ref f__law_try_turned) = true)
    (a__law_turned_right : PySem.W.nsIn K mainGlobals "_law_turned_right" = some (some (.ref f__law_turned_right)))
    (l__law_turned_right : K.lookup f__law_turned_right = some ⟨oc__law_turned_right, od__law_turned_right, .func (PySem.W.fnOf "_law_turned_right" "_law_turned_right" (defArgs s__law_turned_right) (defBody s__law_turned_right) (defScope s__law_turned_right) .none kV__law_turned_right dc__law_turned_right pm__law_turned_right an__law_turned_right cd__law_turned_right ct__law_turned_right), sl__law_turned_right⟩)
    (c__law_turned_right : PySem.W.codeIn K cd__law_turned_right "_law_turned_right" = true)
    (k__law_turned_right : PySem.W.keepIn K (.ref f__law_turned_right) = true)
    (a_law : PySem.W.nsIn K mainGlobals "law" = some (some (.ref f_law)))
    (l_law : K.lookup f_law = some ⟨oc_law, od_law, .func (PySem.W.fnOf "law" "law" (defArgs s_law) (defBody s_law) (defScope s_law) .none kV_law dc_law pm_law an_law cd_law ct_law), sl_law⟩)
    (c_law : PySem.W.codeIn K cd_law "law" = true)
    (k_law : PySem.W.keepIn K (.ref f_law) = true) :
    ∃ fd : FuncData, (∀ (s : Shared) (v : Value), BindsTo s fd ⟨[v], []⟩ [("script", v)]) ∧ ∀ base : Heap, K.In base → base.Ns mainGlobals mg → FnOk l.prog w K mg base (L2.CX l.prog w) 7 fa fd ["script"] (spLaw K) := by
  have e := hfa.symm.trans (PySem.W.mg_of X G a_law)
  cases e
  have B : Blt mg := Blt.of X G z_len z_abs z_max z_min z_sum z_sorted z_isinstance z_iter z_ord z_any z_all z_int z_bool z_str z_list z_tuple z_dict z_set z_range z_enumerate z_zip z_reversed z_super z_ValueError
  have xb_NightsError := ExcB.of X G e0_NightsError e1_NightsError e2_NightsError e3_NightsError e4_NightsError e5_NightsError e6_NightsError e7_NightsError e8_NightsError q_get q_takes e9_NightsError
  have xb_BadNumber := ExcB.of X G e0_BadNumber e1_BadNumber e2_BadNumber e3_BadNumber e4_BadNumber e5_BadNumber e6_BadNumber e7_BadNumber e8_BadNumber q_get q_takes e9_BadNumber
  have xb_UnlikeSums := ExcB.of X G e0_UnlikeSums e1_UnlikeSums e2_UnlikeSums e3_UnlikeSums e4_UnlikeSums e5_UnlikeSums e6_UnlikeSums e7_UnlikeSums e8_UnlikeSums q_get q_takes e9_UnlikeSums
  have xb_NotFalling := ExcB.of X G e0_NotFalling e1_NotFalling e2_NotFalling e3_NotFalling e4_NotFalling e5_NotFalling e6_NotFalling e7_NotFalling e8_NotFalling q_get q_takes e9_NotFalling
  have x_NotFalling : ErrC K mg "NotFalling" cNF iNF (["place"] : List Str) := ErrTxt.of si_NotFalling xb_NotFalling g1_NotFalling g2_NotFalling g3_NotFalling (fun f hf => by simp only [List.mem_cons, List.not_mem_nil, or_false] at hf; rcases hf with rfl <;> assumption) g4_NotFalling g5_NotFalling g6_NotFalling g7_NotFalling g8_NotFalling q_tp z_super g9_NotFalling h1_NotFalling h2_NotFalling h3_NotFalling h4_NotFalling h5_NotFalling
  have F_check_row := fun_mk (st := s_check_row) l_check_row c_check_row k_check_row
  have b_check_row := F_check_row.binds (ps := (["row"] : List Str)) fun _ _ _ _ _ _ us hl => match us, hl with | [_], _ => rfl
  have m_check_row := PySem.W.mg_of X G a_check_row
  have F_turn := fun_mk (st := s_turn) l_turn c_turn k_turn
  have b_turn := F_turn.binds (ps := (["row"] : List Str)) fun _ _ _ _ _ _ us hl => match us, hl with | [_], _ => rfl
  have m_turn := PySem.W.mg_of X G a_turn
  have F_turned := fun_mk (st := s_turned) l_turned c_turned k_turned
  have b_turned := F_turned.binds (ps := (["row"] : List Str)) fun _ _ _ _ _ _ us hl => match us, hl with | [_], _ => rfl
  have m_turned := PySem.W.mg_of X G a_turned
  have F__law_pool := fun_mk (st := s__law_pool) l__law_pool c__law_pool k__law_pool
  have b__law_pool := F__law_pool.binds (ps := (["script", "at"] : List Str)) fun _ _ _ _ _ _ us hl => match us, hl with | [_, _], _ => rfl
  have m__law_pool := PySem.W.mg_of X G a__law_pool
  have F__law_draw := fun_mk (st := s__law_draw) l__law_draw c__law_draw k__law_draw
  have b__law_draw := F__law_draw.binds (ps := (["pool", "many"] : List Str)) fun _ _ _ _ _ _ us hl => match us, hl with | [_, _], _ => rfl
  have m__law_draw := PySem.W.mg_of X G a__law_draw
  have F__law_falling := fun_mk (st := s__law_falling) l__law_falling c__law_falling k__law_falling
  have b__law_falling := F__law_falling.binds (ps := (["pool", "total"] : List Str)) fun _ _ _ _ _ _ us hl => match us, hl with | [_, _], _ => rfl
  have m__law_falling := PySem.W.mg_of X G a__law_falling
  have F__law_spoil_one := fun_mk (st := s__law_spoil_one) l__law_spoil_one c__law_spoil_one k__law_spoil_one
  have b__law_spoil_one := F__law_spoil_one.binds (ps := (["pool", "row"] : List Str)) fun _ _ _ _ _ _ us hl => match us, hl with | [_, _], _ => rfl
  have m__law_spoil_one := PySem.W.mg_of X G a__law_spoil_one
  have F__law_spoiled := fun_mk (st := s__law_spoiled) l__law_spoiled c__law_spoiled k__law_spoiled
  have b__law_spoiled := F__law_spoiled.binds (ps := (["pool", "row"] : List Str)) fun _ _ _ _ _ _ us hl => match us, hl with | [_, _], _ => rfl
  have m__law_spoiled := PySem.W.mg_of X G a__law_spoiled
  have F__law_int := fun_mk (st := s__law_int) l__law_int c__law_int k__law_int
  have b__law_int := F__law_int.binds (ps := (["x"] : List Str)) fun _ _ _ _ _ _ us hl => match us, hl with | [_], _ => rfl
  have m__law_int := PySem.W.mg_of X G a__law_int
  have F__law_same := fun_mk (st := s__law_same) l__law_same c__law_same k__law_same
  have b__law_same := F__law_same.binds (ps := (["got", "due"] : List Str)) fun _ _ _ _ _ _ us hl => match us, hl with | [_, _], _ => rfl
  have m__law_same := PySem.W.mg_of X G a__law_same
  have F__law_counted := fun_mk (st := s__law_counted) l__law_counted c__law_counted k__law_counted
  have b__law_counted := F__law_counted.binds (ps := (["row"] : List Str)) fun _ _ _ _ _ _ us hl => match us, hl with | [_], _ => rfl
  have m__law_counted := PySem.W.mg_of X G a__law_counted
  have F__law_first_wrong := fun_mk (st := s__law_first_wrong) l__law_first_wrong c__law_first_wrong k__law_first_wrong
  have b__law_first_wrong := F__law_first_wrong.binds (ps := (["row"] : List Str)) fun _ _ _ _ _ _ us hl => match us, hl with | [_], _ => rfl
  have m__law_first_wrong := PySem.W.mg_of X G a__law_first_wrong
  have F__law_try_turned := fun_mk (st := s__law_try_turned) l__law_try_turned c__law_try_turned k__law_try_turned
  have b__law_try_turned := F__law_try_turned.binds (ps := (["row"] : List Str)) fun _ _ _ _ _ _ us hl => match us, hl with | [_], _ => rfl
  have m__law_try_turned := PySem.W.mg_of X G a__law_try_turned
  have F__law_turned_right := fun_mk (st := s__law_turned_right) l__law_turned_right c__law_turned_right k__law_turned_right
  have b__law_turned_right := F__law_turned_right.binds (ps := (["row"] : List Str)) fun _ _ _ _ _ _ us hl => match us, hl with | [_], _ => rfl
  have m__law_turned_right := PySem.W.mg_of X G a__law_turned_right
  have F_law := fun_mk (st := s_law) l_law c_law k_law
  have b_law := F_law.binds (ps := (["script"] : List Str)) fun _ _ _ _ _ _ us hl => match us, hl with | [_], _ => rfl
  have m_law := PySem.W.mg_of X G a_law
  have T : Tx K mg cNE cBN cNF cUS iNF iNF iNF := ⟨x_NotFalling, xb_NightsError, xb_BadNumber, xb_UnlikeSums, s1, s2, s3⟩
  refine ⟨PySem.W.fnOf "law" "law" (defArgs s_law) (defBody s_law) (defScope s_law) .none kV_law dc_law pm_law an_law cd_law ct_law, fun s v => .of_eq rfl, fun base _ _ => ?_⟩
  have C_check_row : FnAt l.prog w K mg base 2 "check_row" (["row"] : List Str) (spCheck K cNF) := .of F_check_row m_check_row (ok_check_row F_check_row B T hfile htop) b_check_row
  have C_turn : FnAt l.prog w K mg base 2 "turn" (["row"] : List Str) (spTurn K) := .of F_turn m_turn (ok_turn F_turn B) b_turn
  have C_turned : FnAt l.prog w K mg base 3 "turned" (["row"] : List Str) (spTurned K cNF) := .of F_turned m_turned (ok_turned F_turned B C_check_row C_turn) b_turned
  have C__law_pool : FnAt l.prog w K mg base 1 "_law_pool" (["script", "at"] : List Str) (spPool K) := .of F__law_pool m__law_pool (ok__law_pool F__law_pool B) b__law_pool
  have C__law_draw : FnAt l.prog w K mg base 1 "_law_draw" (["pool", "many"] : List Str) (spDraw) := .of F__law_draw m__law_draw (ok__law_draw F__law_draw B) b__law_draw
  have C__law_falling : FnAt l.prog w K mg base 2 "_law_falling" (["pool", "total"] : List Str) (spFalling) := .of F__law_falling m__law_falling (ok__law_falling F__law_falling B C__law_draw) b__law_falling
  have C__law_spoil_one : FnAt l.prog w K mg base 2 "_law_spoil_one" (["pool", "row"] : List Str) (spSpoil1 K) := .of F__law_spoil_one m__law_spoil_one (ok__law_spoil_one F__law_spoil_one B C__law_draw) b__law_spoil_one
  have C__law_spoiled : FnAt l.prog w K mg base 3 "_law_spoiled" (["pool", "row"] : List Str) (spSpoiled K) := .of F__law_spoiled m__law_spoiled (ok__law_spoiled F__law_spoiled B C__law_draw C__law_spoil_one) b__law_spoiled
  have C__law_int : FnAt l.prog w K mg base 1 "_law_int" (["x"] : List Str) (spInt K) := .of F__law_int m__law_int (ok__law_int F__law_int B) b__law_int
  have S0 : FnAt l.prog w K mg base (0 + 2) "_law_same" ["got", "due"] (spSame K 0) := .no F__law_same m__law_same b__law_same
  have S1 : FnAt l.prog w K mg base (0 + 3) "_law_same" (["got", "due"] : List Str) (spSame K (0 + 1)) := .of F__law_same m__law_same (ok__law_same F__law_same B C__law_int S0) b__law_same
  have S2 : FnAt l.prog w K mg base (1 + 3) "_law_same" (["got", "due"] : List Str) (spSame K (1 + 1)) := .of F__law_same m__law_same (ok__law_same F__law_same B C__law_int S1) b__law_same
  have C__law_same : FnAt l.prog w K mg base (2 + 3) "_law_same" (["got", "due"] : List Str) (spSame K (2 + 1)) := .of F__law_same m__law_same (ok__law_same F__law_same B C__law_int S2) b__law_same
  have C__law_counted : FnAt l.prog w K mg base 1 "_law_counted" (["row"] : List Str) (spCounted K) := .of F__law_counted m__law_counted (ok__law_counted F__law_counted B) b__law_counted
  have C__law_first_wrong : FnAt l.prog w K mg base 1 "_law_first_wrong" (["row"] : List Str) (spFirst K) := .of F__law_first_wrong m__law_first_wrong (ok__law_first_wrong F__law_first_wrong B) b__law_first_wrong
  have C__law_try_turned : FnAt l.prog w K mg base 4 "_law_try_turned" (["row"] : List Str) (spTry K) := .of F__law_try_turned m__law_try_turned (ok__law_try_turned F__law_try_turned B T C_turned) b__law_try_turned
  have C__law_turned_right : FnAt l.prog w K mg base 6 "_law_turned_right" (["row"] : List Str) (spRight K) := .of F__law_turned_right m__law_turned_right (ok__law_turned_right F__law_turned_right B C__law_same C__law_try_turned C__law_counted C__law_first_wrong) b__law_turned_right
  exact ok_law F_law B C__law_pool C__law_draw C__law_falling C__law_spoiled C__law_turned_right C__law_same C__law_try_turned C__law_counted
theorem walk {l : PySem.W.OpenLaw} {q : Program} {loose : List Str} {XP : (Str → Option Value) → Heap → Prop} {YP : World → Heap → Prop} {d : DefRec} {K : Params → PySem.W.Frag} (hn : l.most = some 63) (hdf : d.params.defaults = [])
    (hY : ∀ (w : World) (h : Heap), YP w h → (K w.params).In h)
    (F : ∀ (w : World) (mg : Str → Option Value) (fa : Addr) (h : Heap), (K w.params).In h → h.Ns mainGlobals mg → mg d.name = some (.ref fa) →
      ∃ fd : FuncData, (∀ (s : Shared) (u : Value), BindsTo s fd ⟨[u], []⟩ [("script", u)]) ∧ ∀ base : Heap, (K w.params).In base → base.Ns mainGlobals mg → FnOk l.prog w (K w.params) mg base (L2.CX l.prog w) 7 fa fd ["script"] (spLaw (K w.params))) :
    PySem.W.WalkO q loose XP YP l.row.toRowW d [] (fun f vs => PySem.call f vs) :=
  L2.walk_of (n := 63) (k := 7) (x := "script") (CX := fun w => L2.CX l.prog w) (sp := fun w => spLaw (K w.params)) hn (by decide) hdf ⟨rfl, by decide, by decide⟩ hY F (fun _ _ a ns hl _ hS => ⟨a, ns, rfl, hS, fun _ => rfl⟩) fun _ _ _ _ _ ⟨_, _, _, _, _, _, _, _, _, _, _, _, z⟩ => z
end Nk
open PySem PySem.W PyProof.Rows
set_option maxRecDepth 100000 in
set_option maxHeartbeats 0 in
theorem PySem.Challenge.cw_nightsoff_k32_turned_rows_holds : PySem.Challenge.rw_nightsoff_k32_turned_rows.Holds := by
  w_on; o_law; k_head; (case hw => w_witness2)
  k_fill
  refine Nk.walk (l := PySem.Challenge.rw_nightsoff_k32_turned_rows) rfl rfl (fun w h Y => PySem.W.kIn_of Y) ?F
  case F =>
    intro w mg fa h KX G hmg
    refine' Nk.all_mk (by decide +kernel) (by decide +kernel) KX G hmg ?z_len ?z_abs ?z_max ?z_min ?z_sum ?z_sorted ?z_isinstance ?z_iter ?z_ord ?z_any ?z_all ?z_int ?z_bool ?z_str ?z_list ?z_tuple ?z_dict ?z_set ?z_range ?z_enumerate ?z_zip ?z_reversed ?z_super ?z_ValueError ?q_get ?q_takes ?q_tp ?e0_NightsError ?e1_NightsError ?e2_NightsError ?e3_NightsError ?e4_NightsError ?e5_NightsError ?e6_NightsError ?e7_NightsError ?e8_NightsError ?e9_NightsError ?e0_BadNumber ?e1_BadNumber ?e2_BadNumber ?e3_BadNumber ?e4_BadNumber ?e5_BadNumber ?e6_BadNumber ?e7_BadNumber ?e8_BadNumber ?e9_BadNumber ?e0_UnlikeSums ?e1_UnlikeSums ?e2_UnlikeSums ?e3_UnlikeSums ?e4_UnlikeSums ?e5_UnlikeSums ?e6_UnlikeSums ?e7_UnlikeSums ?e8_UnlikeSums ?e9_UnlikeSums ?e0_NotFalling ?e1_NotFalling ?e2_NotFalling ?e3_NotFalling ?e4_NotFalling ?e5_NotFalling ?e6_NotFalling ?e7_NotFalling ?e8_NotFalling ?e9_NotFalling ?g1_NotFalling ?g2_NotFalling ?g3_NotFalling ?n0_NotFalling ?g4_NotFalling ?g5_NotFalling ?g6_NotFalling ?g7_NotFalling ?g8_NotFalling ?g9_NotFalling ?h1_NotFalling ?h2_NotFalling ?h3_NotFalling ?h4_NotFalling ?h5_NotFalling ?s1 ?s2 ?s3 ?a_check_row ?l_check_row ?c_check_row ?k_check_row ?a_turn ?l_turn ?c_turn ?k_turn ?a_turned ?l_turned ?c_turned ?k_turned ?a__law_pool ?l__law_pool ?c__law_pool ?k__law_pool ?a__law_draw ?l__law_draw ?c__law_draw ?k__law_draw ?a__law_falling ?l__law_falling ?c__law_falling ?k__law_falling ?a__law_spoil_one ?l__law_spoil_one ?c__law_spoil_one ?k__law_spoil_one ?a__law_spoiled ?l__law_spoiled ?c__law_spoiled ?k__law_spoiled ?a__law_int ?l__law_int ?c__law_int ?k__law_int ?a__law_same ?l__law_same ?c__law_same ?k__law_same ?a__law_counted ?l__law_counted ?c__law_counted ?k__law_counted ?a__law_first_wrong ?l__law_first_wrong ?c__law_first_wrong ?k__law_first_wrong ?a__law_try_turned ?l__law_try_turned ?c__law_try_turned ?k__law_try_turned ?a__law_turned_right ?l__law_turned_right ?c__law_turned_right ?k__law_turned_right ?a_law ?l_law ?c_law ?k_law
    (case z_len => k_is)
    (case z_abs => k_is)
    (case z_max => k_is)
    (case z_min => k_is)
    (case z_sum => k_is)
    (case z_sorted => k_is)
    (case z_isinstance => k_is)
    (case z_iter => k_is)
    (case z_ord => k_is)
    (case z_any => k_is)
    (case z_all => k_is)
    (case z_int => k_is)
    (case z_bool => k_is)
    (case z_str => k_is)
    (case z_list => k_is)
    (case z_tuple => k_is)
    (case z_dict => k_is)
    (case z_set => k_is)
    (case z_range => k_is)
    (case z_enumerate => k_is)
    (case z_zip => k_is)
    (case z_reversed => k_is)
    (case z_super => k_is)
    (case z_ValueError => k_is)
    (case q_get => k_is)
    (case q_takes => k_is)
    (case q_tp => k_is)
    (case e0_NightsError => k_is)
    (case e1_NightsError => k_is)
    (case e2_NightsError => k_is)
    (case e3_NightsError => k_is)
    (case e4_NightsError => k_is)
    (case e5_NightsError => k_is)
    (case e6_NightsError => k_is)
    (case e7_NightsError => k_is)
    (case e8_NightsError => k_is)
    (case e9_NightsError => k_is)
    (case e0_BadNumber => k_is)
    (case e1_BadNumber => k_is)
    (case e2_BadNumber => k_is)
    (case e3_BadNumber => k_is)
    (case e4_BadNumber => k_is)
    (case e5_BadNumber => k_is)
    (case e6_BadNumber => k_is)
    (case e7_BadNumber => k_is)
    (case e8_BadNumber => k_is)
    (case e9_BadNumber => k_is)
    (case e0_UnlikeSums => k_is)
    (case e1_UnlikeSums => k_is)
    (case e2_UnlikeSums => k_is)
    (case e3_UnlikeSums => k_is)
    (case e4_UnlikeSums => k_is)
    (case e5_UnlikeSums => k_is)
    (case e6_UnlikeSums => k_is)
    (case e7_UnlikeSums => k_is)
    (case e8_UnlikeSums => k_is)
    (case e9_UnlikeSums => k_is)
    (case e0_NotFalling => k_is)
    (case e1_NotFalling => k_is)
    (case e2_NotFalling => k_is)
    (case e3_NotFalling => k_is)
    (case e4_NotFalling => k_is)
    (case e5_NotFalling => k_is)
    (case e6_NotFalling => k_is)
    (case e7_NotFalling => k_is)
    (case e8_NotFalling => k_is)
    (case e9_NotFalling => k_is)
    (case g1_NotFalling => k_is)
    (case g2_NotFalling => exact rfl)
    (case g3_NotFalling => k_is)
    (case n0_NotFalling => k_is)
    (case g4_NotFalling => k_is)
    (case g5_NotFalling => k_is)
    (case g6_NotFalling => k_is)
    (case g7_NotFalling => kernel_rfl)
    (case g8_NotFalling => k_is)
    (case g9_NotFalling => k_is)
    (case h1_NotFalling => k_is)
    (case h2_NotFalling => k_is)
    (case h3_NotFalling => exact rfl)
    (case h4_NotFalling => exact rfl)
    (case h5_NotFalling => k_is)
    (case s1 => k_is)
    (case s2 => k_is)
    (case s3 => k_is)
    (case a_check_row => k_is)
    (case l_check_row => k_is)
    (case c_check_row => k_is)
    (case k_check_row => k_is)
    (case a_turn => k_is)
    (case l_turn => k_is)
    (case c_turn => k_is)
    (case k_turn => k_is)
    (case a_turned => k_is)
    (case l_turned => k_is)
    (case c_turned => k_is)
    (case k_turned => k_is)
    (case a__law_pool => k_is)
    (case l__law_pool => k_is)
    (case c__law_pool => k_is)
    (case k__law_pool => k_is)
    (case a__law_draw => k_is)
    (case l__law_draw => k_is)
    (case c__law_draw => k_is)
    (case k__law_draw => k_is)
    (case a__law_falling => k_is)
    (case l__law_falling => k_is)
    (case c__law_falling => k_is)
    (case k__law_falling => k_is)
    (case a__law_spoil_one => k_is)
    (case l__law_spoil_one => k_is)
    (case c__law_spoil_one => k_is)
    (case k__law_spoil_one => k_is)
    (case a__law_spoiled => k_is)
    (case l__law_spoiled => k_is)
    (case c__law_spoiled => k_is)
    (case k__law_spoiled => k_is)
    (case a__law_int => k_is)
    (case l__law_int => k_is)
    (case c__law_int => k_is)
    (case k__law_int => k_is)
    (case a__law_same => k_is)
    (case l__law_same => k_is)
    (case c__law_same => k_is)
    (case k__law_same => k_is)
    (case a__law_counted => k_is)
    (case l__law_counted => k_is)
    (case c__law_counted => k_is)
    (case k__law_counted => k_is)
    (case a__law_first_wrong => k_is)
    (case l__law_first_wrong => k_is)
    (case c__law_first_wrong => k_is)
    (case k__law_first_wrong => k_is)
    (case a__law_try_turned => k_is)
    (case l__law_try_turned => k_is)
    (case c__law_try_turned => k_is)
    (case k__law_try_turned => k_is)
    (case a__law_turned_right => k_is)
    (case l__law_turned_right => k_is)
    (case c__law_turned_right => k_is)
    (case k__law_turned_right => k_is)
    (case a_law => k_is)
    (case l_law => k_is)
    (case c_law => k_is)
    (case k_law => k_is)
