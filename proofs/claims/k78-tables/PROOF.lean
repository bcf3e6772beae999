import PyProof.Rows.All
import Wide.All
import OpenK.AllK
import Wide.FinOn
import HandS.ForMost
import KE.KSuper
import KE.KExcSuper
import HandS.ForExc
import HandS.ExcInit
import HandS.ExcIs
import HandS.ExcField
import HandS.TryMany
import HandS.IsInst
import HandS.Wide
import HandS.TupAny
import KE.KEqSeq
import KE.KEqDeep
import HandS.Iter
import KE.GoesMore
import KE.GoesZip
import KE.GoesEnum
import HandS.StrMore
import HandS.Text
import PySem.Challenge.RW_nightsoff_k78_tables
set_option Elab.async false
set_option linter.all false
set_option maxRecDepth 100000
set_option maxHeartbeats 4000000
/-! x is True, x is False, x is not True .. of any x -/
namespace L2
open PySem PySem.Spec PyProof.Rows
section
variable {X : Cx}
theorem nk_isB {M : Model} {A : Around} {E : Value → Shared → Prop} {s : Shared} {x : V} {v : Value} {b : Bool} {Q : Value → Shared → Prop} (r : RelV x v) (h : Q (.bool (decide (x = .bl b))) s) : wpAny M A (compareOp .Is v (.bool b)) Q E s := by
  cases x with
  | non => cases r; exact wpAny_pure h
  | bl c =>
    cases r
    have e : (Value.bool c == Value.bool b) = decide (V.bl c = V.bl b) := by cases c <;> cases b <;> rfl
    rw [← e] at h
    exact wpAny_pure h
  | int _ => obtain ⟨t, rfl⟩ := r; exact wpAny_pure h
  | str _ => obtain ⟨t, rfl⟩ := r; exact wpAny_pure h
  | byt _ => obtain ⟨t, rfl⟩ := r; exact wpAny_pure h
  | flt _ => obtain ⟨t, rfl⟩ := r; exact wpAny_pure h
  | ref _ => cases r; exact wpAny_pure h
  | ty _ => cases r; exact wpAny_pure h
theorem nk_isnotB {M : Model} {A : Around} {E : Value → Shared → Prop} {s : Shared} {x : V} {v : Value} {b : Bool} {Q : Value → Shared → Prop} (r : RelV x v) (h : Q (.bool (!decide (x = .bl b))) s) : wpAny M A (compareOp .IsNot v (.bool b)) Q E s := by
  cases x with
  | non => cases r; exact wpAny_pure h
  | bl c =>
    cases r
    have e : (Value.bool c == Value.bool b) = decide (V.bl c = V.bl b) := by cases c <;> cases b <;> rfl
    rw [← e] at h
    exact wpAny_pure h
  | int _ => obtain ⟨t, rfl⟩ := r; exact wpAny_pure h
  | str _ => obtain ⟨t, rfl⟩ := r; exact wpAny_pure h
  | byt _ => obtain ⟨t, rfl⟩ := r; exact wpAny_pure h
  | flt _ => obtain ⟨t, rfl⟩ := r; exact wpAny_pure h
  | ref _ => cases r; exact wpAny_pure h
  | ty _ => cases r; exact wpAny_pure h
def rIsBl : R2 := fun x y H Q => ∃ b, y = .bl b ∧ Q (.bl (decide (x = .bl b))) H
def rNotBl : R2 := fun x y H Q => ∃ b, y = .bl b ∧ Q (.bl (!decide (x = .bl b))) H
theorem op_isB : OpR X (compareOp .Is) rIsBl := by
  intro pins s σ H x y v u Q I rx ry h
  obtain ⟨b, rfl, q⟩ := h
  cases ry
  exact nk_isB rx (fin_bl I q rfl)
theorem op_isnotB : OpR X (compareOp .IsNot) rNotBl := by
  intro pins s σ H x y v u Q I rx ry h
  obtain ⟨b, rfl, q⟩ := h
  cases ry
  exact nk_isnotB rx (fin_bl I q rfl)
end
end L2
/-! An own error class over ValueError (through own classes) whose __init__ says super().__init__(a text), then stores each of its arguments as a field of that name: made by a call. -/
namespace PySem
namespace NKE
open PySem.W PySem.Calls PyProof.Rows PySem.HandSPX PySem.OEX
/-- self.f = f -/
def IsFld (f : Str) (st : Stmt) : Prop := ∃ p q r z, st = .Assign [.Attribute (.Name "self" p) f q] (.Name f r) z
inductive IsFlds : List Str → List Stmt → Prop
  | nil : IsFlds [] []
  | cons {f : Str} {st : Stmt} {fs : List Str} {sts : List Stmt} : IsFld f st → IsFlds fs sts → IsFlds (f :: fs) (st :: sts)
/-- super().__init__(txt) -/
def IsSup (st : Stmt) : Prop := ∃ (p0 p1 p2 p3 p4 p5 : Pos) (j : Nat) (txt : Str), (p2.endLine == p4.line) = true ∧ st = .Expr (.Call (.Attribute (.Call (.Name "super" p0) [] [] p1) "__init__" p2) [.Constant (.str txt) j p3] [] p4) p5
/-- what the written part says of the class at C, and of its __init__, at fI -/
structure ErrTxt (K : Frag) (C fI : Addr) (fs : List Str) : Prop where
  cls : ∃ nm q N bs bm sn sub ab col dd k0 k1 k2 k3 k5, K.lookup C = some (excClassObj nm q C N bs bm true sn sub ab col dd k0 k1 k2 k3 k5 "ValueError.__new__") ∧ refsVE bm = true
  sa : findIn K (.ref C) "__setattr__" = some (some (.builtin "object.__setattr__"))
  noN : ∀ f ∈ fs, findIn K (.ref C) f = some none
  iC : findIn K (.ref C) "__init__" = some (some (.ref fI))
  tC : typeIn K (.ref fI) = some (.type "function")
  kC : keepIn K (.ref C) = true
  exC : subIn K (.ref C) (.type "BaseException") = some true
  veC : subIn K (.ref C) (.type "ValueError") = some true
  tyC : typeIn K (.ref C) = some (.type "type")
  sup : ks_superIn K C C "__init__" = some (some (.builtin "ValueError.__init__"))
  selfC : mroIn K C (.ref C) = some true
  tp : nsIn K cStatics "thirdparty.any" = some none
  nosup : nsIn K mainGlobals "super" = some none
  fn : ∃ (oc : Value) (od : Option Addr) (qual : Str) (params : Arguments) (body : List Stmt) (scope : Scope) (dV kV doc pm : Value) (an : Option Addr) (cda : Addr) (ct : Value) (osl : Array (Option Value)) (cc : Addr) (ar : Arg) (ccl cl : Value) (cdd cld : Option Addr) (vs : Array Value) (file : Str) (tf : Tok) (ccs csl : Array (Option Value)) (st : Stmt) (sts : List Stmt),
    K.lookup fI = some ⟨oc, od, .func (ksFn "__init__" qual params body scope dV kV doc pm an (.ref cda) ct cc), osl⟩ ∧ codeIn K (.ref cda) qual = true ∧
    (params.posonlyargs ++ params.args).head? = some ar ∧ ar.arg = "self" ∧
    K.lookup cda = some ⟨ccl, cdd, .fields vs, ccs⟩ ∧ vs[2]? = some (.str file tf) ∧ ((("/claim/cut.py" : Str)) == file) = true ∧
    K.lookup cc = some ⟨cl, cld, .cell (some (.ref C)), csl⟩ ∧
    body = st :: sts ∧ IsSup st ∧ IsFlds fs sts ∧
    scope.names.lookup ("super" : Str) = some .globalImplicit ∧ scope.names.lookup ("__class__" : Str) = some .free ∧ (∀ f ∈ ("self" : Str) :: fs, scope.names.lookup f = some .local) ∧ scope.kind = .function ∧
    (∀ x ∈ scope.names, x.2 ≠ .cell) ∧ scope.isCoroutine = false ∧ scope.isGenerator = false ∧
    (∀ us : List Value, us.length = fs.length + 1 → bindArgs (ksFn "__init__" qual params body scope dV kV doc pm an (.ref cda) ct cc) ⟨us, []⟩ = pure ((("self" : Str) :: fs).zip us)) ∧
    (("self" : Str) :: fs).Nodup ∧ (∀ f ∈ fs, (f == ("__debug__" : Str)) = false)

section
variable {prog : Program} {w : World} {A : Around} {E : Value → Shared → Prop} {R : Result → Shared → Prop} {s : Shared} {K : Frag} {mg : Str → Option Value} {C fI : Addr} {fs : List Str}
theorem in_but {h h' : Heap} {x : Addr} (X : K.In h) (hx : K.lookup x = none) (k : ∀ b o, b ≠ x → h.get? b = some o → h'.get? b = some o) : K.In h' := fun a o e =>
  k a o (fun z => by rw [z, hx] at e; cases e) (X a o e)
/-- the name self, the name f, in the frame at L -/
theorem ld1 {M : Model} {env : Env} {m : Str → Option Value} {x : Str} {pos : Pos} {v : Value} {Q : Value → Shared → Prop} (hn : s.heap.Ns env.locals m) (hv : m x = some v) (h : Q v s)
    (hk : env.scope.kind = .function) (hl : env.kindOf x = some .local) (hd : (x == ("__debug__" : Str)) = false) :
    wpAny M A (eval (.Name x pos) env) Q E s := wpAny_Name (wpAny_loadName_local hk hl hn hv h) hd
/-- the exception at x as __init__ leaves it -/
def excB (C t1 : Addr) (d : Option Addr) : Obj := { cls := .ref C, dict := d, data := .fields #[.ref t1, .none, .none, .none, .bool false, .none] }
/-- the stores behind the first -/
theorem err_stores {env : Env} {x t1 dx : Addr} {nm q : Str} {N : Addr} {bs bm : List Value} {sn : List Str} {sub : List Value} {ab : Bool} {col : Option Bool}
    (hcl : clsIn K C = some { name := nm, bases := bs, mro := .ref C :: bm, ns := N, qualname := q, hasDict := true, slotNames := sn, subclasses := sub, abstract := ab, collection := col, hasDel := false }) (hbm : refsVE bm = true)
    (sa : findIn K (.ref C) "__setattr__" = some (some (.builtin "object.__setattr__"))) (hxK : K.lookup x = none) (hdK : K.lookup dx = none)
    (hk : env.scope.kind = .function) (hself : env.kindOf "self" = some .local) {m : Str → Option Value} (hms : m "self" = some (.ref x)) (hxl : x ≠ env.locals) (hdl : dx ≠ env.locals) (hdx : dx ≠ x) :
    ∀ {fs : List Str} {sts : List Stmt}, IsFlds fs sts → ∀ {us : List Value} {m0 : Str → Option Value} {nl : List Str} {s : Shared}, us.length = fs.length → (∀ f ∈ fs, env.kindOf f = some .local) → (∀ f ∈ fs, (f == ("__debug__" : Str)) = false) → (∀ f ∈ fs, findIn K (.ref C) f = some none) →
      (∀ (i : Nat) (f : Str) (u : Value), fs[i]? = some f → us[i]? = some u → m f = some u) → K.In s.heap → s.heap.Ns env.locals m → s.heap.get? x = some (excB C t1 (some dx)) → s.heap.Ns1 dx m0 → Within m0 nl → nl.length + fs.length ≤ 900 →
      ∀ {Q : Flow → Shared → Prop}, (∀ h' tk, (∀ b o, b ≠ x → b ≠ dx → s.heap.get? b = some o → h'.get? b = some o) → h'.get? x = some (excB C t1 (some dx)) → h'.Ns1 dx (fun y => (((fs.zip us).reverse.lookup y).or (m0 y))) → Q .next { s with heap := h', toks := tk }) →
      wpAny (model prog w) A (execs sts env) Q E s := by
  intro fs sts hf
  induction hf with
  | nil =>
    intro us m0 nl s hl _ _ _ _ X hn hx hd hw hz Q hq
    refine wpAny_execs_nil ?_
    have := hq s.heap s.toks (fun _ _ _ _ e => e) hx (by simpa using hd)
    exact this
  | @cons f st fs sts h1 hr ih =>
    intro us m0 nl s hl hloc hdb hno hmv X hn hx hd hw hz Q hq
    obtain ⟨p, q', r, z, rfl⟩ := h1
    obtain ⟨u, us, rfl⟩ : ∃ u r, us = u :: r := by
      cases us with
      | nil => simp at hl
      | cons u r => exact ⟨u, r, rfl⟩
    have hl' : us.length = fs.length := by simpa using hl
    have hu : m f = some u := hmv 0 f u rfl rfl
    refine wpAny_execs_cons (plainObj_wpAny_Assign_Attribute ?_)
    refine ld1 (v := u) hn hu (ld1 (v := .ref x) hn hms ?_ hk hself (by decide +kernel)) hk (hloc f (by simp)) (hdb f (by simp))
    obtain ⟨hp, g, dr, tk, os⟩ := s
    obtain ⟨oD, es, ep, hoD, hdD, hrest⟩ := id hd
    refine set_plain X (ox := excB C t1 (some dx)) (od := some oD) ⟨hx, rfl, rfl, hoD⟩ sa ?_
    refine osa_old X hx hd hw (by simp at hz; omega) hcl (show refsVE (.ref C :: bm) = true from hbm) rfl (hno f (by simp)) (fun h' tk' k' hn' => ?_)
    have hd' : h'.Ns env.locals m := by
      obtain ⟨o, es, ep, e, rest⟩ := hn
      exact ⟨o, es, ep, k' _ _ (fun z => hdl z.symm) e, rest⟩
    refine ih (us := us) (m0 := fun y => if y = f then some u else m0 y) (nl := f :: nl) (s := ⟨h', g, dr, tk', os⟩) hl' (fun y hy => hloc y (by simp [hy])) (fun y hy => hdb y (by simp [hy])) (fun y hy => hno y (by simp [hy])) (fun i f' u' h1 h2 => hmv (i + 1) f' u' (by simpa using h1) (by simpa using h2))
      (in_but X hdK fun b o hb e => k' b o hb e) hd' (k' _ _ hdx.symm hx) hn' (Within.cons f u hw) (by simp at hz ⊢; omega) (fun h2 tk2 k2 hx2 hn2 => ?_)
    refine hq h2 tk2 (fun b o hb1 hb2 e => k2 b o hb1 hb2 (k' b o hb2 e)) hx2 ?_
    have e : (fun y => ((((f :: fs).zip (u :: us)).reverse.lookup y).or (m0 y))) = (fun y => (((fs.zip us).reverse.lookup y).or ((fun y => if y = f then some u else m0 y) y))) := by
      funext y
      rw [List.zip_cons_cons, List.reverse_cons, List.lookup_append]
      cases hh : (fs.zip us).reverse.lookup y with
      | some v => simp
      | none =>
        by_cases hy : y = f
        · subst hy; simp [List.lookup]
        · have : (y == f) = false := by simpa using hy
          simp [List.lookup, this, hy]
    rw [e]
    exact hn2
/-- what __init__ leaves of a fresh exception at x -/
structure InitEnd (h h' : Heap) (x C dx t1 : Addr) (fs : List Str) (us : List Value) : Prop where
  keep : ∀ b o, b ≠ x → h.get? b = some o → h'.get? b = some o
  obj : h'.get? x = some (excB C t1 (some dx))
  dbig : h.objs.size ≤ dx
  dne : dx ≠ x
  ns : h'.Ns1 dx (fun y => (fs.zip us).reverse.lookup y)
theorem lk_zip : ∀ {fs : List Str} {us : List Value} {i : Nat} {f : Str} {u : Value}, fs.Nodup → fs[i]? = some f → us[i]? = some u → (fs.zip us).reverse.lookup f = some u
  | [], _, _, _, _, _, h, _ => by simp at h
  | _ :: _, [], _, _, _, _, _, h => by simp at h
  | g :: fs, v :: us, 0, f, u, nd, h1, h2 => by
    simp at h1 h2
    subst h1 h2
    rw [List.zip_cons_cons, List.reverse_cons, List.lookup_append]
    have : (fs.zip us).reverse.lookup g = none := by
      rw [List.lookup_eq_none_iff]
      intro p hp
      have := (List.of_mem_zip (List.mem_reverse.mp hp)).1
      have n := (List.nodup_cons.mp nd).1
      simp
      rintro rfl
      exact n this
    rw [this]
    simp [List.lookup]
  | g :: fs, v :: us, i + 1, f, u, nd, h1, h2 => by
    have ih := lk_zip (i := i) (List.nodup_cons.mp nd).2 (by simpa using h1) (by simpa using h2)
    rw [List.zip_cons_cons, List.reverse_cons, List.lookup_append, ih]
    rfl
/-- what a method call asks whether .. -/
def pl_ (o : Expr) (env : Env) : Sem Bool := do return (← importBound o env).getD true
theorem sup_eq {o : Expr} {name : Str} {p2 p4 p3 : Pos} {txt : Str} {j : Nat} {env : Env} (h : (p2.endLine == p4.line) = true) : eval (.Call (.Attribute o name p2) [.Constant (.str txt) j p3] [] p4) env = (do
      let ov ← attributeBase o name env (eval o env)
      standAt p2.atName
      let (f, first) ← holding [ov] (getMethod ov name (pl_ o env))
      callWith p4 f first (backTo p4 (starEach [.Constant (.str txt) j p3] env)) []) := by
  rw [arm_eval_Call]
  unfold methodCall methodCallPos
  simp only [h, Bool.or_true, if_true]
  rfl
theorem err_init (T : ErrTxt K C fI fs) (hfs : fs ≠ []) (hfl : fs.length ≤ 800) (hfile : ((prog.main.file : Str) == "/claim/cut.py") = true) (htop : (prog.main.scope.names.lookup ("super" : Str)).isSome = false) {x t0 : Addr} {us : List Value} (hus : us.length = fs.length) (X : K.In s.heap) (hlim : s.heap.NoLimit)
    {mb : Str → Option Value} (hG : s.heap.Ns mainGlobals mg) (hB : s.heap.Ns builtinsNs mb) (hbb : ∀ x : Str, x ≠ "__name__" → mb x = bootBuiltins x) (hms : mg "super" = none)
    (hx : s.heap.get? x = some (excO C t0)) (hnx : K.lookup x = none) (hroom : A.depth < recursionLimit)
    (hq : ∀ h' tk dx t1, InitEnd s.heap h' x C dx t1 fs us → R (.ok (.ret .none)) { s with heap := h', toks := tk }) :
    codeAny (model prog w) A (.call (.ref fI) ⟨.ref x :: us, []⟩) R s := by
  obtain ⟨oc, od, qual, params, body, scope, dV, kV, doc, pm, an, cda, ct, osl, cc, ar, ccl, cl, cdd, cld, vs, file, tf, ccs, csl, st, sts, ho, hcd, har, hself, hcda, hvs, hfl2, hcc, rfl, hsup, hflds, hks, hkc, hloc, hkind, hcell, hco, hgen, hbind, hnd, hdbg⟩ := T.fn
  obtain ⟨nm, q, N, bs, bm, sn, sub, ab, col, dd, k0, k1, k2, k3, k5, hC, hbm⟩ := T.cls
  have hcl : clsIn K C = some { name := nm, bases := bs, mro := .ref C :: bm, ns := N, qualname := q, hasDict := true, slotNames := sn, subclasses := sub, abstract := ab, collection := col, hasDel := false } := by unfold clsIn; rw [hC] <;> rfl
  have hxs : x < s.heap.objs.size := Heap.lt_size hx
  refine ks_codeAny_call_defAt (fd := ksFn "__init__" qual params (st :: sts) scope dV kV doc pm an (.ref cda) ct cc) (body := st :: sts) (binds := (("self" : Str) :: fs).zip (.ref x :: us)) hroom (X _ _ ho) rfl hlim (codeRec_of X hcd) rfl
    (BindsTo.of_eq (hbind _ (by simp [hus]))) hcell (fun y hy => hloc y.1 (List.of_mem_zip hy).1) (fun h₁ hns hk₁ => ?_) hco hgen hkind
  have X₁ : K.In h₁ := X.keeps hk₁
  have hx₁ := hk₁ _ _ hx
  obtain ⟨hp, g, dr, tk, os⟩ := s
  generalize tk + ((("self" : Str) :: fs).zip (.ref x :: us)).length = tk1
  obtain ⟨p0, p1, p2, p3, p4, p5, j, txt, hpos, rfl⟩ := hsup
  -- the frame's names
  have hm : ∀ (i : Nat) (f : Str) (u : Value), (("self" : Str) :: fs)[i]? = some f → (Value.ref x :: us)[i]? = some u → ((("self" : Str) :: fs).zip (Value.ref x :: us)).reverse.lookup f = some u := by
    intro i f u h1 h2
    exact lk_zip hnd h1 h2
  refine ks_wpAt_execs_cons (ks_wpAt_Expr_any (hi := (show (scope.kind == .module && _) = false by rw [hkind]; rfl)) (ks_wpAt_MethodCall ?_ (pl := pl_ _ _) (he := sup_eq hpos)))
  refine ks_wpAt_super_base (f := fI) (cc := cda) hks hkc (by decide +kernel) rfl (hk₁ _ _ (X _ _ ho)) rfl har rfl (hk₁ _ _ (X _ _ hcda)) rfl hvs (by rw [beq_iff_eq] at hfile hfl2 ⊢; rw [hfile, hfl2]) htop ?_
  refine ks_loadName_global hkind hks (loadGlobal_builtin (hG.keeps hk₁) hms (hB.keeps hk₁) ((hbb _ (by decide +kernel)).trans (by first | boot_by_name | rfl | kernel_rfl)) ⟨rfl, ?_⟩)
  refine wpAny_loadName_free hkind hkc rfl ⟨_, X₁ _ _ hcc, rfl⟩ ?_
  refine wpAny_loadName_local hkind (hself ▸ hloc "self" (by simp)) hns (v := .ref x) (by rw [hself]; exact hm 0 "self" (.ref x) rfl rfl) ?_
  refine ks_wpAny_isType_cls (X₁ _ _ hC) rfl ⟨rfl, ?_⟩
  refine ks_wpAny_call_super (X₁ _ _ hC) rfl hx₁ rfl (fun c e => by cases e) (looks_mroIn X₁ T.selfC) (fun h2 hso k2 => ?_)
  have X2 : K.In h2 := X₁.keeps k2
  have hx2 := k2 _ _ hx₁
  have I2 : InstAt h2 x (excO C t0) C none := ⟨hx2, rfl, rfl, trivial⟩
  have hal : alongIn K "__init__" (((Value.ref C :: bm).dropWhile (· != .ref C)).drop 1) = some (some (.builtin "ValueError.__init__")) := by
    have z := T.sup
    unfold ks_superIn at z
    rw [hcl] at z
    exact z
  refine kxs_getMethod kxs_ValueError hso (looks_opaque X2 T.tp) (l₀ := .ref C :: bm) (fun A Q E s k q => wpAny_bind ((looks_clsIn X2 hcl) A _ E s k (wpAny_pure q))) rfl X2 hal (I2.type.andThen (looks_subIn X2 T.veC)) (ks_ne X2 I2 hcl) (by decide +kernel) ?_
  have hu : (h2.push (kxs_mw "ValueError.__init__" x)).get? h2.objs.size = some (kxs_mw "ValueError.__init__" x) := by heap_get
  have k3 : ∀ b o, h2.get? b = some o → (h2.push (kxs_mw "ValueError.__init__" x)).get? b = some o := fun b o e => Heap.get?_push_of_some _ e
  refine kxs_callWith (u := h2.objs.size) (i := "ValueError.__init__") (x := x) rfl (evalArgs_plain ?_)
  show wpAny _ _ (spliced ((false, eval (.Constant (.str txt) j p3) _) :: _)) _ _ _
  refine Calls.spliced_cons (Calls.Constant_str (Calls.spliced_nil ⟨hu, ?_⟩))
  generalize hh3 : h2.push (kxs_mw "ValueError.__init__" x) = h3 at hu k3 ⊢
  have X3 : K.In h3 := X2.keeps k3
  have hx3 := k3 _ _ hx2
  refine wpAny_call (codeAny_of_tree ?_)
  show wpAny _ _ (callAny (.ref h2.objs.size) _) _ _ _
  simp only [callAny]
  refine wpAny_bind (wpAny_load hu ?_)
  simp only [kxs_mw, show (Value.type "method-wrapper" == Value.type "method" || Value.type "method-wrapper" == Value.type "builtin_function_or_method" || Value.type "method-wrapper" == Value.type "method-wrapper") = true by decide, if_true]
  refine KFB.if_so (by decide) ?_
  have FB := F.excBase_ValueError
  refine wpAny_bind (check_bound_init FB.toExcCallFacts (X3 _ _ hC) hx3 rfl ?_)
  refine wpAny_bind (wpAny_pure (wpAny_pure ?_))
  refine ⟨plainId_quiet FB.init.plain _, codeAny_builtin FB.initEntry ?_⟩
  refine exc_init_tree (cls := .ref C) (t0 := t0) (dv := none) (c2 := .none) (c3 := .none) (b4 := .bool false) hx3 (by rw [sizeLine_eq]; exact (by decide : 1 ≤ 16777216)) (fun h4 k4 hx4 _ => ?_)
  -- the first field
  have old : ∀ b o, b ≠ x → hp.get? b = some o → h4.get? b = some o := fun b o hb e => k4 b o hb (k3 _ _ (k2 _ _ (hk₁ _ _ e)))
  have hL : x ≠ hp.objs.size := Nat.ne_of_lt hxs
  have hn4 : h4.Ns hp.objs.size (fun y => ((("self" : Str) :: fs).zip (Value.ref x :: us)).reverse.lookup y) := by
    obtain ⟨o, es, ep, e, rest⟩ := hns
    exact ⟨o, es, ep, k4 _ _ hL.symm (k3 _ _ (k2 _ _ e)), rest⟩
  have X4 : K.In h4 := in_but X hnx old
  have hx4' : h4.get? x = some (excO C h3.objs.size) := hx4
  have h3L : hp.objs.size < h4.objs.size := hn4.lt
  have hself' : (callEnv (ksFn "__init__" qual params (Stmt.Expr (.Call (.Attribute (.Call (.Name "super" p0) [] [] p1) "__init__" p2) [.Constant (.str txt) j p3] [] p4) p5 :: sts) scope dV kV doc pm an (.ref cda) ct cc) hp.objs.size fI).kindOf "self" = some .local := hloc "self" (by simp)
  cases hflds with
  | nil => exact absurd rfl hfs
  | @cons f st fs sts hf1 hfr =>
  obtain ⟨pp, qq, rr, zz, rfl⟩ := hf1
  obtain ⟨u, us, rfl⟩ : ∃ u r, us = u :: r := by
    cases us with
    | nil => simp at hus
    | cons u r => exact ⟨u, r, rfl⟩
  refine wpAt_of_wpAny ?_
  refine wpAny_execs_cons (plainObj_wpAny_Assign_Attribute ?_)
  refine ld1 (v := u) hn4 (hm 1 f u rfl rfl) (ld1 (v := .ref x) hn4 (hm 0 "self" (.ref x) rfl rfl) ?_ hkind hself' (by decide +kernel)) hkind (hloc f (by simp)) (hdbg f (by simp))
  refine set_plain X4 (ox := excO C h3.objs.size) (od := none) ⟨hx4', rfl, rfl, trivial⟩ T.sa ?_
  refine exc_osa X4 hx4' hcl (show refsVE (.ref C :: bm) = true from hbm) rfl (T.noN f (by simp)) (fun h5 tk5 dx k5 dn dne hx5 hn5 => ?_)
  have hdL : dx ≠ hp.objs.size := Nat.ne_of_gt (Nat.lt_of_lt_of_le h3L dn)
  have hdK : K.lookup dx = none := by
    cases e : K.lookup dx with
    | none => rfl
    | some o => exact absurd (Heap.lt_size (X4 _ _ e)) (Nat.not_lt.mpr dn)
  have hn5' : h5.Ns hp.objs.size (fun y => ((("self" : Str) :: f :: fs).zip (Value.ref x :: u :: us)).reverse.lookup y) := by
    obtain ⟨o, es, ep, e, rest⟩ := hn4
    exact ⟨o, es, ep, k5 _ _ hL.symm e, rest⟩
  show wpAny _ _ (execs sts _) _ _ _
  refine err_stores (s := ⟨h5, g, dr, tk5, os⟩) (t1 := h3.objs.size) (us := us) (nl := [f]) (m0 := fun y => if y = f then some u else none) (x := x) (dx := dx) hcl hbm T.sa hnx hdK hkind hself' (hm 0 "self" (.ref x) rfl rfl) hL hdL dne hfr (by simpa using hus) (fun y hy => hloc y (by simp [hy])) (fun y hy => hdbg y (by simp [hy])) (fun y hy => T.noN y (by simp [hy]))
    (fun i f' u' h1 h2 => hm (i + 2) f' u' (by simpa using h1) (by simpa using h2)) (in_but X4 hnx k5) hn5' hx5 hn5 (Within.cons f u Within.nil) (by simp at hfl ⊢; omega) (fun h6 tk6 k6 hx6 hn6 => ?_)
  refine hq h6 tk6 dx h3.objs.size ⟨fun b o hb e => k6 b o hb (fun z => ?_) (k5 b o hb (old b o hb e)), hx6, Nat.le_of_lt (Nat.lt_of_lt_of_le h3L dn), dne, ?_⟩
  · subst z
    exact absurd (Nat.lt_trans (Heap.lt_size e) h3L) (Nat.not_lt.mpr dn)
  · have e : (fun y => (((f :: fs).zip (u :: us)).reverse.lookup y)) = (fun y => (((fs.zip us).reverse.lookup y).or ((fun y => if y = f then some u else none) y))) := by
      funext y
      rw [List.zip_cons_cons, List.reverse_cons, List.lookup_append]
      cases hh : (fs.zip us).reverse.lookup y with
      | some v => simp
      | none =>
        by_cases hy : y = f
        · subst hy; simp [List.lookup]
        · have : (y == f) = false := by simpa using hy
          simp [List.lookup, this, hy]
    rw [e]
    exact hn6
/-- a made one -/
structure ErrMade (h h' : Heap) (e C d : Addr) (fs : List Str) (us : List Value) : Prop where
  keep : ∀ b o, h.get? b = some o → h'.get? b = some o
  new : h.objs.size ≤ e
  obj : ∃ oe vs, h'.get? e = some oe ∧ oe.cls = .ref C ∧ oe.dict = some d ∧ oe.data = .fields vs ∧ vs[1]? = some .none
  dbig : h.objs.size ≤ d
  dne : d ≠ e
  ns : h'.Ns1 d (fun y => (fs.zip us).reverse.lookup y)
theorem err_made (T : ErrTxt K C fI fs) (hfs : fs ≠ []) (hfl : fs.length ≤ 800) (hfile : ((prog.main.file : Str) == "/claim/cut.py") = true) (htop : (prog.main.scope.names.lookup ("super" : Str)).isSome = false) {us : List Value} (hus : us.length = fs.length) (X : K.In s.heap) (hlim : s.heap.NoLimit)
    {mb : Str → Option Value} (hG : s.heap.Ns mainGlobals mg) (hB : s.heap.Ns builtinsNs mb) (hbb : ∀ x : Str, x ≠ "__name__" → mb x = bootBuiltins x) (hms : mg "super" = none) (hroom : A.depth + 1 < recursionLimit)
    (hq : ∀ h' tk e d, ErrMade s.heap h' e C d fs us → R (.ok (.ret (.ref e))) { s with heap := h', toks := tk }) :
    codeAny (model prog w) A (.call (.ref C) ⟨us, []⟩) R s := by
  obtain ⟨nm, q, N, bs, bm, sn, sub, ab, col, dd, k0, k1, k2, k3, k5, hC, hbm⟩ := T.cls
  obtain ⟨hp, g, dr, tk, os⟩ := s
  have k : ∀ b o, hp.get? b = some o → ((hp.push (kdv_tup us)).push (excO C hp.objs.size)).get? b = some o := fun b o e => Heap.get?_push_of_some _ (Heap.get?_push_of_some _ e)
  have hget : ((hp.push (kdv_tup us)).push (excO C hp.objs.size)).get? (hp.objs.size + 1) = some (excO C hp.objs.size) := by heap_get
  have hnx : K.lookup (hp.objs.size + 1) = none := by
    cases e : K.lookup (hp.objs.size + 1) with
    | none => rfl
    | some o =>
      have z : hp.get? (hp.objs.size + 1) = some o := X _ _ e
      exact absurd (Nat.lt_of_succ_lt (Heap.lt_size z)) (Nat.lt_irrefl _)
  refine call_own F.excBase_ValueError (fun X => refsVE_contains X bm hbm) (X _ _ hC) (looks_findIn X T.iC) (fun self => bind_fn X self T.tC) (by rw [hus, sizeLine_eq]; omega) ?_
  refine err_init (s := ⟨(hp.push (kdv_tup us)).push (excO C hp.objs.size), g, dr, tk, os⟩) T hfs hfl hfile htop hus (X.keeps k) (hlim.keeps k) (hG.keeps k) (hB.keeps k) hbb hms hget hnx ?_ fun h' tk' dx t1 ⟨k', hx, dn, dne, hns⟩ => ?_
  · show A.depth + 1 < recursionLimit
    exact hroom
  · have old : ∀ b o, hp.get? b = some o → h'.get? b = some o := fun b o e => k' b o (Nat.ne_of_lt (Nat.lt_succ_of_lt (Heap.lt_size e))) (k b o e)
    have z : hp.objs.size + 1 + 1 ≤ dx := by
      first
        | (simpa only [Heap.size_push] using dn)
        | exact dn
        | (have q := dn; rw [Heap.size_push, Heap.size_push] at q; exact q)
    exact ⟨rfl, hq h' tk' (hp.objs.size + 1) dx ⟨old, Nat.le_succ _, ⟨_, _, hx, rfl, rfl, rfl, rfl⟩, Nat.le_trans (Nat.le_trans (Nat.le_succ _) (Nat.le_succ _)) z, dne, hns⟩⟩
end
end NKE
end PySem
namespace L2
open PySem PySem.Spec PyProof.Rows
theorem relO_err : ∀ {fs : List Str} {vs : List V} {us : List Value}, Vals vs us → fs.length = vs.length → fs.Nodup → ∀ f, RelO (List.lookup f (fs.zip vs)) ((fs.zip us).reverse.lookup f)
  | [], _, _, _, _, _, f => by simp [List.lookup]; trivial
  | g :: fs, [], _, _, h, _, f => by simp at h
  | g :: fs, v :: vs, _, rr, h, nd, f => by
    cases rr with
    | cons r rs =>
    rename_i u us
    have ih := relO_err rs (by simpa using h) (List.nodup_cons.mp nd).2 f
    rw [List.zip_cons_cons, List.zip_cons_cons, List.reverse_cons, List.lookup_append]
    by_cases hg : f = g
    · subst hg
      have : (fs.zip us).reverse.lookup f = none := by
        rw [List.lookup_eq_none_iff]
        intro p hp
        have q := (List.of_mem_zip (List.mem_reverse.mp hp)).1
        have n := (List.nodup_cons.mp nd).1
        simp
        rintro rfl
        exact n q
      rw [this]
      simp [List.lookup]
      exact r
    · have hb : (f == g) = false := by simpa using hg
      rw [List.lookup_cons, hb]
      have e : ((fs.zip us).reverse.lookup f).or (List.lookup f [(g, u)]) = (fs.zip us).reverse.lookup f := by
        simp [List.lookup, hb]
      rw [e]
      exact ih
section
variable {X : Cx} {C fI : Addr} {fs : List Str}
/-- C(e, ..): an error of the class at C with the fields fs -/
def tMkErr (C : Addr) (fs : List Str) (ta : TA) : St → Hp → XK → Prop := fun σ H Q => ta σ H fun vs H1 => vs.length = fs.length ∧ ∀ d, H1 d = none → Q (.ref C) (some d) (upd H1 d (.xd (fs.zip vs)))
theorem pmk_err {x : Str} {a : Expr} {as : List Expr} {ta : TA} {p pos : Pos} {k : Nat} (T : PySem.NKE.ErrTxt X.K C fI fs) (hfs : fs ≠ []) (hfl : fs.length ≤ 800) (hnd : fs.Nodup) (hfile : ((X.prog.main.file : Str) == "/claim/cut.py") = true) (htop : (X.prog.main.scope.names.lookup ("super" : Str)).isSome = false) (hms : X.mg "super" = none)
    (hr : Room k X.A) (gC : X.mg x = some (.ref C)) (ha : PA X (a :: as) ta) (hg : Gl X x := by rfl) (hdb : (x == ("__debug__" : Str)) = false := by decide)
    (he : starEach (a :: as) X.env = (false, eval a X.env) :: starEach as X.env := by rfl) (hpl : (backTo pos (starEach as X.env)).any (·.1) = false := by rfl) :
    PMk X (.Call (.Name x p) (a :: as) [] pos) (tMkErr C fs ta) := by
  intro pins s σ H Q I h
  refine wpAny_Call_Name_kw (ld_glob I hg gC ?_ hdb)
  refine PySem.W.callWith_K (h₀ := X.base) I.ok.mod.kin T.kC (thn (ha.run pos pins s σ H _ I h) fun us s1 hh => ?_) he hpl
  obtain ⟨vs, H1, I1, r1, ev, q1⟩ := hh
  refine ⟨I1.kIn, ?_⟩
  show wpAny _ _ (call (.ref C) us) _ _ _
  have hlim := I1.nolimit
  obtain ⟨mb, hb1, hb2⟩ := I1.mod.blt
  have hGl : s1.heap.Ns mainGlobals X.mg := I1.mod.glob.keeps I1.bk
  have hBl : s1.heap.Ns builtinsNs mb := hb1.keeps I1.bk
  obtain ⟨hp, g, dr, tk, os⟩ := s1
  refine wpAny_call (PySem.NKE.err_made T hfs hfl hfile htop (by rw [← r1.length, ev]) I1.kIn hlim hGl hBl hb2 hms (by have := hr.dp; omega) fun h' tk' e d M => ?_)
  show MkP X pins σ Q (.ref e) ⟨h', g, dr, tk', os⟩
  obtain ⟨oe, fv, hoe, hc, hd, hdat, h1⟩ := M.obj
  have hns := M.ns
  obtain ⟨G', g1, g2⟩ := restrict h' fun b => decide (b ≠ e)
  have gk : ∀ b, b ≠ e → G'.get? b = h'.get? b := fun b hb => g1 b (decide_eq_true hb)
  have ge : G'.get? e = none := g2 e (by simp)
  have old : ∀ b o, hp.get? b = some o → G'.get? b = some o := fun b o q => (gk b (Nat.ne_of_lt (Nat.lt_of_lt_of_le (Heap.lt_size q) M.new))).trans (M.keep b o q)
  have ob : ObjOk X.prog X.w (upd H1 d (.xd (fs.zip vs))) G' d (.xd (fs.zip vs)) :=
    ⟨_, hns.at (fun o q => (gk d M.dne).trans q), relO_err r1 ev.symm hnd⟩
  have J : Inv X pins σ (upd H1 d (.xd (fs.zip vs))) ⟨G', g, dr, tk', os⟩ := I1.laid (t' := tk') old M.dbig ob
  refine ⟨e, oe, fv, ⟨G', g, dr, tk', os⟩, _, .ref C, some d, rfl, J, fun b o q => ?_, ge, hoe, ⟨hc, hd⟩, hdat, h1, ?_, rfl, I1.bare, raises_own T.exC T.tyC, q1 d (I1.hok.fresh M.dbig)⟩
  · by_cases hb : b = e
    · subst hb
      rw [ge] at q
      cases q
    · exact (gk b hb).symm.trans q
  · rw [upd_ne M.dne.symm]
    exact I1.hok.fresh M.new
end
end L2
/-! isinstance of a caught error that has its own dict; several except clauses with names. -/
namespace PySem.W
open PySem PySem.Spec PySem.Calls PyProof.Rows
section
variable {prog : Program} {w : World} {A : Around} {E : Value → Shared → Prop} {s : Shared} {K : Frag} {x D : Addr} {ox : Obj} {od : Option Obj}
theorem nk_findObj {C : Addr} {name : Str} {a g : Value} (hc : (clsIn K C).isSome = true) (ha : findIn K (.ref C) name = some (some a)) (hg : specialIn K a "__get__" = some (some g)) (ht : takesIn K a = some true) : findObj K C od name = some (.bind g a) := by
  obtain ⟨cd, hc⟩ := Option.isSome_iff_exists.mp hc
  unfold findObj
  rw [hc, Option.bind_some, ha, Option.bind_some]
  simp [hg, ht]
theorem nk_classE {Q : Option Value → Shared → Prop} (hga : findIn K (.ref D) "__getattribute__" = some (some (.builtin "BaseException.__getattribute__"))) (hgt : findIn K (.ref D) "__getattr__" = some none) (hsub : subIn K (.ref D) (.type "BaseException") = some true)
    (hdct : hasDictIn K D = true) (ha : findIn K (.ref D) "__class__" = some (some (.builtin "object.__class__")))
    (hn : specialIn K (.builtin "object.__class__") "__get__" = some (some (.builtin "getset_descriptor.__get__"))) (htk : takesIn K (.builtin "object.__class__") = some true) (hm : mroIn K D (.type "object") = some true)
    (X : K.In s.heap) (I : InstAt s.heap x ox D od) (h : Q (some (.ref D)) { s with toks := s.toks + 1 }) : wpAny (model prog w) A (getAttr? (.ref x) "__class__") Q E s := by
  have hf : findObj K D od "__class__" = some (.bind (.builtin "getset_descriptor.__get__") (.builtin "object.__class__")) := nk_findObj (by obtain ⟨cd, hc, _⟩ := any_some hdct; rw [hc]; rfl) ha hn htk
  obtain ⟨hp, g, d, t, os⟩ := s
  have L0 := I.type (M := model prog w)
  have L1 := looks_findIn (M := model prog w) X hga
  have L2 := looks_findIn (M := model prog w) X hgt
  have L3 := looks_find (M := model prog w) X I hf
  have sub : Looks (model prog w) hp (isInstance (.ref x) (.type "BaseException")) true := L0.andThen (looks_subIn X hsub)
  have hx0 : (false && onTheHeap (Value.builtin "BaseException.__getattribute__")) = false := rfl
  have hx2 : (Value.builtin "BaseException.__getattribute__" == Value.builtin "object.__getattribute__") = false := by decide +kernel
  have hx1 : (onTheHeap (Value.ref D) && Value.builtin "BaseException.__getattribute__" == Value.builtin "object.__getattribute__") = false := by rw [hx2]; rfl
  unfold getAttr? getAttrBy? getAttrBy
  refine wpAny_bind (wpAny_mkText (wpAny_bind (wpAny_attempt (wpAny_holding (wpAny_bind (L0.at (wpAny_bind (L1.at ?_))))))))
  show wpAny _ _ (if (onTheHeap (Value.ref D) && Value.builtin "BaseException.__getattribute__" == Value.builtin "object.__getattribute__") = true then _ else _) _ _ _
  rw [hx1, if_neg Bool.false_ne_true]
  unfold getAttrByItsOwn hookBefore
  refine wpAny_bind ?_
  rw [if_pos (show onTheHeap (Value.ref D) = true from rfl)]
  refine L2.at ?_
  refine wpAny_bind (wpAny_attempt (wpAny_holding ?_))
  unfold callGetattribute
  rw [hx0, if_neg Bool.false_ne_true]
  unfold boundAndCalled
  rw [PySem.F.excAttr_ValueError.ga.bind (.ref x)]
  refine wpAny_bind (wpAny_pure ?_)
  show wpAny _ _ (call (.builtin "BaseException.__getattribute__") [.ref x, .str "__class__" t]) _ _ _
  refine wpAny_call (codeAny_call_builtin PySem.F.excAttr_ValueError.ga.plain PySem.F.entry_bexc_ga ?_)
  refine @check_slot (model prog w) _ _ ⟨hp, g, d, t + 1, os⟩ "BaseException.__getattribute__" "BaseException" "__getattribute__" (.ref x) [.str "__class__" t] [] _ (by decide +kernel) (by decide +kernel) sub (PySem.F.args_bexc_ga (.ref x) (.str "__class__" t)) ?_
  unfold Builtin.«object.__getattribute__»
  refine wpAny_bind (wpAny_of_eq (a := ((Value.ref x : Value), [Value.str "__class__" t])) (by first | rfl | (simp only [slotArgs]; rfl)) ?_)
  refine wpAny_bind (wpAny_pure (wpAny_bind (L0.at (wpAny_bind (L3.at ?_)))))
  show wpAny _ _ (holding [Value.builtin "object.__class__"] (call (.builtin "getset_descriptor.__get__") [.builtin "object.__class__", .ref x, .ref D]) >>= ret) _ _ _
  refine wpAny_bind (wpAny_holding (wpAny_call (class_get (s := ⟨hp, g, d, t + 1, os⟩) (ox := ox) (od := od) X I hm ?_)))
  refine wpAny_pure ?_
  show wpAny _ _ (handedOut (.ref D)) _ _ _
  rw [handedOut_of (v := .ref D) rfl]
  first
    | exact wpAny_pure (wpAny_pure h)
    | exact wpAny_pure h
    | exact wpAny_pure (wpAny_bind (wpAny_pure (wpAny_pure h)))
theorem nk_kitx (hga : findIn K (.ref D) "__getattribute__" = some (some (.builtin "BaseException.__getattribute__"))) (hgt : findIn K (.ref D) "__getattr__" = some none) (hsub : subIn K (.ref D) (.type "BaseException") = some true) (hdct : hasDictIn K D = true) (ha : findIn K (.ref D) "__class__" = some (some (.builtin "object.__class__")))
    (hn : specialIn K (.builtin "object.__class__") "__get__" = some (some (.builtin "getset_descriptor.__get__"))) (htk : takesIn K (.builtin "object.__class__") = some true) (hm : mroIn K D (.type "object") = some true) :
    KitX K (.ref x) (.ref D) (fun h => ∃ od, InstAt h x ox D od) where
  ty := fun _ _ _ ⟨_, I⟩ => I.type
  it := fun _ _ X _ => by
    obtain ⟨cdD, hcD, _⟩ := any_some hdct
    unfold clsIn at hcD
    split at hcD
    · rename_i c' d' cd' sl' ho
      intro A' Q' E' s' k q
      unfold isType loadHead
      exact wpAny_bind (wpAny_loadPart (k _ _ (X _ _ ho)) (wpAny_pure q))
    · cases hcD
  ne := fun h tp dd its n sl X htp => by
    obtain ⟨cdD, hcD, _⟩ := any_some hdct
    refine Bool.eq_false_iff.mpr fun q => ?_
    have e : D = tp := Value.ref.inj (beq_iff_eq.mp q)
    subst e
    unfold clsIn at hcD
    split at hcD
    · rename_i c' d' cd' sl' ho
      have z := (X _ _ ho).symm.trans htp
      cases z
    · cases hcD
  ca := fun X ⟨_, I⟩ k => nk_classE hga hgt hsub hdct ha hn htk hm X I k
end
end PySem.W
namespace L2
open PySem PySem.Spec PyProof.Rows
/-- isinstance(e, c), e the error that the suite holds at a, of the class at D -/
def rIsX (K : PySem.W.Frag) (D a : Addr) (cls : Value) (d : Option Addr) : List V → Hp → VK → Prop := fun xs H Q => ∃ (c : V) (cv : Value) (b : Bool), xs = [.ref a, c] ∧ cls = .ref D ∧ (∀ u, RelV c u → u = cv) ∧ (∀ dd, d = some dd → ∃ fs, H dd = some (.xd fs)) ∧ PySem.W.kitOne K (.ref D) cv = some b ∧ Q (.bl b) H
theorem call_isX {X : Cx} {a D : Addr} {oe : Obj} {cls : Value} {d : Option Addr} {pn : List (Addr × Obj)} (C : ExcC X.K D) (hz : Zc cls d oe) (hf : ∃ vs, oe.data = .fields vs) : CallR (X.suite a ((a, oe) :: pn)) (.builtin "isinstance") (rIsX X.K D a cls d) := by
  intro pins s σ H xs us Q I r h
  obtain ⟨c, cv, b, rfl, rfl, hcv, hdd, e, q⟩ := h
  cases r with
  | cons rx rr =>
    cases rr with
    | cons rt rr =>
      cases rr
      cases rx
      have ec := hcv _ rt
      subst ec
      obtain ⟨hget, _⟩ := I.pin (a, oe) (List.mem_append.mpr (.inl List.mem_cons_self))
      obtain ⟨vs, hv⟩ := hf
      have J : ∃ od, PySem.W.InstAt s.heap a oe D od := by
        obtain ⟨oc, od, oda, osl⟩ := oe
        obtain ⟨h1, h2⟩ := hz
        dsimp only at h1 h2 hv
        subst h1 h2 hv
        cases od with
        | none => exact ⟨none, hget, rfl, rfl, trivial⟩
        | some dd =>
          obtain ⟨fs, hx⟩ := hdd dd rfl
          obtain ⟨mA, ⟨o, es, ep, ho, _⟩, _⟩ : ∃ mA, s.heap.Ns1 dd mA ∧ _ := I.hok dd _ hx
          exact ⟨some o, hget, rfl, rfl, ho⟩
      exact PySem.W.kia_one (PySem.W.nk_kitx C.hg C.hk C.hs C.hd C.ha C.hn C.ht C.hm) I.kIn J e (fun z => nomatch z) fun tk => ⟨.bl b, H, I.kept (t' := tk) fun _ _ z => z, rfl, q⟩

/-! ### several except clauses, each with or without a name -/
/-- a clause: the class it names; the slot of its name; what its suite asks -/
abbrev Hd := Value × Option Nat × (Addr → Value → Option Addr → TS)
/-- what the clauses wish of an exception of the body, one after the other -/
def wHds (K : PySem.W.Frag) (Wout : WX) (D : Ends) : List Hd → WX
  | [] => Wout
  | (c, none, ts) :: r => fun cls d σ H => ∃ b, PySem.W.exmOne K cls c = some b ∧ (b = true → ∀ a, H a = none → ts a cls d D σ H) ∧ (b = false → wHds K Wout D r cls d σ H)
  | (c, some i, ts) :: r => fun cls d σ H => ∃ b, PySem.W.exmOne K cls c = some b ∧ (b = true → ∀ a, H a = none → ts a cls d { nx := fun σ' H' => D.nx (σ'.set i none) H', rt := D.rt, bk := fun σ' H' => D.bk (σ'.set i none) H', ct := fun σ' H' => D.ct (σ'.set i none) H' } (σ.set i (some (.ref a))) H) ∧ (b = false → wHds K Wout D r cls d σ H)
inductive HdsN (X : Cx) : List ExceptHandler → List Hd → Prop
  | nil : HdsN X [] []
  | bare {x : Str} {c : Value} {ts : Addr → Value → Option Addr → TS} {b₀ : Stmt} {suite : List Stmt} {np pos' : Pos} {hds : List ExceptHandler} {l : List Hd} (hc : Names X x c)
      (hsu : ∀ (a : Addr) (oe : Obj) (cls : Value) (d : Option Addr) (pn : List (Addr × Obj)), Zc cls d oe → (∃ vs, oe.data = .fields vs) → PSs (X.suite a ((a, oe) :: pn)) (b₀ :: suite) (ts a cls d)) (r : HdsN X hds l) :
      HdsN X (.ExceptHandler (some (.Name x np)) none (b₀ :: suite) pos' :: hds) ((c, none, ts) :: l)
  | as_ {x n : Str} {i : Nat} {c : Value} {ts : Addr → Value → Option Addr → TS} {b₀ : Stmt} {suite : List Stmt} {np pos' : Pos} {hds : List ExceptHandler} {l : List Hd} (hi : X.N[i]? = some n) (hln : X.env.kindOf n = some .local) (hc : Names X x c)
      (hsu : ∀ (a : Addr) (oe : Obj) (cls : Value) (d : Option Addr) (pn : List (Addr × Obj)), Zc cls d oe → (∃ vs, oe.data = .fields vs) → PSs (X.suite a ((a, oe) :: pn)) (b₀ :: suite) (ts a cls d)) (r : HdsN X hds l) :
      HdsN X (.ExceptHandler (some (.Name x np)) (some n) (b₀ :: suite) pos' :: hds) ((c, some i, ts) :: l)
section
variable {X : Cx} {body : List Stmt} {h₀ : ExceptHandler} {hds : List ExceptHandler} {l : List Hd} {pos : Pos} {tb : WX → TS} {Wout : WX}
theorem ps_try_hds (hs : X.stack = X.env :: X.outer) (hf : X.env.frame = some X.env.locals) (hN : X.N.Nodup) (tk : Takes X Wout)
    (hb : ∀ (W : WX) (pn : List (Addr × Obj)) (xe : Value → Shared → Prop), Takes (X.tr pn xe) W → PassesOwn (model X.prog X.w) X.A X.env xe → PSs (X.tr pn xe) body (tb W))
    (hh : HdsN X (h₀ :: hds) l) : PS X (.Try body (h₀ :: hds) [] [] pos) (fun D σ H => tb (wHds X.K Wout D l) D σ H) := by
  refine ⟨fun pins s σ H D I h => ?_⟩
  have ok := I.ok
  have hfr : X.A.frames = some (X.env :: X.outer) := by rw [ok.frames, hs]
  refine wpAny_Try_except ?_
  refine wpAny_mono ((hb (wHds X.K Wout D l) (X.pn ++ pins) (fun e s₁ => wpAny (model X.prog X.w) X.A (noteFrame e X.env) (fun _ s₂ => wpAny (model X.prog X.w) X.A (setFlight e none) (fun _ s₃ =>
    wpAny (model X.prog X.w) X.A (handleBy e X.env (h₀ :: hds)) (SP X pins D) X.xe s₃) X.xe s₂) X.xe s₁) (fun u s' xx => ?_) PassesOwn.looking).run [] s σ H D (I.toTry _) h) (fun f s1 hsp => ?_) (fun e s1 he => he)
  · -- the catch
    obtain ⟨a, B, sI, pins', σ', H', cls, d, rfl, J', nb, up, sky, na, os, ag, w⟩ := xx
    have J : Inv X pins σ' H' sI := J'.ofTry ok
    have sky' : Sky B (X.env :: X.outer) a (Zc cls d) X.env.locals s'.heap := by rw [← hs]; exact sky
    show wpAny (model X.prog X.w) X.A (noteFrame (.ref a) X.env) _ _ _
    refine Sky.land Zc.steady hfr hf sky' fun h3 fl3 up3 => ?_
    have J3 : Inv X pins σ' H' { s' with heap := h3 } := J.landed nb fl3.1 (up.trans up3) os ag
    obtain ⟨oe3, vs3, he3, hz3, hd3⟩ := fl3.there
    have notFr : ∀ {h : Heap} {o : Obj} {vs : Array Value}, h.FunFrames B (X.env :: X.outer) → h.get? a = some o → o.data = .fields vs → a ∉ frs (X.env :: X.outer) := fun {h o vs} ff e dd hm => by
      obtain ⟨_, o', e', hnf⟩ := ff.mem hm
      rw [e] at e'; cases e'
      exact hnf _ dd
    have nfr := notFr fl3.2.2.1 he3 hd3
    have nL : a ≠ X.env.locals := fun z => nfr (List.mem_filterMap.mpr ⟨X.env, List.mem_cons_self, by rw [hf, z]⟩)
    have nF : a ∉ X.fs := fun hm => by
      obtain ⟨e, he, q⟩ := List.mem_filterMap.mp hm
      exact nfr (List.mem_filterMap.mpr ⟨e, List.mem_cons_of_mem _ he, q⟩)
    have S3 := J3.suite he3 hd3 na nL nF
    have test : ∀ {x : Str} {np : Pos} {c : Value} {Q : Value → Shared → Prop} {E : Value → Shared → Prop}, Names X x c → Q c { s' with heap := h3 } → wpAny (model X.prog X.w) (X.A.mark (some (.ref a))) (eval (.Name x np) X.env) Q E { s' with heap := h3 } := fun {x np c Q E} hc q => by
      obtain ⟨hg, hdbg, hm | ⟨hm, hv, hnn⟩⟩ := hc
      · exact ld_glob (X := X.suite a ((a, oe3) :: (X.pn ++ pins))) S3 hg hm q hdbg
      · exact ld_blt (X := X.suite a ((a, oe3) :: (X.pn ++ pins))) S3 hg hm hv q hnn hdbg
    have LT : PySem.W.Looks (model X.prog X.w) h3 (typeOf (.ref a)) cls := fun A Q E s k q => wpAny_typeOf_ref (k _ _ he3) (by rw [hz3.1]; exact q)
    have go : ∀ {hds' : List ExceptHandler} {l' : List Hd}, HdsN X hds' l' → wHds X.K Wout D l' cls d σ' H' →
        wpAny (model X.prog X.w) X.A (handleBy (.ref a) X.env hds') (SP X pins D) X.xe { s' with heap := h3 } := by
      intro hds' l' hk
      induction hk with
      | nil =>
        intro w
        refine wpAny_handleBy_nil ?_
        obtain ⟨k1, k2, k3, oe, vs, T, oT, ts', he, hz, hd, h1, hr⟩ := id fl3
        unfold PySem.passOn
        refine wpAny_bind (wpAny_field he hd h1 ?_)
        rw [if_neg (show ¬ ((Value.ref T == Value.none) = true) from by simp)]
        have fin : wpAny (model X.prog X.w) X.A (setFlight (.ref a) X.env.frame) (fun _ s4 => wpAny (model X.prog X.w) X.A (throw (.ref a) : Sem Flow) (SP X pins D) X.xe s4) X.xe { s' with heap := h3 } := by
          rw [hf]
          refine HandSPX.setFlight_upZ fl3 fun h4 hh4 up4 => wpAny_throw (tk _ _ ?_)
          exact ⟨a, B, sI, pins, σ', H', cls, d, rfl, J, nb, (up.trans up3).trans up4, .inr (.inr (by rw [hs]; exact hh4)), na, os, ag, w⟩
        first
          | exact wpAny_bind (wpAny_pure (wpAny_bind fin))
          | exact wpAny_bind fin
      | @bare x c ts b₀ suite np pos' hds2 l2 hc hsu r ih =>
        intro w
        obtain ⟨b, hb1, hyes, hno⟩ := w
        refine wpAny_handleBy_cons (codeAny_handlers_test ?_) (by intro q; cases q)
        have LM := PySem.W.exm_one (M := model X.prog X.w) (J3.kIn) LT hb1
        refine test hc (LM.here ?_)
        cases b with
        | true =>
          refine codeAny_handlers_suite ?_
          refine HandSPX.lands_againZ fl3 fun h4 fl4 up4 => ?_
          have J4 : Inv X pins σ' H' { s' with heap := h4 } := J.landed nb fl4.1 ((up.trans up3).trans up4) os ag
          obtain ⟨oe4, vs4, he4, hz4, hd4⟩ := fl4.there
          have S4 := J4.suite he4 hd4 na nL nF
          refine wpAny_mono ((hsu a oe4 cls d (X.pn ++ pins) hz4 ⟨_, hd4⟩).run [] _ _ H' _ S4 (hyes rfl a na)) (fun f s6 hsp => ?_) (fun _ _ z => False.elim z)
          cases f with
          | next =>
            obtain ⟨σ6, H6, S6, q6⟩ := hsp
            exact ⟨_, _, S6.unsuite ok, q6⟩
          | brk =>
            obtain ⟨σ6, H6, S6, q6⟩ := hsp
            exact ⟨_, _, S6.unsuite ok, q6⟩
          | cont =>
            obtain ⟨σ6, H6, S6, q6⟩ := hsp
            exact ⟨_, _, S6.unsuite ok, q6⟩
          | ret u =>
            obtain ⟨v6, σ6, H6, S6, r6, q6⟩ := hsp
            exact ⟨_, _, _, S6.unsuite ok, r6, q6⟩
        | false =>
          show wpAny _ X.A (handleBy (.ref a) X.env hds2) _ _ _
          exact ih (hno rfl)
      | @as_ x n i c ts b₀ suite np pos' hds2 l2 hi hln hc hsu r ih =>
        intro w
        obtain ⟨b, hb1, hyes, hno⟩ := w
        refine wpAny_handleBy_cons (codeAny_handlers_test ?_) (by intro q; cases q)
        have LM := PySem.W.exm_one (M := model X.prog X.w) (J3.kIn) LT hb1
        refine test hc (LM.here ?_)
        have hloc : Loc X.env.scope n := .inl hln
        cases b with
        | true =>
          refine codeAny_handlers_suite_as ?_
          refine HandSPX.lands_againZ fl3 fun h4 fl4 up4 => ?_
          have J4 : Inv X pins σ' H' { s' with heap := h4 } := J.landed nb fl4.1 ((up.trans up3).trans up4) os ag
          obtain ⟨oe4, vs4, he4, hz4, hd4⟩ := fl4.there
          have S4 := J4.suite he4 hd4 na nL nF
          refine store_ok (X := X.suite a ((a, oe4) :: (X.pn ++ pins))) (v := .ref a) S4 hN hi hloc rfl (fun s5 S5 => ?_) (.inr hln)
          refine wpAny_mono ((hsu a oe4 cls d (X.pn ++ pins) hz4 ⟨_, hd4⟩).run [] s5 _ H' _ S5 (hyes rfl a na)) (fun f s6 hsp => ?_) (fun _ _ z => False.elim z)
          have end_ : ∀ {σ6 : St} {H6 : Hp} {Q : Shared → Prop}, Inv (X.suite a ((a, oe4) :: (X.pn ++ pins))) [] σ6 H6 s6 → (∀ s7, Inv X pins (σ6.set i none) H6 s7 → Q s7) →
              wpAny (model X.prog X.w) X.A (do bindName X.env n .none; unbindBehindTheSuite X.env n pos') (fun _ s7 => Q s7) X.xe s6 := fun {σ6 H6 Q} S6 hq => gone_ok (S6.unsuite ok) hN hi hln hq
          cases f with
          | next =>
            obtain ⟨σ6, H6, S6, q6⟩ := hsp
            exact end_ S6 fun s7 J7 => ⟨_, _, J7, q6⟩
          | brk =>
            obtain ⟨σ6, H6, S6, q6⟩ := hsp
            exact end_ S6 fun s7 J7 => ⟨_, _, J7, q6⟩
          | cont =>
            obtain ⟨σ6, H6, S6, q6⟩ := hsp
            exact end_ S6 fun s7 J7 => ⟨_, _, J7, q6⟩
          | ret u =>
            obtain ⟨v6, σ6, H6, S6, r6, q6⟩ := hsp
            exact end_ S6 fun s7 J7 => ⟨_, _, _, J7, r6, q6⟩
        | false =>
          show wpAny _ X.A (handleBy (.ref a) X.env hds2) _ _ _
          exact ih (hno rfl)
    exact go hh w
  · cases f with
    | next =>
      obtain ⟨σ', H', J', q⟩ := hsp
      exact wpAny_execs_nil ⟨σ', H', J'.ofTry ok, q⟩
    | brk =>
      obtain ⟨σ', H', J', q⟩ := hsp
      exact ⟨σ', H', J'.ofTry ok, q⟩
    | cont =>
      obtain ⟨σ', H', J', q⟩ := hsp
      exact ⟨σ', H', J'.ofTry ok, q⟩
    | ret u =>
      obtain ⟨v, σ', H', J', r, q⟩ := hsp
      exact ⟨v, σ', H', J'.ofTry ok, r, q⟩
end
end L2
/-! Rules that take their operands as they come (ints, texts, lists, tuples): the reading is a match on the values. -/
namespace L2
open PySem PySem.Spec PyProof.Rows
/-! ### operators -/
section
variable {X : Cx}
def aAdd (K : PySem.W.Frag) : R2 := fun x y H Q => match x, y with
  | .int i, .int j => Q (.int (i + j)) H
  | .int i, .bl k => Q (.int (i + b2i k)) H
  | .str i, .str j => i.length + j.length ≤ sizeLine ∧ Q (.str (i ++ j)) H
  | .ref a, .ref b => rCat (.ref a) (.ref b) H Q ∨ rCatA K (.ref a) (.ref b) H Q
  | _, _ => False
theorem oa_add : OpR X (binaryOp .Add) (aAdd X.K) := by
  intro pins s σ H x y v u Q I rx ry h
  cases x <;> cases y <;> first
    | exact False.elim h
    | exact op_add pins s σ H _ _ v u Q I rx ry ⟨_, _, rfl, rfl, h⟩
    | exact op_add_ib pins s σ H _ _ v u Q I rx ry ⟨_, _, rfl, rfl, h⟩
    | exact op_add_str pins s σ H _ _ v u Q I rx ry ⟨_, _, rfl, rfl, h.1, h.2⟩
    | exact (op_cat.or op_catA) pins s σ H _ _ v u Q I rx ry h
def aSub : R2 := fun x y H Q => match x, y with
  | .int i, .int j => Q (.int (i - j)) H
  | _, _ => False
theorem oa_sub : OpR X (binaryOp .Sub) aSub := by
  intro pins s σ H x y v u Q I rx ry h
  cases x <;> cases y <;> first
    | exact False.elim h
    | exact op_sub pins s σ H _ _ v u Q I rx ry ⟨_, _, rfl, rfl, h⟩
def aMul (K : PySem.W.Frag) : R2 := fun x y H Q => match x, y with
  | .int i, .int j => IntMulOk i j ∧ Q (.int (i * j)) H
  | .ref a, .int j => rRep (.ref a) (.int j) H Q
  | .str z, .int j => (-1000000 ≤ j ∧ j ≤ 10000 ∧ z.length ≤ 1000) ∧ Q (.str (Txt.mul z j)) H
  | _, _ => False
theorem mulOk_of {z : Str} {j : Int} (h : -1000000 ≤ j ∧ j ≤ 10000 ∧ z.length ≤ 1000) : MulOk z j := by
  obtain ⟨h1, h2, h3⟩ := h
  refine ⟨?_, fun a _ => ?_, fun a _ => ?_⟩
  · rw [Bool.or_eq_false_iff, decide_eq_false_iff_not, decide_eq_false_iff_not]
    constructor <;> omega
  · have : (1000 : Int) ≤ (2 ^ 63 - 1) / j := Int.le_ediv_of_mul_le (by omega) (by omega)
    omega
  · have b : z.length * j.toNat ≤ 1000 * 10000 := Nat.mul_le_mul h3 (by omega)
    unfold Builtin.Str.tooLong
    rw [decide_eq_false_iff_not]
    have : (1000 * 10000 : Nat) ≤ sizeLine := by decide
    omega
theorem oa_mul : OpR X (binaryOp .Mult) (aMul X.K) := by
  intro pins s σ H x y v u Q I rx ry h
  cases x <;> cases y <;> first
    | exact False.elim h
    | (obtain ⟨t, rfl⟩ := rx; obtain ⟨t', rfl⟩ := ry; exact mul_int ⟨.int _, H, I.tok _, ⟨_, rfl⟩, h.2⟩ h.1)
    | exact op_rep pins s σ H _ _ v u Q I rx ry h
    | (obtain ⟨t, rfl⟩ := rx; obtain ⟨t', rfl⟩ := ry; exact SB.mul (mulOk_of h.1) fun t' k => ⟨.str _, H, I.tok k, ⟨t', rfl⟩, h.2⟩)
def aDiv : R2 := fun x y H Q => match x, y with
  | .int i, .int j => j ≠ 0 ∧ j.natAbs.log2 < 9000 ∧ Q (.int (i.fdiv j)) H
  | _, _ => False
theorem oa_div : OpR X (binaryOp .FloorDiv) aDiv := by
  intro pins s σ H x y v u Q I rx ry h
  cases x <;> cases y <;> first
    | exact False.elim h
    | (obtain ⟨t, rfl⟩ := rx; obtain ⟨t', rfl⟩ := ry; exact floordiv_int h.1 ⟨.int _, H, I.tok _, ⟨_, rfl⟩, h.2.2⟩ (.inl (PyProof.noPylong_of_log2 h.2.1)))
def aMod : R2 := fun x y H Q => match x, y with
  | .int i, .int j => j ≠ 0 ∧ Q (.int (i.fmod j)) H
  | _, _ => False
theorem oa_mod : OpR X (binaryOp .Mod) aMod := by
  intro pins s σ H x y v u Q I rx ry h
  cases x <;> cases y <;> first
    | exact False.elim h
    | exact op_modN pins s σ H _ _ v u Q I rx ry ⟨_, _, rfl, rfl, h.1, h.2⟩
def aPow : R2 := fun x y H Q => match x, y with
  | .int i, .int j => (0 ≤ j ∧ j ≤ 1000000 ∧ i.natAbs < 2 ^ 64) ∧ Q (.int (i ^ j.toNat)) H
  | _, _ => False
theorem oa_pow : OpR X (binaryOp .Pow) aPow := by
  intro pins s σ H x y v u Q I rx ry h
  cases x <;> cases y <;> first
    | exact False.elim h
    | exact op_pow pins s σ H _ _ v u Q I rx ry ⟨_, _, rfl, rfl, h.1, h.2⟩
def aNeg : V → Hp → VK → Prop := fun x H Q => match x with
  | .int i => Q (.int (-i)) H
  | _ => False
theorem oa_neg : UnR X (unaryOp .USub) aNeg := by
  intro pins s σ H x v Q I rx h
  cases x <;> first
    | exact False.elim h
    | exact un_neg pins s σ H _ v Q I rx ⟨_, rfl, h⟩
/-! ### comparisons -/
def aEq (K : PySem.W.Frag) : R2 := fun x y H Q => match x, y with
  | .ref a, .ref b => rEqD K (.ref a) (.ref b) H Q
  | x, y => scal x y = true ∧ Q (.bl (decide (x = y))) H
theorem oa_eq (hu : X.A.units + 64 < cLine) : OpR X (compareOp .Eq) (aEq X.K) := by
  intro pins s σ H x y v u Q I rx ry h
  by_cases e : ∃ a b, x = .ref a ∧ y = .ref b
  · obtain ⟨a, b, rfl, rfl⟩ := e
    exact op_eqD hu pins s σ H _ _ v u Q I rx ry h
  · have h' : scal x y = true ∧ Q (.bl (decide (x = y))) H := by
      cases x <;> cases y <;> first
        | exact h
        | exact absurd ⟨_, _, rfl, rfl⟩ e
    exact op_eq pins s σ H _ _ v u Q I rx ry h'
def aNe (K : PySem.W.Frag) : R2 := fun x y H Q => match x, y with
  | .ref a, .ref b => rNeD K (.ref a) (.ref b) H Q
  | x, y => scal x y = true ∧ Q (.bl (!decide (x = y))) H
theorem oa_ne (hu : X.A.units + 64 < cLine) : OpR X (compareOp .NotEq) (aNe X.K) := by
  intro pins s σ H x y v u Q I rx ry h
  by_cases e : ∃ a b, x = .ref a ∧ y = .ref b
  · obtain ⟨a, b, rfl, rfl⟩ := e
    exact op_neD hu pins s σ H _ _ v u Q I rx ry h
  · have h' : scal x y = true ∧ Q (.bl (!decide (x = y))) H := by
      cases x <;> cases y <;> first
        | exact h
        | exact absurd ⟨_, _, rfl, rfl⟩ e
    exact op_ne pins s σ H _ _ v u Q I rx ry h'
def aCmp (p : Int → Int → Bool) : R2 := fun x y H Q => match x, y with
  | .int i, .int j => Q (.bl (p i j)) H
  | _, _ => False
theorem oa_cmp {op : CmpOp} {p : Int → Int → Bool} (h0 : OpR X (compareOp op) (rI0 fun i j => .bl (p i j))) : OpR X (compareOp op) (aCmp p) := by
  intro pins s σ H x y v u Q I rx ry h
  cases x <;> cases y <;> first
    | exact False.elim h
    | exact h0 pins s σ H _ _ v u Q I rx ry ⟨_, _, rfl, rfl, h⟩
abbrev aLt : R2 := aCmp fun i j => decide (i < j)
abbrev aLe : R2 := aCmp fun i j => decide (i ≤ j)
abbrev aGt : R2 := aCmp fun i j => decide (j < i)
abbrev aGe : R2 := aCmp fun i j => decide (j ≤ i)
theorem oa_lt : OpR X (compareOp .Lt) aLt := oa_cmp op_lt
theorem oa_le : OpR X (compareOp .LtE) aLe := oa_cmp op_le
theorem oa_gt : OpR X (compareOp .Gt) aGt := oa_cmp op_gt
theorem oa_ge : OpR X (compareOp .GtE) aGe := oa_cmp op_ge
/-- x is y: None, True, False on the right -/
def aIs : R2 := fun x y H Q => match y with
  | .non => Q (.bl (decide (x = .non))) H
  | .bl b => Q (.bl (decide (x = .bl b))) H
  | _ => False
theorem oa_is : OpR X (compareOp .Is) aIs := by
  intro pins s σ H x y v u Q I rx ry h
  cases y <;> first
    | exact False.elim h
    | exact op_isN pins s σ H _ _ v u Q I rx ry ⟨rfl, h⟩
    | exact op_isB pins s σ H _ _ v u Q I rx ry ⟨_, rfl, h⟩
def aIsnot : R2 := fun x y H Q => match y with
  | .non => Q (.bl (!decide (x = .non))) H
  | .bl b => Q (.bl (!decide (x = .bl b))) H
  | _ => False
theorem oa_isnot : OpR X (compareOp .IsNot) aIsnot := by
  intro pins s σ H x y v u Q I rx ry h
  cases y <;> first
    | exact False.elim h
    | exact op_notN pins s σ H _ _ v u Q I rx ry ⟨rfl, h⟩
    | exact op_isnotB pins s σ H _ _ v u Q I rx ry ⟨_, rfl, h⟩
/-! ### subscripts, slices, len -/
def aIx (K : PySem.W.Frag) : R2 := fun x y H Q => match x, y with
  | .str z, .int i => z.length ≤ sizeLine ∧ ∃ c, atI z.cps.toList i = some c ∧ Q (.str ⟨#[c]⟩) H
  | .ref p, .int i => ∃ xs v, (SqL K H p xs ∨ SqT K H p xs) ∧ atI xs i = some v ∧ Q v H
  | _, _ => False
theorem oa_ix : IxR X (aIx X.K) := by
  intro va sl pins s σ H x y v u Q I rx ry h hs
  cases x <;> cases y <;> first
    | exact False.elim h
    | (obtain ⟨h1, c, h2, q⟩ := h; exact ix_str va sl pins s σ H _ _ v u Q I rx ry ⟨_, _, _, rfl, rfl, h1, h2, q⟩ hs)
    | (obtain ⟨xs, w, h1 | h1, h2, q⟩ := h
       · exact ix_list va sl pins s σ H _ _ v u Q I rx ry ⟨_, _, _, _, rfl, rfl, h1, h2, q⟩ hs
       · exact ix_tup va sl pins s σ H _ _ v u Q I rx ry ⟨_, _, _, _, rfl, rfl, h1, h2, q⟩ hs)
def aLen (K : PySem.W.Frag) : List V → Hp → VK → Prop := fun xs H Q => match xs with
  | [.str z] => z.length ≤ sizeLine ∧ Q (.int z.length) H
  | [.ref p] => ∃ ys, (SqL K H p ys ∨ SqT K H p ys) ∧ Q (.int ys.length) H
  | _ => False
theorem ca_len : CallR X (.builtin "len") (aLen X.K) := by
  intro pins s σ H xs us Q I r h
  match xs, h with
  | [.str z], h => exact call_len_str pins s σ H _ us Q I r ⟨_, rfl, h.1, h.2⟩
  | [.ref p], ⟨ys, h1, q⟩ => exact call_len_seq pins s σ H _ us Q I r ⟨_, _, rfl, h1, q⟩
/-- int(x) of an int -/
def aInt : List V → Hp → VK → Prop := fun xs H Q => match xs with
  | [.int i] => Q (.int i) H
  | [.bl k] => Q (.int (if k then 1 else 0)) H
  | _ => False
theorem ca_int : CallR X (.type "int") aInt := by
  intro pins s σ H xs us Q I r h
  match xs, h with
  | [.int i], h => exact call_int1 pins s σ H _ us Q I r (.inl ⟨_, rfl, h⟩)
  | [.bl k], h => exact call_int1 pins s σ H _ us Q I r (.inr ⟨_, rfl, h⟩)
def aAbs : List V → Hp → VK → Prop := fun xs H Q => match xs with
  | [.int i] => Q (.int (i.natAbs : Int)) H
  | _ => False
theorem ca_abs : CallR X (.builtin "abs") aAbs := by
  intro pins s σ H xs us Q I r h
  match xs, h with
  | [.int i], h =>
    have e : (if i < 0 then -i else i) = (i.natAbs : Int) := by split <;> omega
    exact call_abs pins s σ H _ us Q I r ⟨_, rfl, by rw [e]; exact h⟩
/-- list(x) of a list or a tuple -/
def aList (K : PySem.W.Frag) : List V → Hp → VK → Prop := fun xs H Q => match xs with
  | [.ref p] => ∃ ys, (SqL K H p ys ∨ SqT K H p ys) ∧ ∀ l, H l = none → Q (.ref l) (upd H l (.lst ys))
  | _ => False
theorem ca_list : CallR X (.type "list") (aList X.K) := by
  intro pins s σ H xs us Q I r h
  match xs, h with
  | [.ref p], ⟨ys, h1, q⟩ => exact call_list_of pins s σ H _ us Q I r ⟨_, _, rfl, h1, q⟩
/-- tuple(x) of a list -/
def aTuple (K : PySem.W.Frag) : List V → Hp → VK → Prop := fun xs H Q => match xs with
  | [.ref p] => ∃ ys, ((SqL K H p ys ∧ ∀ l, H l = none → Q (.ref l) (upd H l (.tup ys))) ∨ (SqT K H p ys ∧ Q (.ref p) H))
  | _ => False
theorem ca_tuple : CallR X (.type "tuple") (aTuple X.K) := by
  intro pins s σ H xs us Q I r h
  match xs, h with
  | [.ref p], ⟨ys, h1⟩ => exact call_tuple_of pins s σ H _ us Q I r ⟨_, _, rfl, h1⟩
def aSl (K : PySem.W.Frag) : V → Option Int → Option Int → Hp → VK → Prop := fun x lo hi H Q => rSlL K x lo hi H Q ∨ (rSlA K x lo hi H Q ∨ rSlS x lo hi H Q)
theorem oa_sl : SlR X (aSl X.K) := sl_list.or (sl_tupA.or sl_str)
/-- max(a, b), min(a, b) of two ints; max(xs), min(xs) of a list of ints -/
def aMax (K : PySem.W.Frag) : List V → Hp → VK → Prop := fun xs H Q => match xs with
  | [.int i, .int j] => Q (.int (max i j)) H
  | [.ref p] => ∃ ns : List Int, SqL K H p (ns.map V.int) ∧ 0 < ns.length ∧ ∀ m, m ∈ ns → (∀ y, y ∈ ns → y ≤ m) → Q (.int m) H
  | _ => False
theorem ca_max (hc : X.calm = true) : CallR X (.builtin "max") (aMax X.K) := by
  intro pins s σ H xs us Q I r h
  match xs, h with
  | [.int i, .int j], h =>
    have e : (if j > i then j else i) = max i j := by split <;> omega
    exact call_max2 hc pins s σ H _ us Q I r ⟨_, _, rfl, by rw [e]; exact h⟩
  | [.ref p], ⟨ns, h1, h2, q⟩ => exact cr_max hc pins s σ H _ us Q I r ⟨_, _, rfl, h1, h2, q⟩
def aMin (K : PySem.W.Frag) : List V → Hp → VK → Prop := fun xs H Q => match xs with
  | [.int i, .int j] => Q (.int (min i j)) H
  | [.ref p] => ∃ ns : List Int, SqL K H p (ns.map V.int) ∧ 0 < ns.length ∧ ∀ m, m ∈ ns → (∀ y, y ∈ ns → m ≤ y) → Q (.int m) H
  | _ => False
theorem ca_min (hc : X.calm = true) : CallR X (.builtin "min") (aMin X.K) := by
  intro pins s σ H xs us Q I r h
  match xs, h with
  | [.int i, .int j], h =>
    have e : (if j < i then j else i) = min i j := by split <;> omega
    exact call_min2 hc pins s σ H _ us Q I r ⟨_, _, rfl, by rw [e]; exact h⟩
  | [.ref p], ⟨ns, h1, h2, q⟩ => exact cr_min hc pins s σ H _ us Q I r ⟨_, _, rfl, h1, h2, q⟩
/-- truth of any value: TruV -/
def tTr (K : PySem.W.Frag) (ta : TE) : TT := fun σ H Q => ta σ H fun x H' => match x with
  | .bl b => Q b H'
  | .int i => Q (i != 0) H'
  | .non => Q false H'
  | x => ∃ k, TruV K x H' k ∧ Q k H'
theorem pt_tr {a : Expr} {ta : TE} (ha : PE X a ta) (he : ∀ whole, isTrue a X.env whole = (do let v ← whole; standAt a.pos; holding [v] (truthy v)) := by intro _; rfl) : PT X a (tTr X.K ta) := by
  refine ⟨fun pins s σ H Q I hw => ?_⟩
  refine isTrue_plain (thn (ha.run pins s σ H _ I hw) fun v s1 ⟨x, H1, I1, r1, q1⟩ => ?_) (he _)
  refine tru_ok pins s1 σ H1 x v Q I1 r1 ?_
  cases x <;> first
    | exact q1
    | exact ⟨_, rfl, q1⟩
end
end L2
/-! Calls in short, what a reading comes to (s_*), the ledger of what may change (W). -/
namespace L2
open PySem PySem.Spec PyProof.Rows
/-! ### calls -/
/-- the def named x keeps the promise sp (it may let errors out) -/
def FnAt (P : Program) (w : World) (K : PySem.W.Frag) (mg : Str → Option Value) (base : Heap) (k : Nat) (x : Str) (ps : List Str) (sp : Sp) : Prop :=
  ∃ (f : Addr) (fd : FuncData), FnOk P w K mg base (L2.CX P w) k f fd ps sp ∧ mg x = some (.ref f) ∧ PySem.W.keepIn K (.ref f) = true ∧ Binds K fd ps []
section
variable {X : Cx} {k : Nat} {x : Str} {ps : List Str} {sp : Sp} {E : XK} {t : TA} {e : Expr} {es : List Expr} {p pos : Pos}
theorem pe_fn (C : FnAt X.prog X.w X.K X.mg X.base k x ps sp) (hr : Room k X.A) (hx : Passes (L2.CX X.prog X.w) X E) (ha : PA X (e :: es) t) (hg : Gl X x := by rfl) (hdb : (x == ("__debug__" : Str)) = false := by decide)
    (he : starEach (e :: es) X.env = (false, eval e X.env) :: starEach es X.env := by rfl) (hpl : (backTo pos (starEach es X.env)).any (·.1) = false := by rfl) : PE X (.Call (.Name x p) (e :: es) [] pos) (tCall sp [] E t) := by
  obtain ⟨f, fd, F, hm, hk, hb⟩ := C
  exact pe_call F hr hg hm hk hb .nil hx ha hdb he hpl
theorem pe_fn0 (C : FnAt X.prog X.w X.K X.mg X.base k x ps sp) (hr : Room k X.A) (hx : Passes (L2.CX X.prog X.w) X E) (hg : Gl X x := by rfl) (hdb : (x == ("__debug__" : Str)) = false := by decide) : PE X (.Call (.Name x p) [] [] pos) (tCall sp [] E tNil) := by
  obtain ⟨f, fd, F, hm, hk, hb⟩ := C
  exact pe_call0 F hr hg hm hk hb .nil hx hdb
/-- within a try -/
theorem pe_fnS {Eσ : St → XK} (C : FnAt X.prog X.w X.K X.mg X.base k x ps sp) (hr : Room k X.A) (hx : ∀ σ, PassesAt (L2.CX X.prog X.w) X σ (Eσ σ)) (ha : PA X (e :: es) t) (hg : Gl X x := by rfl) (hdb : (x == ("__debug__" : Str)) = false := by decide)
    (he : starEach (e :: es) X.env = (false, eval e X.env) :: starEach es X.env := by rfl) (hpl : (backTo pos (starEach es X.env)).any (·.1) = false := by rfl) : PE X (.Call (.Name x p) (e :: es) [] pos) (tCallS sp Eσ t) := by
  obtain ⟨f, fd, F, hm, hk, hb⟩ := C
  exact pe_callS F hr hg hm hk hb hx ha hdb he hpl
/-- a def whose errors go out of the def that calls it -/
theorem passE {W : WX} (tk : Takes X W) (hW : ∀ c d σ H, E c d H → W c d σ H) : Passes (L2.CX X.prog X.w) X E := passes_call tk hW
theorem FnAt.of {P : Program} {w : World} {K : PySem.W.Frag} {mg : Str → Option Value} {base : Heap} {x : Str} {st : Stmt} {f : Addr} {fd : FuncData} {ps : List Str} {k : Nat} {sp : Sp} (F : Fun K x x st f fd) (hm : mg x = some (.ref f)) (h : FnOk P w K mg base (L2.CX P w) k f fd ps sp)
    (hb : Binds K fd ps []) : FnAt P w K mg base k x ps sp := ⟨f, fd, h, hm, F.kp, hb⟩
/-! ### statements in short -/
/-- x = e -/
theorem ps_st (i : Nat) {y : Str} {te : TE} {pos' : Pos} (hN : X.N.Nodup) (he : PE X e te) (hi : X.N[i]? = some y := by rfl) (hx : Loc X.env.scope y := by first | exact Or.inl rfl | exact Or.inr rfl) (hs : swapsWith e (some (.Name y pos')) pos.line X.env = pure false := by rfl) (hf : X.fn y = true ∨ X.env.scope.names.lookup y = some .local := by first | exact .inl rfl | exact .inr rfl) :
    PS X (.Assign [.Name y pos'] e pos) (tAsg te (gName i)) := ps_set hN hi hx he hs hf
/-- a target that is the name in slot i -/
theorem pg_n (i : Nat) {y : Str} (hN : X.N.Nodup) (hi : X.N[i]? = some y := by rfl) (hx : Loc X.env.scope y := by first | exact Or.inl rfl | exact Or.inr rfl) (hf : X.fn y = true ∨ X.env.scope.names.lookup y = some .local := by first | exact .inl rfl | exact .inr rfl) : PG X (.Name y pos) (gName i) := pg_name hN hi hx hf
/-- what a for walks: a list or a tuple -/
def iSeq (K : PySem.W.Frag) (tl : TE) : TI := fun σ H R => tl σ H fun x H1 => ∃ a, x = .ref a ∧ ((∃ xs, SqL K H1 a xs) ∧ R (Itl K a) H1 ∨ (∃ xs, SqT K H1 a xs) ∧ R (Itt K a) H1)
theorem pi_seq {tg l : Expr} {tl : TE} (hl : PE X l tl) : PI X tg l (iSeq X.K tl) := by
  refine ⟨fun pins s σ H R I h => ?_⟩
  refine thn (hl.run pins s σ H _ I h) fun v s1 ⟨x, H1, I1, r1, q1⟩ => ?_
  obtain ⟨a, rfl, ⟨⟨xs, hq⟩, q⟩ | ⟨⟨xs, hq⟩, q⟩⟩ := q1
  · cases r1
    obtain ⟨its, rv, p, hz⟩ := I1.list hq
    refine wpAny_pyIter_list p.isList ?_
    refine ⟨s1.heap.objs.size, [s1.heap.objs.size], _, _, H1, rfl, I1.kept (t' := s1.toks) fun b o e => Heap.get?_push_of_some _ e, turn_list a _, ⟨_, Heap.get?_push_size _ rfl, rfl, rfl⟩, fun b hb => ?_, q⟩
    have e : b = s1.heap.objs.size := by simpa using hb
    subst e
    exact I1.fpOk (Nat.le_refl _) (I1.hok.fresh (Nat.le_refl _))
  · cases r1
    obtain ⟨its, rv, p, hz⟩ := I1.tuple hq
    refine wpAny_pyIter_tuple (show s1.heap.IsTuple a its.toArray from p) ?_
    refine ⟨s1.heap.objs.size, [s1.heap.objs.size], _, _, H1, rfl, I1.kept (t' := s1.toks) fun b o e => Heap.get?_push_of_some _ e, turn_tuple a _, ⟨_, Heap.get?_push_size _ rfl, rfl, rfl⟩, fun b hb => ?_, q⟩
    have e : b = s1.heap.objs.size := by simpa using hb
    subst e
    exact I1.fpOk (Nat.le_refl _) (I1.hok.fresh (Nat.le_refl _))
end
/-! ### what a reading comes to -/
section
variable {K : PySem.W.Frag} {t u : TS} {te ta tb tc : TE} {tt c tA tB' : TT} {g : TG} {D : Ends} {σ : St} {H : Hp} {Q : VK} {QT : Bool → Hp → Prop} {QA : List V → Hp → Prop} {QG : St → Hp → Prop} {i j : Nat} {v x y : V} {r r' : R2} {tr : TA} {gs : TGs}
theorem s_seq : tSeq t u D σ H = t { D with nx := u D } σ H := rfl
theorem s_next : tNext D σ H = D.nx σ H := rfl
theorem s_brk : tBreak D σ H = D.bk σ H := rfl
theorem s_cont : tCont D σ H = D.ct σ H := rfl
theorem s_drop : tDrop te D σ H = te σ H (fun _ H1 => D.nx σ H1) := rfl
theorem s_ret : tRet te D σ H = te σ H D.rt := rfl
theorem s_retN : tRetN D σ H = D.rt .non H := rfl
/-- the ways behind an if: not opened before it is known which -/
def tBr (t u : TS) (D : Ends) (σ : St) (b : Bool) (H : Hp) : Prop := if b = true then t D σ H else u D σ H
theorem s_ifS : tIfS c t u D σ H = c σ H (fun b H1 => tBr t u D σ b H1) := rfl
theorem s_br1 : tBr t u D σ true H = t D σ H := rfl
theorem s_br0 : tBr t u D σ false H = u D σ H := rfl
theorem w_br {p : Prop} [Decidable p] (h1 : p → t D σ H) (h2 : ¬ p → u D σ H) : tBr t u D σ (decide p) H := by
  by_cases h : p
  · rw [decide_eq_true h]; exact h1 h
  · rw [decide_eq_false h]; exact h2 h
theorem w_brN {p : Prop} [Decidable p] (h1 : ¬ p → t D σ H) (h2 : p → u D σ H) : tBr t u D σ (!decide p) H := by
  by_cases h : p
  · rw [decide_eq_true h]; exact h2 h
  · rw [decide_eq_false h]; exact h1 h
theorem w_brB {b : Bool} (h1 : b = true → t D σ H) (h2 : b = false → u D σ H) : tBr t u D σ b H := by
  cases b with
  | true => exact h1 rfl
  | false => exact h2 rfl
theorem w_brNB {b : Bool} (h1 : b = false → t D σ H) (h2 : b = true → u D σ H) : tBr t u D σ (!b) H := by
  cases b with
  | true => exact h2 rfl
  | false => exact h1 rfl
/-- a store behind an evaluation: not opened before the value's kind is known -/
def tAs (g : TG) (D : Ends) (σ : St) (x : V) (H : Hp) : Prop := g x σ H D.nx
theorem s_asg : tAsg te g D σ H = te σ H (fun x H1 => tAs g D σ x H1) := rfl
theorem s_asV : tAs g D σ x H = g x σ H D.nx := rfl
theorem s_asI {a : Int} : tAs g D σ (.int a) H = g (.int a) σ H D.nx := rfl
theorem s_asB {a : Bool} : tAs g D σ (.bl a) H = g (.bl a) σ H D.nx := rfl
theorem s_asN : tAs g D σ .non H = g .non σ H D.nx := rfl
theorem s_asS {a : Str} : tAs g D σ (.str a) H = g (.str a) σ H D.nx := rfl
theorem s_asR {a : Addr} : tAs g D σ (.ref a) H = g (.ref a) σ H D.nx := rfl
theorem s_gName : gName i v σ H QG = QG (σ.set i (some v)) H := rfl
theorem s_gSub {ts : TSet} : gSub ta tb ts v σ H QG = ta σ H (fun o H1 => tb σ H1 (fun i H2 => ts o i v H2 (fun H3 => QG σ H3))) := rfl
theorem s_gNil {vs : List V} : gNil vs σ H QG = (vs = [] ∧ QG σ H) := rfl
theorem s_gCons {vs : List V} : gCons g gs vs σ H QG = ∃ v r, vs = v :: r ∧ g v σ H (fun σ' H' => gs r σ' H' QG) := rfl
theorem s_var : tVar i σ H Q = ∃ v, σ[i]? = some (some v) ∧ Q v H := rfl
theorem s_C : tC v σ H Q = Q v H := rfl
theorem s_op : tOp r ta tb σ H Q = ta σ H (fun x H1 => tb σ H1 (fun y H2 => r x y H2 Q)) := rfl
theorem s_un {ru : V → Hp → VK → Prop} : tUn ru ta σ H Q = ta σ H (fun x H1 => ru x H1 Q) := rfl
theorem s_chain : tChain r r' ta tb tc σ H Q = ta σ H (fun x H1 => tb σ H1 (fun y H2 => r x y H2 (fun z H3 => ∃ k, z = .bl k ∧ (if k = true then tc σ H3 (fun w' H4 => r' y w' H4 Q) else Q (.bl false) H3)))) := rfl
theorem s_test : tTest te σ H QT = te σ H (fun x H' => ∃ k, x = .bl k ∧ QT k H') := rfl
theorem s_B : tB te σ H QT = te σ H (fun x H' => ∃ k, x = .bl k ∧ QT k H') := rfl
/-- and, or: the second part -/
def aB (tB' : TT) (σ : St) (QT : Bool → Hp → Prop) (b : Bool) (H : Hp) : Prop := if b = true then tB' σ H QT else QT false H
def oB (tB' : TT) (σ : St) (QT : Bool → Hp → Prop) (b : Bool) (H : Hp) : Prop := if b = true then QT true H else tB' σ H QT
theorem s_and : tAnd tA tB' σ H QT = tA σ H (fun c H1 => aB tB' σ QT c H1) := rfl
theorem s_or : tOr tA tB' σ H QT = tA σ H (fun c H1 => oB tB' σ QT c H1) := rfl
theorem s_aB1 : aB tB' σ QT true H = tB' σ H QT := rfl
theorem s_aB0 : aB tB' σ QT false H = QT false H := rfl
theorem s_oB1 : oB tB' σ QT true H = QT true H := rfl
theorem s_oB0 : oB tB' σ QT false H = tB' σ H QT := rfl
theorem w_aB {p : Prop} [Decidable p] (h1 : p → tB' σ H QT) (h2 : ¬ p → QT false H) : aB tB' σ QT (decide p) H := by
  by_cases h : p
  · rw [decide_eq_true h]; exact h1 h
  · rw [decide_eq_false h]; exact h2 h
theorem w_aBN {p : Prop} [Decidable p] (h1 : ¬ p → tB' σ H QT) (h2 : p → QT false H) : aB tB' σ QT (!decide p) H := by
  by_cases h : p
  · rw [decide_eq_true h]; exact h2 h
  · rw [decide_eq_false h]; exact h1 h
theorem w_aBB {b : Bool} (h1 : b = true → tB' σ H QT) (h2 : b = false → QT false H) : aB tB' σ QT b H := by
  cases b with
  | true => exact h1 rfl
  | false => exact h2 rfl
theorem w_oB {p : Prop} [Decidable p] (h1 : p → QT true H) (h2 : ¬ p → tB' σ H QT) : oB tB' σ QT (decide p) H := by
  by_cases h : p
  · rw [decide_eq_true h]; exact h1 h
  · rw [decide_eq_false h]; exact h2 h
theorem w_oBN {p : Prop} [Decidable p] (h1 : ¬ p → QT true H) (h2 : p → tB' σ H QT) : oB tB' σ QT (!decide p) H := by
  by_cases h : p
  · rw [decide_eq_true h]; exact h2 h
  · rw [decide_eq_false h]; exact h1 h
theorem w_oBB {b : Bool} (h1 : b = true → QT true H) (h2 : b = false → tB' σ H QT) : oB tB' σ QT b H := by
  cases b with
  | true => exact h1 rfl
  | false => exact h2 rfl
theorem s_not : tNot tA σ H QT = tA σ H (fun c H1 => QT (!c) H1) := rfl
/-- .. as values -/
def aE (tb : TE) (σ : St) (Q : VK) (x : V) (H : Hp) : Prop := ∃ c, x = .bl c ∧ if c = true then tb σ H Q else Q (.bl false) H
def oE (tb : TE) (σ : St) (Q : VK) (x : V) (H : Hp) : Prop := ∃ c, x = .bl c ∧ if c = true then Q (.bl true) H else tb σ H Q
theorem s_andV : tAndV ta tb σ H Q = ta σ H (fun x H1 => aE tb σ Q x H1) := rfl
theorem s_orV : tOrV ta tb σ H Q = ta σ H (fun x H1 => oE tb σ Q x H1) := rfl
theorem s_aE1 : aE tb σ Q (.bl true) H = tb σ H Q := propext ⟨fun ⟨c, e, h⟩ => by cases e; exact h, fun h => ⟨true, rfl, h⟩⟩
theorem s_aE0 : aE tb σ Q (.bl false) H = Q (.bl false) H := propext ⟨fun ⟨c, e, h⟩ => by cases e; exact h, fun h => ⟨false, rfl, h⟩⟩
theorem s_oE1 : oE tb σ Q (.bl true) H = Q (.bl true) H := propext ⟨fun ⟨c, e, h⟩ => by cases e; exact h, fun h => ⟨true, rfl, h⟩⟩
theorem s_oE0 : oE tb σ Q (.bl false) H = tb σ H Q := propext ⟨fun ⟨c, e, h⟩ => by cases e; exact h, fun h => ⟨false, rfl, h⟩⟩
theorem w_aE {p : Prop} [Decidable p] (h1 : p → tb σ H Q) (h2 : ¬ p → Q (.bl false) H) : aE tb σ Q (.bl (decide p)) H := by
  by_cases h : p
  · rw [decide_eq_true h, s_aE1]; exact h1 h
  · rw [decide_eq_false h, s_aE0]; exact h2 h
theorem w_aEB {b : Bool} (h1 : b = true → tb σ H Q) (h2 : b = false → Q (.bl false) H) : aE tb σ Q (.bl b) H := by
  cases b with
  | true => rw [s_aE1]; exact h1 rfl
  | false => rw [s_aE0]; exact h2 rfl
theorem w_oE {p : Prop} [Decidable p] (h1 : p → Q (.bl true) H) (h2 : ¬ p → tb σ H Q) : oE tb σ Q (.bl (decide p)) H := by
  by_cases h : p
  · rw [decide_eq_true h, s_oE1]; exact h1 h
  · rw [decide_eq_false h, s_oE0]; exact h2 h
theorem w_oEB {b : Bool} (h1 : b = true → Q (.bl true) H) (h2 : b = false → tb σ H Q) : oE tb σ Q (.bl b) H := by
  cases b with
  | true => rw [s_oE1]; exact h1 rfl
  | false => rw [s_oE0]; exact h2 rfl
def nE (Q : VK) (x : V) (H : Hp) : Prop := ∃ c, x = .bl c ∧ Q (.bl (!c)) H
theorem s_notV : tNotV ta σ H Q = ta σ H (fun x H1 => nE Q x H1) := rfl
theorem s_nE {b : Bool} : nE Q (.bl b) H = Q (.bl (!b)) H := propext ⟨fun ⟨c, e, h⟩ => by cases e; exact h, fun h => ⟨b, rfl, h⟩⟩
def iE (ta tb : TE) (σ : St) (Q : VK) (c : Bool) (H : Hp) : Prop := if c = true then ta σ H Q else tb σ H Q
theorem s_if : tIf tt ta tb σ H Q = tt σ H (fun c H1 => iE ta tb σ Q c H1) := rfl
theorem s_iE1 : iE ta tb σ Q true H = ta σ H Q := rfl
theorem s_iE0 : iE ta tb σ Q false H = tb σ H Q := rfl
theorem w_iE {p : Prop} [Decidable p] (h1 : p → ta σ H Q) (h2 : ¬ p → tb σ H Q) : iE ta tb σ Q (decide p) H := by
  by_cases h : p
  · rw [decide_eq_true h]; exact h1 h
  · rw [decide_eq_false h]; exact h2 h
theorem w_iEB {b : Bool} (h1 : b = true → ta σ H Q) (h2 : b = false → tb σ H Q) : iE ta tb σ Q b H := by
  cases b with
  | true => exact h1 rfl
  | false => exact h2 rfl
/-- truth -/
def trV (K : PySem.W.Frag) (QT : Bool → Hp → Prop) (x : V) (H : Hp) : Prop := match x with
  | .bl b => QT b H
  | .int i => QT (i != 0) H
  | .non => QT false H
  | x => ∃ k, TruV K x H k ∧ QT k H
theorem s_tr : tTr K ta σ H QT = ta σ H (fun x H' => trV K QT x H') := rfl
theorem s_trB {b : Bool} : trV K QT (.bl b) H = QT b H := rfl
theorem s_trI {a : Int} : trV K QT (.int a) H = QT (a != 0) H := rfl
theorem s_trN : trV K QT .non H = QT false H := rfl
theorem w_trL {p : Addr} {xs : List V} (h : SqL K H p xs) (q : QT (!xs.isEmpty) H) : trV K QT (.ref p) H := ⟨_, .inl ⟨xs, h, rfl⟩, q⟩
theorem w_trT {p : Addr} {xs : List V} (h : SqT K H p xs) (q : QT (!xs.isEmpty) H) : trV K QT (.ref p) H := ⟨_, .inr (.inl ⟨xs, h, rfl⟩), q⟩
theorem s_nil : tNil σ H QA = QA [] H := rfl
theorem s_cons : tCons ta tr σ H QA = ta σ H (fun x H1 => tr σ H1 (fun xs H2 => QA (x :: xs) H2)) := rfl
theorem s_CB {rc : List V → Hp → VK → Prop} : tCB rc tr σ H Q = tr σ H (fun vs H1 => rc vs H1 Q) := rfl
theorem s_call {sp : Sp} {dvs : List V} {E : XK} : tCall sp dvs E tr σ H Q = tr σ H (fun vs H1 => sp (vs ++ dvs) H1 Q E) := rfl
theorem s_callS {sp : Sp} {E : St → XK} : tCallS sp E tr σ H Q = tr σ H (fun vs H1 => sp vs H1 Q (E σ)) := rfl
theorem s_sl {rs : V → Option Int → Option Int → Hp → VK → Prop} {tl th : TO} : tSl rs te tl th σ H Q = te σ H (fun x H1 => tl σ H1 (fun l H2 => th σ H2 (fun u H3 => rs x l u H3 Q))) := rfl
theorem s_part {QO : Option Int → Hp → Prop} : tPart te σ H QO = te σ H (fun x H1 => ∃ i, x = .int i ∧ QO (some i) H1) := rfl
theorem s_noPart {QO : Option Int → Hp → Prop} : tNoPart σ H QO = QO none H := rfl
theorem s_BM0 {T : String} {rm : V → List V → Hp → VK → Prop} : tBM0 K T rm te σ H Q = te σ H (fun x H1 => tyV K T x H1 ∧ rm x [] H1 Q) := rfl
theorem s_BM {T : String} {rm : V → List V → Hp → VK → Prop} : tBM K T rm te tr σ H Q = te σ H (fun x H1 => tyV K T x H1 ∧ tr σ H1 (fun xs H2 => rm x xs H2 Q)) := rfl
variable {a b : Int} {k : Bool}
theorem v_addI : aAdd K (.int a) (.int b) H Q = Q (.int (a + b)) H := rfl
theorem v_subI : aSub (.int a) (.int b) H Q = Q (.int (a - b)) H := rfl
theorem v_mulI : aMul K (.int a) (.int b) H Q = (IntMulOk a b ∧ Q (.int (a * b)) H) := rfl
theorem v_divI (h : 0 < b) (h9 : b.natAbs.log2 < 9000) : aDiv (.int a) (.int b) H Q = Q (.int (a / b)) H := by
  show (b ≠ 0 ∧ b.natAbs.log2 < 9000 ∧ Q (.int (a.fdiv b)) H) = _
  rw [Int.fdiv_eq_ediv_of_nonneg a (by omega)]
  exact propext ⟨fun h => h.2.2, fun q => ⟨by omega, h9, q⟩⟩
theorem v_modI (h : 0 < b) : aMod (.int a) (.int b) H Q = Q (.int (a % b)) H := by
  show (b ≠ 0 ∧ Q (.int (a.fmod b)) H) = _
  rw [Int.fmod_eq_emod_of_nonneg a (by omega)]
  exact propext ⟨fun h => h.2, fun q => ⟨by omega, q⟩⟩
theorem v_powI (h0 : 0 ≤ b) (h1 : b ≤ 1000000) (h2 : a.natAbs < 18446744073709551616) : aPow (.int a) (.int b) H Q = Q (.int (a ^ b.toNat)) H := by
  show ((0 ≤ b ∧ b ≤ 1000000 ∧ a.natAbs < 2 ^ 64) ∧ Q (.int (a ^ b.toNat)) H) = _
  exact propext ⟨fun h => h.2, fun q => ⟨⟨h0, h1, h2⟩, q⟩⟩
theorem v_negI : aNeg (.int a) H Q = Q (.int (-a)) H := rfl
theorem v_cmp {p : Int → Int → Bool} : aCmp p (.int a) (.int b) H Q = Q (.bl (p a b)) H := rfl
theorem v_eqI : aEq K (.int a) (.int b) H Q = Q (.bl (decide (a = b))) H := by
  show (true = true ∧ Q (.bl (decide (V.int a = V.int b))) H) = _
  simp
theorem v_neI : aNe K (.int a) (.int b) H Q = Q (.bl (!decide (a = b))) H := by
  show (true = true ∧ Q (.bl (!decide (V.int a = V.int b))) H) = _
  simp
theorem v_isN : aIs x .non H Q = Q (.bl (decide (x = .non))) H := rfl
theorem v_isB : aIs x (.bl k) H Q = Q (.bl (decide (x = .bl k))) H := rfl
theorem v_isnotN : aIsnot x .non H Q = Q (.bl (!decide (x = .non))) H := rfl
theorem v_isnotB : aIsnot x (.bl k) H Q = Q (.bl (!decide (x = .bl k))) H := rfl
theorem v_int : aInt [.int a] H Q = Q (.int a) H := rfl
theorem v_abs : aAbs [.int a] H Q = Q (.int (a.natAbs : Int)) H := rfl
theorem v_max2 : aMax K [.int a, .int b] H Q = Q (.int (max a b)) H := rfl
theorem v_min2 : aMin K [.int a, .int b] H Q = Q (.int (min a b)) H := rfl
variable {p q : Addr} {xs ys : List V}
theorem w_ixL {w : V} (h : SqL K H p xs) (e : atI xs a = some w) (hq : Q w H) : aIx K (.ref p) (.int a) H Q := ⟨xs, w, .inl h, e, hq⟩
theorem w_ixT {w : V} (h : SqT K H p xs) (e : atI xs a = some w) (hq : Q w H) : aIx K (.ref p) (.int a) H Q := ⟨xs, w, .inr h, e, hq⟩
theorem w_lenL (h : SqL K H p xs) (hq : Q (.int xs.length) H) : aLen K [.ref p] H Q := ⟨xs, .inl h, hq⟩
theorem w_lenT (h : SqT K H p xs) (hq : Q (.int xs.length) H) : aLen K [.ref p] H Q := ⟨xs, .inr h, hq⟩
theorem w_list (h : SqL K H p xs ∨ SqT K H p xs) (hq : ∀ l, H l = none → Q (.ref l) (upd H l (.lst xs))) : aList K [.ref p] H Q := ⟨xs, h, hq⟩
theorem w_set {v : V} {QS : Hp → Prop} {jj : Nat} {kk : Int} (h : H p = some (.lst xs)) (e : ixN xs.length kk = some jj) (hq : QS (upd H p (.lst (xs.set jj v)))) : rSetL (.ref p) (.int kk) v H QS := ⟨p, xs, kk, jj, rfl, rfl, h, e, hq⟩
theorem w_app {v : V} (h : H p = some (.lst xs)) (hz : xs.length < sizeLine) (hq : Q .non (upd H p (.lst (xs ++ [v])))) : tyV K "list" (.ref p) H ∧ rAppend (.ref p) [v] H Q :=
  ⟨.inl ⟨rfl, _, SqL.of h⟩, p, xs, v, rfl, rfl, h, hz, hq⟩
theorem w_lst (hz : xs.length ≤ sizeLine) (hq : ∀ p, H p = none → Q (.ref p) (upd H p (.lst xs))) : xs.length ≤ sizeLine ∧ ∀ p, H p = none → Q (.ref p) (upd H p (.lst xs)) := ⟨hz, hq⟩
theorem s_lst : tLst tr σ H Q = tr σ H (fun xs H1 => xs.length ≤ sizeLine ∧ ∀ p, H1 p = none → Q (.ref p) (upd H1 p (.lst xs))) := rfl
theorem s_tup : tTup tr σ H Q = tr σ H (fun xs H1 => xs.length ≤ sizeLine ∧ ∀ p, H1 p = none → Q (.ref p) (upd H1 p (.tup xs))) := rfl
/-! ### loops -/
/-- a for over what J walks -/
def forJ (J : It) (g : TG) (tb : TS) (D : Ends) (σ : St) (H : Hp) : Prop := ∃ W : Nat → Nat → St → Hp → Prop, (∃ m, W 0 m σ H) ∧ ∀ i m σ H, W i m σ H →
  (J.stop i H ∧ D.nx σ H) ∨ (J.go i H ∧ ∃ N : St → Hp → Prop, (∀ σ' H', N σ' H' → ∃ m', m' < m ∧ W (i + 1) m' σ' H') ∧ ∀ x H', J.yld i H x H' → g x σ H' fun σ2 H2 => tb { D with nx := N, ct := N, bk := D.nx } σ2 H2)
theorem s_for {wi : TI} : tFor wi g t D σ H = wi σ H (fun J H1 => forJ J g t D σ H1) := rfl
/-- a list comprehension over what J walks -/
def lcJ (J : It) (g : TG) (tt : TT) (te : TE) (vs : List Nat) (σ : St) (Q : VK) (H1 : Hp) : Prop := ∀ D, H1 D = none → ∃ W : Nat → Nat → Hp → Prop, (∃ m, W 0 m (upd H1 D (.lst []))) ∧ ∀ i m H, W i m H →
  (J.stop i H ∧ Q (.ref D) H) ∨ (J.go i H ∧ ∃ Nx : Hp → Prop, (∀ H', Nx H' → ∃ m', m' < m ∧ W (i + 1) m' H') ∧ ∀ x H', J.yld i H x H' → g x (wipe σ vs) H' fun σ2 H2 => wipe σ2 vs = wipe σ vs ∧ tt σ2 H2 fun b H3 =>
    if b = true then te σ2 H3 fun y H4 => ∃ acc, H4 D = some (.lst acc) ∧ acc.length < sizeLine ∧ Nx (upd H4 D (.lst (acc ++ [y]))) else Nx H3)
theorem s_lc {wi : TI} {vs : List Nat} : tLc wi g tt te vs σ H Q = wi σ H (fun J H1 => lcJ J g tt te vs σ Q H1) := rfl
def rg1 (vs : List V) (H : Hp) (R : It → Hp → Prop) : Prop := ∃ j : Int, vs = [.int j] ∧ -(2 ^ 62) ≤ j ∧ j < 2 ^ 62 ∧ R (Itr 0 j.toNat) H
def rg2 (vs : List V) (H : Hp) (R : It → Hp → Prop) : Prop := ∃ i j : Int, vs = [.int i, .int j] ∧ (-(2 ^ 62) ≤ i ∧ i < 2 ^ 62 ∧ -(2 ^ 62) ≤ j ∧ j < 2 ^ 62) ∧ R (Itr i (j - i).toNat) H
def rg3 (vs : List V) (H : Hp) (R : It → Hp → Prop) : Prop := ∃ (i j c : Int) (n : Nat), vs = [.int i, .int j, .int c] ∧ RgC i j c n ∧ R (Itc i c n) H
def enm (K : PySem.W.Frag) (vs : List V) (H : Hp) (R : It → Hp → Prop) : Prop := ∃ a xs, vs = [.ref a] ∧ SqL K H a xs ∧ R (Ite K a) H
def zpp (K : PySem.W.Frag) (vs : List V) (H : Hp) (R : It → Hp → Prop) : Prop := ∃ a b xs ys, vs = [.ref a, .ref b] ∧ SqL K H a xs ∧ SqL K H b ys ∧ R (Itz K a b) H
def sqq (K : PySem.W.Frag) (x : V) (H : Hp) (R : It → Hp → Prop) : Prop := ∃ a, x = .ref a ∧ ((∃ xs, SqL K H a xs) ∧ R (Itl K a) H ∨ (∃ xs, SqT K H a xs) ∧ R (Itt K a) H)
variable {R : It → Hp → Prop}
theorem s_rng1 : iRng1 tr σ H R = tr σ H (fun vs H1 => rg1 vs H1 R) := rfl
theorem s_rng2 : iRng2 tr σ H R = tr σ H (fun vs H1 => rg2 vs H1 R) := rfl
theorem s_rng3 : iRng3 tr σ H R = tr σ H (fun vs H1 => rg3 vs H1 R) := rfl
theorem s_enum : iEnum K tr σ H R = tr σ H (fun vs H1 => enm K vs H1 R) := rfl
theorem s_zip : iZip K tr σ H R = tr σ H (fun vs H1 => zpp K vs H1 R) := rfl
theorem s_seqI : iSeq K te σ H R = te σ H (fun x H1 => sqq K x H1 R) := rfl
theorem w_rg1 {j : Int} (h1 : -4611686018427387904 ≤ j) (h2 : j < 4611686018427387904) (q : R (Itr 0 j.toNat) H) : rg1 [.int j] H R := ⟨j, rfl, h1, h2, q⟩
theorem w_rg2 {i j : Int} (h1 : -4611686018427387904 ≤ i) (h2 : i < 4611686018427387904) (h3 : -4611686018427387904 ≤ j) (h4 : j < 4611686018427387904) (q : R (Itr i (j - i).toNat) H) : rg2 [.int i, .int j] H R := ⟨i, j, rfl, ⟨h1, h2, h3, h4⟩, q⟩
theorem w_enum {a : Addr} {xs : List V} (h : SqL K H a xs) (q : R (Ite K a) H) : enm K [.ref a] H R := ⟨a, xs, rfl, h, q⟩
theorem w_zip {a b : Addr} {xs ys : List V} (h : SqL K H a xs) (h' : SqL K H b ys) (q : R (Itz K a b) H) : zpp K [.ref a, .ref b] H R := ⟨a, b, xs, ys, rfl, h, h', q⟩
theorem w_sqL {a : Addr} {xs : List V} (h : SqL K H a xs) (q : R (Itl K a) H) : sqq K (.ref a) H R := ⟨a, rfl, .inl ⟨⟨xs, h⟩, q⟩⟩
theorem w_sqT {a : Addr} {xs : List V} (h : SqT K H a xs) (q : R (Itt K a) H) : sqq K (.ref a) H R := ⟨a, rfl, .inr ⟨⟨xs, h⟩, q⟩⟩
theorem w_forR {lo : Int} {n : Nat} (Pv : Nat → St → Hp → Prop) (h0 : Pv 0 σ H)
    (hs : ∀ i σ H, i < n → Pv i σ H → g (.int (lo + i)) σ H fun σ2 H2 => t { D with nx := Pv (i + 1), ct := Pv (i + 1), bk := D.nx } σ2 H2) (hd : ∀ σ H, Pv n σ H → D.nx σ H) : forJ (Itr lo n) g t D σ H := for_range Pv h0 hs hd
theorem w_forC {lo c : Int} {n : Nat} (Pv : Nat → St → Hp → Prop) (h0 : Pv 0 σ H)
    (hs : ∀ i σ H, i < n → Pv i σ H → g (.int (lo + (i : Nat) * c)) σ H fun σ2 H2 => t { D with nx := Pv (i + 1), ct := Pv (i + 1), bk := D.nx } σ2 H2) (hd : ∀ σ H, Pv n σ H → D.nx σ H) : forJ (Itc lo c n) g t D σ H := for_rangeC Pv h0 hs hd
theorem w_forL {a : Addr} {xs : List V} (Pv : Nat → St → Hp → Prop) (h0 : Pv 0 σ H) (hl : ∀ i σ H, i ≤ xs.length → Pv i σ H → SqL K H a xs)
    (hs : ∀ i x σ H, xs[i]? = some x → Pv i σ H → g x σ H fun σ2 H2 => t { D with nx := Pv (i + 1), ct := Pv (i + 1), bk := D.nx } σ2 H2) (hd : ∀ σ H, Pv xs.length σ H → D.nx σ H) : forJ (Itl K a) g t D σ H := for_list Pv h0 hl hs hd
theorem w_forT {a : Addr} {xs : List V} (Pv : Nat → St → Hp → Prop) (h0 : Pv 0 σ H) (hl : ∀ i σ H, i ≤ xs.length → Pv i σ H → SqT K H a xs)
    (hs : ∀ i x σ H, xs[i]? = some x → Pv i σ H → g x σ H fun σ2 H2 => t { D with nx := Pv (i + 1), ct := Pv (i + 1), bk := D.nx } σ2 H2) (hd : ∀ σ H, Pv xs.length σ H → D.nx σ H) : forJ (Itt K a) g t D σ H := for_tup Pv h0 hl hs hd
/-- for i, x in enumerate(xs): the pair is of no more use -/
theorem w_forE {a : Addr} {xs : List V} {p q : Nat} (Pv : Nat → St → Hp → Prop) (h0 : Pv 0 σ H) (hl : ∀ i σ H, i ≤ xs.length → Pv i σ H → SqL K H a xs)
    (hs : ∀ i x σ H H', xs[i]? = some x → Pv i σ H → Same H H' → t { D with nx := Pv (i + 1), ct := Pv (i + 1), bk := D.nx } ((σ.set p (some (.int (i : Nat)))).set q (some x)) H') (hd : ∀ σ H, Pv xs.length σ H → D.nx σ H) :
    forJ (Ite K a) (gTup K 2 (gCons (gName p) (gCons (gName q) gNil))) t D σ H := by
  refine ⟨fun i m σ H => m = xs.length - i ∧ i ≤ xs.length ∧ Pv i σ H, ⟨xs.length, by simp, Nat.zero_le _, h0⟩, ?_⟩
  rintro i m σ H ⟨rfl, hi, pp⟩
  have hS := hl i σ H hi pp
  by_cases hlt : i < xs.length
  · refine .inr ⟨⟨xs, xs[i], hS, by simp [hlt]⟩, Pv (i + 1), fun σ' H' p' => ⟨xs.length - (i + 1), by omega, rfl, hlt, p'⟩, fun x H' y => ?_⟩
    obtain ⟨T, z, rfl, hT, rfl, y⟩ := y
    have sm : Same H (upd H T (.tup [.int (i : Nat), z])) := fun b o e => by rw [upd_ne (ne_of_none e hT)]; exact e
    refine ⟨T, _, rfl, SqT.of upd_same, rfl, .int (i : Nat), [z], rfl, z, [], rfl, rfl, ?_⟩
    exact hs i z σ H _ (y xs hS) pp sm
  · have e : i = xs.length := by omega
    subst e
    exact .inl ⟨⟨xs, hS, Nat.le_refl _⟩, hd σ H pp⟩
/-- for x, y in zip(xs, ys) -/
theorem w_forZ {a b : Addr} {xs ys : List V} {p q : Nat} (hlen : xs.length = ys.length) (Pv : Nat → St → Hp → Prop) (h0 : Pv 0 σ H) (hl : ∀ i σ H, i ≤ xs.length → Pv i σ H → SqL K H a xs ∧ SqL K H b ys)
    (hs : ∀ i x y σ H H', xs[i]? = some x → ys[i]? = some y → Pv i σ H → Same H H' → t { D with nx := Pv (i + 1), ct := Pv (i + 1), bk := D.nx } ((σ.set p (some x)).set q (some y)) H') (hd : ∀ σ H, Pv xs.length σ H → D.nx σ H) :
    forJ (Itz K a b) (gTup K 2 (gCons (gName p) (gCons (gName q) gNil))) t D σ H := by
  refine ⟨fun i m σ H => m = xs.length - i ∧ i ≤ xs.length ∧ Pv i σ H, ⟨xs.length, by simp, Nat.zero_le _, h0⟩, ?_⟩
  rintro i m σ H ⟨rfl, hi, pp⟩
  obtain ⟨hS, hS'⟩ := hl i σ H hi pp
  by_cases hlt : i < xs.length
  · refine .inr ⟨⟨xs, ys, xs[i], ys[i]'(by omega), hS, hS', by simp [hlt], by simp [← hlen, hlt]⟩, Pv (i + 1), fun σ' H' p' => ⟨xs.length - (i + 1), by omega, rfl, hlt, p'⟩, fun x H' y => ?_⟩
    obtain ⟨T, z, z', rfl, hT, rfl, y, y'⟩ := y
    have sm : Same H (upd H T (.tup [z, z'])) := fun b o e => by rw [upd_ne (ne_of_none e hT)]; exact e
    refine ⟨T, _, rfl, SqT.of upd_same, rfl, z, [z'], rfl, z', [], rfl, rfl, ?_⟩
    exact hs i z z' σ H _ (y xs hS) (y' ys hS') pp sm
  · have e : i = xs.length := by omega
    subst e
    exact .inl ⟨⟨xs, ys, hS, hS', .inl (Nat.le_refl _)⟩, hd σ H pp⟩
/-- comprehensions: Pv says what the list at L holds behind i turns -/
theorem w_lcR {lo : Int} {n : Nat} {vs : List Nat} (Pv : Addr → Nat → Hp → Prop) (h0 : ∀ L, H L = none → Pv L 0 (upd H L (.lst [])))
    (hs : ∀ L i H, i < n → Pv L i H → g (.int (lo + i)) (wipe σ vs) H fun σ2 H2 => wipe σ2 vs = wipe σ vs ∧ tt σ2 H2 fun b H3 =>
      if b = true then te σ2 H3 fun y H4 => ∃ acc, H4 L = some (.lst acc) ∧ acc.length < sizeLine ∧ Pv L (i + 1) (upd H4 L (.lst (acc ++ [y]))) else Pv L (i + 1) H3) (hd : ∀ L H', H L = none → Pv L n H' → Q (.ref L) H') :
    lcJ (Itr lo n) g tt te vs σ Q H := fun L hL => lc_range (Pv L) (h0 L hL) (fun i H => hs L i H) (fun H' => hd L H' hL)
theorem w_lcL {a : Addr} {xs : List V} {vs : List Nat} (Pv : Addr → Nat → Hp → Prop) (h0 : ∀ L, H L = none → Pv L 0 (upd H L (.lst []))) (hl : ∀ L i H, i ≤ xs.length → Pv L i H → SqL K H a xs)
    (hs : ∀ L i x H, xs[i]? = some x → Pv L i H → g x (wipe σ vs) H fun σ2 H2 => wipe σ2 vs = wipe σ vs ∧ tt σ2 H2 fun b H3 =>
      if b = true then te σ2 H3 fun y H4 => ∃ acc, H4 L = some (.lst acc) ∧ acc.length < sizeLine ∧ Pv L (i + 1) (upd H4 L (.lst (acc ++ [y]))) else Pv L (i + 1) H3) (hd : ∀ L H', H L = none → Pv L xs.length H' → Q (.ref L) H') :
    lcJ (Itl K a) g tt te vs σ Q H := fun L hL => lc_list (Pv L) (h0 L hL) (hl L) (fun i x H => hs L i x H) (fun H' => hd L H' hL)
theorem w_lcT {a : Addr} {xs : List V} {vs : List Nat} (Pv : Addr → Nat → Hp → Prop) (h0 : ∀ L, H L = none → Pv L 0 (upd H L (.lst []))) (hl : ∀ L i H, i ≤ xs.length → Pv L i H → SqT K H a xs)
    (hs : ∀ L i x H, xs[i]? = some x → Pv L i H → g x (wipe σ vs) H fun σ2 H2 => wipe σ2 vs = wipe σ vs ∧ tt σ2 H2 fun b H3 =>
      if b = true then te σ2 H3 fun y H4 => ∃ acc, H4 L = some (.lst acc) ∧ acc.length < sizeLine ∧ Pv L (i + 1) (upd H4 L (.lst (acc ++ [y]))) else Pv L (i + 1) H3) (hd : ∀ L H', H L = none → Pv L xs.length H' → Q (.ref L) H') :
    lcJ (Itt K a) g tt te vs σ Q H := fun L hL => lc_tup (Pv L) (h0 L hL) (hl L) (fun i x H => hs L i x H) (fun H' => hd L H' hL)
/-- while, by a word and a measure -/
def whB (Pv : Nat → St → Hp → Prop) (m : Nat) (t : TS) (D : Ends) (σ : St) (b : Bool) (H : Hp) : Prop :=
  if b = true then ∃ N : St → Hp → Prop, (∀ σ' H', N σ' H' → ∃ m', m' < m ∧ Pv m' σ' H') ∧ t { D with nx := N, ct := N, bk := D.nx } σ H else D.nx σ H
theorem w_while (Pv : Nat → St → Hp → Prop) (m : Nat) (h0 : Pv m σ H) (hs : ∀ m σ H, Pv m σ H → c σ H fun b H1 => whB Pv m t D σ b H1) : tWhile c t D σ H := ⟨Pv, ⟨m, h0⟩, hs⟩
theorem w_wh {Pv : Nat → St → Hp → Prop} {m : Nat} {p : Prop} [Decidable p] (h1 : p → t { D with nx := fun σ' H' => ∃ m', m' < m ∧ Pv m' σ' H', ct := fun σ' H' => ∃ m', m' < m ∧ Pv m' σ' H', bk := D.nx } σ H) (h2 : ¬ p → D.nx σ H) : whB Pv m t D σ (decide p) H := by
  by_cases h : p
  · rw [decide_eq_true h]; exact ⟨_, fun _ _ h => h, h1 h⟩
  · rw [decide_eq_false h]; exact h2 h
theorem w_whN {Pv : Nat → St → Hp → Prop} {m : Nat} {p : Prop} [Decidable p] (h1 : ¬ p → t { D with nx := fun σ' H' => ∃ m', m' < m ∧ Pv m' σ' H', ct := fun σ' H' => ∃ m', m' < m ∧ Pv m' σ' H', bk := D.nx } σ H) (h2 : p → D.nx σ H) : whB Pv m t D σ (!decide p) H := by
  by_cases h : p
  · rw [decide_eq_true h]; exact h2 h
  · rw [decide_eq_false h]; exact ⟨_, fun _ _ h => h, h1 h⟩
theorem w_whB {Pv : Nat → St → Hp → Prop} {m : Nat} {b : Bool} (h1 : b = true → t { D with nx := fun σ' H' => ∃ m', m' < m ∧ Pv m' σ' H', ct := fun σ' H' => ∃ m', m' < m ∧ Pv m' σ' H', bk := D.nx } σ H) (h2 : b = false → D.nx σ H) : whB Pv m t D σ b H := by
  cases b with
  | true => exact ⟨_, fun _ _ h => h, h1 rfl⟩
  | false => exact h2 rfl
theorem cxK {CX : CXT} {P : Program} {w : World} {mg : Str → Option Value} {base : Heap} {N : List Str} {qual : Str} {scope : Scope} {f : Addr} {cd : Value} {A : Around} {outer : List Env} {s : Shared} {H : Hp} {E : XK} : (cxOf CX P w K mg base N qual scope f cd A outer s H E).K = K := rfl
theorem atI_int {ns : List Int} {i : Int} (h0 : 0 ≤ i) (h1 : i < ns.length) : atI (ns.map V.int) i = some (.int (ns.getD i.toNat 0)) := by
  obtain ⟨j, rfl⟩ := Int.eq_ofNat_of_zero_le h0
  refine atI_nat ?_
  have hj : j < ns.length := by omega
  rw [List.getElem?_map, List.getElem?_eq_getElem hj]
  simp [hj]
theorem small1000' {n : Nat} (h : n ≤ 100000) : n < sizeLine := Nat.lt_of_le_of_lt h (by decide)
theorem le_line {n : Nat} (h : n ≤ 1000) : (n ≤ sizeLine) = True := eq_true (Nat.le_of_lt (small1000 h))
theorem mulokL {i j : Int} (h : -18446744073709551616 < i ∧ i < 18446744073709551616) : IntMulOk i j := CMul.ok (.inl h)
theorem mulokR {i j : Int} (h : -18446744073709551616 < j ∧ j < 18446744073709551616) : IntMulOk i j := CMul.ok (.inr h)
theorem log2_lt {b : Int} {n : Nat} (h0 : 0 < b) (h : b.toNat < 2 ^ n) (hn : n ≤ 9000) (h1 : 0 < n) : b.natAbs.log2 < 9000 := by
  have e : b.natAbs = b.toNat := by omega
  rw [e]
  have := (Nat.log2_lt (by omega : b.toNat ≠ 0)).mpr h
  omega
end
/-! ### the ledger: F stands, L may change -/
def But (p : Addr) (H H' : Hp) : Prop := ∀ b o, b ≠ p → H b = some o → H' b = some o
structure W (F : Hp) (L : List (Addr × HO)) (H : Hp) : Prop where
  fr : Same F H
  nd : (L.map (·.1)).Nodup
  at_ : ∀ p ∈ L, H p.1 = some p.2
  off : ∀ p ∈ L, F p.1 = none
def rem (H : Hp) (a : Addr) : Hp := fun b => if b = a then none else H b
theorem rem_same {H : Hp} {a : Addr} : rem H a a = none := if_pos rfl
theorem rem_ne {H : Hp} {a b : Addr} (h : b ≠ a) : rem H a b = H b := if_neg h
theorem Same.rem {H : Hp} {a : Addr} : Same (rem H a) H := fun b o e => by
  by_cases h : b = a
  · subst h; rw [rem_same] at e; cases e
  · rw [rem_ne h] at e; exact e
section
variable {F F' H H' : Hp} {L L' : List (Addr × HO)} {p r : Addr} {o o' o2 : HO}
theorem W.start : W H [] H := ⟨Same.refl H, List.nodup_nil, (fun _ h => nomatch h), (fun _ h => nomatch h)⟩
theorem W.own (h : H p = some o) : W (rem H p) [(p, o)] H :=
  ⟨Same.rem, by simp, fun q hq => by simp at hq; subst hq; exact h, fun q hq => by simp at hq; subst hq; exact rem_same⟩
theorem W.get (w : W F L H) (i : Nat) (h : L[i]? = some (p, o)) : H p = some o := w.at_ _ (List.mem_of_getElem? h)
theorem W.offI (w : W F L H) (i : Nat) (h : L[i]? = some (p, o)) : F p = none := w.off _ (List.mem_of_getElem? h)
theorem W.new (w : W F L H) (h : H p = none) : W F ((p, o) :: L) (upd H p o) := by
  refine ⟨fun b u e => ?_, ?_, fun q hq => ?_, fun q hq => ?_⟩
  · rw [upd_ne (ne_of_none (w.fr b u e) h)]; exact w.fr b u e
  · rw [List.map_cons, List.nodup_cons]
    refine ⟨fun hm => ?_, w.nd⟩
    obtain ⟨q, hq, e⟩ := List.mem_map.mp hm
    have z := w.at_ q hq
    rw [e, h] at z
    cases z
  · rcases List.mem_cons.mp hq with rfl | hq
    · exact upd_same
    · rw [upd_ne (ne_of_none (w.at_ q hq) h)]; exact w.at_ q hq
  · rcases List.mem_cons.mp hq with rfl | hq
    · cases e : F p with
      | none => rfl
      | some u =>
        have z := w.fr p u e
        rw [h] at z; cases z
    · exact w.off q hq
/-- what stood at p in the ledger is another thing now -/
theorem W.mut (w : W F L H) (i : Nat) (h : L[i]? = some (p, o)) (hb : But p H H') (hp : H' p = some o') : W F (L.set i (p, o')) H' := by
  have hm : (L.set i (p, o')).map (·.1) = L.map (·.1) := by
    obtain ⟨hi, e⟩ := List.getElem?_eq_some_iff.mp h
    rw [List.map_set]
    apply List.ext_getElem?
    intro n
    by_cases hn : i = n
    · subst hn
      rw [List.getElem?_set_self (by simpa using hi), List.getElem?_map, h]
      rfl
    · rw [List.getElem?_set_ne hn]
  have hF : F p = none := w.offI i h
  have key : ∀ q ∈ L.set i (p, o'), q = (p, o') ∨ (q ∈ L ∧ q.1 ≠ p) := fun q hq => by
    obtain ⟨n, hn, e⟩ := List.mem_iff_getElem.mp hq
    by_cases hi : i = n
    · subst hi
      rw [List.getElem_set_self] at e
      exact .inl e.symm
    · rw [List.getElem_set_ne hi] at e
      refine .inr ⟨e ▸ List.getElem_mem _, fun z => hi ?_⟩
      obtain ⟨hi', e'⟩ := List.getElem?_eq_some_iff.mp h
      have hn' : n < L.length := by simpa using hn
      have nd := w.nd
      have := (List.getElem_inj (i := i) (j := n) (h₀ := by simpa using hi') (h₁ := by simpa using hn') nd).mp (by rw [List.getElem_map, List.getElem_map, e', e]; exact z.symm)
      exact this
  refine ⟨fun b u e => hb b u (fun z => by rw [z, hF] at e; cases e) (w.fr b u e), by rw [hm]; exact w.nd, fun q hq => ?_, fun q hq => ?_⟩
  · rcases key q hq with rfl | ⟨h1, h2⟩
    · exact hp
    · exact hb _ _ h2 (w.at_ q h1)
  · rcases key q hq with rfl | ⟨h1, h2⟩
    · exact hF
    · exact w.off q h1
theorem But.upd : But p H (upd H p o) := fun b u hb e => by rw [upd_ne hb]; exact e
theorem W.upd (w : W F L H) (i : Nat) (h : L[i]? = some (p, o)) : W F (L.set i (p, o')) (upd H p o') := w.mut i h But.upd upd_same
/-- a call that changed nothing that stood -/
theorem W.grow (w : W F L H) (s : Same H H') : W F L H' := ⟨w.fr.trans s, w.nd, fun q hq => s _ _ (w.at_ q hq), w.off⟩
/-- a new thing of a call's -/
theorem W.add (w' : W F L' H') (w : W F L H) (hr : H r = none) (hr' : H' r = some o) (hm : L'.map (·.1) = L.map (·.1) := by rfl) : W F ((r, o) :: L') H' := by
  refine ⟨w'.fr, ?_, fun q hq => ?_, fun q hq => ?_⟩
  · rw [List.map_cons, List.nodup_cons]
    refine ⟨fun hx => ?_, w'.nd⟩
    rw [hm] at hx
    obtain ⟨q, hq, e⟩ := List.mem_map.mp hx
    have z := w.at_ q hq
    rw [e, hr] at z
    cases z
  · rcases List.mem_cons.mp hq with rfl | hq
    · exact hr'
    · exact w'.at_ q hq
  · rcases List.mem_cons.mp hq with rfl | hq
    · cases e : F r with
      | none => rfl
      | some u =>
        have z := w.fr r u e
        rw [hr] at z; cases z
    · exact w'.off q hq
/-- it will not change any more -/
theorem W.frz (w : W F ((p, o) :: L) H) : Same F (L2.upd F p o) ∧ W (L2.upd F p o) L H := by
  have hF := w.off _ List.mem_cons_self
  have nd := List.nodup_cons.mp w.nd
  refine ⟨fun b u e => by rw [upd_ne (ne_of_none e hF)]; exact e, fun b u e => ?_, nd.2, fun q hq => w.at_ q (List.mem_cons_of_mem _ hq), fun q hq => ?_⟩
  · by_cases hb : b = p
    · subst hb; rw [upd_same] at e; cases e
      exact w.at_ _ List.mem_cons_self
    · rw [upd_ne hb] at e; exact w.fr b u e
  · have hb : q.1 ≠ p := fun z => nd.1 (List.mem_map.mpr ⟨q, hq, z⟩)
    rw [upd_ne hb]; exact w.off q (List.mem_cons_of_mem _ hq)
/-- it is of no more use -/
theorem W.drop (w : W F ((p, o) :: L) H) : W F L H := ⟨w.fr, (List.nodup_cons.mp w.nd).2, fun q hq => w.at_ q (List.mem_cons_of_mem _ hq), fun q hq => w.off q (List.mem_cons_of_mem _ hq)⟩
theorem W.perm (w : W F L H) (h : L.Perm L') : W F L' H := ⟨w.fr, (h.map _).nodup w.nd, fun q hq => w.at_ q (h.mem_iff.mpr hq), fun q hq => w.off q (h.mem_iff.mpr hq)⟩
theorem Same.but (s : Same H H') : But p H H' := fun b o _ e => s b o e
theorem But.trans {H1 : Hp} (a : But p H H1) (b : But p H1 H') : But p H H' := fun c o hc e => b c o hc (a c o hc e)
/-- what a caller keeps: all that stood but p -/
theorem W.but (w : W (L2.rem H r) ((r, o) :: L) H') : But r H H' := fun b u hb e => w.fr b u (by rw [rem_ne hb]; exact e)
end
end L2
/-! The built-in names: none of them is bound by the module. -/
namespace L2
open PySem PySem.Spec PyProof.Rows
structure Blt (mg : Str → Option Value) : Prop where
  len : mg "len" = none
  abs : mg "abs" = none
  max : mg "max" = none
  min : mg "min" = none
  sum : mg "sum" = none
  sorted : mg "sorted" = none
  isinstance : mg "isinstance" = none
  iter : mg "iter" = none
  ord : mg "ord" = none
  any : mg "any" = none
  all : mg "all" = none
  int : mg "int" = none
  bool : mg "bool" = none
  str : mg "str" = none
  list : mg "list" = none
  tuple : mg "tuple" = none
  dict : mg "dict" = none
  set : mg "set" = none
  range : mg "range" = none
  enumerate : mg "enumerate" = none
  zip : mg "zip" = none
  reversed : mg "reversed" = none
  super : mg "super" = none
  ValueError : mg "ValueError" = none
theorem bt_len : bootBuiltins "len" = some (.builtin "len") := by first | boot_by_name | decide +kernel
theorem bt_abs : bootBuiltins "abs" = some (.builtin "abs") := by first | boot_by_name | decide +kernel
theorem bt_max : bootBuiltins "max" = some (.builtin "max") := by first | boot_by_name | decide +kernel
theorem bt_min : bootBuiltins "min" = some (.builtin "min") := by first | boot_by_name | decide +kernel
theorem bt_sum : bootBuiltins "sum" = some (.builtin "sum") := by first | boot_by_name | decide +kernel
theorem bt_sorted : bootBuiltins "sorted" = some (.builtin "sorted") := by first | boot_by_name | decide +kernel
theorem bt_isinstance : bootBuiltins "isinstance" = some (.builtin "isinstance") := by first | boot_by_name | decide +kernel
theorem bt_iter : bootBuiltins "iter" = some (.builtin "iter") := by first | boot_by_name | decide +kernel
theorem bt_ord : bootBuiltins "ord" = some (.builtin "ord") := by first | boot_by_name | decide +kernel
theorem bt_any : bootBuiltins "any" = some (.builtin "any") := by first | boot_by_name | decide +kernel
theorem bt_all : bootBuiltins "all" = some (.builtin "all") := by first | boot_by_name | decide +kernel
theorem bt_int : bootBuiltins "int" = some (.type "int") := by first | boot_by_name | decide +kernel
theorem bt_bool : bootBuiltins "bool" = some (.type "bool") := by first | boot_by_name | decide +kernel
theorem bt_str : bootBuiltins "str" = some (.type "str") := by first | boot_by_name | decide +kernel
theorem bt_list : bootBuiltins "list" = some (.type "list") := by first | boot_by_name | decide +kernel
theorem bt_tuple : bootBuiltins "tuple" = some (.type "tuple") := by first | boot_by_name | decide +kernel
theorem bt_dict : bootBuiltins "dict" = some (.type "dict") := by first | boot_by_name | decide +kernel
theorem bt_set : bootBuiltins "set" = some (.type "set") := by first | boot_by_name | decide +kernel
theorem bt_range : bootBuiltins "range" = some (.type "range") := by first | boot_by_name | decide +kernel
theorem bt_enumerate : bootBuiltins "enumerate" = some (.type "enumerate") := by first | boot_by_name | decide +kernel
theorem bt_zip : bootBuiltins "zip" = some (.type "zip") := by first | boot_by_name | decide +kernel
theorem bt_reversed : bootBuiltins "reversed" = some (.type "reversed") := by first | boot_by_name | decide +kernel
theorem bt_super : bootBuiltins "super" = some (.type "super") := by first | boot_by_name | decide +kernel
theorem bt_ValueError : bootBuiltins "ValueError" = some (.type "ValueError") := by first | boot_by_name | decide +kernel
theorem Blt.of {K : PySem.W.Frag} {h : Heap} {mg : Str → Option Value} (X : K.In h) (G : h.Ns mainGlobals mg)
    (z_len : PySem.W.nsIn K mainGlobals "len" = some none)    (z_abs : PySem.W.nsIn K mainGlobals "abs" = some none)    (z_max : PySem.W.nsIn K mainGlobals "max" = some none)    (z_min : PySem.W.nsIn K mainGlobals "min" = some none)    (z_sum : PySem.W.nsIn K mainGlobals "sum" = some none)    (z_sorted : PySem.W.nsIn K mainGlobals "sorted" = some none)    (z_isinstance : PySem.W.nsIn K mainGlobals "isinstance" = some none)    (z_iter : PySem.W.nsIn K mainGlobals "iter" = some none)    (z_ord : PySem.W.nsIn K mainGlobals "ord" = some none)    (z_any : PySem.W.nsIn K mainGlobals "any" = some none)    (z_all : PySem.W.nsIn K mainGlobals "all" = some none)    (z_int : PySem.W.nsIn K mainGlobals "int" = some none)    (z_bool : PySem.W.nsIn K mainGlobals "bool" = some none)    (z_str : PySem.W.nsIn K mainGlobals "str" = some none)    (z_list : PySem.W.nsIn K mainGlobals "list" = some none)    (z_tuple : PySem.W.nsIn K mainGlobals "tuple" = some none)    (z_dict : PySem.W.nsIn K mainGlobals "dict" = some none)    (z_set : PySem.W.nsIn K mainGlobals "set" = some none)    (z_range : PySem.W.nsIn K mainGlobals "range" = some none)    (z_enumerate : PySem.W.nsIn K mainGlobals "enumerate" = some none)    (z_zip : PySem.W.nsIn K mainGlobals "zip" = some none)    (z_reversed : PySem.W.nsIn K mainGlobals "reversed" = some none)    (z_super : PySem.W.nsIn K mainGlobals "super" = some none)    (z_ValueError : PySem.W.nsIn K mainGlobals "ValueError" = some none) : Blt mg := ⟨PySem.W.mg_none_of X G z_len, PySem.W.mg_none_of X G z_abs, PySem.W.mg_none_of X G z_max, PySem.W.mg_none_of X G z_min, PySem.W.mg_none_of X G z_sum, PySem.W.mg_none_of X G z_sorted, PySem.W.mg_none_of X G z_isinstance, PySem.W.mg_none_of X G z_iter, PySem.W.mg_none_of X G z_ord, PySem.W.mg_none_of X G z_any, PySem.W.mg_none_of X G z_all, PySem.W.mg_none_of X G z_int, PySem.W.mg_none_of X G z_bool, PySem.W.mg_none_of X G z_str, PySem.W.mg_none_of X G z_list, PySem.W.mg_none_of X G z_tuple, PySem.W.mg_none_of X G z_dict, PySem.W.mg_none_of X G z_set, PySem.W.mg_none_of X G z_range, PySem.W.mg_none_of X G z_enumerate, PySem.W.mg_none_of X G z_zip, PySem.W.mg_none_of X G z_reversed, PySem.W.mg_none_of X G z_super, PySem.W.mg_none_of X G z_ValueError⟩
end L2
/-! Nested data: what isinstance says of it; the same data. -/
namespace L2
open PySem PySem.Spec PyProof.Rows
def tyN : PyData → String
  | .none => "NoneType"
  | .bool _ => "bool"
  | .int _ => "int"
  | .str _ => "str"
  | .list _ => "list"
  | .tuple _ => "tuple"
  | .dict _ => "dict"
section
variable {K : PySem.W.Frag} {H H' : Hp} {v : V} {d : PyData} {Q : VK}
theorem Same.seqT {a : Addr} {xs : List V} (e : Same H H') (h : SqT K H a xs) : SqT K H' a xs := by
  rcases h with (h | ⟨o, h⟩) | h
  · exact .inl (.inl (e _ _ h))
  · exact .inl (.inr ⟨o, e _ _ h⟩)
  · exact .inr h
mutual
theorem Dp.mono (e : Same H H') : ∀ {v : V} {d : PyData}, Dp K H v d → Dp K H' v d
  | _, _, .non => .non
  | _, _, .bl b => .bl b
  | _, _, .int i => .int i
  | _, _, .str x => .str x
  | _, _, .lst h r => .lst (e.seq h) (DpAll.mono e r)
  | _, _, .tup h r => .tup (e.seqT h) (DpAll.mono e r)
theorem DpAll.mono (e : Same H H') : ∀ {vs : List V} {ds : List PyData}, DpAll K H vs ds → DpAll K H' vs ds
  | _, _, .nil => .nil
  | _, _, .cons h r => .cons (Dp.mono e h) (DpAll.mono e r)
end
theorem Dp.ty (h : Dp K H v d) : TyX K H v (.type (tyN d)) := by
  cases h with
  | non => exact .base .non
  | bl b => exact .base (.bl b)
  | int i => exact .base (.int i)
  | str x => exact .base (.str x)
  | lst h r =>
    rcases h with (h | ⟨o, h⟩) | ⟨o, its, n, h1, h2, _⟩
    · exact .base (.lst h)
    · exact .base (.frz h)
    · exact .kList h1 h2
  | tup h r =>
    rcases h with (h | ⟨o, h⟩) | ⟨o, its, n, h1, h2, _⟩
    · exact .base (.tup h)
    · exact .fTuple h
    · exact .kTuple h1 h2
theorem DpAll.length : ∀ {vs : List V} {ds : List PyData}, DpAll K H vs ds → vs.length = ds.length
  | _, _, .nil => rfl
  | _, _, .cons _ r => by simp [DpAll.length r]
theorem DpAll.get : ∀ {vs : List V} {ds : List PyData} {i : Nat} {d : PyData}, DpAll K H vs ds → ds[i]? = some d → ∃ v, vs[i]? = some v ∧ Dp K H v d
  | _, _, _, _, .nil, h => by simp at h
  | _, _, 0, _, .cons h r, e => by simp at e; subst e; exact ⟨_, rfl, h⟩
  | _, _, i + 1, d, .cons h r, e => by
    obtain ⟨v, h1, h2⟩ := DpAll.get (i := i) r (by simpa using e)
    exact ⟨v, by simpa using h1, h2⟩
theorem DpAll.ints : ∀ ns : List Int, DpAll K H (ns.map V.int) (ns.map PyData.int)
  | [] => .nil
  | n :: ns => .cons (.int n) (DpAll.ints ns)
theorem DpAll.strs : ∀ ns : List Str, DpAll K H (ns.map V.str) (ns.map PyData.str)
  | [] => .nil
  | n :: ns => .cons (.str n) (DpAll.strs ns)
theorem Dp.intL {a : Addr} {ns : List Int} (h : SqL K H a (ns.map V.int)) : Dp K H (.ref a) (.list (ns.map PyData.int)) := .lst h (DpAll.ints ns)
theorem Dp.intT {a : Addr} {ns : List Int} (h : SqT K H a (ns.map V.int)) : Dp K H (.ref a) (.tuple (ns.map PyData.int)) := .tup h (DpAll.ints ns)
/-- isinstance(v, T), T a built-in type -/
def isInt : PyData → Bool | .int _ => true | .bool _ => true | _ => false
def isBool : PyData → Bool | .bool _ => true | _ => false
def isStr : PyData → Bool | .str _ => true | _ => false
def isList : PyData → Bool | .list _ => true | _ => false
def isTuple : PyData → Bool | .tuple _ => true | _ => false
theorem isi_ty {T : String} {b : Bool} (h : Dp K H v d) (hb : kitB (tyN d) T = some b) (q : Q (.bl b) H) : rIsi K [v, .ty T] H Q :=
  ⟨v, .ty T, .type (tyN d), .type T, b, rfl, .ty T, h.ty, kit_ty hb, q⟩
theorem isi_int (h : Dp K H v d) (q : Q (.bl (isInt d)) H) : rIsi K [v, .ty "int"] H Q := isi_ty h (by
  cases d <;> first
    | (show kitB "NoneType" "int" = some false; decide +kernel)
    | (show kitB "bool" "int" = some true; decide +kernel)
    | (show kitB "int" "int" = some true; decide +kernel)
    | (show kitB "str" "int" = some false; decide +kernel)
    | (show kitB "list" "int" = some false; decide +kernel)
    | (show kitB "tuple" "int" = some false; decide +kernel)
    | (show kitB "dict" "int" = some false; decide +kernel)) q
theorem isi_bool (h : Dp K H v d) (q : Q (.bl (isBool d)) H) : rIsi K [v, .ty "bool"] H Q := isi_ty h (by
  cases d <;> first
    | (show kitB "NoneType" "bool" = some false; decide +kernel)
    | (show kitB "bool" "bool" = some true; decide +kernel)
    | (show kitB "int" "bool" = some false; decide +kernel)
    | (show kitB "str" "bool" = some false; decide +kernel)
    | (show kitB "list" "bool" = some false; decide +kernel)
    | (show kitB "tuple" "bool" = some false; decide +kernel)
    | (show kitB "dict" "bool" = some false; decide +kernel)) q
theorem isi_str (h : Dp K H v d) (q : Q (.bl (isStr d)) H) : rIsi K [v, .ty "str"] H Q := isi_ty h (by
  cases d <;> first
    | (show kitB "NoneType" "str" = some false; decide +kernel)
    | (show kitB "bool" "str" = some false; decide +kernel)
    | (show kitB "int" "str" = some false; decide +kernel)
    | (show kitB "str" "str" = some true; decide +kernel)
    | (show kitB "list" "str" = some false; decide +kernel)
    | (show kitB "tuple" "str" = some false; decide +kernel)
    | (show kitB "dict" "str" = some false; decide +kernel)) q
theorem isi_list (h : Dp K H v d) (q : Q (.bl (isList d)) H) : rIsi K [v, .ty "list"] H Q := isi_ty h (by
  cases d <;> first
    | (show kitB "NoneType" "list" = some false; decide +kernel)
    | (show kitB "bool" "list" = some false; decide +kernel)
    | (show kitB "int" "list" = some false; decide +kernel)
    | (show kitB "str" "list" = some false; decide +kernel)
    | (show kitB "list" "list" = some true; decide +kernel)
    | (show kitB "tuple" "list" = some false; decide +kernel)
    | (show kitB "dict" "list" = some false; decide +kernel)) q
theorem isi_tuple (h : Dp K H v d) (q : Q (.bl (isTuple d)) H) : rIsi K [v, .ty "tuple"] H Q := isi_ty h (by
  cases d <;> first
    | (show kitB "NoneType" "tuple" = some false; decide +kernel)
    | (show kitB "bool" "tuple" = some false; decide +kernel)
    | (show kitB "int" "tuple" = some false; decide +kernel)
    | (show kitB "str" "tuple" = some false; decide +kernel)
    | (show kitB "list" "tuple" = some false; decide +kernel)
    | (show kitB "tuple" "tuple" = some true; decide +kernel)
    | (show kitB "dict" "tuple" = some false; decide +kernel)) q
end
/-! ### the same data -/
mutual
def sm : PyData → PyData → Bool
  | .none, .none => true
  | .bool c, .bool b => c == b
  | .int j, .int i => j == i
  | .str t, .str s => t == s
  | .tuple gs, .tuple ds => smL gs ds
  | .list gs, .list ds => smL gs ds
  | _, _ => false
def smL : List PyData → List PyData → Bool
  | [], [] => true
  | g :: gs, d :: ds => sm g d && smL gs ds
  | _, _ => false
end
def fits : Nat → PyData → Prop
  | _, .none => True
  | _, .bool _ => True
  | _, .int _ => True
  | _, .str _ => True
  | n + 1, .tuple ds => ds.length ≤ 100000 ∧ ∀ d ∈ ds, fits n d
  | n + 1, .list ds => ds.length ≤ 100000 ∧ ∀ d ∈ ds, fits n d
  | _, _ => False
theorem smL_len : ∀ {gs ds : List PyData}, smL gs ds = true → gs.length = ds.length
  | [], [], _ => rfl
  | g :: gs, d :: ds, h => by
    simp only [smL, Bool.and_eq_true] at h
    simp [smL_len h.2]
theorem smL_all : ∀ {gs ds : List PyData}, gs.length = ds.length → smL gs ds = (List.range ds.length).all fun i => sm (gs.getD i .none) (ds.getD i .none)
  | [], [], _ => by simp [smL]
  | g :: gs, d :: ds, h => by
    have ih := smL_all (gs := gs) (ds := ds) (by simpa using h)
    rw [smL, ih, List.length_cons, List.range_succ_eq_map, List.all_cons, List.all_map]
    rfl
  | [], _ :: _, h => by simp at h
  | _ :: _, [], h => by simp at h
theorem sm_refl : ∀ (n : Nat) (d : PyData), fits n d → sm d d = true
  | _, .none, _ => by simp [sm]
  | _, .bool _, _ => by simp [sm]
  | _, .int _, _ => by simp [sm]
  | _, .str _, _ => by simp [sm]
  | n + 1, .tuple ds, h => by
    rw [sm, smL_all rfl, List.all_eq_true]
    intro i hi
    have hi' : i < ds.length := List.mem_range.mp hi
    have : ds.getD i .none = ds[i] := by simp [hi']
    rw [this]
    exact sm_refl n _ (h.2 _ (List.getElem_mem hi'))
  | n + 1, .list ds, h => by
    rw [sm, smL_all rfl, List.all_eq_true]
    intro i hi
    have hi' : i < ds.length := List.mem_range.mp hi
    have : ds.getD i .none = ds[i] := by simp [hi']
    rw [this]
    exact sm_refl n _ (h.2 _ (List.getElem_mem hi'))
  | _, .dict _, h => by cases ‹Nat› <;> exact h.elim
  | 0, .tuple _, h => h.elim
  | 0, .list _, h => h.elim
theorem sm_eq {n : Nat} {g d : PyData} (e : g = d) (h : fits n d) : sm g d = true := by rw [e]; exact sm_refl n d h
end L2
/-! The error classes of the text. -/
namespace L2
open PySem PySem.Spec PyProof.Rows
/-- an exception class of the text that stands at C -/
structure ExcB (K : PySem.W.Frag) (mg : Str → Option Value) (x : Str) (C : Addr) : Prop where
  g : mg x = some (.ref C)
  exC : PySem.W.subIn K (.ref C) (.type "BaseException") = some true
  veC : PySem.W.subIn K (.ref C) (.type "ValueError") = some true
  tyC : PySem.W.typeIn K (.ref C) = some (.type "type")
  hdC : PySem.W.hasDictIn K C = true
  seC : PySem.W.subIn K (.ref C) (.ref C) = some true
  ex : ExcC K C
  xf : XfC K C
/-- .. with fields -/
structure ErrC (K : PySem.W.Frag) (mg : Str → Option Value) (x : Str) (C fI : Addr) (fs : List Str) : Prop extends ExcB K mg x C where
  txt : PySem.NKE.ErrTxt K C fI fs
section
variable {K : PySem.W.Frag} {mg : Str → Option Value} {x : Str} {C D : Addr} {b : Bool}
theorem ExcB.cls (h : ExcB K mg x C) : (PySem.W.clsIn K C).isSome = true := by
  obtain ⟨cd, hc, _⟩ := PySem.W.any_some h.hdC
  rw [hc]; rfl
theorem ExcB.kit (h : ExcB K mg x C) {t : Value} (s : PySem.W.subIn K t (.ref C) = some b) : PySem.W.kitCls K t (.ref C) = some b := by
  have e2 : ((PySem.W.clsIn K C).isSome && PySem.W.typeIn K (.ref C) == some (.type "type")) = true := by rw [h.cls, h.tyC] <;> rfl
  show (if ((PySem.W.clsIn K C).isSome && PySem.W.typeIn K (.ref C) == some (.type "type")) = true then PySem.W.subIn K t (.ref C) else none) = some b
  rw [if_pos e2]; exact s
theorem ExcB.kit1 (h : ExcB K mg x C) {D : Addr} (s : PySem.W.subIn K (.ref D) (.ref C) = some b) : PySem.W.kitOne K (.ref D) (.ref C) = some b := by
  unfold PySem.W.kitOne
  by_cases e : D = C
  · subst e
    rw [h.seC] at s
    cases s
    rw [if_pos (by simp)]
  · rw [if_neg (by simp [e])]
    exact h.kit s
theorem ExcB.exm (h : ExcB K mg x C) {t : Value} (s : PySem.W.subIn K t (.ref C) = some b) : PySem.W.exmOne K t (.ref C) = some b := by
  have e1 : (PySem.W.subIn K (.ref C) (.type "BaseException") == some true) = true := by rw [h.exC] <;> rfl
  show (if (PySem.W.subIn K (.ref C) (.type "BaseException") == some true) = true then PySem.W.kitCls K t (.ref C) else none) = some b
  rw [if_pos e1]; exact h.kit s
theorem kit_VE {t : Addr} (s : PySem.W.subIn K (.ref t) (.type "ValueError") = some b) : PySem.W.kitOne K (.ref t) (.type "ValueError") = some b := by
  unfold PySem.W.kitOne
  rw [if_neg (by simp)]
  show (if PySem.W.kitMeta "ValueError" = true then PySem.W.subIn K (.ref t) (.type "ValueError") else none) = some b
  rw [if_pos (by decide +kernel)]; exact s
/-- isinstance of the error at hand -/
theorem w_isX {a : Addr} {d : Addr} {H : Hp} {Q : VK} {fs : List (Str × V)} (h : ExcB K mg x C) (hd : H d = some (.xd fs)) (s : PySem.W.subIn K (.ref D) (.ref C) = some b) (q : Q (.bl b) H) : rIsX K D a (.ref D) (some d) [.ref a, .ref C] H Q :=
  ⟨.ref C, .ref C, b, rfl, rfl, fun u r => r, fun dd e => by cases e; exact ⟨fs, hd⟩, h.kit1 s, q⟩
theorem w_isX0 {a : Addr} {H : Hp} {Q : VK} (h : ExcB K mg x C) (s : PySem.W.subIn K (.ref D) (.ref C) = some b) (q : Q (.bl b) H) : rIsX K D a (.ref D) none [.ref a, .ref C] H Q :=
  ⟨.ref C, .ref C, b, rfl, rfl, fun u r => r, fun dd e => (by cases e), h.kit1 s, q⟩
theorem w_isXV {a : Addr} {d : Addr} {H : Hp} {Q : VK} {fs : List (Str × V)} (hd : H d = some (.xd fs)) (s : PySem.W.subIn K (.ref D) (.type "ValueError") = some b) (q : Q (.bl b) H) : rIsX K D a (.ref D) (some d) [.ref a, .ty "ValueError"] H Q :=
  ⟨.ty "ValueError", .type "ValueError", b, rfl, rfl, fun u r => r, fun dd e => by cases e; exact ⟨fs, hd⟩, kit_VE s, q⟩
theorem w_isXV0 {a : Addr} {H : Hp} {Q : VK} (s : PySem.W.subIn K (.ref D) (.type "ValueError") = some b) (q : Q (.bl b) H) : rIsX K D a (.ref D) none [.ref a, .ty "ValueError"] H Q :=
  ⟨.ty "ValueError", .type "ValueError", b, rfl, rfl, fun u r => r, fun dd e => (by cases e), kit_VE s, q⟩
/-- a new error -/
def mkE (C : Addr) (fs : List Str) (vs : List V) (H1 : Hp) (Q : XK) : Prop := vs.length = fs.length ∧ ∀ d, H1 d = none → Q (.ref C) (some d) (upd H1 d (.xd (fs.zip vs)))
theorem s_mk {fs : List Str} {ta : TA} {σ : St} {H : Hp} {Q : XK} : tMkErr C fs ta σ H Q = ta σ H (fun vs H1 => mkE C fs vs H1 Q) := rfl
/-- a field of the error at hand -/
def xfV (a : Addr) (cls : Value) (d : Option Addr) (C : Addr) (f : Str) (x : V) (H : Hp) (Q : VK) : Prop := x = .ref a ∧ cls = .ref C ∧ ∃ (dd : Addr) (fs : List (Str × V)) (v : V), d = some dd ∧ H dd = some (.xd fs) ∧ fs.lookup f = some v ∧ Q v H
theorem s_xf {a : Addr} {cls : Value} {d : Option Addr} {f : Str} {te : TE} {σ : St} {H : Hp} {Q : VK} : tXf a cls d C f te σ H Q = te σ H (fun x H1 => xfV a cls d C f x H1 Q) := rfl
theorem w_xf {a d : Addr} {f : Str} {H : Hp} {Q : VK} {fs : List (Str × V)} {v : V} (hd : H d = some (.xd fs)) (l : fs.lookup f = some v) (q : Q v H) : xfV a (.ref C) (some d) C f (.ref a) H Q := ⟨rfl, rfl, d, fs, v, rfl, hd, l, q⟩
end
end L2
/-! More readings. -/
namespace L2
open PySem PySem.Spec PyProof.Rows
section
variable {K : PySem.W.Frag} {F H H' : Hp} {L : List (Addr × HO)} {a b p r : Addr} {o o' : HO} {Q : VK} {ns ms : List Int} {xs : List V}
theorem eqv_ints : PyData.eqv (.list (ns.map PyData.int)) (.list (ms.map PyData.int)) = decide (ns = ms) := by
  rw [PyData.eqv]; exact PySem.W.ked_eqvAll ns ms
theorem w_neIL (h : SqL K H a (ns.map V.int)) (h' : SqL K H b (ms.map V.int)) (q : Q (.bl (!decide (ns = ms))) H) : aNe K (.ref a) (.ref b) H Q :=
  ⟨_, _, Dp.intL h, Dp.intL h', PySem.W.ke_shaped_ints ns, PySem.W.ke_shaped_ints ms, by rw [eqv_ints]; exact q⟩
theorem w_eqIL (h : SqL K H a (ns.map V.int)) (h' : SqL K H b (ms.map V.int)) (q : Q (.bl (decide (ns = ms))) H) : aEq K (.ref a) (.ref b) H Q :=
  ⟨_, _, Dp.intL h, Dp.intL h', PySem.W.ke_shaped_ints ns, PySem.W.ke_shaped_ints ms, by rw [eqv_ints]; exact q⟩
theorem w_sum (h : SqL K H a (ns.map V.int)) (q : Q (.int ns.sum) H) : rSum K [.ref a] H Q := ⟨a, ns, rfl, h, q⟩
/-- [x] * k -/
theorem w_rep1 {x : V} {k : Int} (h : H p = some (.lst [x])) (h1 : -9223372036854775808 ≤ k) (h2 : k ≤ 100000) (q : ∀ r, H r = none → Q (.ref r) (upd H r (.lst (List.replicate k.toNat x)))) : aMul K (.ref p) (.int k) H Q := by
  refine ⟨p, k, [x], rfl, rfl, h, by omega, by omega, ?_, fun r hr => ?_⟩
  · have : k.toNat ≤ 100000 := by omega
    simp only [List.length_singleton, Nat.one_mul]
    exact Nat.le_of_lt (small1000' this)
  · have := q r hr
    rwa [List.flatten_replicate_singleton]
theorem at_last (h : 0 < ns.length) : atI (ns.map V.int) (-1) = some (.int (ns.getD (ns.length - 1) 0)) := by
  have hj : ns.length - 1 < ns.length := by omega
  have e : ixN (ns.map V.int).length (-1) = some (ns.length - 1) := by
    unfold ixN
    rw [List.length_map, if_neg (by decide), if_pos (by omega)]
    congr 1; omega
  unfold atI
  rw [e]
  simp [hj]
theorem FnAt.no {P : Program} {w : World} {mg : Str → Option Value} {base : Heap} {f : Addr} {fd : FuncData} {x : Str} {st : Stmt} {ps : List Str} {k : Nat} (F : Fun K x x st f fd) (hm : mg x = some (.ref f)) (hb : Binds K fd ps []) : FnAt P w K mg base k x ps (fun _ _ _ _ => False) :=
  ⟨f, fd, ⟨fun _ _ _ _ h => h.elim, fun _ _ _ _ _ _ _ _ _ _ _ _ _ h => h.elim⟩, hm, F.kp, hb⟩
section
variable {t u : TS} {D : Ends} {σ : St}
/-- an if whose ways meet again: J holds there -/
theorem w_brJ {p : Prop} [Decidable p] (J : St → Hp → Prop) (hJ : ∀ σ H, J σ H → D.nx σ H) (h1 : p → ∀ nx : St → Hp → Prop, (∀ σ H, J σ H → nx σ H) → t { D with nx := nx } σ H) (h2 : ¬ p → ∀ nx : St → Hp → Prop, (∀ σ H, J σ H → nx σ H) → u { D with nx := nx } σ H) : tBr t u D σ (decide p) H := by
  by_cases h : p
  · rw [decide_eq_true h]; exact h1 h D.nx hJ
  · rw [decide_eq_false h]; exact h2 h D.nx hJ
theorem w_brJN {p : Prop} [Decidable p] (J : St → Hp → Prop) (hJ : ∀ σ H, J σ H → D.nx σ H) (h1 : ¬ p → ∀ nx : St → Hp → Prop, (∀ σ H, J σ H → nx σ H) → t { D with nx := nx } σ H) (h2 : p → ∀ nx : St → Hp → Prop, (∀ σ H, J σ H → nx σ H) → u { D with nx := nx } σ H) : tBr t u D σ (!decide p) H := by
  by_cases h : p
  · rw [decide_eq_true h]; exact h2 h D.nx hJ
  · rw [decide_eq_false h]; exact h1 h D.nx hJ
theorem w_brJB {b : Bool} (J : St → Hp → Prop) (hJ : ∀ σ H, J σ H → D.nx σ H) (h1 : b = true → ∀ nx : St → Hp → Prop, (∀ σ H, J σ H → nx σ H) → t { D with nx := nx } σ H) (h2 : b = false → ∀ nx : St → Hp → Prop, (∀ σ H, J σ H → nx σ H) → u { D with nx := nx } σ H) : tBr t u D σ b H := by
  cases b with
  | true => exact h1 rfl D.nx hJ
  | false => exact h2 rfl D.nx hJ
end
theorem s_yes {σ : St} {QT : Bool → Hp → Prop} : tYes σ H QT = QT true H := rfl
theorem W.noF (w : W F L H) (h : H r = none) : F r = none := by
  cases e : F r with
  | none => rfl
  | some u => rw [w.fr r u e] at h; cases h
theorem W.noL (w : W F L H) (h : H r = none) : r ∉ L.map (·.1) := fun hm => by
  obtain ⟨q, hq, e⟩ := List.mem_map.mp hm
  have z := w.at_ q hq
  rw [e, h] at z
  cases z
theorem W.ins (w : W F L H) (h1 : F r = none) (h2 : r ∉ L.map (·.1)) (h3 : H r = some o) : W F ((r, o) :: L) H := by
  refine ⟨w.fr, List.nodup_cons.mpr ⟨h2, w.nd⟩, fun q hq => ?_, fun q hq => ?_⟩
  · rcases List.mem_cons.mp hq with rfl | hq
    · exact h3
    · exact w.at_ q hq
  · rcases List.mem_cons.mp hq with rfl | hq
    · exact h1
    · exact w.off q hq
/-- two new things -/
theorem W.add2 {L' : List (Addr × HO)} {c : Addr} (w' : W F L' H') (w : W F L H) (hr : H r = none) (hc : H c = none) (hr' : H' r = some o) (hc' : H' c = some o') (hne : o ≠ o') (hm : L'.map (·.1) = L.map (·.1) := by rfl) : W F ((r, o) :: (c, o') :: L') H' := by
  refine (w'.ins (w.noF hc) (by rw [hm]; exact w.noL hc) hc').ins (w.noF hr) ?_ hr'
  rw [List.map_cons, List.mem_cons, hm]
  rintro (z | z)
  · have z' : r = c := z
    subst z'
    rw [hr'] at hc'
    exact hne (Option.some.inj hc')
  · exact w.noL hr z
/-- what stands in F stands beside p -/
theorem W.frem (w : W F L H) (i : Nat) (h : L[i]? = some (p, o)) : Same F (rem H p) := fun b u e => by
  rw [rem_ne (ne_of_none e (w.offI i h))]; exact w.fr b u e
end
end L2
/-! What the written part must say, premise by premise. -/
namespace L2
open PySem PySem.Spec PyProof.Rows PySem.W PySem.NKE
section
variable {K : PySem.W.Frag} {h : Heap} {mg : Str → Option Value} {x : Str} {C fI : Addr} {fs : List Str}
theorem ExcB.of (X : K.In h) (G : h.Ns mainGlobals mg) (aC : nsIn K mainGlobals x = some (some (.ref C))) (exC : subIn K (.ref C) (.type "BaseException") = some true) (veC : subIn K (.ref C) (.type "ValueError") = some true)
    (tyC : typeIn K (.ref C) = some (.type "type")) (hdC : hasDictIn K C = true) (seC : subIn K (.ref C) (.ref C) = some true) (hg : findIn K (.ref C) "__getattribute__" = some (some (.builtin "BaseException.__getattribute__"))) (hk : findIn K (.ref C) "__getattr__" = some none)
    (ha : findIn K (.ref C) "__class__" = some (some (.builtin "object.__class__"))) (hn : specialIn K (.builtin "object.__class__") "__get__" = some (some (.builtin "getset_descriptor.__get__"))) (ht : takesIn K (.builtin "object.__class__") = some true) (hm : mroIn K C (.type "object") = some true) : ExcB K mg x C :=
  ⟨mg_of X G aC, exC, veC, tyC, hdC, seC, ⟨hg, hk, exC, hdC, ha, hn, ht, hm⟩, ⟨hg, hk, exC, hdC⟩⟩
/-- what the text of __init__ is -/
structure SupInit (st : Stmt) (fs : List Str) : Prop where
  ar : ∃ ar, ((defArgs st).posonlyargs ++ (defArgs st).args).head? = some ar ∧ ar.arg = "self"
  body : ∃ s0 sts, defBody st = s0 :: sts ∧ IsSup s0 ∧ IsFlds fs sts
  sup : (defScope st).names.lookup ("super" : Str) = some .globalImplicit
  cls : (defScope st).names.lookup ("__class__" : Str) = some .free
  loc : ∀ f ∈ ("self" : Str) :: fs, (defScope st).names.lookup f = some .local
  kind : (defScope st).kind = .function
  noc : ∀ x ∈ (defScope st).names, x.2 ≠ .cell
  coro : (defScope st).isCoroutine = false
  gen : (defScope st).isGenerator = false
  bind : ∀ (qual : Str) (dV kV doc pm : Value) (an : Option Addr) (cd ct : Value) (cc : Addr) (us : List Value), dV = .none → us.length = fs.length + 1 → bindArgs (ksFn "__init__" qual (defArgs st) (defBody st) (defScope st) dV kV doc pm an cd ct cc) ⟨us, []⟩ = pure ((("self" : Str) :: fs).zip us)
  nd : (("self" : Str) :: fs).Nodup
  nodbg : ∀ f ∈ fs, (f == ("__debug__" : Str)) = false
theorem ErrTxt.of {st : Stmt} {qual : Str} (S : SupInit st fs) {nm q : Str} {N : Addr} {bs bm : List Value} {sn : List Str} {sub : List Value} {ab : Bool} {col : Option Bool} {dd : Option Addr} {k0 k1 k2 k3 k5 : Option Value}
    {oc kV doc pm ct ccl cl : Value} {od an cdd cld : Option Addr} {osl ccs csl : Array (Option Value)} {cda cc : Addr} {vs : Array Value} {file : Str} {tf : Tok}
    (B : ExcB K mg x C) (lC : K.lookup C = some (excClassObj nm q C N bs bm true sn sub ab col dd k0 k1 k2 k3 k5 "ValueError.__new__")) (hb : PySem.HandSPX.refsVE bm = true)
    (sa : findIn K (.ref C) "__setattr__" = some (some (.builtin "object.__setattr__"))) (noN : ∀ f ∈ fs, findIn K (.ref C) f = some none) (iC : findIn K (.ref C) "__init__" = some (some (.ref fI))) (tC : typeIn K (.ref fI) = some (.type "function")) (kC : keepIn K (.ref C) = true)
    (sup : ks_superIn K C C "__init__" = some (some (.builtin "ValueError.__init__"))) (selfC : mroIn K C (.ref C) = some true) (tp : nsIn K cStatics "thirdparty.any" = some none) (nosup : nsIn K mainGlobals "super" = some none)
    (lI : K.lookup fI = some ⟨oc, od, .func (ksFn "__init__" qual (defArgs st) (defBody st) (defScope st) .none kV doc pm an (.ref cda) ct cc), osl⟩) (cI : codeIn K (.ref cda) qual = true)
    (lK : K.lookup cda = some ⟨ccl, cdd, .fields vs, ccs⟩) (hf : vs[2]? = some (.str file tf)) (hf2 : ((("/claim/cut.py" : Str)) == file) = true) (lc : K.lookup cc = some ⟨cl, cld, .cell (some (.ref C)), csl⟩) : ErrC K mg x C fI fs := by
  refine ⟨B, ⟨⟨nm, q, N, bs, bm, sn, sub, ab, col, dd, k0, k1, k2, k3, k5, lC, hb⟩, sa, noN, iC, tC, kC, B.exC, B.veC, B.tyC, sup, selfC, tp, nosup, ?_⟩⟩
  obtain ⟨ar, h1, h2⟩ := S.ar
  obtain ⟨s0, sts, h3, h4, h5⟩ := S.body
  exact ⟨oc, od, qual, _, _, _, _, kV, doc, pm, an, cda, ct, osl, cc, ar, ccl, cl, cdd, cld, vs, file, tf, ccs, csl, s0, sts, lI, cI, h1, h2, lK, hf, hf2, lc, h3, h4, h5, S.sup, S.cls, S.loc, S.kind, S.noc, S.coro, S.gen, fun us => S.bind _ _ _ _ _ _ _ _ _ us rfl, S.nd, S.nodbg⟩
end
end L2
/-! for x, y, z in zip(list, list, text) -/
namespace L2
open PySem PySem.Spec PyProof.Rows
/-- the lists at a and b as they stand at each turn, the signs of x, in new triples -/
def Itz3 (K : PySem.W.Frag) (a b : Addr) (x : Str) : It :=
  ⟨fun i H => ∃ (xs ys : List V), SqL K H a xs ∧ SqL K H b ys ∧ i < xs.length ∧ i < ys.length ∧ i < x.cps.size,
    fun i H v H' => ∃ (T : Addr) (u w : V) (c : Nat), v = .ref T ∧ H T = none ∧ H' = upd H T (.tup [u, w, .str ⟨#[c]⟩]) ∧ (∀ xs, SqL K H a xs → xs[i]? = some u) ∧ (∀ ys, SqL K H b ys → ys[i]? = some w) ∧ x.cps[i]? = some c,
    fun i H => ∃ xs ys : List V, SqL K H a xs ∧ SqL K H b ys ∧ i = min (min xs.length ys.length) x.cps.size⟩
theorem mem36 {c z TI TO i1 i2 i3 : Addr} (h : c ∈ [z, TO, i1, i2, i3]) : c ∈ [z, TI, TO, i1, i2, i3] := by
  simp only [List.mem_cons, List.not_mem_nil, or_false] at h ⊢
  rcases h with e | e | e | e | e <;> simp [e]
theorem turn_zip3 {P : Program} {w : World} {K : PySem.W.Frag} {elts : List Expr} {kk : Nat} {tpos : Pos} {a b z TI TO i1 i2 i3 : Addr} {x : Str} {t : Tok} (D : ZipSep3 z TI TO i1 i2 i3 [i1, a] [i2, b] [i3]) (na : a ≠ i1) (nb : b ≠ i2) :
    Turn P w K (.Tuple elts kk tpos) (Itz3 K a b x) [z, TI, TO, i1, i2, i3] z (fun i h => IsZip h z TI TO .none ∧ IsTupOf3 h TI (.ref i1) (.ref i2) (.ref i3) ∧ (∃ a1 a2 a3, IsTupOf3 h TO a1 a2 a3) ∧ h.IsListIter i1 a i ∧ h.IsListIter i2 b i ∧ h.IsStrIter i3 (strIterType x) x t i) where
  mem := by simp
  obj := fun i h st c hc => by
    obtain ⟨hz, hTI, ⟨_, _, _, hTO⟩, ⟨o1, e1, _, d1⟩, ⟨o2, e2, _, d2⟩, ⟨o3, e3, _, d3⟩⟩ := st
    have e' : c = z ∨ c = TI ∨ c = TO ∨ c = i1 ∨ c = i2 ∨ c = i3 := by simpa using hc
    rcases e' with q | q | q | q | q | q
    · rw [q]; exact ⟨_, hz, fun v q => nomatch q⟩
    · rw [q]; exact ⟨_, hTI, fun v q => nomatch q⟩
    · rw [q]; exact ⟨_, hTO, fun v q => nomatch q⟩
    · rw [q]; exact ⟨o1, e1, fun v q => by rw [d1] at q; cases q⟩
    · rw [q]; exact ⟨o2, e2, fun v q => by rw [d2] at q; cases q⟩
    · rw [q]; exact ⟨o3, e3, fun v q => by rw [d3] at q; cases q⟩
  keep := fun i h h' st k => by
    obtain ⟨hz, hTI, ⟨a1, a2, a3, hTO⟩, h1, h2, ⟨o3, e3, d3⟩⟩ := st
    exact ⟨k z (by simp) _ hz, k TI (by simp) _ hTI, ⟨a1, a2, a3, k TO (by simp) _ hTO⟩, h1.at fun o q => k i1 (by simp) o q, h2.at fun o q => k i2 (by simp) o q, ⟨o3, k i3 (by simp) _ e3, d3⟩⟩
  item := by
    intro X hP hw hK hc i pins s σ H E I hf st hg
    subst hP hw hK
    obtain ⟨hz, hTI, hTO, h1, h2, h3⟩ := st
    obtain ⟨xs, ys, hqx, hqy, hx, hy, hxx⟩ := hg
    obtain ⟨its, rv, p, _⟩ := I.list hqx
    obtain ⟨its2, rv2, p2, _⟩ := I.list hqy
    have l1 := rv.length
    have l2 := rv2.length
    have hh : X.A.in1.handled = none := I.ok.hd hc
    have D1 := Draws.list (prog := X.prog) (w := X.w) hh i1 a na its.toArray
    have D2 := Draws.list (prog := X.prog) (w := X.w) hh i2 b nb its2.toArray
    have D3 := Draws.text (prog := X.prog) (w := X.w) hh i3 x t
    have T3 := WalksT.zipD3 (A := X.A) D D1 D2 D3
    refine wpAny_mono (T3.item i s (fun r s1 => ∃ u, r = some u ∧ wpAny (model X.prog X.w) X.A (letOwnedTupleGo (.Tuple elts kk tpos) (.ref z) u) (fun _ s2 => ∃ x_1 H', Inv X pins σ H' s2 ∧ RelV x_1 u ∧ (Itz3 X.K a b x).yld i H x_1 H' ∧
      (IsZip s2.heap z TI TO .none ∧ IsTupOf3 s2.heap TI (.ref i1) (.ref i2) (.ref i3) ∧ (∃ a1 a2 a3, IsTupOf3 s2.heap TO a1 a2 a3) ∧ s2.heap.IsListIter i1 a (i + 1) ∧ s2.heap.IsListIter i2 b (i + 1) ∧ s2.heap.IsStrIter i3 (strIterType x) x t (i + 1)) ∧ ∀ b ∈ [z, TI, TO, i1, i2, i3], H' b = none) E s1) E ?_ ⟨hz, hTI, hTO, ⟨h1, p.isList⟩, ⟨h2, p2.isList⟩, h3⟩ fun T vals h' tk ⟨u1, u2, u3, y1, y2, ⟨c, tc, y3, y3'⟩, ev⟩ hge hT mid hk => ⟨_, rfl, ?_⟩) (fun _ _ q => q) fun _ _ q => q
    · simp; omega
    subst ev y3'
    have ap := T3.apart _ _ _ mid
    refine T3.go elts kk tpos i T { s with heap := h', toks := tk } _ _ mid fun h'' st'' hk'' => ?_
    obtain ⟨hz', hTI', hTO', ⟨h1', _⟩, ⟨h2', _⟩, h3'⟩ := st''
    obtain ⟨u, hu, ru⟩ := rv.get (i := i) (List.getElem?_eq_getElem hx)
    obtain ⟨v, hv, rv'⟩ := rv2.get (i := i) (List.getElem?_eq_getElem hy)
    obtain rfl : u = u1 := by
      have : its[i]? = some u1 := by simpa using y1
      rw [hu] at this; exact Option.some.inj this
    obtain rfl : v = u2 := by
      have : its2[i]? = some u2 := by simpa using y2
      rw [hv] at this; exact Option.some.inj this
    have hT2 : h''.IsTuple T #[u, v, .str ⟨#[c]⟩ tc] := hT.at fun o e => hk'' T o ap e
    have hk2 : ∀ b o, b ∉ [z, TO, i1, i2, i3] → s.heap.get? b = some o → h''.get? b = some o := fun b o hb e => hk'' b o hb (hk b o hb e)
    have new : ObjOk X.prog X.w (upd H T (.tup [xs[i], ys[i], .str ⟨#[c]⟩])) h'' T (.tup [xs[i], ys[i], .str ⟨#[c]⟩]) :=
      ⟨by show 3 ≤ sizeLine; decide, [u, v, .str ⟨#[c]⟩ tc], .cons ru (.cons rv' (.cons ⟨tc, rfl⟩ .nil)), hT2⟩
    have I1 : Inv X pins σ (upd H T (.tup [xs[i], ys[i], .str ⟨#[c]⟩])) { s with heap := h'', toks := tk } :=
      I.turnedNew (ch := [z, TI, TO, i1, i2, i3]) (fun c o hb q => hk2 c o (fun z => hb (mem36 z)) q) hf hge new
    refine ⟨.ref T, _, I1, rfl, ⟨T, xs[i], ys[i], c, rfl, I.hok.fresh hge, rfl, fun l hl => by rw [I.list_inj hl hqx]; exact List.getElem?_eq_getElem hx, fun l hl => by rw [I.list_inj hl hqy]; exact List.getElem?_eq_getElem hy, y3⟩, ⟨hz', hTI', hTO', h1', h2', h3'⟩, fun c hcm => ?_⟩
    have hlt : c < s.heap.objs.size := by
        have e' : c = z ∨ c = TI ∨ c = TO ∨ c = i1 ∨ c = i2 ∨ c = i3 := by simpa using hcm
        rcases e' with q | q | q | q | q | q
        · rw [q]; exact Heap.lt_size hz
        · rw [q]; exact Heap.lt_size hTI
        · rw [q]; obtain ⟨_, _, _, e⟩ := hTO; exact Heap.lt_size e
        · rw [q]; obtain ⟨_, e1, _⟩ := h1; exact Heap.lt_size e1
        · rw [q]; obtain ⟨_, e1, _⟩ := h2; exact Heap.lt_size e1
        · rw [q]; obtain ⟨_, e1, _⟩ := h3; exact Heap.lt_size e1
    rw [upd_ne (Nat.ne_of_lt (Nat.lt_of_lt_of_le hlt hge))]
    exact (hf c hcm).1
  done := by
    intro X hP hw hK hc i pins s σ H E I hf st hg
    subst hP hw hK
    obtain ⟨hz, hTI, hTO, h1, h2, h3⟩ := st
    obtain ⟨xs, ys, hqx, hqy, hend⟩ := hg
    obtain ⟨its, rv, p, _⟩ := I.list hqx
    obtain ⟨its2, rv2, p2, _⟩ := I.list hqy
    have l1 := rv.length
    have l2 := rv2.length
    have hh : X.A.in1.handled = none := I.ok.hd hc
    have D1 := Draws.list (prog := X.prog) (w := X.w) hh i1 a na its.toArray
    have D2 := Draws.list (prog := X.prog) (w := X.w) hh i2 b nb its2.toArray
    have D3 := Draws.text (prog := X.prog) (w := X.w) hh i3 x t
    have T3 := WalksT.zipD3 (A := X.A) D D1 D2 D3
    have ei : i = min (min its.toArray.size its2.toArray.size) x.cps.size := by simp; omega
    refine T3.done s _ E (by rw [← ei]; exact ⟨hz, hTI, hTO, ⟨h1, p.isList⟩, ⟨h2, p2.isList⟩, h3⟩) fun h' tk hk => ⟨rfl, I.turnedL (ch := [z, TI, TO, i1, i2, i3]) (fun c o hb q => hk c o (fun z => hb (mem36 z)) q) hf⟩
  self := fun A i s Q E st h => wpAny_pyIter_zip st.1 h
def zp3 (K : PySem.W.Frag) (vs : List V) (H : Hp) (R : It → Hp → Prop) : Prop := ∃ (a b : Addr) (x : Str) (xs ys : List V), vs = [.ref a, .ref b, .str x] ∧ SqL K H a xs ∧ SqL K H b ys ∧ R (Itz3 K a b x) H
def iZip3 (K : PySem.W.Frag) (ta : TA) : TI := fun σ H R => ta σ H fun vs H1 => zp3 K vs H1 R
theorem pi_zip3 {X : Cx} {e e2 e3 : Expr} {ta : TA} {p pos tpos : Pos} {elts : List Expr} {kk : Nat} (hg : Gl X "zip") (hm : X.mg "zip" = none) (ha : PA X [e, e2, e3] ta)
    (hs : starEach [e, e2, e3] X.env = (false, eval e X.env) :: starEach [e2, e3] X.env := by rfl) (hpl : (backTo pos (starEach [e2, e3] X.env)).any (·.1) = false := by rfl) :
    PI X (.Tuple elts kk tpos) (.Call (.Name "zip" p) [e, e2, e3] [] pos) (iZip3 X.K ta) := by
  refine ⟨fun pins s σ H R I h => ?_⟩
  refine Call_ (ld_blt I hg hm PyProof.Rows.boot_zip (PyProof.Rows.callWith_type1 (thn (ha.run pos pins s σ H _ I h) fun us s1 ⟨vs, H1, I1, r1, q1⟩ => ?_) hs hpl))
  obtain ⟨a, b, x, xs, ys, ex, hqx, hqy, q⟩ := q1
  subst ex
  cases r1 with
  | cons r rr =>
    cases rr with
    | cons r' rr =>
      cases rr with
      | cons r'' rr =>
      cases rr
      cases r
      cases r'
      obtain ⟨t, rfl⟩ := r''
      obtain ⟨its, rv, p1, _⟩ := I1.list hqx
      obtain ⟨its2, rv2, p2, _⟩ := I1.list hqy
      have la : a < s1.heap.objs.size := p1.lt
      have lb : b < s1.heap.objs.size := p2.lt
      refine zip_begins3 (begins_list a its.toArray) (begins_list b its2.toArray) (begins_text x t) p1.isList p2.isList trivial fun h' hz hTI hTO e1 e2 e3 hsz hk => wpAny_pyIter_zip hz ?_
      have I2 : Inv X pins σ H1 { s1 with heap := h' } := I1.kept (t' := s1.toks) hk
      have SP := zip_sep3 (N := s1.heap.objs.size) (fp1 := [a]) (fp2 := [b]) (fp3 := []) (by simpa using la) (by simpa using lb) (by simp)
      refine ⟨s1.heap.objs.size + 5, [s1.heap.objs.size + 5, s1.heap.objs.size + 3, s1.heap.objs.size + 4, s1.heap.objs.size, s1.heap.objs.size + 1, s1.heap.objs.size + 2], _, _, H1, rfl, I2, turn_zip3 (t := t) SP (Nat.ne_of_lt la) (Nat.ne_of_lt (Nat.lt_succ_of_lt lb)), ⟨hz, hTI, ⟨_, _, _, hTO⟩, ⟨_, e1, rfl, rfl⟩, ⟨_, e2, rfl, rfl⟩, ⟨_, e3, rfl, rfl⟩⟩, fun c hcm => ?_, q⟩
      have e' : c = s1.heap.objs.size + 5 ∨ c = s1.heap.objs.size + 3 ∨ c = s1.heap.objs.size + 4 ∨ c = s1.heap.objs.size ∨ c = s1.heap.objs.size + 1 ∨ c = s1.heap.objs.size + 2 := by simpa using hcm
      have hle : s1.heap.objs.size ≤ c := by
        rcases e' with z | z | z | z | z | z
        · rw [z]; exact Nat.le_add_right _ _
        · rw [z]; exact Nat.le_add_right _ _
        · rw [z]; exact Nat.le_add_right _ _
        · rw [z]; exact Nat.le_refl _
        · rw [z]; exact Nat.le_add_right _ _
        · rw [z]; exact Nat.le_add_right _ _
      exact I1.fpOk hle (I1.hok.fresh hle)
theorem s_zip3 {K : PySem.W.Frag} {tr : TA} {σ : L2.St} {H : Hp} {R : It → Hp → Prop} : iZip3 K tr σ H R = tr σ H (fun vs H1 => zp3 K vs H1 R) := rfl
end L2
/-! Texts. -/
namespace L2
open PySem PySem.Spec PyProof.Rows TL
section
variable {K : PySem.W.Frag} {H : Hp} {Q : VK} {x y z : Str} {n i : Int}
theorem v_addS : aAdd K (.str x) (.str y) H Q = (x.length + y.length ≤ sizeLine ∧ Q (.str (x ++ y)) H) := rfl
theorem v_mulS : aMul K (.str z) (.int n) H Q = ((-1000000 ≤ n ∧ n ≤ 10000 ∧ z.length ≤ 1000) ∧ Q (.str (Txt.mul z n)) H) := rfl
theorem v_lenS : aLen K [.str z] H Q = (z.length ≤ sizeLine ∧ Q (.int z.length) H) := rfl
theorem v_eqS : aEq K (.str x) (.str y) H Q = Q (.bl (decide (x = y))) H := by
  show (true = true ∧ Q (.bl (decide (V.str x = V.str y))) H) = _
  have e : decide (V.str x = V.str y) = decide (x = y) := by
    by_cases h : x = y
    · subst h; simp
    · simp [h]
  rw [e]; simp
theorem v_neS : aNe K (.str x) (.str y) H Q = Q (.bl (!decide (x = y))) H := by
  show (true = true ∧ Q (.bl (!decide (V.str x = V.str y))) H) = _
  have e : decide (V.str x = V.str y) = decide (x = y) := by
    by_cases h : x = y
    · subst h; simp
    · simp [h]
  rw [e]; simp
theorem w_ixS (h : z.length ≤ sizeLine) (h0 : 0 ≤ i) (h1 : i < z.length) (q : ∀ c, (tl z)[i.toNat]? = some c → Q (.str ⟨#[c]⟩) H) : aIx K (.str z) (.int i) H Q := by
  obtain ⟨j, rfl⟩ := Int.eq_ofNat_of_zero_le h0
  have hj : j < (tl z).length := by rw [← len_tl]; omega
  refine ⟨h, (tl z)[j], atI_nat (List.getElem?_eq_getElem hj), ?_⟩
  exact q _ (List.getElem?_eq_getElem hj)
theorem w_slS {lo hi : Option Int} (h : z.length ≤ sizeLine) (q : Q (.str (cutS z lo hi)) H) : aSl K (.str z) lo hi H Q := .inr (.inr ⟨z, rfl, h, q⟩)
theorem w_slL {a : Addr} {xs : List V} {lo hi : Option Int} (h : SqL K H a xs) (q : ∀ p, H p = none → Q (.ref p) (upd H p (.lst (cutV xs lo hi)))) : aSl K (.ref a) lo hi H Q := .inl ⟨a, xs, rfl, h, q⟩
theorem joinC {ys : List Str} {m : Nat} (hm : ∀ y ∈ ys, y.length ≤ m) (hz : ys.length * (m + x.length) ≤ 16000000) : (ys.map (·.length)).sum + ys.length * x.length ≤ 16777216 := by
  have : (ys.map (·.length)).sum ≤ ys.length * m := by
    clear hz
    induction ys with
    | nil => simp
    | cons y ys ih =>
      have h1 := hm y List.mem_cons_self
      have h2 := ih fun y hy => hm y (List.mem_cons_of_mem _ hy)
      simp only [List.map_cons, List.sum_cons, List.length_cons, Nat.succ_mul]
      omega
  rw [Nat.mul_add] at hz
  omega
theorem w_join {p : Addr} {ys : List Str} {m : Nat} (h : SqL K H p (ys.map V.str)) (hm : ∀ y ∈ ys, y.length ≤ m) (hz : ys.length * (m + x.length) ≤ 16000000) (q : Q (.str (Str.join x ys)) H) :
    tyV K "str" (.str x) H ∧ ∃ (a : Str) (p' : Addr), ∃ ys' : List Str, V.str x = .str a ∧ [V.ref p] = [.ref p'] ∧ (SqL K H p' (ys'.map V.str) ∨ SqT K H p' (ys'.map V.str)) ∧ (ys'.map (·.length)).sum + ys'.length * a.length ≤ 16777216 ∧ Q (.str (Txt.join a ys')) H := by
  refine ⟨rfl, x, p, ys, rfl, rfl, .inl h, ?_, by rw [join_eq]; exact q⟩
  have : (ys.map (·.length)).sum ≤ ys.length * m := by
    clear h hz q
    induction ys with
    | nil => simp
    | cons y ys ih =>
      have h1 := hm y List.mem_cons_self
      have h2 := ih fun y hy => hm y (List.mem_cons_of_mem _ hy)
      simp only [List.map_cons, List.sum_cons, List.length_cons, Nat.succ_mul]
      omega
  rw [Nat.mul_add] at hz
  omega
theorem w_rstrip (h : z.length ≤ sizeLine) (q : Q (.str (Txt.rstripChars z x)) H) :
    tyV K "str" (.str z) H ∧ ∃ a b : Str, V.str z = .str a ∧ [V.str x] = [.str b] ∧ a.length ≤ sizeLine ∧ Q (.str (Txt.rstripChars a b)) H := ⟨rfl, z, x, rfl, rfl, h, q⟩
/-- list + list -/
theorem w_catL {p q : Addr} {xs ys : List V} (h : H p = some (.lst xs)) (h' : H q = some (.lst ys)) (hz : xs.length + ys.length ≤ sizeLine) (k : ∀ r, H r = none → Q (.ref r) (upd H r (.lst (xs ++ ys)))) : aAdd K (.ref p) (.ref q) H Q := .inl ⟨p, q, xs, ys, rfl, rfl, h, h', hz, k⟩
end
theorem tl_mul (x : Str) (n : Int) : tl (Txt.mul x n) = (List.replicate n.toNat (tl x)).flatten := by
  unfold Txt.mul
  by_cases h : n < 1
  · rw [if_pos h]
    have : n.toNat = 0 := by omega
    rw [this]; rfl
  · rw [if_neg h]
    by_cases h2 : (n == 1 || x.length == 0) = true
    · rw [if_pos h2]
      rcases Bool.or_eq_true_iff.mp h2 with h3 | h3
      · have : n = 1 := by simpa using h3
        subst this; simp
      · have e : x.length = 0 := by simpa using h3
        rw [len_tl] at e
        have e := List.length_eq_zero_iff.mp e
        rw [e]; simp
    · rw [if_neg h2]
      have key : ∀ (m : Nat) (b : Array Nat), ((List.replicate m x.cps).foldl (· ++ ·) b).toList = b.toList ++ (List.replicate m (tl x)).flatten := by
        intro m
        induction m with
        | zero => intro b; simp
        | succ m ih =>
          intro b
          rw [List.replicate_succ, List.foldl_cons, ih, List.replicate_succ, List.flatten_cons, Array.toList_append, List.append_assoc]
      exact key _ _
theorem len_mul {x : Str} {n : Int} : (Txt.mul x n).length = n.toNat * x.length := by
  rw [len_tl, tl_mul, len_tl]
  induction n.toNat with
  | zero => simp
  | succ m ih => rw [List.replicate_succ, List.flatten_cons, List.length_append, ih, Nat.succ_mul]; omega
theorem len_app (x y : Str) : (x ++ y).length = x.length + y.length := by rw [len_tl, tl_append, List.length_append, ← len_tl, ← len_tl]
/-- where the text ends, the spaces behind it aside -/
def rend (l : List Nat) : Nat := l.length - (l.reverse.takeWhile (· == 32)).length
theorem rend_le (l : List Nat) : rend l ≤ l.length := Nat.sub_le _ _
theorem tl_rstrip (x : Str) : tl (Txt.rstripChars x " ") = (tl x).take (rend (tl x)) := by
  have c : (Str.ofString " ").cps.contains = fun c => (c == 32) := by
    have e : (Str.ofString " ").cps = #[32] := by decide +kernel
    rw [e]; funext c
    rw [Bool.eq_iff_iff, Array.contains_iff_mem]
    simp
  have hi : stripHi (Str.ofString " ").cps.contains true x (stripLo (Str.ofString " ").cps.contains false x) = rend (tl x) := by
    show x.length - (((tl x).drop 0).reverse.takeWhile _).length = _
    rw [c, List.drop_zero, len_tl]; rfl
  show tl (if stripSame _ _ _ x = true then x else stripped _ _ _ x) = _
  by_cases h : stripSame (Str.ofString " ").cps.contains false true x = true
  · rw [if_pos h]
    have h2 := (Bool.and_eq_true_iff.mp h).2
    rw [hi] at h2
    have : rend (tl x) = x.length := by simpa using h2
    rw [this, len_tl, List.take_length]
  · rw [if_neg h]
    unfold stripped
    rw [hi, tl_strSub]
    show ((tl x).drop 0).take (rend (tl x) - 0) = _
    simp
theorem rend_uniq {l : List Nat} {e : Nat} (h : e ≤ l.length) (h1 : ∀ j, e ≤ j → j < l.length → l[j]? = some 32) (h2 : e = 0 ∨ l[e - 1]? ≠ some 32) : rend l = e := by
  have key : ∀ (m : List Nat), (∀ c ∈ m, c = 32) → ∀ (a : List Nat), (a = [] ∨ a.getLast? ≠ some 32) → ((a ++ m).reverse.takeWhile (· == 32)).length = m.length := by
    intro m hm a ha
    rw [List.reverse_append, List.takeWhile_append_of_pos (by intro c hc; simpa using hm c (by simpa using hc))]
    have : a.reverse.takeWhile (· == 32) = [] := by
      rcases ha with rfl | ha
      · rfl
      · cases e : a.reverse with
        | nil => rfl
        | cons c r =>
          have e2 : a.getLast? = some c := by rw [List.getLast?_eq_head?_reverse, e]; rfl
          rw [e2] at ha
          have : (c == 32) = false := by
            rw [beq_eq_false_iff_ne]
            intro z; exact ha (by rw [z])
          simp [List.takeWhile, this]
    rw [this]; simp
  unfold rend
  have hl : l = l.take e ++ l.drop e := (List.take_append_drop e l).symm
  have k := key (l.drop e) (fun c hc => ?_) (l.take e) ?_
  · rw [← hl] at k
    rw [k, List.length_drop]; omega
  · obtain ⟨j, hj, e1⟩ := List.mem_iff_getElem.mp hc
    rw [List.length_drop] at hj
    have := h1 (e + j) (by omega) (by omega)
    rw [List.getElem_drop] at e1
    rw [List.getElem?_eq_getElem (by omega)] at this
    rw [← e1]; exact Option.some.inj this
  · rcases h2 with rfl | h2
    · exact .inl rfl
    · by_cases e0 : e = 0
      · subst e0; exact .inl rfl
      · refine .inr ?_
        rw [List.getLast?_eq_getElem?, List.length_take, Nat.min_eq_left h, List.getElem?_take_of_lt (by omega)]
        exact h2
theorem join_snoc (y x : Str) {xs : List Str} (h : xs ≠ []) : Str.join y (xs ++ [x]) = Str.join y xs ++ y ++ x := by
  apply ext_tl
  rw [tl_join, tl_append, tl_append, tl_join]
  rw [List.map_append, List.map_singleton]
  have key : ∀ (ps : List (List Nat)) (S p : List Nat), ps ≠ [] → joinL S (ps ++ [p]) = joinL S ps ++ S ++ p := by
    intro ps S p
    induction ps with
    | nil => intro h; exact absurd rfl h
    | cons a r ih =>
      intro _
      cases r with
      | nil => show a ++ (S ++ p) = a ++ S ++ p; rw [List.append_assoc]
      | cons b r =>
        have := ih (by simp)
        show a ++ (S ++ joinL S ((b :: r) ++ [p])) = a ++ (S ++ joinL S (b :: r)) ++ S ++ p
        rw [this]; simp [List.append_assoc]
  exact key _ _ _ (by simpa using h)
theorem join_one (y x : Str) : Str.join y [x] = x := by
  apply ext_tl
  rw [tl_join]; rfl
theorem join_nil (y : Str) : Str.join y [] = Str.empty := by
  apply ext_tl
  rw [tl_join]; rfl
end L2
/-! The rules within a comprehension: the written part by its own name. -/
namespace L2
open PySem PySem.Spec PyProof.Rows
section
variable {X : Cx} {K : PySem.W.Frag}
theorem opK {op : Value → Value → Sem Value} {r : PySem.W.Frag → R2} (h : OpR X op (r X.K)) (e : X.K = K) : OpR X op (r K) := e ▸ h
theorem ixK {r : PySem.W.Frag → R2} (h : IxR X (r X.K)) (e : X.K = K) : IxR X (r K) := e ▸ h
theorem calK {f : Value} {r : PySem.W.Frag → List V → Hp → VK → Prop} (h : CallR X f (r X.K)) (e : X.K = K) : CallR X f (r K) := e ▸ h
theorem slK {r : PySem.W.Frag → V → Option Int → Option Int → Hp → VK → Prop} (h : SlR X (r X.K)) (e : X.K = K) : SlR X (r K) := e ▸ h
end
end L2
/-! Comprehensions whose elements change nothing that stood. -/
namespace L2
open PySem PySem.Spec PyProof.Rows
section
variable {K : PySem.W.Frag} {te : TE} {g : TG} {σ : St} {H : Hp} {Q : VK} {vs : List Nat}
theorem lc_step {f : Nat → V} {i : Nat} {L : Addr} {H' H4 : Hp} (hL : H L = none) (s1 : Same H H') (e : H' L = some (.lst ((List.range i).map f))) (hi : i < 100000) (s2 : Same H' H4) :
    ∃ acc, H4 L = some (.lst acc) ∧ acc.length < sizeLine ∧ (H L = none ∧ Same H (upd H4 L (.lst (acc ++ [f i]))) ∧ (upd H4 L (.lst (acc ++ [f i]))) L = some (.lst ((List.range (i + 1)).map f))) := by
  refine ⟨_, s2 _ _ e, by rw [List.length_map, List.length_range]; exact small1000' (by omega), hL, fun b o z => ?_, ?_⟩
  · rw [upd_ne (ne_of_none z hL)]
    exact s2 _ _ (s1 _ _ z)
  · rw [upd_same, List.range_succ, List.map_append]; rfl
theorem w_lcLf {a : Addr} {xs : List V} (f : Nat → V) (hS : SqL K H a xs) (hz : xs.length ≤ 100000)
    (hs : ∀ i x H' (N : VK), xs[i]? = some x → Same H H' → (∀ H4, Same H' H4 → N (f i) H4) → g x (wipe σ vs) H' fun σ2 H2 => wipe σ2 vs = wipe σ vs ∧ te σ2 H2 N)
    (hd : ∀ L H', Same H H' → H L = none → H' L = some (.lst ((List.range xs.length).map f)) → Q (.ref L) H') : lcJ (Itl K a) g tYes te vs σ Q H := by
  refine w_lcL (fun L i H' => H L = none ∧ Same H H' ∧ H' L = some (.lst ((List.range i).map f))) (fun L hL => ⟨hL, (W.start.new hL).fr, upd_same⟩) (fun L i H' _ p => p.2.1.seq hS) (fun L i x H' hx p => ?_) (fun L H' hL p => hd L H' p.2.1 p.1 p.2.2)
  have hi : i < xs.length := (List.getElem?_eq_some_iff.mp hx).1
  exact hs i x H' _ hx p.2.1 fun H4 s => lc_step p.1 p.2.1 p.2.2 (by omega) s
theorem w_lcRf {lo : Int} {n : Nat} (f : Nat → V) (hz : n ≤ 100000)
    (hs : ∀ (i : Nat) H' (N : VK), i < n → Same H H' → (∀ H4, Same H' H4 → N (f i) H4) → g (.int (lo + i)) (wipe σ vs) H' fun σ2 H2 => wipe σ2 vs = wipe σ vs ∧ te σ2 H2 N)
    (hd : ∀ L H', Same H H' → H L = none → H' L = some (.lst ((List.range n).map f)) → Q (.ref L) H') : lcJ (Itr lo n) g tYes te vs σ Q H := by
  refine w_lcR (fun L i H' => H L = none ∧ Same H H' ∧ H' L = some (.lst ((List.range i).map f))) (fun L hL => ⟨hL, (W.start.new hL).fr, upd_same⟩) (fun L i H' hi p => ?_) (fun L H' hL p => hd L H' p.2.1 p.1 p.2.2)
  exact hs i H' _ hi p.2.1 fun H4 s => lc_step p.1 p.2.1 p.2.2 (by omega) s
theorem w_lc3f {a b : Addr} {x : Str} {xs ys : List V} {p q r : Nat} (f : Nat → V) (hS : SqL K H a xs) (hS2 : SqL K H b ys) (e1 : ys.length = xs.length) (e2 : x.cps.size = xs.length) (hz : xs.length ≤ 100000)
    (hs : ∀ i u w c H' (N : VK), xs[i]? = some u → ys[i]? = some w → x.cps[i]? = some c → Same H H' → (∀ H4, Same H' H4 → N (f i) H4) →
      wipe ((((wipe σ vs).set p (some u)).set q (some w)).set r (some (.str ⟨#[c]⟩))) vs = wipe σ vs ∧ te ((((wipe σ vs).set p (some u)).set q (some w)).set r (some (.str ⟨#[c]⟩))) H' N)
    (hd : ∀ L H', Same H H' → H L = none → H' L = some (.lst ((List.range xs.length).map f)) → Q (.ref L) H') : lcJ (Itz3 K a b x) (gTup K 3 (gCons (gName p) (gCons (gName q) (gCons (gName r) gNil)))) tYes te vs σ Q H := by
  intro D hD
  refine ⟨fun i m H' => m = xs.length - i ∧ i ≤ xs.length ∧ (H D = none ∧ Same H H' ∧ H' D = some (.lst ((List.range i).map f))), ⟨xs.length, by simp, Nat.zero_le _, hD, (W.start.new hD).fr, upd_same⟩, ?_⟩
  rintro i m H1 ⟨rfl, hi, hD0, s1, e⟩
  have hX := s1.seq hS
  have hY := s1.seq hS2
  by_cases hlt : i < xs.length
  · refine .inr ⟨⟨xs, ys, hX, hY, hlt, by omega, by omega⟩, fun H' => H D = none ∧ Same H H' ∧ H' D = some (.lst ((List.range (i + 1)).map f)), fun H' p' => ⟨xs.length - (i + 1), by omega, rfl, hlt, p'⟩, fun v H' y => ?_⟩
    obtain ⟨T, u, w, c, rfl, hT, rfl, y1, y2, y3⟩ := y
    have sm : Same H1 (upd H1 T (.tup [u, w, .str ⟨#[c]⟩])) := fun b o e => by rw [upd_ne (ne_of_none e hT)]; exact e
    refine ⟨T, _, rfl, SqT.of upd_same, rfl, u, _, rfl, w, _, rfl, _, [], rfl, rfl, ?_⟩
    have := hs i u w c _ (fun y H4 => ∃ acc, H4 D = some (.lst acc) ∧ acc.length < sizeLine ∧ (H D = none ∧ Same H (upd H4 D (.lst (acc ++ [y]))) ∧ (upd H4 D (.lst (acc ++ [y]))) D = some (.lst ((List.range (i + 1)).map f)))) (y1 _ hX) (y2 _ hY) y3 (s1.trans sm) fun H4 s => lc_step hD0 (s1.trans sm) (sm _ _ e) (by omega) s
    exact this
  · have e' : i = xs.length := by omega
    subst e'
    exact .inl ⟨⟨xs, ys, hX, hY, by omega⟩, hd D H1 s1 hD0 e⟩
end
end L2
/-! Comprehensions whose elements are new things; nested lists as data. -/
namespace L2
open PySem PySem.Spec PyProof.Rows TL
section
variable {K : PySem.W.Frag} {te : TE} {g : TG} {σ : St} {H : Hp} {Q : VK} {vs : List Nat}
theorem w_lcNew {a : Addr} {xs : List V} (ob : Nat → HO) (hS : SqL K H a xs) (hz : xs.length ≤ 100000)
    (hs : ∀ i x H' (N : VK), xs[i]? = some x → Same H H' → (∀ l H4, Same H' H4 → H' l = none → H4 l = some (ob i) → N (.ref l) H4) → g x (wipe σ vs) H' fun σ2 H2 => wipe σ2 vs = wipe σ vs ∧ te σ2 H2 N)
    (hd : ∀ L H' (bs : List Addr), Same H H' → H L = none → H' L = some (.lst (bs.map V.ref)) → bs.length = xs.length → (∀ (j : Nat) (b : Addr), bs[j]? = some b → H b = none ∧ b ≠ L ∧ H' b = some (ob j)) → bs.Nodup → Q (.ref L) H') : lcJ (Itl K a) g tYes te vs σ Q H := by
  refine w_lcL (fun L i H' => H L = none ∧ Same H H' ∧ ∃ bs : List Addr, H' L = some (.lst (bs.map V.ref)) ∧ bs.length = i ∧ (∀ (j : Nat) (b : Addr), bs[j]? = some b → H b = none ∧ b ≠ L ∧ H' b = some (ob j)) ∧ bs.Nodup)
    (fun L hL => ⟨hL, (W.start.new hL).fr, [], upd_same, rfl, fun j b e => by simp at e, List.nodup_nil⟩) (fun L i H' _ p => p.2.1.seq hS) (fun L i x H' hx p => ?_) (fun L H' hL p => ?_)
  · have hi : i < xs.length := (List.getElem?_eq_some_iff.mp hx).1
    obtain ⟨hL, s1, bs, e1, e2, e3, e4⟩ := p
    refine hs i x H' _ hx s1 fun l H4 s2 hl hl4 => ?_
    have ne : l ≠ L := fun z => by rw [z, e1] at hl; cases hl
    have hl0 : H l = none := s1.free hl
    refine ⟨_, s2 _ _ e1, by rw [List.length_map]; exact small1000' (by omega), hL, fun b o z => ?_, bs ++ [l], ?_, by simp [e2], fun j b hb => ?_, ?_⟩
    · rw [upd_ne (ne_of_none z hL)]
      exact s2 _ _ (s1 _ _ z)
    · rw [upd_same, List.map_append]; rfl
    · by_cases hj : j < bs.length
      · rw [List.getElem?_append_left hj] at hb
        obtain ⟨h1, h2, h3⟩ := e3 j b hb
        exact ⟨h1, h2, by rw [upd_ne h2]; exact s2 _ _ h3⟩
      · rw [List.getElem?_append_right (by omega)] at hb
        have hj' : j - bs.length = 0 := by
          have := (List.getElem?_eq_some_iff.mp hb).1
          simp at this; omega
        rw [hj'] at hb
        cases Option.some.inj hb
        have : j = i := by omega
        subst this
        exact ⟨hl0, ne, by rw [upd_ne ne]; exact hl4⟩
    · rw [List.nodup_append]
      refine ⟨e4, by simp, fun b hb c hc => ?_⟩
      have hc' : c = l := by simpa using hc
      subst hc'
      obtain ⟨j, hj, e⟩ := List.mem_iff_getElem.mp hb
      obtain ⟨_, _, h3⟩ := e3 j b (by rw [List.getElem?_eq_getElem hj, e])
      intro z
      rw [z, hl] at h3; cases h3
  · obtain ⟨_, s1, bs, e1, e2, e3, e4⟩ := p
    exact hd L H' bs s1 hL e1 e2 e3 e4
end
section
variable {K : PySem.W.Frag} {H : Hp}
/-- lists of lists of texts as data -/
abbrev dS (r : List Str) : PyData := .list (r.map PyData.str)
theorem Dp.strL {a : Addr} {ns : List Str} (h : SqL K H a (ns.map V.str)) : Dp K H (.ref a) (dS ns) := .lst h (DpAll.strs ns)
theorem dpAll_of {α : Type} (d : α → PyData) : ∀ {as : List Addr} {rs : List α}, as.length = rs.length → (∀ (i : Nat) (a : Addr) (r : α), as[i]? = some a → rs[i]? = some r → Dp K H (.ref a) (d r)) → DpAll K H (as.map V.ref) (rs.map d)
  | [], [], _, _ => .nil
  | a :: as, r :: rs, h, k => .cons (k 0 a r rfl rfl) (dpAll_of d (by simpa using h) fun i a r h1 h2 => k (i + 1) a r (by simpa using h1) (by simpa using h2))
  | [], _ :: _, h, _ => by simp at h
  | _ :: _, [], h, _ => by simp at h
theorem fits_dS {n : Nat} {r : List Str} (h : r.length ≤ 100000) : fits (n + 1) (dS r) := by
  refine ⟨by rw [List.length_map]; exact h, fun d hd => ?_⟩
  obtain ⟨x, _, rfl⟩ := List.mem_map.mp hd
  cases n <;> trivial
end
/-- an if whose ways meet again, not opened by the walk: w_ifJ -/
def tIfJ (c : TT) (t u : TS) : TS := tIfS c t u
theorem ps_ifJ {X : Cx} {c : Expr} {th el : List Stmt} {pos : Pos} {tt : TT} {t u : TS} (h : PS X (.If c th el pos) (tIfS tt t u)) : PS X (.If c th el pos) (tIfJ tt t u) := h
theorem w_ifJ {c : TT} {t u : TS} {D : Ends} {σ : St} {H : Hp} (J : St → Hp → Prop) (hJ : ∀ σ H, J σ H → D.nx σ H) (h : ∀ nx : St → Hp → Prop, (∀ σ H, J σ H → nx σ H) → tIfS c t u { D with nx := nx } σ H) : tIfJ c t u D σ H := h D.nx hJ
theorem w_orA {tB' : TT} {σ : St} {QT : Bool → Hp → Prop} {b : Bool} {H : Hp} (hall : ∀ b, QT b H) (h2 : (∀ b, QT b H) → tB' σ H QT) : oB tB' σ QT b H := by
  cases b with
  | true => exact hall true
  | false => exact h2 hall
theorem joinL_nil : ∀ ps : List (List Nat), joinL [] ps = ps.flatten
  | [] => rfl
  | [p] => by simp [joinL]
  | p :: q :: r => by
    have := joinL_nil (q :: r)
    show p ++ ([] ++ joinL [] (q :: r)) = _
    rw [this]; simp
theorem join0_len {ys : List Str} (h : ∀ y ∈ ys, y.length = 1) : (Str.join "" ys).length = ys.length := by
  rw [len_tl, tl_join]
  have e : tl ("" : Str) = [] := by decide +kernel
  rw [e, joinL_nil]
  induction ys with
  | nil => rfl
  | cons y ys ih =>
    have h1 := h y List.mem_cons_self
    have h2 := ih fun y hy => h y (List.mem_cons_of_mem _ hy)
    rw [len_tl] at h1
    simp only [List.map_cons, List.flatten_cons, List.length_append, List.length_cons, h1, h2]
    omega
theorem one_sign (c : Nat) : (⟨#[c]⟩ : Str).length = 1 := rfl
end L2
/-! tables: what their lines are -/
namespace Tb
open PySem L2 TL
def fr (m : Int) (s : Str) : Int := if s = ("r" : Str) then m else if s = ("c" : Str) then m / 2 else 0
def pad (t : Str) (w : Int) (s : Str) : Str := Txt.mul " " (fr (w - t.length) s) ++ t ++ Txt.mul " " (w - t.length - fr (w - t.length) s)
theorem fr_le {m : Int} {s : Str} (h : 0 ≤ m) : 0 ≤ fr m s ∧ fr m s ≤ m := by
  unfold fr
  split
  · omega
  · split <;> omega
theorem one_len : (Str.ofString " ").length = 1 := by decide +kernel
theorem pad_len {t : Str} {w : Int} {s : Str} (h : (t.length : Int) ≤ w) : (pad t w s).length = w.toNat := by
  have := fr_le (m := w - t.length) (s := s) (by omega)
  unfold pad
  rw [len_app, len_app, len_mul, len_mul, one_len]
  omega
theorem mul_zero (x : Str) : Txt.mul x 0 = Str.empty := rfl
theorem app_empty (x : Str) : x ++ Str.empty = x := by
  apply ext_tl; rw [tl_append]; exact List.append_nil _
theorem empty_app (x : Str) : Str.empty ++ x = x := by
  apply ext_tl; rw [tl_append]; rfl
theorem pad_full {t : Str} {w : Int} {s : Str} (h : (t.length : Int) = w) : pad t w s = t := by
  unfold pad
  have e : w - t.length = 0 := by omega
  have f : fr 0 s = 0 := by have := fr_le (m := 0) (s := s) (by omega); omega
  rw [e, f]
  show Txt.mul " " 0 ++ t ++ Txt.mul " " (0 - 0) = t
  rw [show (0 : Int) - 0 = 0 from rfl, mul_zero, empty_app, app_empty]
/-- the padded cells -/
def cell (cs : List Str) (ws : List Int) (ss : Str) (i : Nat) : Str := pad (cs.getD i Str.empty) (ws.getD i 0) ⟨#[(tl ss).getD i 0]⟩
def cells (cs : List Str) (ws : List Int) (ss : Str) (n : Nat) : List Str := (List.range n).map (cell cs ws ss)
theorem cells_succ (cs : List Str) (ws : List Int) (ss : Str) (n : Nat) : cells cs ws ss (n + 1) = cells cs ws ss n ++ [cell cs ws ss n] := by
  unfold cells; rw [List.range_succ, List.map_append]; rfl
def glue (ys : List Str) : Str := Str.join "  " ys
def trim (x : Str) : Str := Txt.rstripChars x " "
def line (cs : List Str) (ws : List Int) (ss : Str) : Str := trim (glue (cells cs ws ss cs.length))
def mx (ns : List Int) : Int := ns.foldl max 0
theorem foldl_max : ∀ (ns : List Int) (a : Int), a ≤ ns.foldl max a ∧ (∀ x ∈ ns, x ≤ ns.foldl max a) ∧ (ns.foldl max a = a ∨ ns.foldl max a ∈ ns)
  | [], a => ⟨Int.le_refl _, (fun _ h => nomatch h), .inl rfl⟩
  | n :: ns, a => by
    obtain ⟨h1, h2, h3⟩ := foldl_max ns (max a n)
    rw [List.foldl_cons]
    refine ⟨by omega, fun x hx => ?_, ?_⟩
    · rcases List.mem_cons.mp hx with rfl | hx
      · omega
      · exact h2 x hx
    · rcases h3 with e | e
      · rw [e]
        by_cases c : a ≤ n
        · exact .inr (by rw [Int.max_eq_right c]; exact List.mem_cons_self)
        · exact .inl (by omega)
      · exact .inr (List.mem_cons_of_mem _ e)
theorem mx_uniq {ns : List Int} {m : Int} (h : m ∈ ns) (hm : ∀ y ∈ ns, y ≤ m) (h0 : 0 ≤ m) : m = mx ns := by
  obtain ⟨h1, h2, h3⟩ := foldl_max ns 0
  unfold mx
  rcases h3 with e | e
  · have := h2 m h; omega
  · have := hm _ e; have := h2 m h; omega
theorem mx_ge {ns : List Int} {x : Int} (h : x ∈ ns) : x ≤ mx ns := (foldl_max ns 0).2.1 x h
theorem mx_le {ns : List Int} {b : Int} (h0 : 0 ≤ b) (h : ∀ x ∈ ns, x ≤ b) : mx ns ≤ b := by
  rcases (foldl_max ns 0).2.2 with e | e
  · unfold mx; omega
  · exact h _ e
theorem mx_nn (ns : List Int) : 0 ≤ mx ns := (foldl_max ns 0).1
/-- the numbers of signs in a column -/
def col (hs : List Str) (rs : List (List Str)) (i : Nat) : List Int := ((hs.getD i Str.empty).length : Int) :: rs.map fun r => ((r.getD i Str.empty).length : Int)
def widths (hs : List Str) (rs : List (List Str)) (n : Nat) : List Int := (List.range n).map fun i => mx (col hs rs i)
theorem widths_at {hs : List Str} {rs : List (List Str)} {n i : Nat} (h : i < n) : (widths hs rs n).getD i 0 = mx (col hs rs i) := by
  unfold widths
  rw [List.getD_eq_getElem?_getD, List.getElem?_map, List.getElem?_range h]; rfl
theorem widths_len (hs : List Str) (rs : List (List Str)) (n : Nat) : (widths hs rs n).length = n := by simp [widths]
theorem widths_succ (hs : List Str) (rs : List (List Str)) (n : Nat) : widths hs rs (n + 1) = widths hs rs n ++ [mx (col hs rs n)] := by
  unfold widths; rw [List.range_succ, List.map_append]; rfl
def dashes (ws : List Int) : List Str := ws.map fun w => Txt.mul "-" w
def table (hs : List Str) (rs : List (List Str)) (ss : Str) : List Str :=
  line hs (widths hs rs hs.length) ss :: trim (glue (dashes (widths hs rs hs.length))) :: rs.map fun r => line r (widths hs rs hs.length) ss
theorem dash_len : (Str.ofString "-").length = 1 := by decide +kernel
theorem dashes_line {ws : List Int} {ss : Str} (h : ∀ w ∈ ws, 0 ≤ w) : line (dashes ws) ws ss = trim (glue (dashes ws)) := by
  unfold line
  have : cells (dashes ws) ws ss (dashes ws).length = dashes ws := by
    apply List.ext_getElem?
    intro i
    unfold cells
    by_cases hi : i < (dashes ws).length
    · have hw : i < ws.length := by simpa [dashes] using hi
      rw [List.getElem?_map, List.getElem?_range hi]
      show some (pad ((dashes ws).getD i Str.empty) (ws.getD i 0) _) = _
      have e1 : (dashes ws).getD i Str.empty = Txt.mul "-" ws[i] := by simp [dashes, hw]
      have e2 : ws.getD i 0 = ws[i] := by simp [hw]
      have h0 := h ws[i] (List.getElem_mem hw)
      rw [e1, e2, pad_full (by rw [len_mul, dash_len]; omega)]
      simp [dashes, hw]
    · rw [List.getElem?_eq_none (by simpa using hi), List.getElem?_eq_none (by omega)]
  rw [this]
/-- what is wrong with the numbers of entries -/
def bad (hs : List Str) (rs : List (List Str)) (ss : Str) : Option Int :=
  if ss.length ≠ hs.length then some (ss.length : Int) else (rs.find? fun r => decide (r.length ≠ hs.length)).map fun r => (r.length : Int)
theorem bad_sides {hs : List Str} {rs : List (List Str)} {ss : Str} (h : ss.length ≠ hs.length) : bad hs rs ss = some (ss.length : Int) := if_pos h
theorem bad_none {hs : List Str} {rs : List (List Str)} {ss : Str} (h : ss.length = hs.length) (hr : ∀ r ∈ rs, r.length = hs.length) : bad hs rs ss = none := by
  unfold bad
  rw [if_neg (by simpa using h)]
  have : (rs.find? fun r => decide (r.length ≠ hs.length)) = none := by
    rw [List.find?_eq_none]
    intro r hr'
    simpa using hr r hr'
  rw [this]; rfl
theorem bad_row {hs : List Str} {rs : List (List Str)} {ss : Str} (h : ss.length = hs.length) {i : Nat} {r : List Str} (hi : rs[i]? = some r) (hr : r.length ≠ hs.length) (hp : ∀ j < i, ∀ r, rs[j]? = some r → r.length = hs.length) : bad hs rs ss = some (r.length : Int) := by
  unfold bad
  rw [if_neg (by simpa using h)]
  have : (rs.find? fun r => decide (r.length ≠ hs.length)) = some r := by
    rw [List.find?_eq_some_iff_getElem]
    obtain ⟨hlt, e⟩ := List.getElem?_eq_some_iff.mp hi
    refine ⟨by simpa using hr, i, hlt, e, fun j hj => ?_⟩
    have := hp j hj rs[j] (List.getElem?_eq_getElem (by omega))
    simpa using this
  rw [this]; rfl
end Tb
namespace Nk
open PySem L2
def topS (i : Nat) : Stmt := PySem.Challenge.pw_nightsoff_k78_tables.main.body.getD i (.Pass ⟨0, 0, 0, 0⟩)
/-- the pool: [a, b, c] -/
def poolO (a b c : Int) : HO := .lst [.int a, .int b, .int c]
def POk (b : Int) : Prop := 0 ≤ b ∧ b < 2147483648
def spPool (K : PySem.W.Frag) : Sp := fun vs H Q _ => ∃ (a : Addr) (ns : List Int) (i : Nat), vs = [.ref a, .int i] ∧ SqL K H a (ns.map V.int) ∧
  ∀ (r : Addr) (x y z : Int), H r = none → POk y → Q (.ref r) (upd H r (poolO x y z))
def spDraw : Sp := fun vs H Q _ => ∃ (p : Addr) (m a b c : Int), vs = [.ref p, .int m] ∧ 0 < m ∧ m.natAbs.log2 < 9000 ∧ H p = some (poolO a b c) ∧ POk b ∧
  ∀ (v a' b' c' : Int), 0 ≤ v → v < m → POk b' → Q (.int v) (upd H p (poolO a' b' c'))
theorem w_draw {F H : Hp} {L : List (Addr × HO)} {p : Addr} {m a b c : Int} {Q : VK} {E : XK} (w : W F L H) (i : Nat) (hi : L[i]? = some (p, poolO a b c)) (hb : POk b) (hm : 0 < m) (hM : m ≤ 1000000000000000000000000000000000000000000000000000000000000)
    (q : ∀ v a' b' c' H', 0 ≤ v → v < m → POk b' → But p H H' → W F (L.set i (p, poolO a' b' c')) H' → Q (.int v) H') : spDraw [.ref p, .int m] H Q E := by
  refine ⟨p, m, a, b, c, rfl, hm, log2_lt (n := 200) hm ?_ (by decide) (by decide), w.get i hi, hb, fun v a' b' c' h0 h1 h2 => q v a' b' c' _ h0 h1 h2 But.upd (w.upd i hi)⟩
  have : (1000000000000000000000000000000000000000000000000000000000000 : Int).toNat < 2 ^ 200 := by decide
  omega
def spInt (K : PySem.W.Frag) : Sp := fun vs H Q _ => ∃ (v : V) (d : PyData), vs = [v] ∧ Dp K H v d ∧ Q (.bl (match d with | .int _ => true | _ => false)) H
def spSame (K : PySem.W.Frag) : Nat → Sp
  | 0 => fun _ _ _ _ => False
  | n + 1 => fun vs H Q _ => ∃ (g d : V) (x y : PyData), vs = [g, d] ∧ Dp K H g x ∧ Dp K H d y ∧ fits n y ∧ Q (.bl (sm x y)) H
theorem getD_map {ns : List Int} {i : Nat} {x : V} (hx : (ns.map V.int)[i]? = some x) : i < ns.length ∧ x = .int (ns.getD i 0) := by
  have hi : i < ns.length := by have := (List.getElem?_eq_some_iff.mp hx).1; simpa using this
  refine ⟨hi, ?_⟩
  rw [List.getElem?_map, List.getElem?_eq_getElem hi] at hx
  simp [hi] at hx ⊢
  exact hx.symm
end Nk
namespace Nk
open PySem L2
local macro_rules | `(tactic| walk_at "s") => `(tactic| try simp (decide := true) only [L2.cxK, L2.s_seq, L2.s_next, L2.s_brk, L2.s_cont, L2.s_drop, L2.s_ret, L2.s_retN, L2.s_ifS, L2.s_br1, L2.s_br0, L2.s_asg, L2.s_asI, L2.s_asB, L2.s_asN, L2.s_asS, L2.s_asR, L2.s_gName, L2.s_gSub, L2.s_var, L2.s_C, L2.s_op, L2.s_un, L2.s_chain, L2.s_test, L2.s_B, L2.s_and, L2.s_aB1, L2.s_aB0, L2.s_or, L2.s_oB1, L2.s_oB0, L2.s_not, L2.s_andV, L2.s_aE1, L2.s_aE0, L2.s_orV, L2.s_oE1, L2.s_oE0, L2.s_notV, L2.s_nE, L2.s_if, L2.s_iE1, L2.s_iE0, L2.s_tr, L2.s_trB, L2.s_trI, L2.s_trN, L2.s_nil, L2.s_cons, L2.s_CB, L2.s_call, L2.s_callS, L2.s_sl, L2.s_part, L2.s_noPart, L2.s_lst, L2.s_mk, L2.s_xf, L2.s_for, L2.s_lc, L2.s_rng1, L2.s_rng2, L2.s_rng3, L2.s_enum, L2.s_zip, L2.s_zip3, L2.s_yes, L2.s_seqI, L2.s_tup, L2.s_BM, L2.s_BM0, L2.v_addI, L2.v_subI, L2.v_mulI, L2.v_divI, L2.v_modI, L2.v_powI, L2.v_negI, L2.v_cmp, L2.v_eqI, L2.v_eqS, L2.v_neS, L2.v_neI, L2.v_isN, L2.v_isB, L2.v_isnotN, L2.v_isnotB, L2.v_int, L2.v_abs, L2.v_max2, L2.v_min2, L2.le_line, List.set_cons_succ, List.set_cons_zero, List.getElem?_cons_succ, List.getElem?_cons_zero, Option.some.injEq, exists_eq_left', V.bl.injEq, V.int.injEq, true_and, and_true, Bool.not_true, Bool.not_false, if_true, if_false, Bool.false_eq_true, List.append_nil, reduceCtorEq, decide_true, decide_false, ne_eq, not_false_eq_true, Int.reduceToNat, Int.reducePow, Int.reduceMul, Int.reduceAdd, Int.reduceSub, Int.reduceNeg, Nat.reduceAdd, List.length_cons, List.length_nil, List.nil_append, List.cons_append])
section
variable {P : Program} {w : World} {K : PySem.W.Frag} {mg : Str → Option Value} {base : Heap}
abbrev s__law_pool : Stmt := topS 10
theorem sc__law_pool : FnScope (["script", "at", "cell"] : List Str) (["script", "at"] : List Str) (defScope s__law_pool) := ⟨rfl, rfl, rfl, by decide +kernel, rfl, by decide +kernel, by decide +kernel⟩
theorem ok__law_pool {f : Addr} {fd : FuncData} (F : Fun K "_law_pool" "_law_pool" s__law_pool f fd) (B : Blt mg) : FnOk P w K mg base (L2.CX P w) 1 f fd (["script", "at"] : List Str) (spPool K) := by
  refine F.okX sc__law_pool (fun vs H Q E h => ?_) (fun cdv A outer s H vs Q E hr h => ?_)
  · obtain ⟨a, ns, i, rfl, _⟩ := h; rfl
  · have nd := sc__law_pool.nd
    have hu := hr.units
    refine ⟨_, by exact (pss_cons (ps_st 2 nd pe_int)
        (pss_cons (ps_if (pt_cmpR oa_lt (pv 1) (pe_callB ca_len (by rfl) B.len bt_len (pa_cons (pv 0) pa_nil)) (nomark _))
        (pss_one (ps_st 2 nd (pe_callB ca_abs (by rfl) B.abs bt_abs (pa_cons (pe_ix oa_ix (pv 0) (pv 1) (fun _ _ => rfl)) pa_nil))))
        pss_nil)
        (pss_cons (ps_if (pt_cmpR oa_ge (pv 2) (pe_op oa_pow pe_int pe_int) (nomark _))
        (pss_one (ps_ret (pe_lst (pa_cons (pe_op oa_sub (pv 2) (pe_op oa_pow pe_int pe_int)) (pa_cons pe_int (pa_cons pe_int pa_nil))))))
        pss_nil)
        (pss_one (ps_ret (pe_lst (pa_cons (pe_un oa_neg pe_int) (pa_cons (pe_op oa_mod (pe_callTy ca_int (by rfl) B.int bt_int (pa_cons (pv 2) pa_nil)) pe_int) (pa_cons (pe_op oa_add (pv 1) pe_int) pa_nil))))))))), ?_⟩
    obtain ⟨a, ns, i, rfl, hS, k⟩ := h
    show (tSeq _ _) _ [some (.ref a), some (.int i), none] H
    walk_at "s"
    refine w_lenL hS ?_
    walk_at "s"
    have fin : ∀ z : Int, (0 ≤ z % 2147483399 ∧ z % 2147483399 < 2147483648) := fun z => by omega
    refine w_br (fun c => ?_) (fun c => ?_)
    · walk_at "s"
      refine w_ixL hS (atI_int (by omega) (by simpa using c)) ?_
      walk_at "s"
      refine w_br (fun c => ?_) (fun c => ?_) <;> walk_at "s"
      · exact fun r hr => k r _ _ _ hr ⟨by decide, by decide⟩
      · exact fun r hr => k r _ _ _ hr (fin _)
    · walk_at "s"
      exact fun r hr => k r _ _ _ hr (fin _)
abbrev s__law_draw : Stmt := topS 11
theorem sc__law_draw : FnScope (["pool", "many", "value", "mixed"] : List Str) (["pool", "many"] : List Str) (defScope s__law_draw) := ⟨rfl, rfl, rfl, by decide +kernel, rfl, by decide +kernel, by decide +kernel⟩
theorem ok__law_draw {f : Addr} {fd : FuncData} (F : Fun K "_law_draw" "_law_draw" s__law_draw f fd) (B : Blt mg) : FnOk P w K mg base (L2.CX P w) 1 f fd (["pool", "many"] : List Str) spDraw := by
  refine F.okX sc__law_draw (fun vs H Q E h => ?_) (fun cdv A outer s H vs Q E hr h => ?_)
  · obtain ⟨p, m, a, b, c, rfl, _⟩ := h; rfl
  · have nd := sc__law_draw.nd
    have hu := hr.units
    refine ⟨_, by exact (pss_cons (ps_if (pt_cmpR oa_ge (pe_ix oa_ix (pv 0) pe_int (fun _ _ => rfl)) pe_int (nomark _))
        (pss_cons (ps_st 2 nd (pe_op oa_mod (pe_callTy ca_int (by rfl) B.int bt_int (pa_cons (pe_ix oa_ix (pv 0) pe_int (fun _ _ => rfl)) pa_nil)) (pv 1)))
        (pss_cons (ps_asg (pe_op oa_div (pe_ix oa_ix (pv 0) pe_int (fun _ _ => rfl)) (pv 1)) (pg_sub (pv 0) pe_int set_list))
        (pss_one (ps_ret (pv 2)))))
        pss_nil)
        (pss_cons (ps_asg (pe_op oa_add (pe_ix oa_ix (pv 0) pe_int (fun _ _ => rfl)) pe_int) (pg_sub (pv 0) pe_int set_list))
        (pss_cons (ps_st 3 nd (pe_ix oa_ix (pv 0) pe_int (fun _ _ => rfl)))
        (pss_cons (ps_st 3 nd (pe_op oa_mod (pe_callTy ca_int (by rfl) B.int bt_int (pa_cons (pe_op oa_add (pe_op oa_add (pe_op oa_mul (pv 3) (pv 3)) (pe_op oa_mul (pe_ix oa_ix (pv 0) pe_int (fun _ _ => rfl)) pe_int)) pe_int) pa_nil)) pe_int))
        (pss_cons (ps_st 3 nd (pe_op oa_mod (pe_callTy ca_int (by rfl) B.int bt_int (pa_cons (pe_op oa_add (pe_op oa_mul (pv 3) (pv 3)) (pe_op oa_div (pv 3) pe_int)) pa_nil)) pe_int))
        (pss_cons (ps_asg (pv 3) (pg_sub (pv 0) pe_int set_list))
        (pss_one (ps_ret (pe_op oa_mod (pe_callTy ca_int (by rfl) B.int bt_int (pa_cons (pe_op oa_div (pv 3) pe_int) pa_nil)) (pv 1)))))))))), ?_⟩
    obtain ⟨p, m, a, b, c, rfl, hm, h9, hp, hb, k⟩ := h
    have hS : SqL K H p [.int a, .int b, .int c] := SqL.of hp
    show (tSeq _ _) _ [some (.ref p), some (.int m), none, none] H
    walk_at "s"
    refine w_ixL hS (w := .int a) rfl ?_
    walk_at "s"
    refine w_br (fun c0 => ?_) (fun c0 => ?_)
    · walk_at "s"
      refine w_ixL hS (w := .int a) rfl ?_
      walk_at "s"
      rw [v_modI hm]
      walk_at "s"
      refine w_ixL hS (w := .int a) rfl ?_
      walk_at "s"
      rw [v_divI hm h9]
      walk_at "s"
      refine w_set hp (jj := 0) rfl ?_
      walk_at "s"
      exact k _ _ _ _ (Int.emod_nonneg _ (by omega)) (Int.emod_lt_of_pos _ hm) hb
    · walk_at "s"
      refine w_ixL hS (w := .int _) rfl ?_
      walk_at "s"
      refine w_set hp (jj := 2) rfl ?_
      walk_at "s"
      refine w_ixL (SqL.of upd_same) (w := .int _) rfl ?_
      walk_at "s"
      refine ⟨mulokL (by have := hb.1; have := hb.2; omega), ?_⟩
      walk_at "s"
      refine w_ixL (SqL.of upd_same) (w := .int _) rfl ?_
      walk_at "s"
      refine ⟨mulokR (by decide), ?_⟩
      walk_at "s"
      have h1 : ∀ z : Int, 0 ≤ z % 2147483399 ∧ z % 2147483399 < 2147483399 := fun z => by omega
      have h2 : ∀ z : Int, 0 ≤ z % 2147483629 ∧ z % 2147483629 < 2147483629 := fun z => by omega
      obtain ⟨h3, h4⟩ := h1 (b * b + (c + 1) * 3571 + 40692)
      generalize (b * b + (c + 1) * 3571 + 40692) % 2147483399 = d at h3 h4 ⊢
      refine ⟨mulokL (by omega), ?_⟩
      walk_at "s"
      obtain ⟨h5, h6⟩ := h2 (d * d + d / 97)
      generalize (d * d + d / 97) % 2147483629 = e at h5 h6 ⊢
      refine w_set upd_same (jj := 1) rfl ?_
      walk_at "s"
      rw [v_modI hm, upd_upd]
      exact k _ _ _ _ (Int.emod_nonneg _ (by omega)) (Int.emod_lt_of_pos _ hm) ⟨h5, by omega⟩
end
end Nk
namespace Nk
open PySem L2
local macro_rules | `(tactic| walk_at "s") => `(tactic| try simp (decide := true) only [L2.cxK, L2.s_seq, L2.s_next, L2.s_brk, L2.s_cont, L2.s_drop, L2.s_ret, L2.s_retN, L2.s_ifS, L2.s_br1, L2.s_br0, L2.s_asg, L2.s_asI, L2.s_asB, L2.s_asN, L2.s_asS, L2.s_asR, L2.s_gName, L2.s_gSub, L2.s_var, L2.s_C, L2.s_op, L2.s_un, L2.s_chain, L2.s_test, L2.s_B, L2.s_and, L2.s_aB1, L2.s_aB0, L2.s_or, L2.s_oB1, L2.s_oB0, L2.s_not, L2.s_andV, L2.s_aE1, L2.s_aE0, L2.s_orV, L2.s_oE1, L2.s_oE0, L2.s_notV, L2.s_nE, L2.s_if, L2.s_iE1, L2.s_iE0, L2.s_tr, L2.s_trB, L2.s_trI, L2.s_trN, L2.s_nil, L2.s_cons, L2.s_CB, L2.s_call, L2.s_callS, L2.s_sl, L2.s_part, L2.s_noPart, L2.s_lst, L2.s_mk, L2.s_xf, L2.s_for, L2.s_lc, L2.s_rng1, L2.s_rng2, L2.s_rng3, L2.s_enum, L2.s_zip, L2.s_zip3, L2.s_yes, L2.s_seqI, L2.s_tup, L2.s_BM, L2.s_BM0, L2.v_addI, L2.v_subI, L2.v_mulI, L2.v_divI, L2.v_modI, L2.v_powI, L2.v_negI, L2.v_cmp, L2.v_eqI, L2.v_eqS, L2.v_neS, L2.v_neI, L2.v_isN, L2.v_isB, L2.v_isnotN, L2.v_isnotB, L2.v_int, L2.v_abs, L2.v_max2, L2.v_min2, L2.le_line, List.set_cons_succ, List.set_cons_zero, List.getElem?_cons_succ, List.getElem?_cons_zero, Option.some.injEq, exists_eq_left', V.bl.injEq, V.int.injEq, true_and, and_true, Bool.not_true, Bool.not_false, if_true, if_false, Bool.false_eq_true, List.append_nil, reduceCtorEq, decide_true, decide_false, ne_eq, not_false_eq_true, Int.reduceToNat, Int.reducePow, Int.reduceMul, Int.reduceAdd, Int.reduceSub, Int.reduceNeg, Nat.reduceAdd, List.length_cons, List.length_nil, List.nil_append, List.cons_append])
section
variable {P : Program} {w : World} {K : PySem.W.Frag} {mg : Str → Option Value} {base : Heap}
abbrev s__law_int : Stmt := topS 12
theorem sc__law_int : FnScope (["x"] : List Str) (["x"] : List Str) (defScope s__law_int) := ⟨rfl, rfl, rfl, by decide +kernel, rfl, by decide +kernel, by decide +kernel⟩
theorem ok__law_int {f : Addr} {fd : FuncData} (F : Fun K "_law_int" "_law_int" s__law_int f fd) (B : Blt mg) : FnOk P w K mg base (L2.CX P w) 1 f fd (["x"] : List Str) (spInt K) := by
  refine F.okX sc__law_int (fun vs H Q E h => ?_) (fun cdv A outer s H vs Q E hr h => ?_)
  · obtain ⟨v, d, rfl, _⟩ := h; rfl
  · have nd := sc__law_int.nd
    have hu := hr.units
    refine ⟨_, by exact (pss_one (ps_ret (pe_and (pe_callB call_isi (by rfl) B.isinstance bt_isinstance (pa_cons (pv 0) (pa_cons (pe_bltn (v := .ty "int") (by rfl) B.int bt_int rfl) pa_nil))) (pe_one (pe_not (pe_callB call_isi (by rfl) B.isinstance bt_isinstance (pa_cons (pv 0) (pa_cons (pe_bltn (v := .ty "bool") (by rfl) B.bool bt_bool rfl) pa_nil)))))))), ?_⟩
    obtain ⟨v, d, rfl, hd, k⟩ := h
    show (tRet _) _ [some v] H
    walk_at "s"
    refine isi_int hd ?_
    refine w_aEB (fun c => ?_) (fun c => ?_) <;> walk_at "s"
    · refine isi_bool hd ?_
      walk_at "s"
      cases d <;> first
        | exact k
        | cases c
    · cases d <;> first
        | exact k
        | cases c
abbrev s__law_same : Stmt := topS 13
theorem sc__law_same : FnScope (["got", "due", "place"] : List Str) (["got", "due"] : List Str) (defScope s__law_same) := ⟨rfl, rfl, rfl, by decide +kernel, rfl, by decide +kernel, by decide +kernel⟩
theorem ok__law_same {f : Addr} {fd : FuncData} (F : Fun K "_law_same" "_law_same" s__law_same f fd) (B : Blt mg) {n : Nat} (C__law_int : FnAt P w K mg base 1 "_law_int" ["x"] (spInt K)) (C__law_same : FnAt P w K mg base (n + 2) "_law_same" ["got", "due"] (spSame K n)) : FnOk P w K mg base (L2.CX P w) (n + 3) f fd (["got", "due"] : List Str) (spSame K (n + 1)) := by
  refine F.okX sc__law_same (fun vs H Q E h => ?_) (fun cdv A outer s H vs Q E hr h => ?_)
  · obtain ⟨g, d, x, y, rfl, _⟩ := h; rfl
  · have nd := sc__law_same.nd
    have hu := hr.units
    refine ⟨_, by exact (pss_cons (ps_if (pt_cmpR oa_is (pv 1) pe_non (nomark _))
        (pss_one (ps_ret (pe_cmpR oa_is (pv 0) pe_non (nomark _))))
        pss_nil)
        (pss_cons (ps_if (pt_cmpR oa_is (pv 1) pe_bl (nomark _))
        (pss_one (ps_ret (pe_cmpR oa_is (pv 0) pe_bl (nomark _))))
        pss_nil)
        (pss_cons (ps_if (pt_cmpR oa_is (pv 1) pe_bl (nomark _))
        (pss_one (ps_ret (pe_cmpR oa_is (pv 0) pe_bl (nomark _))))
        pss_nil)
        (pss_cons (ps_if (pt_tr (pe_callB call_isi (by rfl) B.isinstance bt_isinstance (pa_cons (pv 1) (pa_cons (pe_bltn (v := .ty "int") (by rfl) B.int bt_int rfl) pa_nil))))
        (pss_one (ps_ret (pe_and (pe_fn C__law_int (hr.mono (by first | decide | omega)) passL (pa_cons (pv 0) pa_nil)) (pe_one (pe_cmpR (oa_eq hu) (pv 0) (pv 1) (nomark _))))))
        pss_nil)
        (pss_cons (ps_if (pt_tr (pe_callB call_isi (by rfl) B.isinstance bt_isinstance (pa_cons (pv 1) (pa_cons (pe_bltn (v := .ty "str") (by rfl) B.str bt_str rfl) pa_nil))))
        (pss_one (ps_ret (pe_and (pe_callB call_isi (by rfl) B.isinstance bt_isinstance (pa_cons (pv 0) (pa_cons (pe_bltn (v := .ty "str") (by rfl) B.str bt_str rfl) pa_nil))) (pe_one (pe_cmpR (oa_eq hu) (pv 0) (pv 1) (nomark _))))))
        pss_nil)
        (pss_cons (ps_if (pt_tr (pe_callB call_isi (by rfl) B.isinstance bt_isinstance (pa_cons (pv 1) (pa_cons (pe_bltn (v := .ty "tuple") (by rfl) B.tuple bt_tuple rfl) pa_nil))))
        (pss_one (ps_if (PW.pt (pw_or (pt_not (pt_tr (pe_callB call_isi (by rfl) B.isinstance bt_isinstance (pa_cons (pv 0) (pa_cons (pe_bltn (v := .ty "tuple") (by rfl) B.tuple bt_tuple rfl) pa_nil))))) (pw_or1 (pt_cmpR (oa_ne hu) (pe_callB ca_len (by rfl) B.len bt_len (pa_cons (pv 0) pa_nil)) (pe_callB ca_len (by rfl) B.len bt_len (pa_cons (pv 1) pa_nil)) (nomark _)))))
        (pss_one (ps_ret pe_bl))
        pss_nil))
        (pss_one (ps_if (PW.pt (pw_or (pt_not (pt_tr (pe_callB call_isi (by rfl) B.isinstance bt_isinstance (pa_cons (pv 0) (pa_cons (pe_bltn (v := .ty "list") (by rfl) B.list bt_list rfl) pa_nil))))) (pw_or1 (pt_cmpR (oa_ne hu) (pe_callB ca_len (by rfl) B.len bt_len (pa_cons (pv 0) pa_nil)) (pe_callB ca_len (by rfl) B.len bt_len (pa_cons (pv 1) pa_nil)) (nomark _)))))
        (pss_one (ps_ret pe_bl))
        pss_nil)))
        (pss_cons (ps_for (passes_of rfl) rfl (pi_range1 rfl B.range (pa_cons (pe_callB ca_len (by rfl) B.len bt_len (pa_cons (pv 1) pa_nil)) pa_nil)) (pg_n 2 nd)
        (pss_one (ps_if (pt_not (pt_tr (pe_fn C__law_same (hr.mono (by first | decide | omega)) passL (pa_cons (pe_ix oa_ix (pv 0) (pv 2) (fun _ _ => rfl)) (pa_cons (pe_ix oa_ix (pv 1) (pv 2) (fun _ _ => rfl)) pa_nil)))))
        (pss_one (ps_ret pe_bl))
        pss_nil)))
        (pss_one (ps_ret pe_bl))))))))), ?_⟩
    obtain ⟨g, d, x, y, rfl, hg, hd, hf, k⟩ := h
    show (tSeq _ _) _ [some g, some d, none] H
    walk_at "s"
    cases hd with
    | non =>
      refine w_br (fun _ => ?_) (fun c => absurd rfl c)
      walk_at "s"
      cases hg <;> exact k
    | bl b =>
      walk_at "s"
      cases b with
      | true =>
        walk_at "s"
        cases hg with
        | bl b => cases b <;> exact k
        | _ => exact k
      | false =>
        walk_at "s"
        cases hg with
        | bl b => cases b <;> exact k
        | _ => exact k
    | int i =>
      walk_at "s"
      refine isi_int (.int i) ?_
      simp only [isInt]
      walk_at "s"
      refine ⟨g, x, rfl, hg, ?_⟩
      cases hg with
      | int j =>
        walk_at "s"
        exact k
      | _ => walk_at "s"; exact k
    | str i =>
      walk_at "s"
      refine isi_int (.str i) ?_
      simp only [isInt]
      walk_at "s"
      refine isi_str (.str i) ?_
      simp only [isStr]
      walk_at "s"
      refine isi_str hg ?_
      cases hg with
      | str j =>
        simp only [isStr]
        walk_at "s"
        rw [sm] at k
        have e : decide (j = i) = (j == i) := by
          rw [Bool.eq_iff_iff]; simp
        rw [e]
        exact k
      | _ =>
        simp only [isStr]
        walk_at "s"
        exact k
    | @lst da dvs ds h1 h2 =>
      cases n with
      | zero => exact hf.elim
      | succ n =>
      obtain ⟨hz, hfs⟩ := hf
      walk_at "s"
      refine isi_int (.lst h1 h2) ?_
      simp only [isInt]
      walk_at "s"
      refine isi_str (.lst h1 h2) ?_
      simp only [isStr]
      walk_at "s"
      refine isi_tuple (.lst h1 h2) ?_
      simp only [isTuple]
      walk_at "s"
      refine isi_list hg ?_
      cases hg with
      | @lst ga gvs gs g1 g1' =>
        simp only [isList]
        walk_at "s"
        refine w_lenL g1 ?_
        refine w_lenL h1 ?_
        walk_at "s"
        have l1 := g1'.length
        have l2 := h2.length
        refine w_brN (fun c => ?_) (fun c => ?_)
        · walk_at "s"
          have e : sm (.list gs) (.list ds) = false := by
            rw [sm, Bool.eq_false_iff]
            intro z
            have := smL_len z
            omega
          rw [← e]; exact k
        · have hlen : gs.length = ds.length := by omega
          walk_at "s"
          refine w_lenL h1 ?_
          refine w_rg1 (by omega) (by omega) ?_
          refine w_forR (fun i σ H' => H' = H ∧ (∃ v, σ = [some (.ref ga), some (.ref da), v]) ∧ ∀ j < i, sm (gs.getD j .none) (ds.getD j .none) = true) ⟨rfl, ⟨_, rfl⟩, fun j hj => absurd hj (Nat.not_lt_zero _)⟩ ?_ ?_
          · rintro i σ H' hi ⟨rfl, ⟨v, rfl⟩, hall⟩
            have hi' : i < ds.length := by omega
            walk_at "s"
            obtain ⟨gv, e1, gd⟩ := g1'.get (i := i) (d := gs.getD i .none) (by rw [List.getD_eq_getElem?_getD, List.getElem?_eq_getElem (by omega)]; rfl)
            obtain ⟨dv, e2, dd⟩ := h2.get (i := i) (d := ds.getD i .none) (by rw [List.getD_eq_getElem?_getD, List.getElem?_eq_getElem (by omega)]; rfl)
            refine w_ixL g1 (at_of (by omega) e1) ?_
            refine w_ixL h1 (at_of (by omega) e2) ?_
            have hfi : fits n (ds.getD i .none) := hfs _ (by rw [List.getD_eq_getElem?_getD, List.getElem?_eq_getElem hi']; exact List.getElem_mem hi')
            refine ⟨gv, dv, _, _, rfl, gd, dd, hfi, ?_⟩
            walk_at "s"
            refine w_brNB (fun c => ?_) (fun c => ?_) <;> walk_at "s"
            · have e : sm (.list gs) (.list ds) = false := by
                rw [sm, smL_all hlen, Bool.eq_false_iff]
                intro z
                rw [List.all_eq_true] at z
                rw [z i (List.mem_range.mpr hi')] at c
                cases c
              rw [← e]; exact k
            · refine ⟨⟨_, rfl⟩, fun j hj => ?_⟩
              by_cases hj' : j = i
              · subst hj'; exact c
              · exact hall j (by omega)
          · rintro σ H' ⟨rfl, ⟨v, rfl⟩, hall⟩
            walk_at "s"
            have e : sm (.list gs) (.list ds) = true := by
              rw [sm, smL_all hlen, List.all_eq_true]
              intro j hj
              have := List.mem_range.mp hj
              exact hall j (by omega)
            rw [← e]; exact k
      | _ =>
        simp only [isList]
        walk_at "s"
        exact k
    | @tup da dvs ds h1 h2 =>
      cases n with
      | zero => exact hf.elim
      | succ n =>
      obtain ⟨hz, hfs⟩ := hf
      walk_at "s"
      refine isi_int (.tup h1 h2) ?_
      simp only [isInt]
      walk_at "s"
      refine isi_str (.tup h1 h2) ?_
      simp only [isStr]
      walk_at "s"
      refine isi_tuple (.tup h1 h2) ?_
      simp only [isTuple]
      walk_at "s"
      refine isi_tuple hg ?_
      cases hg with
      | @tup ga gvs gs g1 g1' =>
        simp only [isTuple]
        walk_at "s"
        refine w_lenT g1 ?_
        refine w_lenT h1 ?_
        walk_at "s"
        have l1 := g1'.length
        have l2 := h2.length
        refine w_brN (fun c => ?_) (fun c => ?_)
        · walk_at "s"
          have e : sm (.tuple gs) (.tuple ds) = false := by
            rw [sm, Bool.eq_false_iff]
            intro z
            have := smL_len z
            omega
          rw [← e]; exact k
        · have hlen : gs.length = ds.length := by omega
          walk_at "s"
          refine w_lenT h1 ?_
          refine w_rg1 (by omega) (by omega) ?_
          refine w_forR (fun i σ H' => H' = H ∧ (∃ v, σ = [some (.ref ga), some (.ref da), v]) ∧ ∀ j < i, sm (gs.getD j .none) (ds.getD j .none) = true) ⟨rfl, ⟨_, rfl⟩, fun j hj => absurd hj (Nat.not_lt_zero _)⟩ ?_ ?_
          · rintro i σ H' hi ⟨rfl, ⟨v, rfl⟩, hall⟩
            have hi' : i < ds.length := by omega
            walk_at "s"
            obtain ⟨gv, e1, gd⟩ := g1'.get (i := i) (d := gs.getD i .none) (by rw [List.getD_eq_getElem?_getD, List.getElem?_eq_getElem (by omega)]; rfl)
            obtain ⟨dv, e2, dd⟩ := h2.get (i := i) (d := ds.getD i .none) (by rw [List.getD_eq_getElem?_getD, List.getElem?_eq_getElem (by omega)]; rfl)
            refine w_ixT g1 (at_of (by omega) e1) ?_
            refine w_ixT h1 (at_of (by omega) e2) ?_
            have hfi : fits n (ds.getD i .none) := hfs _ (by rw [List.getD_eq_getElem?_getD, List.getElem?_eq_getElem hi']; exact List.getElem_mem hi')
            refine ⟨gv, dv, _, _, rfl, gd, dd, hfi, ?_⟩
            walk_at "s"
            refine w_brNB (fun c => ?_) (fun c => ?_) <;> walk_at "s"
            · have e : sm (.tuple gs) (.tuple ds) = false := by
                rw [sm, smL_all hlen, Bool.eq_false_iff]
                intro z
                rw [List.all_eq_true] at z
                rw [z i (List.mem_range.mpr hi')] at c
                cases c
              rw [← e]; exact k
            · refine ⟨⟨_, rfl⟩, fun j hj => ?_⟩
              by_cases hj' : j = i
              · subst hj'; exact c
              · exact hall j (by omega)
          · rintro σ H' ⟨rfl, ⟨v, rfl⟩, hall⟩
            walk_at "s"
            have e : sm (.tuple gs) (.tuple ds) = true := by
              rw [sm, smL_all hlen, List.all_eq_true]
              intro j hj
              have := List.mem_range.mp hj
              exact hall j (by omega)
            rw [← e]; exact k
      | _ =>
        simp only [isTuple]
        walk_at "s"
        exact k

end
end Nk
namespace Nk
open PySem L2 TL
open Tb
local macro_rules | `(tactic| walk_at "s") => `(tactic| try simp (decide := true) only [L2.cxK, L2.s_seq, L2.s_next, L2.s_brk, L2.s_cont, L2.s_drop, L2.s_ret, L2.s_retN, L2.s_ifS, L2.s_br1, L2.s_br0, L2.s_asg, L2.s_asI, L2.s_asB, L2.s_asN, L2.s_asS, L2.s_asR, L2.s_gName, L2.s_gSub, L2.s_var, L2.s_C, L2.s_op, L2.s_un, L2.s_chain, L2.s_test, L2.s_B, L2.s_and, L2.s_aB1, L2.s_aB0, L2.s_or, L2.s_oB1, L2.s_oB0, L2.s_not, L2.s_andV, L2.s_aE1, L2.s_aE0, L2.s_orV, L2.s_oE1, L2.s_oE0, L2.s_notV, L2.s_nE, L2.s_if, L2.s_iE1, L2.s_iE0, L2.s_tr, L2.s_trB, L2.s_trI, L2.s_trN, L2.s_nil, L2.s_cons, L2.s_CB, L2.s_call, L2.s_callS, L2.s_sl, L2.s_part, L2.s_noPart, L2.s_lst, L2.s_mk, L2.s_xf, L2.s_for, L2.s_lc, L2.s_rng1, L2.s_rng2, L2.s_rng3, L2.s_enum, L2.s_zip, L2.s_zip3, L2.s_yes, L2.s_seqI, L2.s_tup, L2.s_BM, L2.s_BM0, L2.v_addI, L2.v_subI, L2.v_mulI, L2.v_divI, L2.v_modI, L2.v_powI, L2.v_negI, L2.v_cmp, L2.v_eqI, L2.v_eqS, L2.v_neS, L2.v_neI, L2.v_isN, L2.v_isB, L2.v_isnotN, L2.v_isnotB, L2.v_int, L2.v_abs, L2.v_max2, L2.v_min2, L2.le_line, List.set_cons_succ, List.set_cons_zero, List.getElem?_cons_succ, List.getElem?_cons_zero, Option.some.injEq, exists_eq_left', V.bl.injEq, V.int.injEq, true_and, and_true, Bool.not_true, Bool.not_false, if_true, if_false, Bool.false_eq_true, List.append_nil, reduceCtorEq, decide_true, decide_false, ne_eq, not_false_eq_true, Int.reduceToNat, Int.reducePow, Int.reduceMul, Int.reduceAdd, Int.reduceSub, Int.reduceNeg, Nat.reduceAdd, List.length_cons, List.length_nil, List.nil_append, List.cons_append])

def spPad : Sp := fun vs H Q _ => ∃ (t s : Str) (w : Int), vs = [.str t, .int w, .str s] ∧ (t.length : Int) ≤ w ∧ w ≤ 200 ∧ Q (.str (pad t w s)) H
def spJoin (K : PySem.W.Frag) : Sp := fun vs H Q _ => ∃ (p : Addr) (ys : List Str), vs = [.ref p] ∧ SqL K H p (ys.map V.str) ∧ ys.length ≤ 100 ∧ (∀ y ∈ ys, y.length ≤ 200) ∧ Q (.str (trim (glue ys))) H
def spLine (K : PySem.W.Frag) : Sp := fun vs H Q _ => ∃ (p q : Addr) (cs : List Str) (ws : List Int) (ss : Str), vs = [.ref p, .ref q, .str ss] ∧ SqL K H p (cs.map V.str) ∧ SqL K H q (ws.map V.int) ∧ ws.length = cs.length ∧ ss.length = cs.length ∧ cs.length ≤ 100 ∧
  (∀ i, i < cs.length → ((cs.getD i Str.empty).length : Int) ≤ ws.getD i 0 ∧ ws.getD i 0 ≤ 200) ∧ ∀ H', Same H H' → Q (.str (line cs ws ss)) H'
theorem glue_len {ys : List Str} (h1 : ys.length ≤ 100) (h2 : ∀ y ∈ ys, y.length ≤ 200) : (glue ys).length ≤ 100000 := by
  have := StrLaws.join_length_le "  " ys
  have e : (Str.ofString "  ").length = 2 := by decide +kernel
  rw [e] at this
  have s : (ys.map (·.length)).sum ≤ ys.length * 200 := by
    clear this h1
    induction ys with
    | nil => simp
    | cons y ys ih =>
      have h1 := h2 y List.mem_cons_self
      have h2 := ih fun y hy => h2 y (List.mem_cons_of_mem _ hy)
      simp only [List.map_cons, List.sum_cons, List.length_cons, Nat.succ_mul]
      omega
  unfold glue
  omega
theorem line_le (n : Nat) (h : n ≤ 100000) : n ≤ sizeLine := Nat.le_of_lt (small1000' h)
theorem getS {cs : List Str} {i : Nat} {x : V} (h : (cs.map V.str)[i]? = some x) : i < cs.length ∧ x = .str (cs.getD i Str.empty) := by
  have hi : i < cs.length := by have := (List.getElem?_eq_some_iff.mp h).1; simpa using this
  refine ⟨hi, ?_⟩
  rw [List.getElem?_map, List.getElem?_eq_getElem hi] at h
  simp [hi] at h ⊢
  exact h.symm
section
variable {P : Program} {w : World} {K : PySem.W.Frag} {mg : Str → Option Value} {base : Heap}
abbrev s_padded : Stmt := topS 7
theorem sc_padded : FnScope (["cell", "width", "side", "spaces", "before"] : List Str) (["cell", "width", "side"] : List Str) (defScope s_padded) := ⟨rfl, rfl, rfl, by decide +kernel, rfl, by decide +kernel, by decide +kernel⟩
theorem ok_padded {f : Addr} {fd : FuncData} (F : Fun K "padded" "padded" s_padded f fd) (B : Blt mg) : FnOk P w K mg base (L2.CX P w) 1 f fd (["cell", "width", "side"] : List Str) spPad := by
  refine F.okX sc_padded (fun vs H Q E h => ?_) (fun cdv A outer s H vs Q E hr h => ?_)
  · obtain ⟨t, s, w, rfl, _⟩ := h; rfl
  · have nd := sc_padded.nd
    have hu := hr.units
    refine ⟨_, by exact (pss_cons (ps_st 3 nd (pe_op oa_sub (pv 1) (pe_callB ca_len (by rfl) B.len bt_len (pa_cons (pv 0) pa_nil))))
        (pss_cons (ps_st 4 nd pe_int)
        (pss_cons (ps_if (pt_cmpR (oa_eq hu) (pv 2) pe_str (nomark _))
        (pss_one (ps_st 4 nd (pv 3)))
        (pss_one (ps_if (pt_cmpR (oa_eq hu) (pv 2) pe_str (nomark _))
        (pss_one (ps_st 4 nd (pe_op oa_div (pv 3) pe_int)))
        pss_nil)))
        (pss_one (ps_ret (pe_op oa_add (pe_op oa_add (pe_op oa_mul pe_str (pv 4)) (pv 0)) (pe_op oa_mul pe_str (pe_op oa_sub (pv 3) (pv 4))))))))), ?_⟩
    obtain ⟨t, s', w', rfl, h1, h2, k⟩ := h
    show (tSeq _ _) _ [some (.str t), some (.int w'), some (.str s'), none, none] H
    have tl' : t.length ≤ sizeLine := line_le _ (by omega)
    have f0 := fr_le (m := w' - t.length) (s := s') (by omega)
    have one := one_len
    have fin : ∀ a : Int, a = fr (w' - t.length) s' → ((-1000000 ≤ a ∧ a ≤ 10000 ∧ (Str.ofString " ").length ≤ 1000) ∧ ((Txt.mul (Str.ofString " ") a).length + t.length ≤ sizeLine ∧ ((-1000000 ≤ w' - t.length - a ∧ w' - t.length - a ≤ 10000 ∧ (Str.ofString " ").length ≤ 1000) ∧ ((Txt.mul (Str.ofString " ") a ++ t).length + (Txt.mul (Str.ofString " ") (w' - t.length - a)).length ≤ sizeLine ∧ Q (.str (Txt.mul (Str.ofString " ") a ++ t ++ Txt.mul (Str.ofString " ") (w' - t.length - a))) H)))) := by
      rintro a rfl
      refine ⟨⟨by omega, by omega, by omega⟩, line_le _ ?_, ⟨by omega, by omega, by omega⟩, line_le _ ?_, k⟩
      · rw [len_mul, one]; omega
      · rw [len_app, len_mul, len_mul, one]; omega
    have fr1 : s' = ("r" : Str) → w' - t.length = fr (w' - t.length) s' := fun e => by unfold fr; rw [if_pos e]
    have fr2 : ¬ s' = ("r" : Str) → s' = ("c" : Str) → (w' - t.length) / 2 = fr (w' - t.length) s' := fun e e2 => by unfold fr; rw [if_neg e, if_pos e2]
    have fr3 : ¬ s' = ("r" : Str) → ¬ s' = ("c" : Str) → 0 = fr (w' - t.length) s' := fun e e2 => by unfold fr; rw [if_neg e, if_neg e2]
    have ne : s' = ("c" : Str) → ¬ s' = ("r" : Str) := fun e e2 => by rw [e] at e2; exact absurd e2 (by decide +kernel)
    walk_at "s"
    rw [v_lenS]
    refine ⟨tl', ?_⟩
    walk_at "s"
    refine w_br (fun c1 => ?_) (fun c1 => ?_)
    · walk_at "s"
      rw [v_mulS]
      refine ⟨(fin _ (fr1 c1)).1, ?_⟩
      rw [v_addS]
      refine ⟨(fin _ (fr1 c1)).2.1, ?_⟩
      walk_at "s"
      rw [v_mulS]
      refine ⟨(fin _ (fr1 c1)).2.2.1, ?_⟩
      rw [v_addS]
      exact (fin _ (fr1 c1)).2.2.2
    · walk_at "s"
      refine w_br (fun c2 => ?_) (fun c2 => ?_)
      · walk_at "s"
        rw [v_mulS]
        refine ⟨(fin _ (fr2 c1 c2)).1, ?_⟩
        rw [v_addS]
        refine ⟨(fin _ (fr2 c1 c2)).2.1, ?_⟩
        walk_at "s"
        rw [v_mulS]
        refine ⟨(fin _ (fr2 c1 c2)).2.2.1, ?_⟩
        rw [v_addS]
        exact (fin _ (fr2 c1 c2)).2.2.2
      · walk_at "s"
        rw [v_mulS]
        refine ⟨(fin _ (fr3 c1 c2)).1, ?_⟩
        rw [v_addS]
        refine ⟨(fin _ (fr3 c1 c2)).2.1, ?_⟩
        walk_at "s"
        rw [v_mulS]
        refine ⟨(fin _ (fr3 c1 c2)).2.2.1, ?_⟩
        rw [v_addS]
        exact (fin _ (fr3 c1 c2)).2.2.2
abbrev s__law_padded : Stmt := topS 15
theorem sc__law_padded : FnScope (["text", "width", "side", "more", "front"] : List Str) (["text", "width", "side"] : List Str) (defScope s__law_padded) := ⟨rfl, rfl, rfl, by decide +kernel, rfl, by decide +kernel, by decide +kernel⟩
theorem ok__law_padded {f : Addr} {fd : FuncData} (F : Fun K "_law_padded" "_law_padded" s__law_padded f fd) (B : Blt mg) : FnOk P w K mg base (L2.CX P w) 1 f fd (["text", "width", "side"] : List Str) spPad := by
  refine F.okX sc__law_padded (fun vs H Q E h => ?_) (fun cdv A outer s H vs Q E hr h => ?_)
  · obtain ⟨t, s, w, rfl, _⟩ := h; rfl
  · have nd := sc__law_padded.nd
    have hu := hr.units
    refine ⟨_, by exact (pss_cons (ps_st 3 nd (pe_op oa_sub (pv 1) (pe_callB ca_len (by rfl) B.len bt_len (pa_cons (pv 0) pa_nil))))
        (pss_cons (ps_st 4 nd pe_int)
        (pss_cons (ps_if (pt_cmpR (oa_eq hu) (pv 2) pe_str (nomark _))
        (pss_one (ps_st 4 nd (pv 3)))
        pss_nil)
        (pss_cons (ps_if (pt_cmpR (oa_eq hu) (pv 2) pe_str (nomark _))
        (pss_one (ps_st 4 nd (pe_op oa_div (pv 3) pe_int)))
        pss_nil)
        (pss_one (ps_ret (pe_op oa_add (pe_op oa_add (pe_op oa_mul pe_str (pv 4)) (pv 0)) (pe_op oa_mul pe_str (pe_op oa_sub (pv 3) (pv 4)))))))))), ?_⟩
    obtain ⟨t, s', w', rfl, h1, h2, k⟩ := h
    show (tSeq _ _) _ [some (.str t), some (.int w'), some (.str s'), none, none] H
    have tl' : t.length ≤ sizeLine := line_le _ (by omega)
    have f0 := fr_le (m := w' - t.length) (s := s') (by omega)
    have one := one_len
    have fin : ∀ a : Int, a = fr (w' - t.length) s' → ((-1000000 ≤ a ∧ a ≤ 10000 ∧ (Str.ofString " ").length ≤ 1000) ∧ ((Txt.mul (Str.ofString " ") a).length + t.length ≤ sizeLine ∧ ((-1000000 ≤ w' - t.length - a ∧ w' - t.length - a ≤ 10000 ∧ (Str.ofString " ").length ≤ 1000) ∧ ((Txt.mul (Str.ofString " ") a ++ t).length + (Txt.mul (Str.ofString " ") (w' - t.length - a)).length ≤ sizeLine ∧ Q (.str (Txt.mul (Str.ofString " ") a ++ t ++ Txt.mul (Str.ofString " ") (w' - t.length - a))) H)))) := by
      rintro a rfl
      refine ⟨⟨by omega, by omega, by omega⟩, line_le _ ?_, ⟨by omega, by omega, by omega⟩, line_le _ ?_, k⟩
      · rw [len_mul, one]; omega
      · rw [len_app, len_mul, len_mul, one]; omega
    have fr1 : s' = ("r" : Str) → w' - t.length = fr (w' - t.length) s' := fun e => by unfold fr; rw [if_pos e]
    have fr2 : ¬ s' = ("r" : Str) → s' = ("c" : Str) → (w' - t.length) / 2 = fr (w' - t.length) s' := fun e e2 => by unfold fr; rw [if_neg e, if_pos e2]
    have fr3 : ¬ s' = ("r" : Str) → ¬ s' = ("c" : Str) → 0 = fr (w' - t.length) s' := fun e e2 => by unfold fr; rw [if_neg e, if_neg e2]
    have ne : s' = ("c" : Str) → ¬ s' = ("r" : Str) := fun e e2 => by rw [e] at e2; exact absurd e2 (by decide +kernel)
    walk_at "s"
    rw [v_lenS]
    refine ⟨tl', ?_⟩
    walk_at "s"
    refine w_brJ (fun σ H' => H' = H ∧ ∃ a : Int, σ = [some (.str t), some (.int w'), some (.str s'), some (.int (w' - t.length)), some (.int a)] ∧ (s' = ("r" : Str) ∧ a = w' - t.length ∨ ¬ s' = ("r" : Str) ∧ a = 0)) ?_ (fun c1 nx hnx => ?_) (fun c1 nx hnx => ?_)
    · rintro σ H' ⟨rfl, a, rfl, ha⟩
      walk_at "s"
      refine w_brJ (fun σ H1 => H1 = H' ∧ ∃ a : Int, σ = [some (.str t), some (.int w'), some (.str s'), some (.int (w' - t.length)), some (.int a)] ∧ a = fr (w' - t.length) s') ?_ (fun c2 nx hnx => ?_) (fun c2 nx hnx => ?_)
      · rintro σ H1 ⟨rfl, a, rfl, e⟩
        walk_at "s"
        rw [v_mulS]
        refine ⟨(fin _ e).1, ?_⟩
        rw [v_addS]
        refine ⟨(fin _ e).2.1, ?_⟩
        walk_at "s"
        rw [v_mulS]
        refine ⟨(fin _ e).2.2.1, ?_⟩
        rw [v_addS]
        exact (fin _ e).2.2.2
      · walk_at "s"
        exact hnx _ _ ⟨rfl, _, rfl, fr2 (ne c2) c2⟩
      · walk_at "s"
        exact hnx _ _ ⟨rfl, _, rfl, ha.elim (fun z => z.2.trans (fr1 z.1)) fun z => z.2.trans (fr3 z.1 c2)⟩
    · walk_at "s"
      exact hnx _ _ ⟨rfl, _, rfl, .inl ⟨c1, rfl⟩⟩
    · walk_at "s"
      exact hnx _ _ ⟨rfl, _, rfl, .inr ⟨c1, rfl⟩⟩
abbrev s_joined_columns : Stmt := topS 8
theorem sc_joined_columns : FnScope (["cells"] : List Str) (["cells"] : List Str) (defScope s_joined_columns) := ⟨rfl, rfl, rfl, by decide +kernel, rfl, by decide +kernel, by decide +kernel⟩
theorem ok_joined_columns {f : Addr} {fd : FuncData} (F : Fun K "joined_columns" "joined_columns" s_joined_columns f fd) (B : Blt mg) : FnOk P w K mg base (L2.CX P w) 1 f fd (["cells"] : List Str) (spJoin K) := by
  refine F.okX sc_joined_columns (fun vs H Q E h => ?_) (fun cdv A outer s H vs Q E hr h => ?_)
  · obtain ⟨p, ys, rfl, _⟩ := h; rfl
  · have nd := sc_joined_columns.nd
    have hu := hr.units
    refine ⟨_, by exact (pss_one (ps_ret (pe_bm PySem.F.plainAttrs_str PySem.F.slot_str_rstrip PySem.F.type_str_rstrip mt_rstripChars (pe_bm PySem.F.plainAttrs_str PySem.F.slot_str_join PySem.F.type_str_join mt_join pe_str (pa_cons (pv 0) pa_nil)) (pa_cons pe_str pa_nil)))), ?_⟩
    obtain ⟨p, ys, rfl, hS, h1, h2, k⟩ := h
    show (tRet _) _ [some (.ref p)] H
    walk_at "s"
    refine ⟨rfl, _, p, ys, rfl, rfl, .inl hS, joinC h2 ?_, ?_⟩
    · have e : (Str.ofString "  ").length = 2 := by decide +kernel
      rw [e]
      have := Nat.mul_le_mul h1 (Nat.le_refl (200 + 2))
      omega
    · rw [join_eq]
      exact ⟨rfl, _, _, rfl, rfl, line_le _ (glue_len h1 h2), k⟩
abbrev s_table_line : Stmt := topS 6
theorem sc_table_line : FnScope (["cells", "widths", "sides", "cell", "width", "side"] : List Str) (["cells", "widths", "sides"] : List Str) (defScope s_table_line) := ⟨rfl, rfl, rfl, by decide +kernel, rfl, by decide +kernel, by decide +kernel⟩
theorem ok_table_line {f : Addr} {fd : FuncData} (F : Fun K "table_line" "table_line" s_table_line f fd) (B : Blt mg) (C_joined_columns : FnAt P w K mg base 1 "joined_columns" ["cells"] (spJoin K)) (C_padded : FnAt P w K mg base 1 "padded" ["cell", "width", "side"] spPad) : FnOk P w K mg base (L2.CX P w) 2 f fd (["cells", "widths", "sides"] : List Str) (spLine K) := by
  refine F.okX sc_table_line (fun vs H Q E h => ?_) (fun cdv A outer s H vs Q E hr h => ?_)
  · obtain ⟨p, q, cs, ws, ss, rfl, _⟩ := h; rfl
  · have nd := sc_table_line.nd
    have hu := hr.units
    refine ⟨_, by exact (pss_one (ps_ret (pe_fn C_joined_columns (hr.mono (by first | decide | omega)) passL (pa_cons (pe_lc (own := [("cell", 3), ("width", 4), ("side", 5)]) (g := gTup K 3 (gCons (gName 3) (gCons (gName 4) (gCons (gName 5) gNil)))) (tt := tYes) rfl nd (pi_zip3 rfl B.zip (pa_cons (pv 0) (pa_cons (pv 1) (pa_cons (pv 2) pa_nil)))) (blkOk_by (N := (["cells", "widths", "sides", "cell", "width", "side"] : List Str)) (sc := defScope (topS 6)) (by decide +kernel)) (fun _ _ _ _ _ => (pg_tup (n := 3) rfl (pgs_cons (pg_n 3 nd) (pgs_cons (pg_n 4 nd) (pgs_cons (pg_n 5 nd) pgs_nil))))) (fun _ _ _ _ _ => pts_nil) (fun _ _ _ _ _ => (pe_fn C_padded (hr.mono (by first | decide | omega)) passL (pa_cons (pv 3) (pa_cons (pv 4) (pa_cons (pv 5) pa_nil)))))) pa_nil)))), ?_⟩
    obtain ⟨p, q, cs, ws, ss, rfl, hC, hW, e1, e2, h1, h2, k⟩ := h
    show (tRet _) _ [some (.ref p), some (.ref q), some (.str ss), none, none, none] H
    walk_at "s"
    refine ⟨p, q, ss, _, _, rfl, hC, hW, ?_⟩
    refine w_lc3f (fun i => .str (cell cs ws ss i)) hC hW (by simpa using e1) (by rw [List.length_map]; exact e2) (by rw [List.length_map]; omega) ?_ ?_
    · intro i u w c H' N hu hw hc s1 hN
      obtain ⟨hi, rfl⟩ := getS hu
      obtain ⟨_, rfl⟩ := getD_map hw
      refine ⟨rfl, ?_⟩
      walk_at "s"
      obtain ⟨q1, q2⟩ := h2 i hi
      refine ⟨_, rfl, _, rfl, _, rfl, _, _, _, rfl, q1, q2, ?_⟩
      have : pad (cs.getD i Str.empty) (ws.getD i 0) ⟨#[c]⟩ = cell cs ws ss i := by
        unfold cell
        have : (tl ss).getD i 0 = c := by
          rw [List.getD_eq_getElem?_getD]
          show ((ss.cps.toList)[i]?).getD 0 = c
          rw [Array.getElem?_toList, hc]; rfl
        rw [this]
      rw [this]
      exact hN _ (Same.refl _)
    · intro L H' s1 hL e
      rw [List.length_map] at e
      refine ⟨L, cells cs ws ss cs.length, rfl, SqL.of (by rw [e]; unfold cells; rw [List.map_map]; rfl), by simpa [cells] using h1, ?_, k H' s1⟩
      intro y hy
      obtain ⟨i, hi, rfl⟩ := List.mem_map.mp hy
      have hi := List.mem_range.mp hi
      obtain ⟨q1, q2⟩ := h2 i hi
      unfold cell
      rw [pad_len q1]; omega
end
end Nk
namespace Nk
open PySem L2 TL
open Tb
local macro_rules | `(tactic| walk_at "s") => `(tactic| try simp (decide := true) only [L2.cxK, L2.s_seq, L2.s_next, L2.s_brk, L2.s_cont, L2.s_drop, L2.s_ret, L2.s_retN, L2.s_ifS, L2.s_br1, L2.s_br0, L2.s_asg, L2.s_asI, L2.s_asB, L2.s_asN, L2.s_asS, L2.s_asR, L2.s_gName, L2.s_gSub, L2.s_var, L2.s_C, L2.s_op, L2.s_un, L2.s_chain, L2.s_test, L2.s_B, L2.s_and, L2.s_aB1, L2.s_aB0, L2.s_or, L2.s_oB1, L2.s_oB0, L2.s_not, L2.s_andV, L2.s_aE1, L2.s_aE0, L2.s_orV, L2.s_oE1, L2.s_oE0, L2.s_notV, L2.s_nE, L2.s_if, L2.s_iE1, L2.s_iE0, L2.s_tr, L2.s_trB, L2.s_trI, L2.s_trN, L2.s_nil, L2.s_cons, L2.s_CB, L2.s_call, L2.s_callS, L2.s_sl, L2.s_part, L2.s_noPart, L2.s_lst, L2.s_mk, L2.s_xf, L2.s_for, L2.s_lc, L2.s_rng1, L2.s_rng2, L2.s_rng3, L2.s_enum, L2.s_zip, L2.s_zip3, L2.s_yes, L2.s_seqI, L2.s_tup, L2.s_BM, L2.s_BM0, L2.v_addI, L2.v_subI, L2.v_mulI, L2.v_divI, L2.v_modI, L2.v_powI, L2.v_negI, L2.v_cmp, L2.v_eqI, L2.v_eqS, L2.v_neS, L2.v_neI, L2.v_isN, L2.v_isB, L2.v_isnotN, L2.v_isnotB, L2.v_int, L2.v_abs, L2.v_max2, L2.v_min2, L2.le_line, List.set_cons_succ, List.set_cons_zero, List.getElem?_cons_succ, List.getElem?_cons_zero, Option.some.injEq, exists_eq_left', V.bl.injEq, V.int.injEq, true_and, and_true, Bool.not_true, Bool.not_false, if_true, if_false, Bool.false_eq_true, List.append_nil, reduceCtorEq, decide_true, decide_false, ne_eq, not_false_eq_true, Int.reduceToNat, Int.reducePow, Int.reduceMul, Int.reduceAdd, Int.reduceSub, Int.reduceNeg, Nat.reduceAdd, List.length_cons, List.length_nil, List.nil_append, List.cons_append])

structure Tx (K : PySem.W.Frag) (mg : Str → Option Value) (cNE cBN cWL iWL : Addr) : Prop where
  x_WrongLength : ErrC K mg "WrongLength" cWL iWL ["found", "wanted"]
  x_NightsError : ExcB K mg "NightsError" cNE
  x_BadNumber : ExcB K mg "BadNumber" cBN
  s_WL_NE : PySem.W.subIn K (.ref cWL) (.ref cNE) = some true
  s_WL_BN : PySem.W.subIn K (.ref cWL) (.ref cBN) = some false
structure Tab (K : PySem.W.Frag) (H : Hp) (p q : Addr) (hs : List Str) (rs : List (List Str)) (as : List Addr) : Prop where
  hH : SqL K H p (hs.map V.str)
  hR : SqL K H q (as.map V.ref)
  len : as.length = rs.length
  row : ∀ (i : Nat) (a : Addr) (r : List Str), as[i]? = some a → rs[i]? = some r → SqL K H a (r.map V.str)
  b1 : hs.length ≤ 20
  b2 : rs.length ≤ 20
  b3 : ∀ i, (hs.getD i Str.empty).length ≤ 100
  b4 : ∀ r : List Str, r ∈ rs → r.length ≤ 20 ∧ ∀ i, (r.getD i Str.empty).length ≤ 100
theorem Tab.mono {K : PySem.W.Frag} {H H' : Hp} {p q : Addr} {hs : List Str} {rs : List (List Str)} {as : List Addr} (T : Tab K H p q hs rs as) (s : Same H H') : Tab K H' p q hs rs as :=
  ⟨s.seq T.hH, s.seq T.hR, T.len, fun i a r h1 h2 => s.seq (T.row i a r h1 h2), T.b1, T.b2, T.b3, T.b4⟩
theorem Tab.at {K : PySem.W.Frag} {H : Hp} {p q : Addr} {hs : List Str} {rs : List (List Str)} {as : List Addr} (T : Tab K H p q hs rs as) {i : Nat} {x : V} (h : (as.map V.ref)[i]? = some x) :
    ∃ a, x = .ref a ∧ i < rs.length ∧ rs[i]? = some (rs.getD i []) ∧ SqL K H a ((rs.getD i []).map V.str) := by
  have hi : i < as.length := by have := (List.getElem?_eq_some_iff.mp h).1; simpa using this
  have hr : i < rs.length := by rw [← T.len]; exact hi
  have e : rs[i]? = some (rs.getD i []) := by rw [List.getD_eq_getElem?_getD, List.getElem?_eq_getElem hr]; rfl
  refine ⟨as[i], ?_, hr, e, T.row i as[i] _ (List.getElem?_eq_getElem hi) e⟩
  rw [List.getElem?_map, List.getElem?_eq_getElem hi] at h
  exact (Option.some.inj h).symm
theorem Tab.mem {rs : List (List Str)} {i : Nat} (h : i < rs.length) : rs.getD i [] ∈ rs := by
  rw [List.getD_eq_getElem?_getD, List.getElem?_eq_getElem h]; exact List.getElem_mem h
theorem atS {cs : List Str} {i : Int} (h0 : 0 ≤ i) (h1 : i < cs.length) : atI (cs.map V.str) i = some (.str (cs.getD i.toNat Str.empty)) := by
  obtain ⟨j, rfl⟩ := Int.eq_ofNat_of_zero_le h0
  refine atI_nat ?_
  have hj : j < cs.length := by omega
  rw [List.getElem?_map, List.getElem?_eq_getElem hj]
  simp [hj]
theorem w_max {K : PySem.W.Frag} {H : Hp} {Q : VK} {p : Addr} {ns : List Int} (h : SqL K H p (ns.map V.int)) (hl : 0 < ns.length) (h0 : ∀ n ∈ ns, 0 ≤ n) (q : Q (.int (mx ns)) H) : aMax K [.ref p] H Q :=
  ⟨ns, h, hl, fun m h1 h2 => by rw [mx_uniq h1 h2 (h0 m h1)]; exact q⟩
theorem range_map {α β : Type} (g : α → β) (d : α) (l : List α) : (List.range l.length).map (fun j => g (l.getD j d)) = l.map g := by
  apply List.ext_getElem?
  intro i
  by_cases h : i < l.length
  · rw [List.getElem?_map, List.getElem?_range h, List.getElem?_map, List.getElem?_eq_getElem h]
    simp [h]
  · rw [List.getElem?_eq_none (by simpa using h), List.getElem?_eq_none (by simpa using h)]
theorem col_nn {hs : List Str} {rs : List (List Str)} {i : Nat} : ∀ n ∈ col hs rs i, 0 ≤ n := by
  intro n hn
  unfold col at hn
  rcases List.mem_cons.mp hn with rfl | hn
  · omega
  · obtain ⟨r, _, rfl⟩ := List.mem_map.mp hn; omega
theorem Tab.col_le {K : PySem.W.Frag} {H : Hp} {p q : Addr} {hs : List Str} {rs : List (List Str)} {as : List Addr} (T : Tab K H p q hs rs as) {i : Nat} : mx (col hs rs i) ≤ 100 := by
  refine mx_le (by decide) fun n hn => ?_
  unfold col at hn
  rcases List.mem_cons.mp hn with rfl | hn
  · have := T.b3 i; omega
  · obtain ⟨r, hr, rfl⟩ := List.mem_map.mp hn
    have := (T.b4 r hr).2 i; omega
theorem col_h {hs : List Str} {rs : List (List Str)} {i : Nat} : ((hs.getD i Str.empty).length : Int) ≤ mx (col hs rs i) := mx_ge List.mem_cons_self
theorem col_r {hs : List Str} {rs : List (List Str)} {i : Nat} {r : List Str} (h : r ∈ rs) : ((r.getD i Str.empty).length : Int) ≤ mx (col hs rs i) := mx_ge (List.mem_cons_of_mem _ (List.mem_map.mpr ⟨r, h, rfl⟩))
theorem widths_mem {hs : List Str} {rs : List (List Str)} {n : Nat} {w : Int} (h : w ∈ widths hs rs n) : ∃ i, w = mx (col hs rs i) := by
  obtain ⟨i, _, rfl⟩ := List.mem_map.mp h
  exact ⟨i, rfl⟩
def spTable (K : PySem.W.Frag) (C : Addr) : Sp := fun vs H Q E => ∃ (p q : Addr) (ss : Str) (hs : List Str) (rs : List (List Str)) (as : List Addr), vs = [.ref p, .ref q, .str ss] ∧ Tab K H p q hs rs as ∧ ss.length ≤ 20 ∧
  (bad hs rs ss = none → ∀ r H', Same H H' → H r = none → H' r = some (.lst ((table hs rs ss).map V.str)) → Q (.ref r) H') ∧
  (∀ f, bad hs rs ss = some f → ∀ d H', Same H H' → H d = none → H' d = some (.xd [("found", .int f), ("wanted", .int hs.length)]) → E (.ref C) (some d) H')
section
variable {P : Program} {w : World} {K : PySem.W.Frag} {mg : Str → Option Value} {base : Heap}
variable {cNE cBN cWL iWL : Addr}
abbrev s_table_lines : Stmt := topS 5
theorem sc_table_lines : FnScope (["headings", "rows", "sides", "row", "widths", "place", "heading", "lines", "width"] : List Str) (["headings", "rows", "sides"] : List Str) (defScope s_table_lines) := ⟨rfl, rfl, rfl, by decide +kernel, rfl, by decide +kernel, by decide +kernel⟩
theorem ok_table_lines {f : Addr} {fd : FuncData} (F : Fun K "table_lines" "table_lines" s_table_lines f fd) (B : Blt mg) (T : Tx K mg cNE cBN cWL iWL) (hfile : ((P.main.file : Str) == "/claim/cut.py") = true) (htop : (P.main.scope.names.lookup ("super" : Str)).isSome = false) (C_joined_columns : FnAt P w K mg base 1 "joined_columns" ["cells"] (spJoin K)) (C_table_line : FnAt P w K mg base 2 "table_line" ["cells", "widths", "sides"] (spLine K)) : FnOk P w K mg base (L2.CX P w) 3 f fd (["headings", "rows", "sides"] : List Str) (spTable K cWL) := by
  refine F.okX sc_table_lines (fun vs H Q E h => ?_) (fun cdv A outer s H vs Q E hr h => ?_)
  · obtain ⟨p, q, ss, hs, rs, as, rfl, _⟩ := h; rfl
  · have nd := sc_table_lines.nd
    have hu := hr.units
    refine ⟨_, by exact (pss_cons (ps_if (pt_cmpR (oa_ne hu) (pe_callB ca_len (by rfl) B.len bt_len (pa_cons (pv 2) pa_nil)) (pe_callB ca_len (by rfl) B.len bt_len (pa_cons (pv 0) pa_nil)) (nomark _))
        (pss_one (ps_raise rfl (takes_of rfl rfl rfl rfl) (pmk_err T.x_WrongLength.txt (by simp) (by decide) (by decide +kernel) hfile htop B.super hr T.x_WrongLength.g (pa_cons (pe_callB ca_len (by rfl) B.len bt_len (pa_cons (pv 2) pa_nil)) (pa_cons (pe_callB ca_len (by rfl) B.len bt_len (pa_cons (pv 0) pa_nil)) pa_nil)))))
        pss_nil)
        (pss_cons (ps_for (passes_of rfl) rfl (pi_seq (pv 1)) (pg_n 3 nd)
        (pss_one (ps_if (pt_cmpR (oa_ne hu) (pe_callB ca_len (by rfl) B.len bt_len (pa_cons (pv 3) pa_nil)) (pe_callB ca_len (by rfl) B.len bt_len (pa_cons (pv 0) pa_nil)) (nomark _))
        (pss_one (ps_raise rfl (takes_of rfl rfl rfl rfl) (pmk_err T.x_WrongLength.txt (by simp) (by decide) (by decide +kernel) hfile htop B.super hr T.x_WrongLength.g (pa_cons (pe_callB ca_len (by rfl) B.len bt_len (pa_cons (pv 3) pa_nil)) (pa_cons (pe_callB ca_len (by rfl) B.len bt_len (pa_cons (pv 0) pa_nil)) pa_nil)))))
        pss_nil)))
        (pss_cons (ps_st 4 nd (pe_lst pa_nil))
        (pss_cons (ps_for (passes_of rfl) rfl (pi_enum rfl B.enumerate (pa_cons (pv 0) pa_nil)) (pg_tup (n := 2) rfl (pgs_cons (pg_n 5 nd) (pgs_cons (pg_n 6 nd) pgs_nil)))
        (pss_one (ps_expr (pe_bm PySem.F.plainAttrs_list PySem.F.slot_list_append PySem.F.type_list_append mt_append (pv 4) (pa_cons (pe_callB (ca_max rfl) (by rfl) B.max bt_max (pa_cons (pe_op oa_add (pe_lst (pa_cons (pe_callB ca_len (by rfl) B.len bt_len (pa_cons (pv 6) pa_nil)) pa_nil)) (pe_lc (own := [("row", 3)]) (g := gName 3) (tt := tYes) rfl nd (pi_seq (pv 1)) (blkOk_by (N := (["headings", "rows", "sides", "row", "widths", "place", "heading", "lines", "width"] : List Str)) (sc := defScope (topS 5)) (by decide +kernel)) (fun _ _ _ _ _ => (pg_n 3 nd)) (fun _ _ _ _ _ => pts_nil) (fun _ _ _ _ _ => (pe_callB (calK (K := K) (r := aLen) ca_len rfl) (by rfl) B.len bt_len (pa_cons (pe_ix (ixK (K := K) (r := aIx) oa_ix rfl) (pv 3) (pv 5) (fun _ _ => rfl)) pa_nil))))) pa_nil)) pa_nil)))))
        (pss_cons (ps_st 7 nd (pe_lst (pa_cons (pe_fn C_table_line (hr.mono (by first | decide | omega)) passL (pa_cons (pv 0) (pa_cons (pv 4) (pa_cons (pv 2) pa_nil)))) (pa_cons (pe_fn C_joined_columns (hr.mono (by first | decide | omega)) passL (pa_cons (pe_lc (own := [("width", 8)]) (g := gName 8) (tt := tYes) rfl nd (pi_seq (pv 4)) (blkOk_by (N := (["headings", "rows", "sides", "row", "widths", "place", "heading", "lines", "width"] : List Str)) (sc := defScope (topS 5)) (by decide +kernel)) (fun _ _ _ _ _ => (pg_n 8 nd)) (fun _ _ _ _ _ => pts_nil) (fun _ _ _ _ _ => (pe_op (opK (K := K) (r := aMul) oa_mul rfl) pe_str (pv 8)))) pa_nil)) pa_nil))))
        (pss_cons (ps_for (passes_of rfl) rfl (pi_seq (pv 1)) (pg_n 3 nd)
        (pss_one (ps_expr (pe_bm PySem.F.plainAttrs_list PySem.F.slot_list_append PySem.F.type_list_append mt_append (pv 7) (pa_cons (pe_fn C_table_line (hr.mono (by first | decide | omega)) passL (pa_cons (pv 3) (pa_cons (pv 4) (pa_cons (pv 2) pa_nil)))) pa_nil)))))
        (pss_one (ps_ret (pv 7))))))))), ?_⟩
    obtain ⟨p, q, ss, hs, rs, as, rfl, TB, hss, kn, kb⟩ := h
    show (tSeq _ _) _ [some (.ref p), some (.ref q), some (.str ss), none, none, none, none, none, none] H
    walk_at "s"
    rw [v_lenS]
    refine ⟨line_le _ (by omega), ?_⟩
    refine w_lenL TB.hH ?_
    rw [List.length_map]
    walk_at "s"
    refine w_brN (fun c1 => ?_) (fun c1 => ?_)
    · walk_at "s"
      rw [v_lenS]
      refine ⟨line_le _ (by omega), ?_⟩
      refine w_lenL TB.hH ?_
      rw [List.length_map]
      exact ⟨rfl, fun d hd => kb _ (bad_sides (by omega)) d _ (W.start.new hd).fr hd upd_same⟩
    have c1 : ss.length = hs.length := by omega
    walk_at "s"
    refine w_sqL TB.hR ?_
    refine w_forL (xs := as.map V.ref) (fun i σ H' => H' = H ∧ (∃ v, σ = [some (.ref p), some (.ref q), some (.str ss), v, none, none, none, none, none]) ∧ ∀ j < i, ∀ r, rs[j]? = some r → r.length = hs.length) ⟨rfl, ⟨_, rfl⟩, fun j hj => absurd hj (Nat.not_lt_zero _)⟩ (fun i σ H' _ h => by rw [h.1]; exact TB.hR) ?_ ?_
    · rintro i x σ H' hx ⟨rfl, ⟨v, rfl⟩, hj⟩
      obtain ⟨a, rfl, hi, hr, hS⟩ := TB.at hx
      walk_at "s"
      refine w_lenL hS ?_
      refine w_lenL TB.hH ?_
      rw [List.length_map, List.length_map]
      walk_at "s"
      refine w_brN (fun c2 => ?_) (fun c2 => ?_)
      · walk_at "s"
        refine w_lenL hS ?_
        refine w_lenL TB.hH ?_
        rw [List.length_map, List.length_map]
        exact ⟨rfl, fun d hd => kb _ (bad_row c1 hr (by omega) hj) d _ (W.start.new hd).fr hd upd_same⟩
      · walk_at "s"
        refine ⟨⟨_, rfl⟩, fun j hj' r hr' => ?_⟩
        by_cases e : j = i
        · subst e; rw [hr] at hr'; cases hr'; omega
        · exact hj j (by omega) r hr'
    · rintro σ H' ⟨rfl, ⟨v, rfl⟩, hj⟩
      rw [List.length_map, TB.len] at hj
      have hrow : ∀ r ∈ rs, r.length = hs.length := fun r hr => by
        obtain ⟨j, hj', e⟩ := List.mem_iff_getElem.mp hr
        exact hj j hj' r (by rw [List.getElem?_eq_getElem hj', e])
      have kn := kn (bad_none c1 hrow)
      walk_at "s"
      intro c hc
      have w0 := (W.start (H := H')).new (o := .lst ((widths hs rs 0).map V.int)) hc
      refine w_enum (w0.fr.seq TB.hH) ?_
      refine w_forE (xs := hs.map V.str) (fun i σ H2 => (∃ v1 v2 v3, σ = [some (.ref p), some (.ref q), some (.str ss), v1, some (.ref c), v2, v3, none, none]) ∧ W H' [(c, .lst ((widths hs rs i).map V.int))] H2) ⟨⟨_, _, _, rfl⟩, w0⟩ (fun i σ H2 _ h => h.2.fr.seq TB.hH) ?_ ?_
      · rintro i x σ H2 H3 hx ⟨⟨v1, v2, v3, rfl⟩, w⟩ s3
        obtain ⟨hi, rfl⟩ := getS hx
        have w := w.grow s3
        walk_at "s"
        refine ⟨.inl ⟨rfl, _, SqL.of (w.get 0 rfl)⟩, ?_⟩
        rw [v_lenS]
        refine ⟨line_le _ (by have := TB.b3 i; omega), ?_⟩
        walk_at "s"
        intro z hz
        have w1 := w.new (o := .lst [.int ((hs.getD i Str.empty).length : Nat)]) hz
        refine w_sqL (w1.fr.seq TB.hR) ?_
        refine w_lcLf (fun j => .int (((rs.getD j []).getD i Str.empty).length : Nat)) (w1.fr.seq TB.hR) (by rw [List.length_map, TB.len]; have := TB.b2; omega) ?_ ?_
        · intro j x H4 N hx s4 hN
          obtain ⟨a, rfl, hj', hr, hS⟩ := TB.at hx
          refine ⟨rfl, ?_⟩
          walk_at "s"
          refine ⟨_, rfl, _, rfl, ?_⟩
          have hS4 := s4.seq (w1.fr.seq hS)
          refine w_ixL hS4 (atS (by omega) (by rw [hrow _ (Tab.mem hj')]; omega)) ?_
          rw [v_lenS, Int.toNat_natCast]
          refine ⟨line_le _ (by have := (TB.b4 _ (Tab.mem hj')).2 i; omega), ?_⟩
          exact hN _ (Same.refl _)
        · intro L H4 s4 hL e4
          have w2 := (w1.grow s4).add w1 hL e4
          refine w_catL (w2.get 1 rfl) (w2.get 0 rfl) (by rw [List.length_map, List.length_range, List.length_map, TB.len]; exact line_le _ (by have := TB.b2; simp; omega)) ?_
          intro m hm
          have ec : [V.int ((hs.getD i Str.empty).length : Nat)] ++ (List.range (as.map V.ref).length).map (fun j => V.int (((rs.getD j []).getD i Str.empty).length : Nat)) = (col hs rs i).map V.int := by
            rw [List.length_map, TB.len]
            have := range_map (fun r : List Str => V.int ((r.getD i Str.empty).length : Nat)) [] rs
            rw [this]
            unfold col
            rw [List.map_cons, List.map_map]; rfl
          rw [ec]
          have w3 := w2.new (o := .lst ((col hs rs i).map V.int)) hm
          refine w_max (SqL.of upd_same) (by simp [col]) col_nn ?_
          refine ⟨c, _, _, rfl, rfl, w3.get 3 rfl, by rw [List.length_map, widths_len]; exact small1000' (by have := TB.b1; omega), ?_⟩
          have w4 := w3.upd (o' := .lst ((widths hs rs (i + 1)).map V.int)) 3 rfl
          rw [widths_succ, List.map_append] at w4
          refine ⟨⟨_, _, _, rfl⟩, ?_⟩
          rw [widths_succ, List.map_append]
          exact w4.drop.drop.drop
      · rintro σ H2 ⟨⟨v1, v2, v3, rfl⟩, w⟩
        rw [List.length_map] at w
        obtain ⟨sF, w1⟩ := w.frz
        have cS : SqL K (upd H' c (.lst ((widths hs rs hs.length).map V.int))) c ((widths hs rs hs.length).map V.int) := SqL.of upd_same
        have TB2 := TB.mono sF
        have hcF : H' c = none := hc
        have kn2 : ∀ r H4, Same (upd H' c (.lst ((widths hs rs hs.length).map V.int))) H4 → (upd H' c (.lst ((widths hs rs hs.length).map V.int))) r = none → H4 r = some (.lst ((table hs rs ss).map V.str)) → Q (.ref r) H4 := fun r H4 s4 hr e =>
          kn r H4 (sF.trans s4) (sF.free hr) e
        generalize upd H' c (.lst ((widths hs rs hs.length).map V.int)) = F at cS TB2 w1 kn2
        have wl : ∀ (cs : List Str), cs.length = hs.length → (∀ i, ((cs.getD i Str.empty).length : Int) ≤ mx (col hs rs i)) → ∀ i, i < cs.length → ((cs.getD i Str.empty).length : Int) ≤ (widths hs rs hs.length).getD i 0 ∧ (widths hs rs hs.length).getD i 0 ≤ 200 := fun cs e h i hi => by
          rw [widths_at (by omega)]
          exact ⟨h i, by have := TB.col_le (i := i); omega⟩
        walk_at "s"
        refine ⟨p, c, hs, widths hs rs hs.length, ss, rfl, w1.fr.seq TB2.hH, w1.fr.seq cS, widths_len _ _ _, c1, by have := TB.b1; omega, wl hs rfl fun i => col_h, fun H3 s3 => ?_⟩
        have w1 := w1.grow s3
        walk_at "s"
        refine w_sqL (w1.fr.seq cS) ?_
        refine w_lcLf (fun j => .str (Txt.mul "-" ((widths hs rs hs.length).getD j 0))) (w1.fr.seq cS) (by rw [List.length_map, widths_len]; have := TB.b1; omega) ?_ ?_
        · intro j x H4 N hx s4 hN
          obtain ⟨hj', rfl⟩ := getD_map hx
          refine ⟨rfl, ?_⟩
          walk_at "s"
          refine ⟨_, rfl, ?_⟩
          rw [v_mulS]
          rw [widths_len] at hj'
          have hw := widths_at (hs := hs) (rs := rs) hj'
          have h1 := TB.col_le (i := j)
          have h2 := mx_nn (col hs rs j)
          refine ⟨⟨by omega, by omega, by decide +kernel⟩, ?_⟩
          exact hN _ (Same.refl _)
        · intro L H4 s4 hL e4
          have w2 := (w1.grow s4).add w1 hL e4
          have ed : (List.range ((widths hs rs hs.length).map V.int).length).map (fun j => V.str (Txt.mul "-" ((widths hs rs hs.length).getD j 0))) = (dashes (widths hs rs hs.length)).map V.str := by
            rw [List.length_map, range_map (fun w => V.str (Txt.mul "-" w)) 0]
            unfold dashes
            rw [List.map_map]; rfl
          rw [ed] at w2
          refine ⟨L, dashes (widths hs rs hs.length), rfl, SqL.of (w2.get 0 rfl), by rw [dashes, List.length_map, widths_len]; have := TB.b1; omega, ?_, ?_⟩
          · intro y hy
            obtain ⟨w', hw', rfl⟩ := List.mem_map.mp hy
            obtain ⟨i, rfl⟩ := widths_mem hw'
            rw [len_mul, dash_len]
            have := TB.col_le (i := i); omega
          walk_at "s"
          intro l hl
          have w3 := w2.drop.new (o := .lst ((line hs (widths hs rs hs.length) ss :: trim (glue (dashes (widths hs rs hs.length))) :: (rs.take 0).map fun r => line r (widths hs rs hs.length) ss).map V.str)) hl
          refine w_sqL (w3.fr.seq TB2.hR) ?_
          refine w_forL (xs := as.map V.ref) (fun i σ H4 => (∃ v1 v2 v3 v4, σ = [some (.ref p), some (.ref q), some (.str ss), v1, some (.ref c), v2, v3, some (.ref l), v4]) ∧ W F [(l, .lst ((line hs (widths hs rs hs.length) ss :: trim (glue (dashes (widths hs rs hs.length))) :: (rs.take i).map fun r => line r (widths hs rs hs.length) ss).map V.str))] H4) ⟨⟨_, _, _, _, rfl⟩, w3⟩ (fun i σ H4 _ h => h.2.fr.seq TB2.hR) ?_ ?_
          · rintro i x σ H5 hx ⟨⟨v1, v2, v3, v4, rfl⟩, w⟩
            obtain ⟨a, rfl, hi, hr, hS⟩ := TB2.at hx
            walk_at "s"
            refine ⟨.inl ⟨rfl, _, SqL.of (w.get 0 rfl)⟩, ?_⟩
            refine ⟨a, c, _, widths hs rs hs.length, ss, rfl, w.fr.seq hS, w.fr.seq cS, by rw [widths_len, hrow _ (Tab.mem hi)], by rw [hrow _ (Tab.mem hi)]; exact c1, by rw [hrow _ (Tab.mem hi)]; have := TB.b1; omega, wl _ (hrow _ (Tab.mem hi)) fun i => col_r (Tab.mem hi), fun H6 s6 => ?_⟩
            have w5 := w.grow s6
            refine ⟨l, _, _, rfl, rfl, w5.get 0 rfl, by rw [List.length_map]; exact small1000' (by have := TB.b2; simp; omega), ?_⟩
            have et : rs.take (i + 1) = rs.take i ++ [rs.getD i []] := by
              rw [List.take_succ_eq_append_getElem hi]
              congr 2
              rw [List.getD_eq_getElem?_getD, List.getElem?_eq_getElem hi]; rfl
            refine ⟨⟨_, _, _, _, rfl⟩, ?_⟩
            have w6 := w5.upd (o' := .lst ((line hs (widths hs rs hs.length) ss :: trim (glue (dashes (widths hs rs hs.length))) :: (rs.take (i + 1)).map fun r => line r (widths hs rs hs.length) ss).map V.str)) 0 rfl
            have eo : HO.lst ((line hs (widths hs rs hs.length) ss :: trim (glue (dashes (widths hs rs hs.length))) :: (rs.take i).map fun r => line r (widths hs rs hs.length) ss).map V.str ++ [V.str (line (rs.getD i []) (widths hs rs hs.length) ss)]) = .lst ((line hs (widths hs rs hs.length) ss :: trim (glue (dashes (widths hs rs hs.length))) :: (rs.take (i + 1)).map fun r => line r (widths hs rs hs.length) ss).map V.str) := by
              rw [et]; simp
            rw [eo]
            exact w6
          · rintro σ H5 ⟨⟨v1, v2, v3, v4, rfl⟩, w⟩
            rw [List.length_map, TB.len, List.take_length] at w
            walk_at "s"
            exact kn2 l H5 w.fr (w.offI 0 rfl) (w.get 0 rfl)
end
end Nk
namespace Nk
open PySem L2 TL
open Tb
local macro_rules | `(tactic| walk_at "s") => `(tactic| try simp (decide := true) only [L2.cxK, L2.s_seq, L2.s_next, L2.s_brk, L2.s_cont, L2.s_drop, L2.s_ret, L2.s_retN, L2.s_ifS, L2.s_br1, L2.s_br0, L2.s_asg, L2.s_asI, L2.s_asB, L2.s_asN, L2.s_asS, L2.s_asR, L2.s_gName, L2.s_gSub, L2.s_var, L2.s_C, L2.s_op, L2.s_un, L2.s_chain, L2.s_test, L2.s_B, L2.s_and, L2.s_aB1, L2.s_aB0, L2.s_or, L2.s_oB1, L2.s_oB0, L2.s_not, L2.s_andV, L2.s_aE1, L2.s_aE0, L2.s_orV, L2.s_oE1, L2.s_oE0, L2.s_notV, L2.s_nE, L2.s_if, L2.s_iE1, L2.s_iE0, L2.s_tr, L2.s_trB, L2.s_trI, L2.s_trN, L2.s_nil, L2.s_cons, L2.s_CB, L2.s_call, L2.s_callS, L2.s_sl, L2.s_part, L2.s_noPart, L2.s_lst, L2.s_mk, L2.s_xf, L2.s_for, L2.s_lc, L2.s_rng1, L2.s_rng2, L2.s_rng3, L2.s_enum, L2.s_zip, L2.s_zip3, L2.s_yes, L2.s_seqI, L2.s_tup, L2.s_BM, L2.s_BM0, L2.v_addI, L2.v_subI, L2.v_mulI, L2.v_divI, L2.v_modI, L2.v_powI, L2.v_negI, L2.v_cmp, L2.v_eqI, L2.v_eqS, L2.v_neS, L2.v_neI, L2.v_isN, L2.v_isB, L2.v_isnotN, L2.v_isnotB, L2.v_int, L2.v_abs, L2.v_max2, L2.v_min2, L2.le_line, List.set_cons_succ, List.set_cons_zero, List.getElem?_cons_succ, List.getElem?_cons_zero, Option.some.injEq, exists_eq_left', V.bl.injEq, V.int.injEq, true_and, and_true, Bool.not_true, Bool.not_false, if_true, if_false, Bool.false_eq_true, List.append_nil, reduceCtorEq, decide_true, decide_false, ne_eq, not_false_eq_true, Int.reduceToNat, Int.reducePow, Int.reduceMul, Int.reduceAdd, Int.reduceSub, Int.reduceNeg, Nat.reduceAdd, List.length_cons, List.length_nil, List.nil_append, List.cons_append])

theorem spaceS {c : Nat} : ((⟨#[c]⟩ : Str) = (" " : Str)) ↔ c = 32 := by
  have e : (Str.ofString " ") = ⟨#[32]⟩ := by decide +kernel
  rw [show ((" " : Str)) = ⟨#[32]⟩ from e]
  constructor
  · intro h
    have := congrArg (fun s : Str => s.cps[0]?) h
    simpa using this
  · rintro rfl; rfl
theorem tl_cut {z : Str} {e : Nat} (h : e ≤ z.length) : tl (cutS z none (some (e : Int))) = (tl z).take e := by
  unfold cutS
  rw [TL.tl_mk]
  have h1 : HT.sIx z.length 0 none = 0 := rfl
  have h2 : HT.sIx z.length z.length (some (e : Int)) = e := by rw [HT.sIx_nat]; omega
  rw [h1, h2]; simp
theorem glue_cells {cs : List Str} {ws : List Int} {ss : Str} {n i : Nat} (hn : n ≤ 100) (hi : i ≤ n) (h : ∀ i, i < n → ((cs.getD i Str.empty).length : Int) ≤ ws.getD i 0 ∧ ws.getD i 0 ≤ 200) : (glue (cells cs ws ss i)).length ≤ 100000 := by
  refine glue_len (by simp [cells]; omega) fun y hy => ?_
  obtain ⟨j, hj, rfl⟩ := List.mem_map.mp hy
  have hj := List.mem_range.mp hj
  obtain ⟨q1, q2⟩ := h j (by omega)
  unfold cell
  rw [pad_len q1]; omega
def spDue (K : PySem.W.Frag) : Sp := fun vs H Q _ => ∃ (p q : Addr) (ss : Str) (hs : List Str) (rs : List (List Str)) (as : List Addr), vs = [.ref p, .ref q, .str ss] ∧ Tab K H p q hs rs as ∧ ss.length = hs.length ∧ (∀ r : List Str, r ∈ rs → r.length = hs.length) ∧
  ∀ r H', Same H H' → H r = none → H' r = some (.lst ((table hs rs ss).map V.str)) → Q (.ref r) H'
section
variable {P : Program} {w : World} {K : PySem.W.Frag} {mg : Str → Option Value} {base : Heap}
abbrev s__law_line_of : Stmt := topS 16
theorem sc__law_line_of : FnScope (["cells", "widths", "sides", "line", "place", "end"] : List Str) (["cells", "widths", "sides"] : List Str) (defScope s__law_line_of) := ⟨rfl, rfl, rfl, by decide +kernel, rfl, by decide +kernel, by decide +kernel⟩
theorem ok__law_line_of {f : Addr} {fd : FuncData} (F : Fun K "_law_line_of" "_law_line_of" s__law_line_of f fd) (B : Blt mg) (C__law_padded : FnAt P w K mg base 1 "_law_padded" ["text", "width", "side"] spPad) : FnOk P w K mg base (L2.CX P w) 2 f fd (["cells", "widths", "sides"] : List Str) (spLine K) := by
  refine F.okX sc__law_line_of (fun vs H Q E h => ?_) (fun cdv A outer s H vs Q E hr h => ?_)
  · obtain ⟨p, q, cs, ws, ss, rfl, _⟩ := h; rfl
  · have nd := sc__law_line_of.nd
    have hu := hr.units
    refine ⟨_, by exact (pss_cons (ps_st 3 nd pe_str)
        (pss_cons (ps_for (passes_of rfl) rfl (pi_range1 rfl B.range (pa_cons (pe_callB ca_len (by rfl) B.len bt_len (pa_cons (pv 0) pa_nil)) pa_nil)) (pg_n 4 nd)
        (pss_cons (ps_if (pt_cmpR oa_gt (pv 4) pe_int (nomark _))
        (pss_one (ps_st 3 nd (pe_op oa_add (pv 3) pe_str)))
        pss_nil)
        (pss_one (ps_st 3 nd (pe_op oa_add (pv 3) (pe_fn C__law_padded (hr.mono (by first | decide | omega)) passL (pa_cons (pe_ix oa_ix (pv 0) (pv 4) (fun _ _ => rfl)) (pa_cons (pe_ix oa_ix (pv 1) (pv 4) (fun _ _ => rfl)) (pa_cons (pe_ix oa_ix (pv 2) (pv 4) (fun _ _ => rfl)) pa_nil)))))))))
        (pss_cons (ps_st 5 nd pe_int)
        (pss_cons (ps_for (passes_of rfl) rfl (pi_range1 rfl B.range (pa_cons (pe_callB ca_len (by rfl) B.len bt_len (pa_cons (pv 3) pa_nil)) pa_nil)) (pg_n 4 nd)
        (pss_one (ps_if (pt_cmpR (oa_ne hu) (pe_ix oa_ix (pv 3) (pv 4) (fun _ _ => rfl)) pe_str (nomark _))
        (pss_one (ps_st 5 nd (pe_op oa_add (pv 4) pe_int)))
        pss_nil)))
        (pss_one (ps_ret (pe_slice oa_sl (pv 3) po_none (po_some (pv 5))))))))), ?_⟩
    obtain ⟨p, q, cs, ws, ss, rfl, hC, hW, e1, e2, h1, h2, k⟩ := h
    show (tSeq _ _) _ [some (.ref p), some (.ref q), some (.str ss), none, none, none] H
    have k := k H (Same.refl _)
    walk_at "s"
    refine w_lenL hC ?_
    rw [List.length_map]
    refine w_rg1 (by omega) (by omega) ?_
    have two : (Str.ofString "  ").length = 2 := by decide +kernel
    refine w_forR (fun i σ H' => H' = H ∧ ∃ v, σ = [some (.ref p), some (.ref q), some (.str ss), some (.str (glue (cells cs ws ss i))), v, none]) ⟨rfl, _, rfl⟩ ?_ ?_
    · rintro i σ H' hi ⟨rfl, v, rfl⟩
      have hi : i < cs.length := by omega
      obtain ⟨q1, q2⟩ := h2 i hi
      have gl := glue_cells (ss := ss) h1 (Nat.le_of_lt hi) h2
      have gl2 := glue_cells (ss := ss) h1 hi h2
      walk_at "s"
      have e0 : ((0 : Int) + (i : Nat)) = (i : Nat) := Int.zero_add _
      rw [e0]
      refine w_brJ (fun σ H1 => H1 = H' ∧ ∃ L : Str, σ = [some (.ref p), some (.ref q), some (.str ss), some (.str L), some (.int (i : Nat)), none] ∧ L.length ≤ 100000 + 2 ∧ L ++ cell cs ws ss i = glue (cells cs ws ss (i + 1))) ?_ (fun c1 nx hnx => ?_) (fun c1 nx hnx => ?_)
      · rintro σ H1 ⟨rfl, L, rfl, hL, eL⟩
        walk_at "s"
        refine w_ixL hC (atS (by omega) (by omega)) ?_
        refine w_ixL hW (atI_int (by omega) (by omega)) ?_
        refine w_ixS (line_le _ (by omega)) (by omega) (by omega) fun c hc => ?_
        rw [Int.toNat_natCast] at hc ⊢
        refine ⟨_, _, _, rfl, q1, q2, ?_⟩
        have ec : pad (cs.getD i Str.empty) (ws.getD i 0) ⟨#[c]⟩ = cell cs ws ss i := by
          unfold cell
          rw [List.getD_eq_getElem?_getD (l := tl ss), hc]; rfl
        rw [ec]
        show aAdd K (.str L) (.str _) H1 _
        rw [v_addS]
        refine ⟨line_le _ (by rw [← len_app, eL]; exact gl2), ?_⟩
        rw [eL]
        walk_at "s"
        exact ⟨_, rfl⟩
      · walk_at "s"
        rw [v_addS]
        refine ⟨Nat.le_trans (m := 200000) (by rw [two]; omega) (by decide), ?_⟩
        walk_at "s"
        refine hnx _ _ ⟨rfl, _, rfl, by rw [len_app, two]; omega, ?_⟩
        rw [cells_succ]
        unfold glue
        rw [join_snoc _ _ (by intro z; have := congrArg List.length z; simp [cells] at this; omega)]
      · walk_at "s"
        refine hnx _ _ ⟨rfl, _, rfl, by omega, ?_⟩
        have : i = 0 := by omega
        subst this
        show Str.join _ [] ++ _ = Str.join _ [cell cs ws ss 0]
        rw [join_one, join_nil, empty_app]
    · rintro σ H' ⟨rfl, v, rfl⟩
      have gl := glue_cells (ss := ss) h1 (Nat.le_refl _) h2
      have ei : ((cs.length : Int) - 0).toNat = cs.length := by omega
      first
        | rw [ei]
        | skip
      rw [Int.toNat_natCast]
      have k : Q (.str (trim (glue (cells cs ws ss cs.length)))) H' := k
      generalize glue (cells cs ws ss cs.length) = L at gl k
      walk_at "s"
      rw [v_lenS]
      refine ⟨line_le _ gl, ?_⟩
      refine w_rg1 (by omega) (by omega) ?_
      refine w_forR (fun i σ H1 => H1 = H' ∧ ∃ (e : Nat) (v : Option V), σ = [some (.ref p), some (.ref q), some (.str ss), some (.str L), v, some (.int (e : Nat))] ∧ e ≤ i ∧ (∀ j, e ≤ j → j < i → (tl L)[j]? = some 32) ∧ (e = 0 ∨ (tl L)[e - 1]? ≠ some 32)) ⟨rfl, 0, _, rfl, Nat.le_refl _, fun j _ hj => absurd hj (Nat.not_lt_zero _), .inl rfl⟩ ?_ ?_
      · rintro i σ H1 hi ⟨rfl, e, v, rfl, he, h3, h4⟩
        walk_at "s"
        have e0 : ((0 : Int) + (i : Nat)) = (i : Nat) := Int.zero_add _
        rw [e0]
        refine w_ixS (line_le _ gl) (by omega) (by omega) fun c hc => ?_
        rw [Int.toNat_natCast] at hc
        walk_at "s"
        refine w_brN (fun c1 => ?_) (fun c1 => ?_)
        · rw [spaceS] at c1
          walk_at "s"
          refine ⟨i + 1, _, rfl, Nat.le_refl _, fun j a b => by omega, .inr ?_⟩
          rw [Nat.add_sub_cancel, hc]
          intro z; exact c1 (Option.some.inj z)
        · rw [spaceS] at c1
          walk_at "s"
          refine ⟨e, _, rfl, by omega, fun j a b => ?_, h4⟩
          by_cases e2 : j = i
          · subst e2; rw [hc, c1]
          · exact h3 j a (by omega)
      · rintro σ H1 ⟨rfl, e, v, rfl, he, h3, h4⟩
        have he' : e ≤ L.length := by omega
        walk_at "s"
        refine w_slS (line_le _ gl) ?_
        have eL : cutS L none (some (e : Int)) = trim L := by
          apply ext_tl
          unfold trim
          rw [tl_cut he', tl_rstrip, rend_uniq (by rw [← len_tl]; exact he') (fun j a b => h3 j a (by rw [← len_tl] at b; omega)) h4]
        rw [eL]; exact k
abbrev s__law_due : Stmt := topS 17
theorem sc__law_due : FnScope (["headings", "rows", "sides", "widths", "place", "row", "dashes", "width", "lines"] : List Str) (["headings", "rows", "sides"] : List Str) (defScope s__law_due) := ⟨rfl, rfl, rfl, by decide +kernel, rfl, by decide +kernel, by decide +kernel⟩
theorem ok__law_due {f : Addr} {fd : FuncData} (F : Fun K "_law_due" "_law_due" s__law_due f fd) (B : Blt mg) (C__law_line_of : FnAt P w K mg base 2 "_law_line_of" ["cells", "widths", "sides"] (spLine K)) : FnOk P w K mg base (L2.CX P w) 3 f fd (["headings", "rows", "sides"] : List Str) (spDue K) := by
  refine F.okX sc__law_due (fun vs H Q E h => ?_) (fun cdv A outer s H vs Q E hr h => ?_)
  · obtain ⟨p, q, ss, hs, rs, as, rfl, _⟩ := h; rfl
  · have nd := sc__law_due.nd
    have hu := hr.units
    refine ⟨_, by exact (pss_cons (ps_st 3 nd (pe_lst pa_nil))
        (pss_cons (ps_for (passes_of rfl) rfl (pi_range1 rfl B.range (pa_cons (pe_callB ca_len (by rfl) B.len bt_len (pa_cons (pv 0) pa_nil)) pa_nil)) (pg_n 4 nd)
        (pss_one (ps_expr (pe_bm PySem.F.plainAttrs_list PySem.F.slot_list_append PySem.F.type_list_append mt_append (pv 3) (pa_cons (pe_callB (ca_max rfl) (by rfl) B.max bt_max (pa_cons (pe_op oa_add (pe_lst (pa_cons (pe_callB ca_len (by rfl) B.len bt_len (pa_cons (pe_ix oa_ix (pv 0) (pv 4) (fun _ _ => rfl)) pa_nil)) pa_nil)) (pe_lc (own := [("row", 5)]) (g := gName 5) (tt := tYes) rfl nd (pi_seq (pv 1)) (blkOk_by (N := (["headings", "rows", "sides", "widths", "place", "row", "dashes", "width", "lines"] : List Str)) (sc := defScope (topS 17)) (by decide +kernel)) (fun _ _ _ _ _ => (pg_n 5 nd)) (fun _ _ _ _ _ => pts_nil) (fun _ _ _ _ _ => (pe_callB (calK (K := K) (r := aLen) ca_len rfl) (by rfl) B.len bt_len (pa_cons (pe_ix (ixK (K := K) (r := aIx) oa_ix rfl) (pv 5) (pv 4) (fun _ _ => rfl)) pa_nil))))) pa_nil)) pa_nil)))))
        (pss_cons (ps_setLc (i := 6) (own := [("width", 7)]) (g := gName 7) (tt := tYes) rfl nd rfl rfl (sw_true rfl rfl rfl (by decide +kernel)) (pi_seq (pv 3)) (blkOk_by (N := (["headings", "rows", "sides", "widths", "place", "row", "dashes", "width", "lines"] : List Str)) (sc := defScope (topS 17)) (by decide +kernel)) (fun _ _ _ _ _ => (pg_n 7 nd)) (fun _ _ _ _ _ => pts_nil) (fun _ _ _ _ _ => (pe_op (opK (K := K) (r := aMul) oa_mul rfl) pe_str (pv 7))))
        (pss_cons (ps_st 8 nd (pe_lst (pa_cons (pe_fn C__law_line_of (hr.mono (by first | decide | omega)) passL (pa_cons (pv 0) (pa_cons (pv 3) (pa_cons (pv 2) pa_nil)))) (pa_cons (pe_fn C__law_line_of (hr.mono (by first | decide | omega)) passL (pa_cons (pv 6) (pa_cons (pv 3) (pa_cons (pv 2) pa_nil)))) pa_nil))))
        (pss_one (ps_ret (pe_op oa_add (pv 8) (pe_lc (own := [("row", 5)]) (g := gName 5) (tt := tYes) rfl nd (pi_seq (pv 1)) (blkOk_by (N := (["headings", "rows", "sides", "widths", "place", "row", "dashes", "width", "lines"] : List Str)) (sc := defScope (topS 17)) (by decide +kernel)) (fun _ _ _ _ _ => (pg_n 5 nd)) (fun _ _ _ _ _ => pts_nil) (fun _ _ _ _ _ => (pe_fn C__law_line_of (hr.mono (by first | decide | omega)) passL (pa_cons (pv 5) (pa_cons (pv 3) (pa_cons (pv 2) pa_nil))))))))))))), ?_⟩
    obtain ⟨p, q, ss, hs, rs, as, rfl, TB, c1, hrow, kn⟩ := h
    show (tSeq _ _) _ [some (.ref p), some (.ref q), some (.str ss), none, none, none, none, none, none] H
    walk_at "s"
    intro c hc
    have w0 := (W.start (H := H)).new (o := .lst ((widths hs rs 0).map V.int)) hc
    refine w_lenL (w0.fr.seq TB.hH) ?_
    rw [List.length_map]
    refine w_rg1 (by omega) (by have := TB.b1; omega) ?_
    refine w_forR (fun i σ H2 => (∃ v1 v2, σ = [some (.ref p), some (.ref q), some (.str ss), some (.ref c), v1, v2, none, none, none]) ∧ W H [(c, .lst ((widths hs rs i).map V.int))] H2) ⟨⟨_, _, rfl⟩, w0⟩ ?_ ?_
    · rintro i σ H3 hi ⟨⟨v1, v2, rfl⟩, w⟩
      have hi : i < hs.length := by omega
      have e0 : ((0 : Int) + (i : Nat)) = (i : Nat) := Int.zero_add _
      rw [e0]
      walk_at "s"
      refine ⟨.inl ⟨rfl, _, SqL.of (w.get 0 rfl)⟩, ?_⟩
      refine w_ixL (w.fr.seq TB.hH) (atS (by omega) (by omega)) ?_
      rw [v_lenS, Int.toNat_natCast]
      refine ⟨line_le _ (by have := TB.b3 i; omega), ?_⟩
      walk_at "s"
      intro z hz
      have w1 := w.new (o := .lst [.int ((hs.getD i Str.empty).length : Nat)]) hz
      refine w_sqL (w1.fr.seq TB.hR) ?_
      refine w_lcLf (fun j => .int (((rs.getD j []).getD i Str.empty).length : Nat)) (w1.fr.seq TB.hR) (by rw [List.length_map, TB.len]; have := TB.b2; omega) ?_ ?_
      · intro j x H4 N hx s4 hN
        obtain ⟨a, rfl, hj', hr, hS⟩ := TB.at hx
        refine ⟨rfl, ?_⟩
        walk_at "s"
        refine ⟨_, rfl, _, rfl, ?_⟩
        have hS4 := s4.seq (w1.fr.seq hS)
        refine w_ixL hS4 (atS (by omega) (by rw [hrow _ (Tab.mem hj')]; omega)) ?_
        rw [v_lenS, Int.toNat_natCast]
        refine ⟨line_le _ (by have := (TB.b4 _ (Tab.mem hj')).2 i; omega), ?_⟩
        exact hN _ (Same.refl _)
      · intro L H4 s4 hL e4
        have w2 := (w1.grow s4).add w1 hL e4
        refine w_catL (w2.get 1 rfl) (w2.get 0 rfl) (by rw [List.length_map, List.length_range, List.length_map, TB.len]; exact line_le _ (by have := TB.b2; simp; omega)) ?_
        intro m hm
        have ec : [V.int ((hs.getD i Str.empty).length : Nat)] ++ (List.range (as.map V.ref).length).map (fun j => V.int (((rs.getD j []).getD i Str.empty).length : Nat)) = (col hs rs i).map V.int := by
          rw [List.length_map, TB.len]
          have := range_map (fun r : List Str => V.int ((r.getD i Str.empty).length : Nat)) [] rs
          rw [this]
          unfold col
          rw [List.map_cons, List.map_map]; rfl
        rw [ec]
        have w3 := w2.new (o := .lst ((col hs rs i).map V.int)) hm
        refine w_max (SqL.of upd_same) (by simp [col]) col_nn ?_
        refine ⟨c, _, _, rfl, rfl, w3.get 3 rfl, by rw [List.length_map, widths_len]; exact small1000' (by have := TB.b1; omega), ?_⟩
        have w4 := w3.upd (o' := .lst ((widths hs rs (i + 1)).map V.int)) 3 rfl
        rw [widths_succ, List.map_append] at w4
        refine ⟨⟨_, _, rfl⟩, ?_⟩
        rw [widths_succ, List.map_append]
        exact w4.drop.drop.drop
    · rintro σ H2 ⟨⟨v1, v2, rfl⟩, w⟩
      rw [Int.toNat_natCast] at w
      obtain ⟨sF, w1⟩ := w.frz
      have cS : SqL K (upd H c (.lst ((widths hs rs hs.length).map V.int))) c ((widths hs rs hs.length).map V.int) := SqL.of upd_same
      have TB2 := TB.mono sF
      have kn2 : ∀ r H4, Same (upd H c (.lst ((widths hs rs hs.length).map V.int))) H4 → (upd H c (.lst ((widths hs rs hs.length).map V.int))) r = none → H4 r = some (.lst ((table hs rs ss).map V.str)) → Q (.ref r) H4 := fun r H4 s4 hr e =>
        kn r H4 (sF.trans s4) (sF.free hr) e
      generalize upd H c (.lst ((widths hs rs hs.length).map V.int)) = F at cS TB2 w1 kn2
      have wl : ∀ (cs : List Str), cs.length = hs.length → (∀ i, ((cs.getD i Str.empty).length : Int) ≤ mx (col hs rs i)) → ∀ i, i < cs.length → ((cs.getD i Str.empty).length : Int) ≤ (widths hs rs hs.length).getD i 0 ∧ (widths hs rs hs.length).getD i 0 ≤ 200 := fun cs e h i hi => by
        rw [widths_at (by omega)]
        exact ⟨h i, by have := TB.col_le (i := i); omega⟩
      walk_at "s"
      refine w_sqL (w1.fr.seq cS) ?_
      refine w_lcLf (fun j => .str (Txt.mul "-" ((widths hs rs hs.length).getD j 0))) (w1.fr.seq cS) (by rw [List.length_map, widths_len]; have := TB.b1; omega) ?_ ?_
      · intro j x H4 N hx s4 hN
        obtain ⟨hj', rfl⟩ := getD_map hx
        refine ⟨rfl, ?_⟩
        walk_at "s"
        refine ⟨_, rfl, ?_⟩
        rw [v_mulS]
        rw [widths_len] at hj'
        have hw := widths_at (hs := hs) (rs := rs) hj'
        have h1 := TB.col_le (i := j)
        have h2 := mx_nn (col hs rs j)
        refine ⟨⟨by omega, by omega, by decide +kernel⟩, ?_⟩
        exact hN _ (Same.refl _)
      · intro L H4 s4 hL e4
        have w2 := (w1.grow s4).add w1 hL e4
        have ed : (List.range ((widths hs rs hs.length).map V.int).length).map (fun j => V.str (Txt.mul "-" ((widths hs rs hs.length).getD j 0))) = (dashes (widths hs rs hs.length)).map V.str := by
          rw [List.length_map, range_map (fun w => V.str (Txt.mul "-" w)) 0]
          unfold dashes
          rw [List.map_map]; rfl
        rw [ed] at w2
        walk_at "s"
        refine ⟨p, c, hs, widths hs rs hs.length, ss, rfl, w2.fr.seq TB2.hH, w2.fr.seq cS, widths_len _ _ _, c1, by have := TB.b1; omega, wl hs rfl fun i => col_h, fun H3 s3 => ?_⟩
        have w2 := w2.grow s3
        have dl : (dashes (widths hs rs hs.length)).length = hs.length := by rw [dashes, List.length_map, widths_len]
        have dnn : ∀ w' ∈ widths hs rs hs.length, 0 ≤ w' := fun w' h => by obtain ⟨i, rfl⟩ := widths_mem h; exact mx_nn _
        refine ⟨L, c, dashes (widths hs rs hs.length), widths hs rs hs.length, ss, rfl, SqL.of (w2.get 0 rfl), w2.fr.seq cS, by rw [dl, widths_len], by rw [dl, c1], by rw [dl]; have := TB.b1; omega, fun i hi => ?_, fun H5 s5 => ?_⟩
        · rw [dl] at hi
          have ew : (dashes (widths hs rs hs.length)).getD i Str.empty = Txt.mul "-" ((widths hs rs hs.length).getD i 0) := by
            unfold dashes
            rw [List.getD_eq_getElem?_getD, List.getElem?_map, List.getD_eq_getElem?_getD, List.getElem?_eq_getElem (by rw [widths_len]; exact hi)]; rfl
          rw [ew, len_mul, dash_len, widths_at hi]
          have h1 := TB.col_le (i := i)
          have h2 := mx_nn (col hs rs i)
          constructor <;> omega
        rw [dashes_line dnn]
        have w2 := w2.grow s5
        walk_at "s"
        intro l hl
        have w3 := w2.new (o := .lst [.str (line hs (widths hs rs hs.length) ss), .str (trim (glue (dashes (widths hs rs hs.length))))]) hl
        refine w_sqL (w3.fr.seq TB2.hR) ?_
        refine w_lcLf (fun j => .str (line (rs.getD j []) (widths hs rs hs.length) ss)) (w3.fr.seq TB2.hR) (by rw [List.length_map, TB.len]; have := TB.b2; omega) ?_ ?_
        · intro j x H4 N hx s4 hN
          obtain ⟨a, rfl, hi, hr, hS⟩ := TB2.at hx
          refine ⟨rfl, ?_⟩
          walk_at "s"
          refine ⟨_, rfl, _, rfl, _, rfl, ?_⟩
          refine ⟨a, c, _, widths hs rs hs.length, ss, rfl, s4.seq (w3.fr.seq hS), s4.seq (w3.fr.seq cS), by rw [widths_len, hrow _ (Tab.mem hi)], by rw [hrow _ (Tab.mem hi)]; exact c1, by rw [hrow _ (Tab.mem hi)]; have := TB.b1; omega, wl _ (hrow _ (Tab.mem hi)) fun i => col_r (Tab.mem hi), fun H6 s6 => hN _ s6⟩
        · intro L2 H6 s6 hL2 e6
          have w4 := (w3.grow s6).add w3 hL2 e6
          refine w_catL (w4.get 1 rfl) (w4.get 0 rfl) (by rw [List.length_map, List.length_range, List.length_map, TB.len]; exact line_le _ (by have := TB.b2; simp; omega)) ?_
          intro m hm
          have et : [V.str (line hs (widths hs rs hs.length) ss), .str (trim (glue (dashes (widths hs rs hs.length))))] ++ (List.range (as.map V.ref).length).map (fun j => V.str (line (rs.getD j []) (widths hs rs hs.length) ss)) = (table hs rs ss).map V.str := by
            rw [List.length_map, TB.len, range_map (fun r => V.str (line r (widths hs rs hs.length) ss)) [] rs]
            unfold Tb.table
            simp
          rw [et]
          have w5 := w4.new (o := .lst ((table hs rs ss).map V.str)) hm
          exact kn2 m _ w5.fr (w5.offI 0 rfl) (w5.get 0 rfl)
end
end Nk
namespace Nk
open PySem L2 TL
open Tb
local macro_rules | `(tactic| walk_at "s") => `(tactic| try simp (decide := true) only [L2.cxK, L2.s_seq, L2.s_next, L2.s_brk, L2.s_cont, L2.s_drop, L2.s_ret, L2.s_retN, L2.s_ifS, L2.s_br1, L2.s_br0, L2.s_asg, L2.s_asI, L2.s_asB, L2.s_asN, L2.s_asS, L2.s_asR, L2.s_gName, L2.s_gSub, L2.s_var, L2.s_C, L2.s_op, L2.s_un, L2.s_chain, L2.s_test, L2.s_B, L2.s_and, L2.s_aB1, L2.s_aB0, L2.s_or, L2.s_oB1, L2.s_oB0, L2.s_not, L2.s_andV, L2.s_aE1, L2.s_aE0, L2.s_orV, L2.s_oE1, L2.s_oE0, L2.s_notV, L2.s_nE, L2.s_if, L2.s_iE1, L2.s_iE0, L2.s_tr, L2.s_trB, L2.s_trI, L2.s_trN, L2.s_nil, L2.s_cons, L2.s_CB, L2.s_call, L2.s_callS, L2.s_sl, L2.s_part, L2.s_noPart, L2.s_lst, L2.s_mk, L2.s_xf, L2.s_for, L2.s_lc, L2.s_rng1, L2.s_rng2, L2.s_rng3, L2.s_enum, L2.s_zip, L2.s_zip3, L2.s_yes, L2.s_seqI, L2.s_tup, L2.s_BM, L2.s_BM0, L2.v_addI, L2.v_subI, L2.v_mulI, L2.v_divI, L2.v_modI, L2.v_powI, L2.v_negI, L2.v_cmp, L2.v_eqI, L2.v_eqS, L2.v_neS, L2.v_neI, L2.v_isN, L2.v_isB, L2.v_isnotN, L2.v_isnotB, L2.v_int, L2.v_abs, L2.v_max2, L2.v_min2, L2.le_line, List.set_cons_succ, List.set_cons_zero, List.getElem?_cons_succ, List.getElem?_cons_zero, Option.some.injEq, exists_eq_left', V.bl.injEq, V.int.injEq, true_and, and_true, Bool.not_true, Bool.not_false, if_true, if_false, Bool.false_eq_true, List.append_nil, reduceCtorEq, decide_true, decide_false, ne_eq, not_false_eq_true, Int.reduceToNat, Int.reducePow, Int.reduceMul, Int.reduceAdd, Int.reduceSub, Int.reduceNeg, Nat.reduceAdd, List.length_cons, List.length_nil, List.nil_append, List.cons_append])

def spCell : Sp := fun vs H Q _ => ∃ (p : Addr) (a b c : Int), vs = [.ref p] ∧ H p = some (poolO a b c) ∧ POk b ∧
  ∀ (t : Str) (a' b' c' : Int) (H' : Hp), t.length ≤ 46 → But p H H' → H' p = some (poolO a' b' c') → POk b' → Q (.str t) H'
def spPrint (K : PySem.W.Frag) : Sp := fun vs H Q _ => ∃ (p q : Addr) (ss : Str) (hs : List Str) (rs : List (List Str)) (as : List Addr), vs = [.ref p, .ref q, .str ss] ∧ Tab K H p q hs rs as ∧ ss.length ≤ 20 ∧
  (bad hs rs ss = none → ∀ r w l H', Same H H' → H r = none → H l = none → H' r = some (.lst [.ref w, .ref l]) → H' w = some (.tup [.str "told"]) → H' l = some (.lst ((Tb.table hs rs ss).map V.str)) → Q (.ref r) H') ∧
  (∀ f, bad hs rs ss = some f → ∀ r w H', Same H H' → H r = none → H' r = some (.lst [.ref w, .non]) → H' w = some (.tup [.str "WrongLength", .int f, .int hs.length, .bl true, .bl false]) → Q (.ref r) H')
def dueD (hs : List Str) (rs : List (List Str)) (ss : Str) : PyData := match bad hs rs ss with
  | none => .list [.tuple [.str "told"], dS (Tb.table hs rs ss)]
  | some f => .list [.tuple [.str "WrongLength", .int f, .int hs.length, .bool true, .bool false], .none]
def spRefusal (K : PySem.W.Frag) : Sp := fun vs H Q _ => ∃ (p q : Addr) (ss : Str) (hs : List Str) (rs : List (List Str)) (as : List Addr), vs = [.ref p, .ref q, .str ss] ∧ Tab K H p q hs rs as ∧ ss.length ≤ 20 ∧
  ∀ r H', Same H H' → Dp K H' (.ref r) (dueD hs rs ss) → Q (.ref r) H'
theorem dp_told {K : PySem.W.Frag} {H : Hp} {r w l : Addr} {ys : List Str} (h : H r = some (.lst [.ref w, .ref l])) (h1 : H w = some (.tup [.str "told"])) (h2 : SqL K H l (ys.map V.str)) : Dp K H (.ref r) (.list [.tuple [.str "told"], dS ys]) :=
  .lst (SqL.of h) (.cons (.tup (SqT.of h1) (.cons (.str _) .nil)) (.cons (Dp.strL h2) .nil))
theorem dp_wrong {K : PySem.W.Frag} {H : Hp} {r w : Addr} {f n : Int} (h : H r = some (.lst [.ref w, .non])) (h1 : H w = some (.tup [.str "WrongLength", .int f, .int n, .bl true, .bl false])) : Dp K H (.ref r) (.list [.tuple [.str "WrongLength", .int f, .int n, .bool true, .bool false], .none]) :=
  .lst (SqL.of h) (.cons (.tup (SqT.of h1) (.cons (.str _) (.cons (.int _) (.cons (.int _) (.cons (.bl _) (.cons (.bl _) .nil)))))) (.cons .non .nil))
theorem table_len {hs : List Str} {rs : List (List Str)} {ss : Str} : (Tb.table hs rs ss).length = rs.length + 2 := by simp [Tb.table]
theorem fits_due {hs : List Str} {rs : List (List Str)} {ss : Str} (h : rs.length ≤ 20) : fits 3 (dueD hs rs ss) := by
  unfold dueD
  cases bad hs rs ss with
  | none =>
    refine ⟨by simp, fun d hd => ?_⟩
    simp only [List.mem_cons, List.not_mem_nil, or_false] at hd
    rcases hd with rfl | rfl
    · refine ⟨by simp, fun d hd => ?_⟩
      simp only [List.mem_cons, List.not_mem_nil, or_false] at hd
      subst hd; trivial
    · exact fits_dS (by rw [table_len]; omega)
  | some f =>
    refine ⟨by simp, fun d hd => ?_⟩
    simp only [List.mem_cons, List.not_mem_nil, or_false] at hd
    rcases hd with rfl | rfl
    · refine ⟨by simp, fun d hd => ?_⟩
      simp only [List.mem_cons, List.not_mem_nil, or_false] at hd
      rcases hd with rfl | rfl | rfl | rfl | rfl <;> trivial
    · trivial
theorem bad_eq {hs : List Str} {rs : List (List Str)} {ss : Str} (h : bad hs rs ss = none) : ss.length = hs.length ∧ ∀ r : List Str, r ∈ rs → r.length = hs.length := by
  unfold bad at h
  by_cases e : ss.length ≠ hs.length
  · rw [if_pos e] at h; cases h
  · rw [if_neg e] at h
    refine ⟨by omega, fun r hr => ?_⟩
    rw [Option.map_eq_none_iff, List.find?_eq_none] at h
    simpa using h r hr
section
variable {P : Program} {w : World} {K : PySem.W.Frag} {mg : Str → Option Value} {base : Heap}
variable {cNE cBN cWL iWL : Addr}
abbrev s__law_cell_text : Stmt := topS 14
theorem sc__law_cell_text : FnScope (["pool", "signs", "size", "text", "turn", "way"] : List Str) (["pool"] : List Str) (defScope s__law_cell_text) := ⟨rfl, rfl, rfl, by decide +kernel, rfl, by decide +kernel, by decide +kernel⟩
theorem ok__law_cell_text {f : Addr} {fd : FuncData} (F : Fun K "_law_cell_text" "_law_cell_text" s__law_cell_text f fd) (B : Blt mg) (C__law_draw : FnAt P w K mg base 1 "_law_draw" ["pool", "many"] spDraw) : FnOk P w K mg base (L2.CX P w) 2 f fd (["pool"] : List Str) spCell := by
  refine F.okX sc__law_cell_text (fun vs H Q E h => ?_) (fun cdv A outer s H vs Q E hr h => ?_)
  · obtain ⟨p, a, b, c, rfl, _⟩ := h; rfl
  · have nd := sc__law_cell_text.nd
    have hu := hr.units
    refine ⟨_, by exact (pss_cons (ps_st 1 nd pe_str)
        (pss_cons (ps_st 1 nd (pe_op oa_add (pv 1) pe_str))
        (pss_cons (ps_st 2 nd (pe_fn C__law_draw (hr.mono (by first | decide | omega)) passL (pa_cons (pv 0) (pa_cons pe_int pa_nil))))
        (pss_cons (ps_if (pt_cmpR (oa_eq hu) (pe_fn C__law_draw (hr.mono (by first | decide | omega)) passL (pa_cons (pv 0) (pa_cons pe_int pa_nil))) pe_int (nomark _))
        (pss_one (ps_st 2 nd (pe_fn C__law_draw (hr.mono (by first | decide | omega)) passL (pa_cons (pv 0) (pa_cons pe_int pa_nil)))))
        pss_nil)
        (pss_cons (ps_st 3 nd (pe_bm PySem.F.plainAttrs_str PySem.F.slot_str_join PySem.F.type_str_join mt_join pe_str (pa_cons (pe_lc (own := [("turn", 4)]) (g := gName 4) (tt := tYes) rfl nd (pi_range1 rfl B.range (pa_cons (pv 2) pa_nil)) (blkOk_by (N := (["pool", "signs", "size", "text", "turn", "way"] : List Str)) (sc := defScope (topS 14)) (by decide +kernel)) (fun _ _ _ _ _ => (pg_n 4 nd)) (fun _ _ _ _ _ => pts_nil) (fun _ _ _ _ _ => (pe_ix (ixK (K := K) (r := aIx) oa_ix rfl) (pv 1) (pe_fn C__law_draw (hr.mono (by first | decide | omega)) passL (pa_cons (pv 0) (pa_cons (pe_callB (calK (K := K) (r := aLen) ca_len rfl) (by rfl) B.len bt_len (pa_cons (pv 1) pa_nil)) pa_nil))) (fun _ _ => rfl)))) pa_nil)))
        (pss_cons (ps_st 5 nd (pe_fn C__law_draw (hr.mono (by first | decide | omega)) passL (pa_cons (pv 0) (pa_cons pe_int pa_nil))))
        (pss_cons (ps_if (pt_cmpR (oa_eq hu) (pv 5) pe_int (nomark _))
        (pss_one (ps_ret (pe_op oa_mul pe_str (pe_fn C__law_draw (hr.mono (by first | decide | omega)) passL (pa_cons (pv 0) (pa_cons pe_int pa_nil))))))
        pss_nil)
        (pss_cons (ps_if (pt_cmpR (oa_eq hu) (pv 5) pe_int (nomark _))
        (pss_one (ps_ret (pe_op oa_add (pe_op oa_add (pe_op oa_mul pe_str (pe_fn C__law_draw (hr.mono (by first | decide | omega)) passL (pa_cons (pv 0) (pa_cons pe_int pa_nil)))) (pv 3)) (pe_op oa_mul pe_str (pe_fn C__law_draw (hr.mono (by first | decide | omega)) passL (pa_cons (pv 0) (pa_cons pe_int pa_nil)))))))
        pss_nil)
        (pss_one (ps_ret (pv 3))))))))))), ?_⟩
    obtain ⟨p, a, b, c, rfl, hp, hb, k⟩ := h
    show (tSeq _ _) _ [some (.ref p), none, none, none, none, none] H
    walk_at "s"
    rw [v_addS]
    have L1 : (Str.ofString " !\"#$&'()*+,-./0123456789:;<=>?@ABCDEFGHIJKLMNOPQRSTUVWXYZ[\\]^_`").length = 64 := by decide +kernel
    have L2' : (Str.ofString "abcdefghijklmnopqrstuvwxyz{|}~").length = 30 := by decide +kernel
    refine ⟨Nat.le_trans (m := 1000) (by rw [L1, L2']; decide) (by decide), ?_⟩
    have LS : (Str.ofString " !\"#$&'()*+,-./0123456789:;<=>?@ABCDEFGHIJKLMNOPQRSTUVWXYZ[\\]^_`" ++ Str.ofString "abcdefghijklmnopqrstuvwxyz{|}~").length = 94 := by rw [len_app, L1, L2']
    generalize (Str.ofString " !\"#$&'()*+,-./0123456789:;<=>?@ABCDEFGHIJKLMNOPQRSTUVWXYZ[\\]^_`" ++ Str.ofString "abcdefghijklmnopqrstuvwxyz{|}~") = S at LS ⊢
    have wp := W.own hp
    walk_at "s"
    refine w_draw wp 0 rfl hb (by omega) (by omega) fun sz a b c H1 g0 g1 hb b1 w1 => ?_
    walk_at "s"
    refine w_draw w1 0 rfl hb (by omega) (by omega) fun d a b c H2 g2 g3 hb b2 w2 => ?_
    have b2 := b1.trans b2
    walk_at "s"
    refine w_brJ (fun σ H' => ∃ (sz a b c : Int), σ = [some (.ref p), some (.str S), some (.int sz), none, none, none] ∧ 0 ≤ sz ∧ sz ≤ 40 ∧ POk b ∧ W (rem H p) [(p, poolO a b c)] H') ?_ (fun c1 nx hnx => ?_) (fun c1 nx hnx => ?_)
    · rintro σ H3 ⟨sz, a, b, c, rfl, z0, z1, hb, w3⟩
      walk_at "s"
      refine ⟨rfl, ?_⟩
      refine w_rg1 (by omega) (by omega) ?_
      refine w_lcR (fun L i H' => ∃ (ys : List Str) (a b c : Int), W (rem H p) [(L, .lst (ys.map V.str)), (p, poolO a b c)] H' ∧ POk b ∧ ys.length = i ∧ ∀ y ∈ ys, y.length = 1) (fun L hL => ⟨[], a, b, c, w3.new hL, hb, rfl, (fun y hy => nomatch hy)⟩) ?_ ?_
      · rintro L i H' hi ⟨ys, a, b, c, w, hb, hl, h1⟩
        walk_at "s"
        refine ⟨rfl, ?_⟩
        refine ⟨_, rfl, _, rfl, _, rfl, ?_⟩
        rw [v_lenS]
        refine ⟨line_le _ (by rw [LS]; omega), ?_⟩
        refine w_draw w 1 rfl hb (by rw [LS]; omega) (by rw [LS]; omega) fun x a b c H2 q0 q1 hb _ w2 => ?_
        refine w_ixS (line_le _ (by rw [LS]; omega)) q0 q1 fun ch hch => ?_
        refine ⟨_, w2.get 0 rfl, by rw [List.length_map]; exact small1000' (by omega), ys ++ [⟨#[ch]⟩], a, b, c, ?_, hb, by simp; omega, ?_⟩
        · have := w2.upd (o' := .lst ((ys ++ [(⟨#[ch]⟩ : Str)]).map V.str)) 0 rfl
          simpa using this
        · intro y hy
          rcases List.mem_append.mp hy with hy | hy
          · exact h1 y hy
          · have : y = ⟨#[ch]⟩ := by simpa using hy
            subst this; rfl
      · rintro L H4 hL ⟨ys, a, b, c, w, hb, hl, h1⟩
        have h40 : ys.length ≤ 40 := by omega
        refine ⟨_, L, ys, rfl, rfl, .inl (SqL.of (w.get 0 rfl)), joinC (m := 1) (fun y hy => by rw [h1 y hy]; exact Nat.le_refl _) ?_, ?_⟩
        · have e : (Str.ofString "").length = 0 := by decide +kernel
          rw [e]; omega
        rw [join_eq]
        have tl' : (Str.join (Str.ofString "") ys).length ≤ 40 := by
          have := join0_len h1
          show (Str.join "" ys).length ≤ 40
          omega
        generalize Str.join (Str.ofString "") ys = T at tl'
        have w4 := w.drop
        have fin : ∀ (t : Str) (a b c : Int) (H' : Hp), t.length ≤ 46 → POk b → W (rem H p) [(p, poolO a b c)] H' → Q (.str t) H' := fun t a b c H' h1 hb w => k t a b c H' h1 w.but (w.get 0 rfl) hb
        have sp := one_len
        walk_at "s"
        refine w_draw w4 0 rfl hb (by omega) (by omega) fun d a b c H5 g0 g1 hb _ w5 => ?_
        walk_at "s"
        refine w_br (fun c1 => ?_) (fun c1 => ?_)
        · walk_at "s"
          refine w_draw w5 0 rfl hb (by omega) (by omega) fun d a b c H6 g0 g1 hb _ w6 => ?_
          rw [v_mulS]
          exact ⟨⟨by omega, by omega, by rw [sp]; omega⟩, fin _ a b c _ (by rw [len_mul, sp]; omega) hb w6⟩
        walk_at "s"
        refine w_br (fun c1 => ?_) (fun c1 => ?_)
        · walk_at "s"
          refine w_draw w5 0 rfl hb (by omega) (by omega) fun d a b c H6 g0 g1 hb _ w6 => ?_
          rw [v_mulS]
          refine ⟨⟨by omega, by omega, by rw [sp]; omega⟩, ?_⟩
          rw [v_addS]
          refine ⟨line_le _ (by rw [len_mul, sp]; omega), ?_⟩
          walk_at "s"
          refine w_draw w6 0 rfl hb (by omega) (by omega) fun d2 a b c H7 g3 g4 hb _ w7 => ?_
          rw [v_mulS]
          refine ⟨⟨by omega, by omega, by rw [sp]; omega⟩, ?_⟩
          rw [v_addS]
          exact ⟨line_le _ (by rw [len_app, len_mul, len_mul, sp]; omega), fin _ a b c _ (by rw [len_app, len_app, len_mul, len_mul, sp]; omega) hb w7⟩
        · walk_at "s"
          exact fin _ a b c _ (by omega) hb w5
    · walk_at "s"
      refine w_draw w2 0 rfl hb (by omega) (by omega) fun d a b c H3 g0 g1 hb _ w3 => ?_
      walk_at "s"
      exact hnx _ _ ⟨_, a, b, c, rfl, g0, by omega, hb, w3⟩
    · walk_at "s"
      exact hnx _ _ ⟨_, a, b, c, rfl, g0, by omega, hb, w2⟩
abbrev s__law_print : Stmt := topS 18
theorem sc__law_print : FnScope (["headings", "rows", "sides", "word", "got", "e"] : List Str) (["headings", "rows", "sides"] : List Str) (defScope s__law_print) := ⟨rfl, rfl, rfl, by decide +kernel, rfl, by decide +kernel, by decide +kernel⟩
theorem ok__law_print {f : Addr} {fd : FuncData} (F : Fun K "_law_print" "_law_print" s__law_print f fd) (B : Blt mg) (T : Tx K mg cNE cBN cWL iWL) (C_table_lines : FnAt P w K mg base 3 "table_lines" ["headings", "rows", "sides"] (spTable K cWL)) : FnOk P w K mg base (L2.CX P w) 4 f fd (["headings", "rows", "sides"] : List Str) (spPrint K) := by
  refine F.okX sc__law_print (fun vs H Q E h => ?_) (fun cdv A outer s H vs Q E hr h => ?_)
  · obtain ⟨p, q, ss, hs, rs, as, rfl, _⟩ := h; rfl
  · have nd := sc__law_print.nd
    have hu := hr.units
    refine ⟨_, by exact (pss_cons (ps_st 3 nd (pe_tup (pa_cons pe_str pa_nil)))
        (pss_cons (ps_st 4 nd pe_non)
        (pss_cons (ps_try_hds rfl rfl nd takes0 (fun W pn xe tk po =>
        (pss_one (ps_st 4 nd (pe_fnS C_table_lines (hr.mono (by first | decide | omega)) (fun σ => passAt tk σ) (pa_cons (pv 0) (pa_cons (pv 1) (pa_cons (pv 2) pa_nil)))))))
        (HdsN.as_ (i := 5) rfl rfl ⟨rfl, by decide, .inl T.x_WrongLength.g⟩ (fun a oe cls dd pn hz hf => (pss_one (ps_st 3 nd (pe_tup (pa_cons pe_str (pa_cons (pe_xf T.x_WrongLength.xf (T.x_WrongLength.txt.noN "found" (by simp)) hz hf (pv 5)) (pa_cons (pe_xf T.x_WrongLength.xf (T.x_WrongLength.txt.noN "wanted" (by simp)) hz hf (pv 5)) (pa_cons (pe_callB (call_isX T.x_WrongLength.ex hz hf) (by rfl) B.isinstance bt_isinstance (pa_cons (pv 5) (pa_cons (pe_glob (v := .ref _) rfl T.x_NightsError.g rfl) pa_nil))) (pa_cons (pe_callB (call_isX T.x_WrongLength.ex hz hf) (by rfl) B.isinstance bt_isinstance (pa_cons (pv 5) (pa_cons (pe_glob (v := .ref _) rfl T.x_BadNumber.g rfl) pa_nil))) pa_nil))))))))) HdsN.nil))
        (pss_one (ps_ret (pe_lst (pa_cons (pv 3) (pa_cons (pv 4) pa_nil)))))))), ?_⟩
    obtain ⟨p, q, ss, hs, rs, as, rfl, TB, hss, kn, kb⟩ := h
    show (tSeq _ _) _ [some (.ref p), some (.ref q), some (.str ss), none, none, none] H
    walk_at "s"
    intro z hz
    have wz : W H [(z, .tup [.str "told"])] _ := W.start.new hz
    refine ⟨p, q, ss, hs, rs, as, rfl, TB.mono wz.fr, hss, fun hb l H1 s1 hl hl1 => ?_, fun f hf d H1 s1 hd hd1 => ?_⟩
    · walk_at "s"
      intro r hr
      have w1 : W H [(l, .lst ((Tb.table hs rs ss).map V.str)), (z, .tup [.str "told"])] H1 := (wz.grow s1).add wz hl hl1
      have w2 := w1.new (o := .lst [.ref z, .ref l]) hr
      exact kn hb r z l _ w2.fr (w2.offI 0 rfl) (w2.offI 1 rfl) (w2.get 0 rfl) (w2.get 2 rfl) (w2.get 1 rfl)
    · unfold wHds
      have wd := (wz.grow s1).add wz hd hd1
      refine ⟨true, T.x_WrongLength.exm T.x_WrongLength.seC, fun _ x hx => ?_, fun z => by cases z⟩
      show tAsg _ _ _ _ _
      walk_at "s"
      refine w_xf hd1 (v := .int f) (by rfl) ?_
      walk_at "s"
      refine w_xf hd1 (v := .int hs.length) (by rfl) ?_
      walk_at "s"
      refine w_isX T.x_NightsError hd1 T.s_WL_NE ?_
      walk_at "s"
      refine w_isX T.x_BadNumber hd1 T.s_WL_BN ?_
      walk_at "s"
      intro t ht
      have w2 := wd.new (o := .tup [.str "WrongLength", .int f, .int hs.length, .bl true, .bl false]) ht
      walk_at "s"
      intro r hr
      have w3 := w2.new (o := .lst [.ref t, .non]) hr
      exact kb f hf r t _ w3.fr (w3.offI 0 rfl) (w3.get 0 rfl) (w3.get 1 rfl)
abbrev s__law_refusal : Stmt := topS 19
theorem sc__law_refusal : FnScope (["headings", "rows", "sides", "row"] : List Str) (["headings", "rows", "sides"] : List Str) (defScope s__law_refusal) := ⟨rfl, rfl, rfl, by decide +kernel, rfl, by decide +kernel, by decide +kernel⟩
theorem ok__law_refusal {f : Addr} {fd : FuncData} (F : Fun K "_law_refusal" "_law_refusal" s__law_refusal f fd) (B : Blt mg) (C__law_due : FnAt P w K mg base 3 "_law_due" ["headings", "rows", "sides"] (spDue K)) : FnOk P w K mg base (L2.CX P w) 4 f fd (["headings", "rows", "sides"] : List Str) (spRefusal K) := by
  refine F.okX sc__law_refusal (fun vs H Q E h => ?_) (fun cdv A outer s H vs Q E hr h => ?_)
  · obtain ⟨p, q, ss, hs, rs, as, rfl, _⟩ := h; rfl
  · have nd := sc__law_refusal.nd
    have hu := hr.units
    refine ⟨_, by exact (pss_cons (ps_if (pt_cmpR (oa_ne hu) (pe_callB ca_len (by rfl) B.len bt_len (pa_cons (pv 2) pa_nil)) (pe_callB ca_len (by rfl) B.len bt_len (pa_cons (pv 0) pa_nil)) (nomark _))
        (pss_one (ps_ret (pe_lst (pa_cons (pe_tup (pa_cons pe_str (pa_cons (pe_callB ca_len (by rfl) B.len bt_len (pa_cons (pv 2) pa_nil)) (pa_cons (pe_callB ca_len (by rfl) B.len bt_len (pa_cons (pv 0) pa_nil)) (pa_cons pe_bl (pa_cons pe_bl pa_nil)))))) (pa_cons pe_non pa_nil)))))
        pss_nil)
        (pss_cons (ps_for (passes_of rfl) rfl (pi_seq (pv 1)) (pg_n 3 nd)
        (pss_one (ps_if (pt_cmpR (oa_ne hu) (pe_callB ca_len (by rfl) B.len bt_len (pa_cons (pv 3) pa_nil)) (pe_callB ca_len (by rfl) B.len bt_len (pa_cons (pv 0) pa_nil)) (nomark _))
        (pss_one (ps_ret (pe_lst (pa_cons (pe_tup (pa_cons pe_str (pa_cons (pe_callB ca_len (by rfl) B.len bt_len (pa_cons (pv 3) pa_nil)) (pa_cons (pe_callB ca_len (by rfl) B.len bt_len (pa_cons (pv 0) pa_nil)) (pa_cons pe_bl (pa_cons pe_bl pa_nil)))))) (pa_cons pe_non pa_nil)))))
        pss_nil)))
        (pss_one (ps_ret (pe_lst (pa_cons (pe_tup (pa_cons pe_str pa_nil)) (pa_cons (pe_fn C__law_due (hr.mono (by first | decide | omega)) passL (pa_cons (pv 0) (pa_cons (pv 1) (pa_cons (pv 2) pa_nil)))) pa_nil))))))), ?_⟩
    obtain ⟨p, q, ss, hs, rs, as, rfl, TB, hss, k⟩ := h
    show (tSeq _ _) _ [some (.ref p), some (.ref q), some (.str ss), none] H
    walk_at "s"
    have wrong : ∀ f : Int, bad hs rs ss = some f → ∀ (t : Addr), H t = none → ∀ r : Addr, (upd H t (.tup [.str "WrongLength", .int f, .int hs.length, .bl true, .bl false])) r = none → Q (.ref r) (upd (upd H t (.tup [.str "WrongLength", .int f, .int hs.length, .bl true, .bl false])) r (.lst [.ref t, .non])) := fun f hf t ht r hr => by
      have w1 := (W.start (H := H)).new (o := .tup [.str "WrongLength", .int f, .int hs.length, .bl true, .bl false]) ht
      have w2 := w1.new (o := .lst [.ref t, .non]) hr
      refine k r _ w2.fr ?_
      unfold dueD
      rw [hf]
      exact dp_wrong (w2.get 0 rfl) (w2.get 1 rfl)
    rw [v_lenS]
    refine ⟨line_le _ (by omega), ?_⟩
    refine w_lenL TB.hH ?_
    rw [List.length_map]
    walk_at "s"
    refine w_brN (fun c1 => ?_) (fun c1 => ?_)
    · walk_at "s"
      rw [v_lenS]
      refine ⟨line_le _ (by omega), ?_⟩
      refine w_lenL TB.hH ?_
      rw [List.length_map]
      walk_at "s"
      exact fun t ht r hr => wrong _ (bad_sides (by omega)) t ht r hr
    have c1 : ss.length = hs.length := by omega
    walk_at "s"
    refine w_sqL TB.hR ?_
    refine w_forL (xs := as.map V.ref) (fun i σ H' => H' = H ∧ (∃ v, σ = [some (.ref p), some (.ref q), some (.str ss), v]) ∧ ∀ j < i, ∀ r, rs[j]? = some r → r.length = hs.length) ⟨rfl, ⟨_, rfl⟩, fun j hj => absurd hj (Nat.not_lt_zero _)⟩ (fun i σ H' _ h => by rw [h.1]; exact TB.hR) ?_ ?_
    · rintro i x σ H' hx ⟨rfl, ⟨v, rfl⟩, hj⟩
      obtain ⟨a, rfl, hi, hr, hS⟩ := TB.at hx
      walk_at "s"
      refine w_lenL hS ?_
      refine w_lenL TB.hH ?_
      rw [List.length_map, List.length_map]
      walk_at "s"
      refine w_brN (fun c2 => ?_) (fun c2 => ?_)
      · walk_at "s"
        refine w_lenL hS ?_
        refine w_lenL TB.hH ?_
        rw [List.length_map, List.length_map]
        exact fun t ht r hr' => wrong _ (bad_row c1 hr (by omega) hj) t ht r hr'
      · walk_at "s"
        refine ⟨⟨_, rfl⟩, fun j hj' r hr' => ?_⟩
        by_cases e : j = i
        · subst e; rw [hr] at hr'; cases hr'; omega
        · exact hj j (by omega) r hr'
    · rintro σ H' ⟨rfl, ⟨v, rfl⟩, hj⟩
      rw [List.length_map, TB.len] at hj
      have hrow : ∀ r : List Str, r ∈ rs → r.length = hs.length := fun r hr => by
        obtain ⟨j, hj', e⟩ := List.mem_iff_getElem.mp hr
        exact hj j hj' r (by rw [List.getElem?_eq_getElem hj', e])
      walk_at "s"
      intro t ht
      have w1 := (W.start (H := H')).new (o := .tup [.str "told"]) ht
      refine ⟨p, q, ss, hs, rs, as, rfl, TB.mono w1.fr, c1, hrow, fun l H2 s2 hl hl2 => ?_⟩
      have w2 := (w1.grow s2).add w1 hl hl2
      walk_at "s"
      intro r hr
      have w3 := w2.new (o := .lst [.ref t, .ref l]) hr
      refine k r _ w3.fr ?_
      unfold dueD
      rw [bad_none c1 hrow]
      exact dp_told (w3.get 0 rfl) (w3.get 2 rfl) (SqL.of (w3.get 1 rfl))
end
end Nk
namespace Nk
open PySem L2 TL
open Tb
local macro_rules | `(tactic| walk_at "s") => `(tactic| try simp (decide := true) only [L2.cxK, L2.s_seq, L2.s_next, L2.s_brk, L2.s_cont, L2.s_drop, L2.s_ret, L2.s_retN, L2.s_ifS, L2.s_br1, L2.s_br0, L2.s_asg, L2.s_asI, L2.s_asB, L2.s_asN, L2.s_asS, L2.s_asR, L2.s_gName, L2.s_gSub, L2.s_var, L2.s_C, L2.s_op, L2.s_un, L2.s_chain, L2.s_test, L2.s_B, L2.s_and, L2.s_aB1, L2.s_aB0, L2.s_or, L2.s_oB1, L2.s_oB0, L2.s_not, L2.s_andV, L2.s_aE1, L2.s_aE0, L2.s_orV, L2.s_oE1, L2.s_oE0, L2.s_notV, L2.s_nE, L2.s_if, L2.s_iE1, L2.s_iE0, L2.s_tr, L2.s_trB, L2.s_trI, L2.s_trN, L2.s_nil, L2.s_cons, L2.s_CB, L2.s_call, L2.s_callS, L2.s_sl, L2.s_part, L2.s_noPart, L2.s_lst, L2.s_mk, L2.s_xf, L2.s_for, L2.s_lc, L2.s_rng1, L2.s_rng2, L2.s_rng3, L2.s_enum, L2.s_zip, L2.s_zip3, L2.s_yes, L2.s_seqI, L2.s_tup, L2.s_BM, L2.s_BM0, L2.v_addI, L2.v_subI, L2.v_mulI, L2.v_divI, L2.v_modI, L2.v_powI, L2.v_negI, L2.v_cmp, L2.v_eqI, L2.v_eqS, L2.v_neS, L2.v_neI, L2.v_isN, L2.v_isB, L2.v_isnotN, L2.v_isnotB, L2.v_int, L2.v_abs, L2.v_max2, L2.v_min2, L2.le_line, List.set_cons_succ, List.set_cons_zero, List.getElem?_cons_succ, List.getElem?_cons_zero, Option.some.injEq, exists_eq_left', V.bl.injEq, V.int.injEq, true_and, and_true, Bool.not_true, Bool.not_false, if_true, if_false, Bool.false_eq_true, List.append_nil, reduceCtorEq, decide_true, decide_false, ne_eq, not_false_eq_true, Int.reduceToNat, Int.reducePow, Int.reduceMul, Int.reduceAdd, Int.reduceSub, Int.reduceNeg, Nat.reduceAdd, List.length_cons, List.length_nil, List.nil_append, List.cons_append])

def spBent (K : PySem.W.Frag) : Sp := fun vs H Q _ => ∃ (p q hp : Addr) (hs : List Str) (rs : List (List Str)) (as : List Addr) (a b c : Int), vs = [.ref p, .ref q] ∧ Tab K (rem H p) hp q hs rs as ∧ 0 < rs.length ∧ (∀ r : List Str, r ∈ rs → r.length ≤ 10) ∧ H p = some (poolO a b c) ∧ POk b ∧
  ∀ (r : Addr) (rs' : List (List Str)) (as' : List Addr) (a' b' c' : Int) (H' : Hp), Tab K (rem H' p) hp r hs rs' as' → But p H H' → H' p = some (poolO a' b' c') → POk b' → Q (.ref r) H'
def spStays (K : PySem.W.Frag) : Sp := fun vs H Q _ => ∃ (p q : Addr) (ss : Str) (hs : List Str) (rs : List (List Str)) (as : List Addr) (v : V), vs = [.ref p, .ref q, .str ss, v] ∧ Tab K H p q hs rs as ∧ ss.length ≤ 20 ∧ Dp K H v (dueD hs rs ss) ∧
  ∀ H', Same H H' → Q (.bl true) H'
theorem Tab.dp {K : PySem.W.Frag} {H : Hp} {p q : Addr} {hs : List Str} {rs : List (List Str)} {as : List Addr} (T : Tab K H p q hs rs as) {z : Addr} (h : SqL K H z [.ref p, .ref q]) : Dp K H (.ref z) (.list [dS hs, .list (rs.map dS)]) :=
  .lst h (.cons (Dp.strL T.hH) (.cons (.lst T.hR (dpAll_of dS T.len fun i a r h1 h2 => Dp.strL (T.row i a r h1 h2))) .nil))
theorem Tab.fits {K : PySem.W.Frag} {H : Hp} {p q : Addr} {hs : List Str} {rs : List (List Str)} {as : List Addr} (T : Tab K H p q hs rs as) : fits 3 (.list [dS hs, .list (rs.map dS)]) := by
  refine ⟨by simp, fun d hd => ?_⟩
  simp only [List.mem_cons, List.not_mem_nil, or_false] at hd
  rcases hd with rfl | rfl
  · exact fits_dS (by have := T.b1; omega)
  · refine ⟨by rw [List.length_map]; have := T.b2; omega, fun d hd => ?_⟩
    obtain ⟨r, hr, rfl⟩ := List.mem_map.mp hd
    exact fits_dS (by have := (T.b4 r hr).1; omega)
theorem cutV_drop (xs : List V) (k : Nat) : cutV xs (some (k : Int)) none = xs.drop k := by
  unfold cutV
  rw [HT.sIx_nat, HT.sIx_none]
  by_cases h : k ≤ xs.length
  · rw [Nat.min_eq_left h, List.take_of_length_le (by rw [List.length_drop]; omega)]
  · rw [Nat.min_eq_right (by omega), List.drop_eq_nil_of_le (Nat.le_refl _), List.drop_eq_nil_of_le (by omega), List.take_nil]
section
variable {P : Program} {w : World} {K : PySem.W.Frag} {mg : Str → Option Value} {base : Heap}
abbrev s__law_bent_rows : Stmt := topS 20
theorem sc__law_bent_rows : FnScope (["pool", "rows", "bent", "row", "place", "way"] : List Str) (["pool", "rows"] : List Str) (defScope s__law_bent_rows) := ⟨rfl, rfl, rfl, by decide +kernel, rfl, by decide +kernel, by decide +kernel⟩
theorem ok__law_bent_rows {f : Addr} {fd : FuncData} (F : Fun K "_law_bent_rows" "_law_bent_rows" s__law_bent_rows f fd) (B : Blt mg) (C__law_draw : FnAt P w K mg base 1 "_law_draw" ["pool", "many"] spDraw) (C__law_cell_text : FnAt P w K mg base 2 "_law_cell_text" ["pool"] spCell) : FnOk P w K mg base (L2.CX P w) 3 f fd (["pool", "rows"] : List Str) (spBent K) := by
  refine F.okX sc__law_bent_rows (fun vs H Q E h => ?_) (fun cdv A outer s H vs Q E hr h => ?_)
  · obtain ⟨p, q, hp, hs, rs, as, a, b, c, rfl, _⟩ := h; rfl
  · have nd := sc__law_bent_rows.nd
    have hu := hr.units
    refine ⟨_, by exact (pss_cons (ps_setLc (i := 2) (own := [("row", 3)]) (g := gName 3) (tt := tYes) rfl nd rfl rfl (sw_true rfl rfl rfl (by decide +kernel)) (pi_seq (pv 1)) (blkOk_by (N := (["pool", "rows", "bent", "row", "place", "way"] : List Str)) (sc := defScope (topS 20)) (by decide +kernel)) (fun _ _ _ _ _ => (pg_n 3 nd)) (fun _ _ _ _ _ => pts_nil) (fun _ _ _ _ _ => (pe_callTy (calK (K := K) (r := aList) ca_list rfl) (by rfl) B.list bt_list (pa_cons (pv 3) pa_nil))))
        (pss_cons (ps_st 4 nd (pe_fn C__law_draw (hr.mono (by first | decide | omega)) passL (pa_cons (pv 0) (pa_cons (pe_callB ca_len (by rfl) B.len bt_len (pa_cons (pv 1) pa_nil)) pa_nil))))
        (pss_cons (ps_st 5 nd (pe_fn C__law_draw (hr.mono (by first | decide | omega)) passL (pa_cons (pv 0) (pa_cons pe_int pa_nil))))
        (pss_cons (ps_if (pt_cmpR (oa_eq hu) (pv 5) pe_int (nomark _))
        (pss_one (ps_asg (pe_op oa_add (pe_ix oa_ix (pv 2) (pv 4) (fun _ _ => rfl)) (pe_lst (pa_cons (pe_fn C__law_cell_text (hr.mono (by first | decide | omega)) passL (pa_cons (pv 0) pa_nil)) pa_nil))) (pg_sub (pv 2) (pv 4) set_list)))
        (pss_one (ps_if (pt_cmpR (oa_eq hu) (pv 5) pe_int (nomark _))
        (pss_one (ps_asg (pe_slice oa_sl (pe_ix oa_ix (pv 2) (pv 4) (fun _ _ => rfl)) (po_some pe_int) po_none) (pg_sub (pv 2) (pv 4) set_list)))
        (pss_one (ps_asg (pe_lst pa_nil) (pg_sub (pv 2) (pv 4) set_list))))))
        (pss_one (ps_ret (pv 2))))))), ?_⟩
    obtain ⟨p, q, hp, hs, rs, as, a, b, c, rfl, TB, h0, hr10, hpl, hb, k⟩ := h
    show (tSeq _ _) _ [some (.ref p), some (.ref q), none, none, none, none] H
    walk_at "s"
    have wp := W.own hpl
    have TBH := TB.mono wp.fr
    refine w_sqL TBH.hR ?_
    refine w_lcNew (fun j => .lst ((rs.getD j []).map V.str)) TBH.hR (by rw [List.length_map, TB.len]; have := TB.b2; omega) ?_ ?_
    · intro j x H4 N hx s4 hN
      obtain ⟨a, rfl, hj, hr, hS⟩ := TBH.at hx
      refine ⟨rfl, ?_⟩
      walk_at "s"
      refine ⟨_, rfl, w_list (.inl (s4.seq hS)) fun l hl => ?_⟩
      exact hN l _ (W.start.new hl).fr hl upd_same
    intro L H1 bs s1 hL e1 e2 e3 e4
    rw [List.length_map, TB.len] at e2
    have hpL : p ≠ L := fun z => by rw [← z, hpl] at hL; cases hL
    -- the copies, frozen but the one that is changed
    have w1 : W (rem H p) [(p, poolO a b c)] H1 := wp.grow s1
    have w2 : W (rem H p) [(L, .lst (bs.map V.ref)), (p, poolO a b c)] H1 := w1.add wp hL e1
    walk_at "s"
    refine w_lenL (w2.fr.seq TB.hR) ?_
    rw [List.length_map, TB.len]
    refine w_draw w2 1 rfl hb (by omega) (by have := TB.b2; omega) fun pl a b c H2 p0 p1 hb b2 w3 => ?_
    walk_at "s"
    refine w_draw w3 1 rfl hb (by omega) (by omega) fun way a b c H3 g0 g1 hb b3 w4 => ?_
    have b23 := b2.trans b3
    obtain ⟨i, rfl⟩ := Int.eq_ofNat_of_zero_le p0
    have hi : i < rs.length := by omega
    have hib : i < bs.length := by omega
    have hbn : ∀ (j : Nat) (b : Addr), bs[j]? = some b → b ≠ L ∧ b ≠ p ∧ H3 b = some (.lst ((rs.getD j []).map V.str)) := fun j b hj => by
      obtain ⟨q1, q2, q3⟩ := e3 j b hj
      have : b ≠ p := fun z => by rw [z, hpl] at q1; cases q1
      exact ⟨q2, this, b23 _ _ this q3⟩
    have hat : ∀ {xs : List Addr}, i < xs.length → atI (xs.map V.ref) (i : Nat) = some (.ref (xs.getD i 0)) := fun {xs} h => by
      refine atI_nat ?_
      rw [List.getElem?_map, List.getElem?_eq_getElem h]; simp [h]
    have ei : ixN (bs.map V.ref).length (i : Nat) = some i := by unfold ixN; rw [List.length_map, if_pos (by omega), if_pos (by omega)]; rfl
    have hbi : bs[i]? = some (bs.getD i 0) := by rw [List.getD_eq_getElem?_getD, List.getElem?_eq_getElem hib]; rfl
    have rmem := Tab.mem hi
    -- the end: the row at i is the list at m
    have fin : ∀ (m : Addr) (r' : List Str) (a b c : Int) (H5 : Hp), W (rem H p) [(L, .lst ((bs.set i m).map V.ref)), (p, poolO a b c)] H5 → POk b → m ≠ p → H5 m = some (.lst (r'.map V.str)) → (∀ (j : Nat) (b : Addr), bs[j]? = some b → H5 b = some (.lst ((rs.getD j []).map V.str))) → r'.length ≤ 20 → (∀ i, (r'.getD i Str.empty).length ≤ 100) → Q (.ref L) H5 := by
      intro m r' a b c H5 w5 hb hm hm5 hold hl hc
      have wF := w5.frem 1 rfl
      refine k L (rs.set i r') (bs.set i m) a b c H5 ⟨wF.seq TB.hH, SqL.of (by rw [rem_ne (Ne.symm hpL)]; exact w5.get 0 rfl), by simp [e2], fun j a r h1 h2 => ?_, TB.b1, by simp; exact TB.b2, TB.b3, fun r hr => ?_⟩ (W.but (r := p) (o := poolO a b c) (w5.perm (List.Perm.swap _ _ _))) (w5.get 1 rfl) hb
      · by_cases e : i = j
        · subst e
          rw [List.getElem?_set_self hib] at h1
          rw [List.getElem?_set_self hi] at h2
          cases h1; cases h2
          exact SqL.of (by rw [rem_ne hm]; exact hm5)
        · rw [List.getElem?_set_ne e] at h1 h2
          have ap := (hbn j a h1).2.1
          refine SqL.of ?_
          rw [rem_ne ap, hold j a h1]
          rw [List.getD_eq_getElem?_getD, h2]; rfl
      · rcases List.mem_or_eq_of_mem_set hr with h | rfl
        · exact TB.b4 r h
        · exact ⟨hl, hc⟩
    walk_at "s"
    refine w_br (fun c1 => ?_) (fun c1 => ?_)
    · walk_at "s"
      refine w_ixL (SqL.of (w4.get 0 rfl)) (hat hib) ?_
      refine ⟨p, a, b, c, rfl, w4.get 1 rfl, hb, fun t a b c H4 ht b4 hp4 hb => ?_⟩
      have w5 := w4.mut 1 rfl b4 hp4
      walk_at "s"
      intro z hz
      have w6 := w5.new (o := .lst [.str t]) hz
      have h5 : ∀ (j : Nat) (b : Addr), bs[j]? = some b → H4 b = some (.lst ((rs.getD j []).map V.str)) := fun j b hj => b4 _ _ (hbn j b hj).2.1 (hbn j b hj).2.2
      have h6 : ∀ (j : Nat) (b : Addr), bs[j]? = some b → (upd H4 z (.lst [.str t])) b = some (.lst ((rs.getD j []).map V.str)) := fun j b hj => by rw [upd_ne (ne_of_none (h5 j b hj) hz)]; exact h5 j b hj
      have r20 := hr10 _ rmem
      refine w_catL (h6 i _ hbi) upd_same (by simp only [List.length_map, List.length_append, List.length_cons, List.length_nil, List.length_drop, List.length_singleton]; exact line_le _ (by omega)) fun m hm => ?_
      have w7 := w6.new (o := .lst ((rs.getD i []).map V.str ++ [.str t])) hm
      have h7 : ∀ (j : Nat) (b : Addr), bs[j]? = some b → (upd (upd H4 z (.lst [.str t])) m (.lst ((rs.getD i []).map V.str ++ [.str t]))) b = some (.lst ((rs.getD j []).map V.str)) := fun j b hj => by rw [upd_ne (ne_of_none (h6 j b hj) hm)]; exact h6 j b hj
      have mL : m ≠ L := fun e => by
        have := w6.get 1 rfl
        rw [e, this] at hm; cases hm
      have mp : m ≠ p := fun e => by
        have := w6.get 2 rfl
        rw [e, this] at hm; cases hm
      walk_at "s"
      refine w_set (w7.get 2 rfl) ei ?_
      walk_at "s"
      have w8 := w7.upd (o' := .lst ((bs.set i m).map V.ref)) 2 rfl
      rw [List.map_set] at w8
      refine fin m (rs.getD i [] ++ [t]) a b c _ (by rw [List.map_set]; exact w8.drop.drop) hb mp (by rw [upd_ne mL, upd_same]; simp) (fun j b hj => by rw [upd_ne (hbn j b hj).1]; exact h7 j b hj) (by simp only [List.length_map, List.length_append, List.length_cons, List.length_nil, List.length_drop, List.length_singleton]; omega) fun j => ?_
      rw [List.getD_eq_getElem?_getD]
      by_cases e : j < (rs.getD i []).length
      · rw [List.getElem?_append_left e, ← List.getD_eq_getElem?_getD]
        exact (TB.b4 _ rmem).2 j
      · rw [List.getElem?_append_right (by omega)]
        by_cases e' : j - (rs.getD i []).length = 0
        · rw [e']; show t.length ≤ 100; omega
        · rw [List.getElem?_eq_none (by simp only [List.length_map, List.length_append, List.length_cons, List.length_nil, List.length_drop, List.length_singleton]; omega)]; show Str.empty.length ≤ 100; decide
    walk_at "s"
    refine w_br (fun c2 => ?_) (fun c2 => ?_)
    · walk_at "s"
      refine w_ixL (SqL.of (w4.get 0 rfl)) (hat hib) ?_
      refine w_slL (SqL.of (hbn i _ hbi).2.2) fun m hm => ?_
      have ec : cutV ((rs.getD i []).map V.str) (some 1) none = ((rs.getD i []).drop 1).map V.str := by
        rw [List.map_drop]; exact cutV_drop _ 1
      rw [ec]
      have w7 := w4.new (o := .lst (((rs.getD i []).drop 1).map V.str)) hm
      have h7 : ∀ (j : Nat) (b : Addr), bs[j]? = some b → (upd H3 m (.lst (((rs.getD i []).drop 1).map V.str))) b = some (.lst ((rs.getD j []).map V.str)) := fun j b hj => by rw [upd_ne (ne_of_none (hbn j b hj).2.2 hm)]; exact (hbn j b hj).2.2
      have mL : m ≠ L := fun e => by
        have := w4.get 0 rfl
        rw [e, this] at hm; cases hm
      have mp : m ≠ p := fun e => by
        have := w4.get 1 rfl
        rw [e, this] at hm; cases hm
      walk_at "s"
      refine w_set (w7.get 1 rfl) ei ?_
      walk_at "s"
      have w8 := w7.upd (o' := .lst ((bs.set i m).map V.ref)) 1 rfl
      rw [List.map_set] at w8
      have r20 := hr10 _ rmem
      refine fin m ((rs.getD i []).drop 1) a b c _ (by rw [List.map_set]; exact w8.drop) hb mp (by rw [upd_ne mL, upd_same]) (fun j b hj => by rw [upd_ne (hbn j b hj).1]; exact h7 j b hj) (by simp only [List.length_map, List.length_append, List.length_cons, List.length_nil, List.length_drop, List.length_singleton]; omega) fun j => ?_
      rw [List.getD_eq_getElem?_getD, List.getElem?_drop, ← List.getD_eq_getElem?_getD]
      exact (TB.b4 _ rmem).2 _
    · walk_at "s"
      intro m hm
      have w7 := w4.new (o := .lst (([] : List Str).map V.str)) hm
      have h7 : ∀ (j : Nat) (b : Addr), bs[j]? = some b → (upd H3 m (.lst (([] : List Str).map V.str))) b = some (.lst ((rs.getD j []).map V.str)) := fun j b hj => by rw [upd_ne (ne_of_none (hbn j b hj).2.2 hm)]; exact (hbn j b hj).2.2
      have mL : m ≠ L := fun e => by
        have := w4.get 0 rfl
        rw [e, this] at hm; cases hm
      have mp : m ≠ p := fun e => by
        have := w4.get 1 rfl
        rw [e, this] at hm; cases hm
      walk_at "s"
      refine w_set (w7.get 1 rfl) ei ?_
      walk_at "s"
      have w8 := w7.upd (o' := .lst ((bs.set i m).map V.ref)) 1 rfl
      rw [List.map_set] at w8
      exact fin m [] a b c _ (by rw [List.map_set]; exact w8.drop) hb mp (by rw [upd_ne mL, upd_same]; rfl) (fun j b hj => by rw [upd_ne (hbn j b hj).1]; exact h7 j b hj) (by decide) fun j => by show Str.empty.length ≤ 100; decide
abbrev s__law_stays : Stmt := topS 21
theorem sc__law_stays : FnScope (["headings", "rows", "sides", "due", "handed", "row", "got"] : List Str) (["headings", "rows", "sides", "due"] : List Str) (defScope s__law_stays) := ⟨rfl, rfl, rfl, by decide +kernel, rfl, by decide +kernel, by decide +kernel⟩
theorem ok__law_stays {f : Addr} {fd : FuncData} (F : Fun K "_law_stays" "_law_stays" s__law_stays f fd) (B : Blt mg) (C__law_same : FnAt P w K mg base 6 "_law_same" ["got", "due"] (spSame K 4)) (C__law_print : FnAt P w K mg base 4 "_law_print" ["headings", "rows", "sides"] (spPrint K)) : FnOk P w K mg base (L2.CX P w) 7 f fd (["headings", "rows", "sides", "due"] : List Str) (spStays K) := by
  refine F.okX sc__law_stays (fun vs H Q E h => ?_) (fun cdv A outer s H vs Q E hr h => ?_)
  · obtain ⟨p, q, ss, hs, rs, as, v, rfl, _⟩ := h; rfl
  · have nd := sc__law_stays.nd
    have hu := hr.units
    refine ⟨_, by exact (pss_cons (ps_st 4 nd (pe_lst (pa_cons (pe_callTy ca_list (by rfl) B.list bt_list (pa_cons (pv 0) pa_nil)) (pa_cons (pe_lc (own := [("row", 5)]) (g := gName 5) (tt := tYes) rfl nd (pi_seq (pv 1)) (blkOk_by (N := (["headings", "rows", "sides", "due", "handed", "row", "got"] : List Str)) (sc := defScope (topS 21)) (by decide +kernel)) (fun _ _ _ _ _ => (pg_n 5 nd)) (fun _ _ _ _ _ => pts_nil) (fun _ _ _ _ _ => (pe_callTy (calK (K := K) (r := aList) ca_list rfl) (by rfl) B.list bt_list (pa_cons (pv 5) pa_nil)))) pa_nil))))
        (pss_cons (ps_st 6 nd (pe_fn C__law_print (hr.mono (by first | decide | omega)) passL (pa_cons (pe_ix oa_ix (pv 4) pe_int (fun _ _ => rfl)) (pa_cons (pe_ix oa_ix (pv 4) pe_int (fun _ _ => rfl)) (pa_cons (pv 2) pa_nil)))))
        (pss_cons (ps_if (PW.pt (pw_or (pt_not (pt_tr (pe_fn C__law_same (hr.mono (by first | decide | omega)) passL (pa_cons (pv 6) (pa_cons (pv 3) pa_nil))))) (pw_or1 (pt_not (pt_tr (pe_fn C__law_same (hr.mono (by first | decide | omega)) passL (pa_cons (pv 4) (pa_cons (pe_lst (pa_cons (pv 0) (pa_cons (pv 1) pa_nil))) pa_nil))))))))
        (pss_one (ps_ret pe_bl))
        pss_nil)
        (pss_cons (ps_if (pt_cmpR oa_isnot (pe_ix oa_ix (pv 6) pe_int (fun _ _ => rfl)) pe_non (nomark _))
        (pss_one (ps_expr (pe_bm PySem.F.plainAttrs_list PySem.F.slot_list_append PySem.F.type_list_append mt_append (pe_ix oa_ix (pv 6) pe_int (fun _ _ => rfl)) (pa_cons pe_str pa_nil))))
        pss_nil)
        (pss_one (ps_ret (pe_fn C__law_same (hr.mono (by first | decide | omega)) passL (pa_cons (pe_fn C__law_print (hr.mono (by first | decide | omega)) passL (pa_cons (pe_ix oa_ix (pv 4) pe_int (fun _ _ => rfl)) (pa_cons (pe_ix oa_ix (pv 4) pe_int (fun _ _ => rfl)) (pa_cons (pv 2) pa_nil)))) (pa_cons (pv 3) pa_nil))))))))), ?_⟩
    obtain ⟨p, q, ss, hs, rs, as, v, rfl, TB, hss, hD, k⟩ := h
    show (tSeq _ _) _ [some (.ref p), some (.ref q), some (.str ss), some v, none, none, none] H
    walk_at "s"
    refine w_list (.inl TB.hH) fun h1 hh1 => ?_
    have w0 := (W.start (H := H)).new (o := .lst (hs.map V.str)) hh1
    refine w_sqL (w0.fr.seq TB.hR) ?_
    refine w_lcNew (fun j => .lst ((rs.getD j []).map V.str)) (w0.fr.seq TB.hR) (by rw [List.length_map, TB.len]; have := TB.b2; omega) ?_ ?_
    · intro j x H4 N hx s4 hN
      obtain ⟨a, rfl, hj, hr, hS⟩ := TB.at hx
      refine ⟨rfl, ?_⟩
      walk_at "s"
      refine ⟨_, rfl, w_list (.inl (s4.seq (w0.fr.seq hS))) fun l hl => ?_⟩
      exact hN l _ (W.start.new hl).fr hl upd_same
    intro L H1 bs s1 hL e1 e2 e3 e4
    rw [List.length_map, TB.len] at e2
    have w1 := (w0.grow s1).add w0 hL e1
    walk_at "s"
    intro hd hhd
    have TB1 : Tab K H1 h1 L hs rs bs := ⟨SqL.of (w1.get 1 rfl), SqL.of e1, e2, fun i a r h1 h2 => by
      obtain ⟨_, _, q3⟩ := e3 i a h1
      refine SqL.of ?_
      rw [q3, List.getD_eq_getElem?_getD, h2]; rfl, TB.b1, TB.b2, TB.b3, TB.b4⟩
    have TB0 := TB.mono w1.fr
    have hD := hD.mono w1.fr
    have s01 : Same H H1 := w1.fr
    clear w0 w1 e3 s1
    have w2 := (W.start (H := H1)).new (o := .lst [.ref h1, .ref L]) hhd
    have hdS : SqL K (upd H1 hd (.lst [.ref h1, .ref L])) hd [.ref h1, .ref L] := SqL.of upd_same
    have TB1 := TB1.mono w2.fr
    have TB0 := TB0.mono w2.fr
    have hD := hD.mono w2.fr
    have s01 := s01.trans w2.fr
    generalize upd H1 hd (.lst [.ref h1, .ref L]) = F at hdS TB1 TB0 hD s01 ⊢
    clear w2
    walk_at "s"
    refine w_ixL hdS (w := .ref h1) rfl ?_
    refine w_ixL hdS (w := .ref L) rfl ?_
    walk_at "s"
    -- the second half: asked once more
    have fits4 := fits_due (hs := hs) (rs := rs) (ss := ss) TB.b2
    have smD := sm_eq rfl fits4
    have again : ∀ H3, Same F H3 → spPrint K [.ref h1, .ref L, .str ss] H3 (fun x H4 => spSame K 4 [x, v] H4 Q E0) E0 := fun H3 s3 => by
      refine ⟨h1, L, ss, hs, rs, bs, rfl, TB1.mono s3, hss, fun hb r w' l H4 s4 hr hl hr4 hw4 hl4 => ?_, fun f hf r w' H4 s4 hr hr4 hw4 => ?_⟩
      · refine ⟨.ref r, v, _, _, rfl, dp_told hr4 hw4 (SqL.of hl4), hD.mono (s3.trans s4), fits4, ?_⟩
        have e : dueD hs rs ss = .list [.tuple [.str "told"], dS (Tb.table hs rs ss)] := by unfold dueD; rw [hb]
        rw [← e, smD]
        exact k _ (s01.trans (s3.trans s4))
      · refine ⟨.ref r, v, _, _, rfl, dp_wrong hr4 hw4, hD.mono (s3.trans s4), fits4, ?_⟩
        have e : dueD hs rs ss = .list [.tuple [.str "WrongLength", .int f, .int hs.length, .bool true, .bool false], .none] := by unfold dueD; rw [hf]
        rw [← e, smD]
        exact k _ (s01.trans (s3.trans s4))
    refine ⟨h1, L, ss, hs, rs, bs, rfl, TB1, hss, fun hb r w' l H2 s2 hr hl hr2 hw2 hl2 => ?_, fun f hf r w' H2 s2 hr hr2 hw2 => ?_⟩
    · walk_at "s"
      have e : dueD hs rs ss = .list [.tuple [.str "told"], dS (Tb.table hs rs ss)] := by unfold dueD; rw [hb]
      refine ⟨.ref r, v, _, _, rfl, dp_told hr2 hw2 (SqL.of hl2), hD.mono s2, fits4, ?_⟩
      rw [← e, smD]
      walk_at "s"
      intro z hz
      have wz := (W.start (H := H2)).new (o := .lst [.ref p, .ref q]) hz
      have s2z := s2.trans wz.fr
      refine ⟨.ref hd, .ref z, _, _, rfl, (TB1.mono s2z).dp (s2z.seq hdS), (TB0.mono s2z).dp (SqL.of upd_same), TB.fits, ?_⟩
      rw [sm_eq rfl TB.fits]
      walk_at "s"
      refine w_ixL (wz.fr.seq (SqL.of hr2)) (w := .ref l) rfl ?_
      walk_at "s"
      refine w_ixL (wz.fr.seq (SqL.of hr2)) (w := .ref l) rfl ?_
      have lz := wz.fr _ _ hl2
      refine w_app lz (by rw [List.length_map, table_len]; exact small1000' (by have := TB.b2; omega)) ?_
      walk_at "s"
      have s3 : Same F (upd (upd H2 z (.lst [.ref p, .ref q])) l (.lst ((Tb.table hs rs ss).map V.str ++ [.str "x"]))) := fun b o e => by
        have hbl : b ≠ l := fun z => by rw [z, hl] at e; cases e
        rw [upd_ne hbl]; exact s2z _ _ e
      refine w_ixL (s3.seq hdS) (w := .ref h1) rfl ?_
      refine w_ixL (s3.seq hdS) (w := .ref L) rfl ?_
      exact again _ s3
    · walk_at "s"
      have e : dueD hs rs ss = .list [.tuple [.str "WrongLength", .int f, .int hs.length, .bool true, .bool false], .none] := by unfold dueD; rw [hf]
      refine ⟨.ref r, v, _, _, rfl, dp_wrong hr2 hw2, hD.mono s2, fits4, ?_⟩
      rw [← e, smD]
      walk_at "s"
      intro z hz
      have wz := (W.start (H := H2)).new (o := .lst [.ref p, .ref q]) hz
      have s2z := s2.trans wz.fr
      refine ⟨.ref hd, .ref z, _, _, rfl, (TB1.mono s2z).dp (s2z.seq hdS), (TB0.mono s2z).dp (SqL.of upd_same), TB.fits, ?_⟩
      rw [sm_eq rfl TB.fits]
      walk_at "s"
      refine w_ixL (wz.fr.seq (SqL.of hr2)) (w := .non) rfl ?_
      walk_at "s"
      refine w_ixL (s2z.seq hdS) (w := .ref h1) rfl ?_
      refine w_ixL (s2z.seq hdS) (w := .ref L) rfl ?_
      exact again _ s2z
end
end Nk
namespace Nk
open PySem L2 TL
open Tb
local macro_rules | `(tactic| walk_at "s") => `(tactic| try simp (decide := true) only [L2.cxK, L2.s_seq, L2.s_next, L2.s_brk, L2.s_cont, L2.s_drop, L2.s_ret, L2.s_retN, L2.s_ifS, L2.s_br1, L2.s_br0, L2.s_asg, L2.s_asI, L2.s_asB, L2.s_asN, L2.s_asS, L2.s_asR, L2.s_gName, L2.s_gSub, L2.s_var, L2.s_C, L2.s_op, L2.s_un, L2.s_chain, L2.s_test, L2.s_B, L2.s_and, L2.s_aB1, L2.s_aB0, L2.s_or, L2.s_oB1, L2.s_oB0, L2.s_not, L2.s_andV, L2.s_aE1, L2.s_aE0, L2.s_orV, L2.s_oE1, L2.s_oE0, L2.s_notV, L2.s_nE, L2.s_if, L2.s_iE1, L2.s_iE0, L2.s_tr, L2.s_trB, L2.s_trI, L2.s_trN, L2.s_nil, L2.s_cons, L2.s_CB, L2.s_call, L2.s_callS, L2.s_sl, L2.s_part, L2.s_noPart, L2.s_lst, L2.s_mk, L2.s_xf, L2.s_for, L2.s_lc, L2.s_rng1, L2.s_rng2, L2.s_rng3, L2.s_enum, L2.s_zip, L2.s_zip3, L2.s_yes, L2.s_seqI, L2.s_tup, L2.s_BM, L2.s_BM0, L2.v_addI, L2.v_subI, L2.v_mulI, L2.v_divI, L2.v_modI, L2.v_powI, L2.v_negI, L2.v_cmp, L2.v_eqI, L2.v_eqS, L2.v_neS, L2.v_neI, L2.v_isN, L2.v_isB, L2.v_isnotN, L2.v_isnotB, L2.v_int, L2.v_abs, L2.v_max2, L2.v_min2, L2.le_line, List.set_cons_succ, List.set_cons_zero, List.getElem?_cons_succ, List.getElem?_cons_zero, Option.some.injEq, exists_eq_left', V.bl.injEq, V.int.injEq, true_and, and_true, Bool.not_true, Bool.not_false, if_true, if_false, Bool.false_eq_true, List.append_nil, reduceCtorEq, decide_true, decide_false, ne_eq, not_false_eq_true, Int.reduceToNat, Int.reducePow, Int.reduceMul, Int.reduceAdd, Int.reduceSub, Int.reduceNeg, Nat.reduceAdd, List.length_cons, List.length_nil, List.nil_append, List.cons_append])

def spLaw (K : PySem.W.Frag) : Sp := fun vs H Q _ => ∃ (s : Addr) (ns : List Int), vs = [.ref s] ∧ SqL K H s (ns.map V.int) ∧ ∀ H', Q (.bl true) H'
theorem Tab.rev {K : PySem.W.Frag} {H : Hp} {p q z : Addr} {hs : List Str} {rs : List (List Str)} {as : List Addr} (T : Tab K H p q hs rs as) (h : SqL K H z (as.reverse.map V.ref)) : Tab K H p z hs rs.reverse as.reverse := by
  refine ⟨T.hH, h, by simp [T.len], fun i a r h1 h2 => ?_, T.b1, by simp; exact T.b2, T.b3, fun r hr => T.b4 r (List.mem_reverse.mp hr)⟩
  have hi : i < as.length := by have := (List.getElem?_eq_some_iff.mp h1).1; simpa using this
  have hj : i < rs.length := by rw [← T.len]; exact hi
  rw [List.getElem?_reverse hi] at h1
  rw [List.getElem?_reverse hj] at h2
  exact T.row _ a r h1 (by rw [T.len]; exact h2)
theorem Tab.nil {K : PySem.W.Frag} {H : Hp} {p q z : Addr} {hs : List Str} {rs : List (List Str)} {as : List Addr} (T : Tab K H p q hs rs as) (h : SqL K H z []) : Tab K H p z hs [] [] :=
  ⟨T.hH, h, rfl, fun i a r h1 => by simp at h1, T.b1, by simp, T.b3, (fun r hr => nomatch hr)⟩
theorem due_told {hs : List Str} {rs : List (List Str)} {ss : Str} (h : ss.length = hs.length) (hr : ∀ r : List Str, r ∈ rs → r.length = hs.length) : dueD hs rs ss = .list [.tuple [.str "told"], dS (Tb.table hs rs ss)] := by
  unfold dueD; rw [bad_none h hr]
theorem rev_range {as : List Addr} : (List.range as.length).map (fun i => V.ref (as.getD (as.length - 1 - i) 0)) = as.reverse.map V.ref := by
  apply List.ext_getElem?
  intro i
  by_cases h : i < as.length
  · rw [List.getElem?_map, List.getElem?_range h, List.getElem?_map, List.getElem?_reverse h]
    have : as.length - 1 - i < as.length := by omega
    rw [List.getElem?_eq_getElem this]
    simp [this]
  · rw [List.getElem?_eq_none (by simpa using h), List.getElem?_eq_none (by simpa using h)]
section
variable {P : Program} {w : World} {K : PySem.W.Frag} {mg : Str → Option Value} {base : Heap}
abbrev s_law : Stmt := topS 22
theorem sc_law : FnScope (["script", "pool", "many", "sides", "place", "other_sides", "headings", "rows", "turn", "spoils", "way", "bent", "bent_sides", "due", "turned_rows"] : List Str) (["script"] : List Str) (defScope s_law) := ⟨rfl, rfl, rfl, by decide +kernel, rfl, by decide +kernel, by decide +kernel⟩
theorem ok_law {f : Addr} {fd : FuncData} (F : Fun K "law" "law" s_law f fd) (B : Blt mg) (C__law_pool : FnAt P w K mg base 1 "_law_pool" ["script", "at"] (spPool K)) (C__law_draw : FnAt P w K mg base 1 "_law_draw" ["pool", "many"] spDraw) (C__law_cell_text : FnAt P w K mg base 2 "_law_cell_text" ["pool"] spCell) (C__law_bent_rows : FnAt P w K mg base 3 "_law_bent_rows" ["pool", "rows"] (spBent K)) (C__law_stays : FnAt P w K mg base 7 "_law_stays" ["headings", "rows", "sides", "due"] (spStays K)) (C__law_refusal : FnAt P w K mg base 4 "_law_refusal" ["headings", "rows", "sides"] (spRefusal K)) (C__law_due : FnAt P w K mg base 3 "_law_due" ["headings", "rows", "sides"] (spDue K)) (C__law_same : FnAt P w K mg base 6 "_law_same" ["got", "due"] (spSame K 4)) (C__law_print : FnAt P w K mg base 4 "_law_print" ["headings", "rows", "sides"] (spPrint K)) : FnOk P w K mg base (L2.CX P w) 8 f fd (["script"] : List Str) (spLaw K) := by
  refine F.okX sc_law (fun vs H Q E h => ?_) (fun cdv A outer s H vs Q E hr h => ?_)
  · obtain ⟨p, ns, rfl, _⟩ := h; rfl
  · have nd := sc_law.nd
    have hu := hr.units
    refine ⟨_, by exact (pss_cons (ps_st 1 nd (pe_fn C__law_pool (hr.mono (by first | decide | omega)) passL (pa_cons (pv 0) (pa_cons pe_int pa_nil))))
        (pss_cons (ps_st 2 nd (pe_op oa_add pe_int (pe_fn C__law_draw (hr.mono (by first | decide | omega)) passL (pa_cons (pv 1) (pa_cons pe_int pa_nil)))))
        (pss_cons (ps_st 3 nd (pe_bm PySem.F.plainAttrs_str PySem.F.slot_str_join PySem.F.type_str_join mt_join pe_str (pa_cons (pe_lc (own := [("place", 4)]) (g := gName 4) (tt := tYes) rfl nd (pi_range1 rfl B.range (pa_cons (pv 2) pa_nil)) (blkOk_by (N := (["script", "pool", "many", "sides", "place", "other_sides", "headings", "rows", "turn", "spoils", "way", "bent", "bent_sides", "due", "turned_rows"] : List Str)) (sc := defScope (topS 22)) (by decide +kernel)) (fun _ _ _ _ _ => (pg_n 4 nd)) (fun _ _ _ _ _ => pts_nil) (fun _ _ _ _ _ => (pe_ix (ixK (K := K) (r := aIx) oa_ix rfl) pe_str (pe_fn C__law_draw (hr.mono (by first | decide | omega)) passL (pa_cons (pv 1) (pa_cons pe_int pa_nil))) (fun _ _ => rfl)))) pa_nil)))
        (pss_cons (ps_st 5 nd (pe_bm PySem.F.plainAttrs_str PySem.F.slot_str_join PySem.F.type_str_join mt_join pe_str (pa_cons (pe_lc (own := [("place", 4)]) (g := gName 4) (tt := tYes) rfl nd (pi_range1 rfl B.range (pa_cons (pv 2) pa_nil)) (blkOk_by (N := (["script", "pool", "many", "sides", "place", "other_sides", "headings", "rows", "turn", "spoils", "way", "bent", "bent_sides", "due", "turned_rows"] : List Str)) (sc := defScope (topS 22)) (by decide +kernel)) (fun _ _ _ _ _ => (pg_n 4 nd)) (fun _ _ _ _ _ => pts_nil) (fun _ _ _ _ _ => (pe_ix (ixK (K := K) (r := aIx) oa_ix rfl) pe_str (pe_fn C__law_draw (hr.mono (by first | decide | omega)) passL (pa_cons (pv 1) (pa_cons pe_int pa_nil))) (fun _ _ => rfl)))) pa_nil)))
        (pss_cons (ps_setLc (i := 6) (own := [("place", 4)]) (g := gName 4) (tt := tYes) rfl nd rfl rfl (sw_true rfl rfl rfl (by decide +kernel)) (pi_range1 rfl B.range (pa_cons (pv 2) pa_nil)) (blkOk_by (N := (["script", "pool", "many", "sides", "place", "other_sides", "headings", "rows", "turn", "spoils", "way", "bent", "bent_sides", "due", "turned_rows"] : List Str)) (sc := defScope (topS 22)) (by decide +kernel)) (fun _ _ _ _ _ => (pg_n 4 nd)) (fun _ _ _ _ _ => pts_nil) (fun _ _ _ _ _ => (pe_fn C__law_cell_text (hr.mono (by first | decide | omega)) passL (pa_cons (pv 1) pa_nil))))
        (pss_cons (ps_st 7 nd (pe_lst pa_nil))
        (pss_cons (ps_for (passes_of rfl) rfl (pi_range1 rfl B.range (pa_cons (pe_fn C__law_draw (hr.mono (by first | decide | omega)) passL (pa_cons (pv 1) (pa_cons pe_int pa_nil))) pa_nil)) (pg_n 8 nd)
        (pss_one (ps_expr (pe_bm PySem.F.plainAttrs_list PySem.F.slot_list_append PySem.F.type_list_append mt_append (pv 7) (pa_cons (pe_lc (own := [("place", 4)]) (g := gName 4) (tt := tYes) rfl nd (pi_range1 rfl B.range (pa_cons (pv 2) pa_nil)) (blkOk_by (N := (["script", "pool", "many", "sides", "place", "other_sides", "headings", "rows", "turn", "spoils", "way", "bent", "bent_sides", "due", "turned_rows"] : List Str)) (sc := defScope (topS 22)) (by decide +kernel)) (fun _ _ _ _ _ => (pg_n 4 nd)) (fun _ _ _ _ _ => pts_nil) (fun _ _ _ _ _ => (pe_fn C__law_cell_text (hr.mono (by first | decide | omega)) passL (pa_cons (pv 1) pa_nil)))) pa_nil)))))
        (pss_cons (ps_st 9 nd (pe_fn C__law_pool (hr.mono (by first | decide | omega)) passL (pa_cons (pv 0) (pa_cons pe_int pa_nil))))
        (pss_cons (ps_st 10 nd (pe_fn C__law_draw (hr.mono (by first | decide | omega)) passL (pa_cons (pv 9) (pa_cons pe_int pa_nil))))
        (pss_cons (ps_st 11 nd (pv 7))
        (pss_cons (ps_st 12 nd (pv 3))
        (pss_cons (ps_ifJ (ps_if (PW.pt (pw_or (pt_cmpR (oa_eq hu) (pv 10) pe_int (nomark _)) (pw_or1 (pt_cmpR (oa_eq hu) (pv 10) pe_int (nomark _)))))
        (pss_one (ps_st 12 nd (pe_ix oa_ix (pe_lst (pa_cons (pe_op oa_add (pv 3) pe_str) (pa_cons (pe_slice oa_sl (pv 3) (po_some pe_int) po_none) pa_nil))) (pe_fn C__law_draw (hr.mono (by first | decide | omega)) passL (pa_cons (pv 9) (pa_cons pe_int pa_nil))) (fun _ _ => rfl))))
        pss_nil))
        (pss_cons (ps_ifJ (ps_if (PW.pt (pw_and (pt_cmpR oa_gt (pv 10) pe_int (nomark _)) (pw_and1 (pt_cmpR oa_gt (pe_callB ca_len (by rfl) B.len bt_len (pa_cons (pv 7) pa_nil)) pe_int (nomark _)))))
        (pss_one (ps_st 11 nd (pe_fn C__law_bent_rows (hr.mono (by first | decide | omega)) passL (pa_cons (pv 9) (pa_cons (pv 7) pa_nil)))))
        pss_nil))
        (pss_cons (ps_if (pt_not (pt_tr (pe_fn C__law_stays (hr.mono (by first | decide | omega)) passL (pa_cons (pv 6) (pa_cons (pv 11) (pa_cons (pv 12) (pa_cons (pe_fn C__law_refusal (hr.mono (by first | decide | omega)) passL (pa_cons (pv 6) (pa_cons (pv 11) (pa_cons (pv 12) pa_nil)))) pa_nil)))))))
        (pss_one (ps_ret pe_bl))
        pss_nil)
        (pss_cons (ps_st 13 nd (pe_fn C__law_due (hr.mono (by first | decide | omega)) passL (pa_cons (pv 6) (pa_cons (pv 7) (pa_cons (pv 3) pa_nil)))))
        (pss_cons (ps_if (pt_not (pt_tr (pe_fn C__law_stays (hr.mono (by first | decide | omega)) passL (pa_cons (pv 6) (pa_cons (pv 7) (pa_cons (pv 3) (pa_cons (pe_lst (pa_cons (pe_tup (pa_cons pe_str pa_nil)) (pa_cons (pv 13) pa_nil))) pa_nil)))))))
        (pss_one (ps_ret pe_bl))
        pss_nil)
        (pss_cons (ps_setLc (i := 14) (own := [("place", 4)]) (g := gName 4) (tt := tYes) rfl nd rfl rfl (sw_true rfl rfl rfl (by decide +kernel)) (pi_range1 rfl B.range (pa_cons (pe_callB ca_len (by rfl) B.len bt_len (pa_cons (pv 7) pa_nil)) pa_nil)) (blkOk_by (N := (["script", "pool", "many", "sides", "place", "other_sides", "headings", "rows", "turn", "spoils", "way", "bent", "bent_sides", "due", "turned_rows"] : List Str)) (sc := defScope (topS 22)) (by decide +kernel)) (fun _ _ _ _ _ => (pg_n 4 nd)) (fun _ _ _ _ _ => pts_nil) (fun _ _ _ _ _ => (pe_ix (ixK (K := K) (r := aIx) oa_ix rfl) (pv 7) (pe_op oa_sub (pe_op oa_sub (pe_callB (calK (K := K) (r := aLen) ca_len rfl) (by rfl) B.len bt_len (pa_cons (pv 7) pa_nil)) pe_int) (pv 4)) (fun _ _ => rfl))))
        (pss_cons (ps_st 13 nd (pe_fn C__law_due (hr.mono (by first | decide | omega)) passL (pa_cons (pv 6) (pa_cons (pv 14) (pa_cons (pv 5) pa_nil)))))
        (pss_cons (ps_if (pt_not (pt_tr (pe_fn C__law_stays (hr.mono (by first | decide | omega)) passL (pa_cons (pv 6) (pa_cons (pv 14) (pa_cons (pv 5) (pa_cons (pe_lst (pa_cons (pe_tup (pa_cons pe_str pa_nil)) (pa_cons (pv 13) pa_nil))) pa_nil)))))))
        (pss_one (ps_ret pe_bl))
        pss_nil)
        (pss_one (ps_ret (pe_fn C__law_same (hr.mono (by first | decide | omega)) passL (pa_cons (pe_fn C__law_print (hr.mono (by first | decide | omega)) passL (pa_cons (pv 6) (pa_cons (pe_lst pa_nil) (pa_cons (pv 3) pa_nil)))) (pa_cons (pe_lst (pa_cons (pe_tup (pa_cons pe_str pa_nil)) (pa_cons (pe_fn C__law_due (hr.mono (by first | decide | omega)) passL (pa_cons (pv 6) (pa_cons (pe_lst pa_nil) (pa_cons (pv 3) pa_nil)))) pa_nil))) pa_nil)))))))))))))))))))))))), ?_⟩
    obtain ⟨s', sc, rfl, hS, k⟩ := h
    show (tSeq _ _) _ [some (.ref s'), none, none, none, none, none, none, none, none, none, none, none, none, none, none] H
    have lrc : (Str.ofString "lrc").length = 3 := by decide +kernel
    have emp : (Str.ofString "").length = 0 := by decide +kernel
    walk_at "s"
    refine ⟨s', sc, 0, rfl, hS, fun p a b c hp hb => ?_⟩
    have w0 := (W.start (H := H)).new (o := poolO a b c) hp
    walk_at "s"
    refine w_draw w0 0 rfl hb (by omega) (by omega) fun m1 a b c H1 g0 g1 hb _ w1 => ?_
    clear w0
    walk_at "s"
    obtain ⟨many, hmany⟩ : ∃ many : Int, many = 1 + m1 := ⟨_, rfl⟩
    rw [← hmany]
    have h1m : 1 ≤ many := by omega
    have hm5 : many ≤ 5 := by omega
    refine ⟨rfl, ?_⟩
    refine w_rg1 (by omega) (by omega) ?_
    refine w_lcR (fun L i H' => ∃ (ys : List Str) (a b c : Int), W H [(L, .lst (ys.map V.str)), (p, poolO a b c)] H' ∧ POk b ∧ ys.length = i ∧ ∀ y ∈ ys, y.length = 1) (fun L hL => ⟨[], a, b, c, w1.new hL, hb, rfl, (fun y hy => nomatch hy)⟩) ?_ ?_
    · rintro L i H' hi ⟨ys, a, b, c, w, hb, hl, h1⟩
      walk_at "s"
      refine ⟨rfl, ?_⟩
      refine ⟨_, rfl, ?_⟩
      refine w_draw w 1 rfl hb (by omega) (by omega) fun x a b c H2 q0 q1 hb _ w2 => ?_
      refine w_ixS (line_le _ (by rw [lrc]; omega)) q0 (by rw [lrc]; omega) fun ch hch => ?_
      refine ⟨_, w2.get 0 rfl, by rw [List.length_map]; exact small1000' (by omega), ys ++ [⟨#[ch]⟩], a, b, c, ?_, hb, by simp; omega, ?_⟩
      · have := w2.upd (o' := .lst ((ys ++ [(⟨#[ch]⟩ : Str)]).map V.str)) 0 rfl
        simpa using this
      · intro y hy
        rcases List.mem_append.mp hy with hy | hy
        · exact h1 y hy
        · have : y = ⟨#[ch]⟩ := by simpa using hy
          subst this; rfl
    rintro L H2 hL ⟨ys, a, b, c, w, hb, hl, h1⟩
    refine ⟨_, L, ys, rfl, rfl, .inl (SqL.of (w.get 0 rfl)), joinC (m := 1) (fun y hy => by rw [h1 y hy]; exact Nat.le_refl _) (by rw [emp]; omega), ?_⟩
    rw [join_eq]
    have S1 : ((Str.join (Str.ofString "") ys).length : Int) = many := by
      have := join0_len h1
      have e : (Str.join (Str.ofString "") ys).length = (Str.join "" ys).length := rfl
      omega
    generalize Str.join (Str.ofString "") ys = T1 at S1 ⊢
    have w2 := w.drop
    clear w h1 hl
    walk_at "s"
    refine ⟨rfl, ?_⟩
    refine w_rg1 (by omega) (by omega) ?_
    refine w_lcR (fun L i H' => ∃ (ys : List Str) (a b c : Int), W H [(L, .lst (ys.map V.str)), (p, poolO a b c)] H' ∧ POk b ∧ ys.length = i ∧ ∀ y ∈ ys, y.length = 1) (fun L hL => ⟨[], a, b, c, w2.new hL, hb, rfl, (fun y hy => nomatch hy)⟩) ?_ ?_
    · rintro L i H' hi ⟨ys, a, b, c, w, hb, hl, h1⟩
      walk_at "s"
      refine ⟨rfl, ?_⟩
      refine ⟨_, rfl, ?_⟩
      refine w_draw w 1 rfl hb (by omega) (by omega) fun x a b c H2 q0 q1 hb _ w2 => ?_
      refine w_ixS (line_le _ (by rw [lrc]; omega)) q0 (by rw [lrc]; omega) fun ch hch => ?_
      refine ⟨_, w2.get 0 rfl, by rw [List.length_map]; exact small1000' (by omega), ys ++ [⟨#[ch]⟩], a, b, c, ?_, hb, by simp; omega, ?_⟩
      · have := w2.upd (o' := .lst ((ys ++ [(⟨#[ch]⟩ : Str)]).map V.str)) 0 rfl
        simpa using this
      · intro y hy
        rcases List.mem_append.mp hy with hy | hy
        · exact h1 y hy
        · have : y = ⟨#[ch]⟩ := by simpa using hy
          subst this; rfl
    rintro L H3 hL ⟨ys, a, b, c, w, hb, hl, h1⟩
    refine ⟨_, L, ys, rfl, rfl, .inl (SqL.of (w.get 0 rfl)), joinC (m := 1) (fun y hy => by rw [h1 y hy]; exact Nat.le_refl _) (by rw [emp]; omega), ?_⟩
    rw [join_eq]
    have S2 : ((Str.join (Str.ofString "") ys).length : Int) = many := by
      have := join0_len h1
      have e : (Str.join (Str.ofString "") ys).length = (Str.join "" ys).length := rfl
      omega
    generalize Str.join (Str.ofString "") ys = T2 at S2 ⊢
    have w3 := w.drop
    clear w h1 hl
    clear w1 w2
    walk_at "s"
    refine w_rg1 (by omega) (by omega) ?_
    refine w_lcR (fun L i H' => ∃ (ys : List Str) (a b c : Int), W H [(L, .lst (ys.map V.str)), (p, poolO a b c)] H' ∧ POk b ∧ ys.length = i ∧ ∀ y ∈ ys, y.length ≤ 46) (fun L hL => ⟨[], a, b, c, w3.new hL, hb, rfl, (fun y hy => nomatch hy)⟩) ?_ ?_
    · rintro L i H' hi ⟨ys, a, b, c, w, hb, hl, h1⟩
      walk_at "s"
      refine ⟨rfl, ?_⟩
      refine ⟨_, rfl, ?_⟩
      refine ⟨p, a, b, c, rfl, w.get 1 rfl, hb, fun t a b c H2 ht bt hp hb => ?_⟩
      have w2 := w.mut 1 rfl bt hp
      refine ⟨_, w2.get 0 rfl, by rw [List.length_map]; exact small1000' (by omega), ys ++ [t], a, b, c, ?_, hb, by simp; omega, ?_⟩
      · have := w2.upd (o' := .lst ((ys ++ [t]).map V.str)) 0 rfl
        simpa using this
      · intro y hy
        rcases List.mem_append.mp hy with hy | hy
        · exact h1 y hy
        · have : y = t := by simpa using hy
          subst this; exact ht
    rintro hp' H4 hL ⟨hs, a, b, c, w, hb, hl, hc46⟩
    have hcl : ∀ (ys : List Str), (∀ y ∈ ys, y.length ≤ 46) → ∀ i, (ys.getD i Str.empty).length ≤ 100 := fun ys h i => by
      rw [List.getD_eq_getElem?_getD]
      by_cases e : i < ys.length
      · rw [List.getElem?_eq_getElem e]
        have := h _ (List.getElem_mem e)
        show ys[i].length ≤ 100
        omega
      · rw [List.getElem?_eq_none (by omega)]; show Str.empty.length ≤ 100; decide
    obtain ⟨sF, w4⟩ := w.frz
    have hhS : SqL K (upd H hp' (.lst (hs.map V.str))) hp' (hs.map V.str) := SqL.of upd_same
    have hS := sF.seq hS
    generalize upd H hp' (.lst (hs.map V.str)) = F at hhS hS w4
    clear sF w w3
    walk_at "s"
    intro R hR
    have w5 := w4.new (o := .lst (([] : List Addr).map V.ref)) hR
    refine w_draw w5 1 rfl hb (by omega) (by omega) fun nr a b c H5 g2 g3 hb _ w6 => ?_
    clear w4 w5
    refine w_rg1 (by omega) (by omega) ?_
    refine w_forR (fun i σ H' => ∃ (F' : Hp) (as : List Addr) (rs : List (List Str)) (a b c : Int) (v4 v8 : Option V), σ = [some (.ref s'), some (.ref p), some (.int many), some (.str T1), v4, some (.str T2), some (.ref hp'), some (.ref R), v8, none, none, none, none, none, none] ∧ Same F F' ∧ W F' [(R, .lst (as.map V.ref)), (p, poolO a b c)] H' ∧ POk b ∧ rs.length = i ∧ as.length = rs.length ∧ (∀ (j : Nat) (a : Addr) (r : List Str), as[j]? = some a → rs[j]? = some r → SqL K F' a (r.map V.str)) ∧ ∀ r : List Str, r ∈ rs → r.length = hs.length ∧ ∀ y ∈ r, y.length ≤ 46)
      ⟨F, [], [], a, b, c, _, _, rfl, Same.refl _, w6, hb, rfl, rfl, fun j a r h1 => by simp at h1, (fun r hr => nomatch hr)⟩ ?_ ?_
    · rintro i σ H6 hi ⟨F', as, rs, a, b, c, v4, v8, rfl, sF, w, hb, hl1, hl2, hrow, hrl⟩
      walk_at "s"
      refine ⟨.inl ⟨rfl, _, SqL.of (w.get 0 rfl)⟩, ?_⟩
      refine w_rg1 (by omega) (by omega) ?_
      refine w_lcR (fun L i H' => ∃ (ys : List Str) (a b c : Int), W F' [(L, .lst (ys.map V.str)), (R, .lst (as.map V.ref)), (p, poolO a b c)] H' ∧ POk b ∧ ys.length = i ∧ ∀ y ∈ ys, y.length ≤ 46) (fun L hL => ⟨[], a, b, c, w.new hL, hb, rfl, (fun y hy => nomatch hy)⟩) ?_ ?_
      · rintro L i H' hi ⟨ys, a, b, c, w, hb, hl, h1⟩
        walk_at "s"
        refine ⟨rfl, ?_⟩
        refine ⟨_, rfl, ?_⟩
        refine ⟨p, a, b, c, rfl, w.get 2 rfl, hb, fun t a b c H2 ht bt hp hb => ?_⟩
        have w2 := w.mut 2 rfl bt hp
        refine ⟨_, w2.get 0 rfl, by rw [List.length_map]; exact small1000' (by omega), ys ++ [t], a, b, c, ?_, hb, by simp; omega, ?_⟩
        · have := w2.upd (o' := .lst ((ys ++ [t]).map V.str)) 0 rfl
          simpa using this
        · intro y hy
          rcases List.mem_append.mp hy with hy | hy
          · exact h1 y hy
          · have : y = t := by simpa using hy
            subst this; exact ht
      rintro L H7 hL ⟨ys, a, b, c, w7, hb, hly, hy46⟩
      refine ⟨R, _, _, rfl, rfl, w7.get 1 rfl, by rw [List.length_map]; exact small1000' (by omega), ?_⟩
      have w8 := w7.upd (o' := .lst ((as ++ [L]).map V.ref)) 1 rfl
      rw [List.map_append] at w8
      obtain ⟨sG, w9⟩ := w8.frz
      refine ⟨_, as ++ [L], rs ++ [ys], a, b, c, _, _, rfl, sF.trans sG, by rw [List.map_append]; exact w9, hb, by simp; omega, by simp; omega, fun j b r h1 h2 => ?_, fun r hr => ?_⟩
      · by_cases hj : j < as.length
        · rw [List.getElem?_append_left hj] at h1
          rw [List.getElem?_append_left (by omega)] at h2
          exact sG.seq (hrow j b r h1 h2)
        · rw [List.getElem?_append_right (by omega)] at h1
          rw [List.getElem?_append_right (by omega)] at h2
          have e1 : j - as.length = 0 := by
            have := (List.getElem?_eq_some_iff.mp h1).1
            simp at this; omega
          have e2 : j - rs.length = 0 := by omega
          rw [e1] at h1
          rw [e2] at h2
          cases Option.some.inj h1
          cases Option.some.inj h2
          exact SqL.of upd_same
      · rcases List.mem_append.mp hr with hr | hr
        · exact hrl r hr
        · have : r = ys := by simpa using hr
          subst this
          exact ⟨by omega, hy46⟩
    rintro σ H6 ⟨F', as, rs, a, b, c, v4, v8, rfl, sF, w, hb, hl1, hl2, hrow, hrl⟩
    obtain ⟨sG, w7⟩ := w.frz
    have TB : Tab K (upd F' R (.lst (as.map V.ref))) hp' R hs rs as := ⟨(sF.trans sG).seq hhS, SqL.of upd_same, hl2, fun i a r h1 h2 => sG.seq (hrow i a r h1 h2), by omega, by omega, hcl hs hc46, fun r hr => ⟨by have := (hrl r hr).1; omega, hcl r (hrl r hr).2⟩⟩
    have hS := (sF.trans sG).seq hS
    generalize upd F' R (.lst (as.map V.ref)) = G at TB hS w7
    have hrow : ∀ r : List Str, r ∈ rs → r.length = hs.length := fun r hr => (hrl r hr).1
    have e1 : T1.length = hs.length := by omega
    have e2 : T2.length = hs.length := by omega
    have hs5 : hs.length ≤ 5 := by omega
    clear w w6 sF sG hrl hhS
    walk_at "s"
    refine ⟨s', sc, 1, rfl, w7.fr.seq hS, fun p2 a b c hp2 hb => ?_⟩
    have w8 : W G [(p2, poolO a b c)] _ := ((w7.new (o := poolO a b c) hp2).perm (List.Perm.swap _ _ _)).drop
    clear w7
    walk_at "s"
    refine w_draw w8 0 rfl hb (by omega) (by omega) fun way a b c H7 y0 y1 hb _ w9 => ?_
    clear w8
    walk_at "s"
    refine w_ifJ (fun σ H' => ∃ (BS : Str) (a b c : Int), σ = [some (.ref s'), some (.ref p), some (.int many), some (.str T1), v4, some (.str T2), some (.ref hp'), some (.ref R), v8, some (.ref p2), some (.int way), some (.ref R), some (.str BS), none, none] ∧ BS.length ≤ 20 ∧ POk b ∧ W G [(p2, poolO a b c)] H') ?_ (fun nx hnx => ?_)
    · rintro σ H8 ⟨BS, a, b, c, rfl, hBS, hb, w10⟩
      clear w9
      walk_at "s"
      refine w_ifJ (fun σ H' => ∃ (q' : Addr) (rs' : List (List Str)) (as' : List Addr) (Q' : Hp), σ = [some (.ref s'), some (.ref p), some (.int many), some (.str T1), v4, some (.str T2), some (.ref hp'), some (.ref R), v8, some (.ref p2), some (.int way), some (.ref q'), some (.str BS), none, none] ∧ Tab K H' hp' q' hs rs' as' ∧ Same G H') ?_ (fun nx hnx => ?_)
      · rintro σ H9 ⟨q', rs', as', _, rfl, TBb, s9⟩
        clear w10
        walk_at "s"
        refine ⟨hp', q', BS, hs, rs', as', rfl, TBb, hBS, fun r H10 s10 hD => ?_⟩
        refine ⟨hp', q', BS, hs, rs', as', .ref r, rfl, TBb.mono s10, hBS, hD, fun H11 s11 => ?_⟩
        walk_at "s"
        have s11 := s9.trans (s10.trans s11)
        clear s9 s10 hD TBb
        refine ⟨hp', R, T1, hs, rs, as, rfl, TB.mono s11, e1, hrow, fun l H12 s12 hl hl12 => ?_⟩
        have s12 := s11.trans s12
        walk_at "s"
        intro t ht
        have wt := (W.start (H := H12)).new (o := .tup [.str "told"]) ht
        walk_at "s"
        intro d hd
        have wd := wt.new (o := .lst [.ref t, .ref l]) hd
        have s13 := s12.trans wd.fr
        refine ⟨hp', R, T1, hs, rs, as, .ref d, rfl, TB.mono s13, by omega, ?_, fun H14 s14 => ?_⟩
        · rw [due_told e1 hrow]
          exact dp_told (wd.get 0 rfl) (wd.get 1 rfl) (SqL.of (wd.fr _ _ hl12))
        have s14 := s13.trans s14
        clear wd wt s13 s12 s11 hl12
        walk_at "s"
        have TB14 := TB.mono s14
        refine w_lenL TB14.hR ?_
        rw [List.length_map]
        refine w_rg1 (by omega) (by have := TB.len; have := TB.b2; omega) ?_
        refine w_lcRf (fun i => .ref (as.getD (as.length - 1 - i) 0)) (by have := TB.len; have := TB.b2; omega) ?_ ?_
        · intro i H15 N hi s15 hN
          have hi : i < as.length := by omega
          refine ⟨rfl, ?_⟩
          walk_at "s"
          refine ⟨_, rfl, _, rfl, ?_⟩
          have hRR := s15.seq TB14.hR
          refine w_lenL hRR ?_
          rw [List.length_map]
          walk_at "s"
          refine ⟨_, rfl, ?_⟩
          walk_at "s"
          have e0 : ((as.length : Int) - 1 - (0 + (i : Nat))) = ((as.length - 1 - i : Nat) : Int) := by omega
          rw [e0]
          have hi2 : as.length - 1 - i < as.length := by omega
          refine w_ixL hRR (w := .ref (as.getD (as.length - 1 - i) 0)) (atI_nat ?_) ?_
          · rw [List.getElem?_map, List.getElem?_eq_getElem hi2]; simp [hi2]
          · exact hN _ (Same.refl _)
        intro Z H15 s15 hZ e15
        have ez : ((as.length : Int)).toNat = as.length := Int.toNat_natCast _
        rw [ez, rev_range] at e15
        have TR := (TB14.mono s15).rev (SqL.of e15)
        have hrowR : ∀ r : List Str, r ∈ rs.reverse → r.length = hs.length := fun r hr => hrow r (List.mem_reverse.mp hr)
        have s15 := s14.trans s15
        clear e15
        walk_at "s"
        refine ⟨hp', Z, T2, hs, rs.reverse, as.reverse, rfl, TR, e2, hrowR, fun l H16 s16 hl hl16 => ?_⟩
        walk_at "s"
        intro t ht
        have wt := (W.start (H := H16)).new (o := .tup [.str "told"]) ht
        walk_at "s"
        intro d hd
        have wd := wt.new (o := .lst [.ref t, .ref l]) hd
        have s17 := s16.trans wd.fr
        refine ⟨hp', Z, T2, hs, rs.reverse, as.reverse, .ref d, rfl, TR.mono s17, by omega, ?_, fun H18 s18 => ?_⟩
        · rw [due_told e2 hrowR]
          exact dp_told (wd.get 0 rfl) (wd.get 1 rfl) (SqL.of (wd.fr _ _ hl16))
        have s18 := s15.trans (s17.trans s18)
        clear wd wt s17 hl16 TR s16
        walk_at "s"
        intro z hz
        have wz := (W.start (H := H18)).new (o := .lst []) hz
        have s19 := s18.trans wz.fr
        have TN : Tab K _ hp' z hs [] [] := (TB.mono s19).nil (SqL.of upd_same)
        have hN : bad hs [] T1 = none := bad_none e1 (fun r hr => nomatch hr)
        refine ⟨hp', z, T1, hs, [], [], rfl, TN, by omega, fun _ r w' l H20 s20 hr hl hr20 hw20 hl20 => ?_, fun f hf => by rw [hN] at hf; cases hf⟩
        walk_at "s"
        intro t ht
        have wt := (W.start (H := H20)).new (o := .tup [.str "told"]) ht
        walk_at "s"
        intro z2 hz2
        have wz2 := wt.new (o := .lst []) hz2
        have s21 := s19.trans (s20.trans wz2.fr)
        have TN2 : Tab K _ hp' z2 hs [] [] := (TB.mono s21).nil (SqL.of upd_same)
        refine ⟨hp', z2, T1, hs, [], [], rfl, TN2, e1, (fun r hr => nomatch hr), fun l2 H22 s22 hl2 hl22 => ?_⟩
        walk_at "s"
        intro d hd
        have wd := (W.start (H := H22)).new (o := .lst [.ref t, .ref l2]) hd
        have s23 := (wz2.fr.trans s22).trans wd.fr
        have f4 := fits_due (hs := hs) (rs := []) (ss := T1) (by simp)
        rw [due_told (rs := []) e1 (fun r hr => nomatch hr)] at f4
        refine ⟨.ref r, .ref d, _, _, rfl, dp_told (s23 _ _ hr20) (s23 _ _ hw20) (SqL.of (s23 _ _ hl20)), dp_told (wd.get 0 rfl) ((s22.trans wd.fr) _ _ (wz2.get 1 rfl)) (SqL.of (wd.fr _ _ hl22)), f4, ?_⟩
        rw [sm_eq rfl f4]
        exact k _
      · have same : nx [some (.ref s'), some (.ref p), some (.int many), some (.str T1), v4, some (.str T2), some (.ref hp'), some (.ref R), v8, some (.ref p2), some (.int way), some (.ref R), some (.str BS), none, none] H8 :=
          hnx _ _ ⟨R, rs, as, H8, rfl, TB.mono w10.fr, w10.fr⟩
        walk_at "s"
        refine w_aB (fun c1 => ?_) (fun c1 => ?_)
        · walk_at "s"
          refine w_lenL (w10.fr.seq TB.hR) ?_
          rw [List.length_map]
          walk_at "s"
          refine w_br (fun c2 => ?_) (fun c2 => ?_)
          · walk_at "s"
            refine ⟨p2, R, hp', hs, rs, as, a, b, c, rfl, TB.mono (w10.frem 0 rfl), by rw [← TB.len]; omega, fun r hr => by rw [hrow r hr]; omega, w10.get 0 rfl, hb, fun r rs' as' a b c H9 TB9 b9 hp9 hb => ?_⟩
            have w11 := w10.mut 0 rfl b9 hp9
            walk_at "s"
            exact hnx _ _ ⟨r, rs', as', H9, rfl, TB9.mono Same.rem, w11.fr⟩
          · walk_at "s"
            exact same
        · walk_at "s"
          exact same
    · have same : nx [some (.ref s'), some (.ref p), some (.int many), some (.str T1), v4, some (.str T2), some (.ref hp'), some (.ref R), v8, some (.ref p2), some (.int way), some (.ref R), some (.str T1), none, none] H7 :=
        hnx _ _ ⟨T1, a, b, c, rfl, by omega, hb, w9⟩
      walk_at "s"
      refine w_orA (fun bb => ?_) (fun hall => ?_)
      · refine w_brB (fun _ => ?_) (fun _ => ?_)
        · walk_at "s"
          rw [v_addS]
          have l1 : (Str.ofString "l").length = 1 := by decide +kernel
          refine ⟨line_le _ (by omega), ?_⟩
          refine w_slS (line_le _ (by omega)) ?_
          walk_at "s"
          intro z hz
          have w10 := w9.new (o := .lst [.str (T1 ++ Str.ofString "l"), .str (cutS T1 (some 1) none)]) hz
          refine w_draw w10 1 rfl hb (by omega) (by omega) fun x a b c H8 x0 x1 hb _ w11 => ?_
          have : ∃ B : Str, atI [V.str (T1 ++ Str.ofString "l"), .str (cutS T1 (some 1) none)] x = some (.str B) ∧ B.length ≤ 20 := by
            have : x = 0 ∨ x = 1 := by omega
            rcases this with rfl | rfl
            · exact ⟨_, rfl, by rw [len_app, l1]; omega⟩
            · exact ⟨_, rfl, by have := cutS_length T1 (some 1) none; omega⟩
          obtain ⟨B, hB, hB20⟩ := this
          refine w_ixL (SqL.of (w11.get 0 rfl)) hB ?_
          walk_at "s"
          exact hnx _ _ ⟨B, a, b, c, rfl, hB20, hb, w11.drop⟩
        · walk_at "s"
          exact same
      · walk_at "s"
        exact hall _
end
end Nk
namespace Nk
open PySem PySem.Spec PyProof.Rows L2
open Tb
abbrev s_WrongLength___init__ : Stmt := inClass (topS 3) 0
theorem si_WrongLength : SupInit s_WrongLength___init__ (["found", "wanted"] : List Str) := ⟨⟨_, rfl, rfl⟩, ⟨_, _, rfl, ⟨_, _, _, _, _, _, _, _, rfl, rfl⟩, (.cons ⟨_, _, _, _, rfl⟩ (.cons ⟨_, _, _, _, rfl⟩ .nil))⟩, by decide +kernel, by decide +kernel, by decide +kernel, rfl, by decide +kernel, rfl, rfl, fun _ _ _ _ _ _ _ _ _ us hd hl => by subst hd; exact match us, hl with | [_, _, _], _ => rfl, by decide +kernel, by decide +kernel⟩
theorem all_mk {l : PySem.W.OpenLaw} {w : World} {K : PySem.W.Frag} {h : Heap} {mg : Str → Option Value} {fa : Addr} (hfile : ((l.prog.main.file : Str) == "/claim/cut.py") = true) (htop : (l.prog.main.scope.names.lookup ("super" : Str)).isSome = false) (X : K.In h) (G : h.Ns mainGlobals mg) (hfa : mg "law" = some (.ref fa))
    {cNE : Addr}
    {cBN : Addr}
    {cWL : Addr}
    {iWL : Addr} {nm_WrongLength q_WrongLength : Str} {N_WrongLength : Addr} {bs_WrongLength bm_WrongLength : List Value} {sn_WrongLength : List Str} {sub_WrongLength : List Value} {ab_WrongLength : Bool} {col_WrongLength : Option Bool} {dd_WrongLength : Option Addr} {u0_WrongLength u1_WrongLength u2_WrongLength u3_WrongLength u5_WrongLength : Option Value} {oc_WrongLength kV_WrongLength doc_WrongLength pm_WrongLength ct_WrongLength ccl_WrongLength cl_WrongLength : Value} {od_WrongLength an_WrongLength cdd_WrongLength cld_WrongLength : Option Addr} {osl_WrongLength ccs_WrongLength csl_WrongLength : Array (Option Value)} {cda_WrongLength cc_WrongLength : Addr} {vs_WrongLength : Array Value} {file_WrongLength : Str} {tf_WrongLength : Tok}
    {f_table_lines : Addr} {od_table_lines an_table_lines : Option Addr} {sl_table_lines : Array (Option Value)} {oc_table_lines kV_table_lines dc_table_lines pm_table_lines cd_table_lines ct_table_lines : Value}
    {f_table_line : Addr} {od_table_line an_table_line : Option Addr} {sl_table_line : Array (Option Value)} {oc_table_line kV_table_line dc_table_line pm_table_line cd_table_line ct_table_line : Value}
    {f_padded : Addr} {od_padded an_padded : Option Addr} {sl_padded : Array (Option Value)} {oc_padded kV_padded dc_padded pm_padded cd_padded ct_padded : Value}
    {f_joined_columns : Addr} {od_joined_columns an_joined_columns : Option Addr} {sl_joined_columns : Array (Option Value)} {oc_joined_columns kV_joined_columns dc_joined_columns pm_joined_columns cd_joined_columns ct_joined_columns : Value}
    {f__law_pool : Addr} {od__law_pool an__law_pool : Option Addr} {sl__law_pool : Array (Option Value)} {oc__law_pool kV__law_pool dc__law_pool pm__law_pool cd__law_pool ct__law_pool : Value}
    {f__law_draw : Addr} {od__law_draw an__law_draw : Option Addr} {sl__law_draw : Array (Option Value)} {oc__law_draw kV__law_draw dc__law_draw pm__law_draw cd__law_draw ct__law_draw : Value}
    {f__law_int : Addr} {od__law_int an__law_int : Option Addr} {sl__law_int : Array (Option Value)} {oc__law_int kV__law_int dc__law_int pm__law_int cd__law_int ct__law_int : Value}
    {f__law_same : Addr} {od__law_same an__law_same : Option Addr} {sl__law_same : Array (Option Value)} {oc__law_same kV__law_same dc__law_same pm__law_same cd__law_same ct__law_same : Value}
    {f__law_cell_text : Addr} {od__law_cell_text an__law_cell_text : Option Addr} {sl__law_cell_text : Array (Option Value)} {oc__law_cell_text kV__law_cell_text dc__law_cell_text pm__law_cell_text cd__law_cell_text ct__law_cell_text : Value}
    {f__law_padded : Addr} {od__law_padded an__law_padded : Option Addr} {sl__law_padded : Array (Option Value)} {oc__law_padded kV__law_padded dc__law_padded pm__law_padded cd__law_padded ct__law_padded : Value}
    {f__law_line_of : Addr} {od__law_line_of an__law_line_of : Option Addr} {sl__law_line_of : Array (Option Value)} {oc__law_line_of kV__law_line_of dc__law_line_of pm__law_line_of cd__law_line_of ct__law_line_of : Value}
    {f__law_due : Addr} {od__law_due an__law_due : Option Addr} {sl__law_due : Array (Option Value)} {oc__law_due kV__law_due dc__law_due pm__law_due cd__law_due ct__law_due : Value}
    {f__law_print : Addr} {od__law_print an__law_print : Option Addr} {sl__law_print : Array (Option Value)} {oc__law_print kV__law_print dc__law_print pm__law_print cd__law_print ct__law_print : Value}
    {f__law_refusal : Addr} {od__law_refusal an__law_refusal : Option Addr} {sl__law_refusal : Array (Option Value)} {oc__law_refusal kV__law_refusal dc__law_refusal pm__law_refusal cd__law_refusal ct__law_refusal : Value}
    {f__law_bent_rows : Addr} {od__law_bent_rows an__law_bent_rows : Option Addr} {sl__law_bent_rows : Array (Option Value)} {oc__law_bent_rows kV__law_bent_rows dc__law_bent_rows pm__law_bent_rows cd__law_bent_rows ct__law_bent_rows : Value}
    {f__law_stays : Addr} {od__law_stays an__law_stays : Option Addr} {sl__law_stays : Array (Option Value)} {oc__law_stays kV__law_stays dc__law_stays pm__law_stays cd__law_stays ct__law_stays : Value}
    {f_law : Addr} {od_law an_law : Option Addr} {sl_law : Array (Option Value)} {oc_law kV_law dc_law pm_law cd_law ct_law : Value}
    (z_len : PySem.W.nsIn K mainGlobals "len" = some none)
    (z_abs : PySem.W.nsIn K mainGlobals "abs" = some none)
    (z_max : PySem.W.nsIn K mainGlobals "max" = some none)
    (z_min : PySem.W.nsIn K mainGlobals "min" = some none)
    (z_sum : PySem.W.nsIn K mainGlobals "sum" = some none)
    (z_sorted : PySem.W.nsIn K mainGlobals "sorted" = some none)
    (z_isinstance : PySem.W.nsIn K mainGlobals "isinstance" = some none)
    (z_iter : PySem.W.nsIn K mainGlobals "iter" = some none)
    (z_ord : PySem.W.nsIn K mainGlobals "ord" = some none)
    (z_any : PySem.W.nsIn K mainGlobals "any" = some none)
    (z_all : PySem.W.nsIn K mainGlobals "all" = some none)
    (z_int : PySem.W.nsIn K mainGlobals "int" = some none)
    (z_bool : PySem.W.nsIn K mainGlobals "bool" = some none)
    (z_str : PySem.W.nsIn K mainGlobals "str" = some none)
    (z_list : PySem.W.nsIn K mainGlobals "list" = some none)
    (z_tuple : PySem.W.nsIn K mainGlobals "tuple" = some none)
    (z_dict : PySem.W.nsIn K mainGlobals "dict" = some none)
    (z_set : PySem.W.nsIn K mainGlobals "set" = some none)
    (z_range : PySem.W.nsIn K mainGlobals "range" = some none)
    (z_enumerate : PySem.W.nsIn K mainGlobals "enumerate" = some none)
    (z_zip : PySem.W.nsIn K mainGlobals "zip" = some none)
    (z_reversed : PySem.W.nsIn K mainGlobals "reversed" = some none)
    (z_super : PySem.W.nsIn K mainGlobals "super" = some none)
    (z_ValueError : PySem.W.nsIn K mainGlobals "ValueError" = some none)
    (q_get : PySem.W.specialIn K (.builtin "object.__class__") "__get__" = some (some (.builtin "getset_descriptor.__get__")))
    (q_takes : PySem.W.takesIn K (.builtin "object.__class__") = some true)
    (q_tp : PySem.W.nsIn K cStatics "thirdparty.any" = some none)
    (e0_NightsError : PySem.W.nsIn K mainGlobals "NightsError" = some (some (.ref cNE)))
    (e1_NightsError : PySem.W.subIn K (.ref cNE) (.type "BaseException") = some true)
    (e2_NightsError : PySem.W.subIn K (.ref cNE) (.type "ValueError") = some true)
    (e3_NightsError : PySem.W.typeIn K (.ref cNE) = some (.type "type"))
    (e4_NightsError : PySem.W.hasDictIn K cNE = true)
    (e5_NightsError : PySem.W.subIn K (.ref cNE) (.ref cNE) = some true)
    (e6_NightsError : PySem.W.findIn K (.ref cNE) "__getattribute__" = some (some (.builtin "BaseException.__getattribute__")))
    (e7_NightsError : PySem.W.findIn K (.ref cNE) "__getattr__" = some none)
    (e8_NightsError : PySem.W.findIn K (.ref cNE) "__class__" = some (some (.builtin "object.__class__")))
    (e9_NightsError : PySem.W.mroIn K cNE (.type "object") = some true)
    (e0_BadNumber : PySem.W.nsIn K mainGlobals "BadNumber" = some (some (.ref cBN)))
    (e1_BadNumber : PySem.W.subIn K (.ref cBN) (.type "BaseException") = some true)
    (e2_BadNumber : PySem.W.subIn K (.ref cBN) (.type "ValueError") = some true)
    (e3_BadNumber : PySem.W.typeIn K (.ref cBN) = some (.type "type"))
    (e4_BadNumber : PySem.W.hasDictIn K cBN = true)
    (e5_BadNumber : PySem.W.subIn K (.ref cBN) (.ref cBN) = some true)
    (e6_BadNumber : PySem.W.findIn K (.ref cBN) "__getattribute__" = some (some (.builtin "BaseException.__getattribute__")))
    (e7_BadNumber : PySem.W.findIn K (.ref cBN) "__getattr__" = some none)
    (e8_BadNumber : PySem.W.findIn K (.ref cBN) "__class__" = some (some (.builtin "object.__class__")))
    (e9_BadNumber : PySem.W.mroIn K cBN (.type "object") = some true)
    (e0_WrongLength : PySem.W.nsIn K mainGlobals "WrongLength" = some (some (.ref cWL)))
    (e1_WrongLength : PySem.W.subIn K (.ref cWL) (.type "BaseException") = some true)
    (e2_WrongLength : PySem.W.subIn K (.ref cWL) (.type "ValueError") = some true)
    (e3_WrongLength : PySem.W.typeIn K (.ref cWL) = some (.type "type"))
    (e4_WrongLength : PySem.W.hasDictIn K cWL = true)
    (e5_WrongLength : PySem.W.subIn K (.ref cWL) (.ref cWL) = some true)
    (e6_WrongLength : PySem.W.findIn K (.ref cWL) "__getattribute__" = some (some (.builtin "BaseException.__getattribute__")))
    (e7_WrongLength : PySem.W.findIn K (.ref cWL) "__getattr__" = some none)
    (e8_WrongLength : PySem.W.findIn K (.ref cWL) "__class__" = some (some (.builtin "object.__class__")))
    (e9_WrongLength : PySem.W.mroIn K cWL (.type "object") = some true)
    (g1_WrongLength : K.lookup cWL = some (excClassObj nm_WrongLength q_WrongLength cWL N_WrongLength bs_WrongLength bm_WrongLength true sn_WrongLength sub_WrongLength ab_WrongLength col_WrongLength dd_WrongLength u0_WrongLength u1_WrongLength u2_WrongLength u3_WrongLength u5_WrongLength "ValueError.__new__"))
    (g2_WrongLength : PySem.HandSPX.refsVE bm_WrongLength = true)
    (g3_WrongLength : PySem.W.findIn K (.ref cWL) "__setattr__" = some (some (.builtin "object.__setattr__")))
    (n0_WrongLength : PySem.W.findIn K (.ref cWL) "found" = some none)
    (n1_WrongLength : PySem.W.findIn K (.ref cWL) "wanted" = some none)
    (g4_WrongLength : PySem.W.findIn K (.ref cWL) "__init__" = some (some (.ref iWL)))
    (g5_WrongLength : PySem.W.typeIn K (.ref iWL) = some (.type "function"))
    (g6_WrongLength : PySem.W.keepIn K (.ref cWL) = true)
    (g7_WrongLength : PySem.W.ks_superIn K cWL cWL "__init__" = some (some (.builtin "ValueError.__init__")))
    (g8_WrongLength : PySem.W.mroIn K cWL (.ref cWL) = some true)
    (g9_WrongLength : K.lookup iWL = some ⟨oc_WrongLength, od_WrongLength, .func (PySem.W.ksFn "__init__" "WrongLength.__init__" (defArgs s_WrongLength___init__) (defBody s_WrongLength___init__) (defScope s_WrongLength___init__) .none kV_WrongLength doc_WrongLength pm_WrongLength an_WrongLength (.ref cda_WrongLength) ct_WrongLength cc_WrongLength), osl_WrongLength⟩)
    (h1_WrongLength : PySem.W.codeIn K (.ref cda_WrongLength) "WrongLength.__init__" = true)
    (h2_WrongLength : K.lookup cda_WrongLength = some ⟨ccl_WrongLength, cdd_WrongLength, .fields vs_WrongLength, ccs_WrongLength⟩)
    (h3_WrongLength : vs_WrongLength[2]? = some (.str file_WrongLength tf_WrongLength))
    (h4_WrongLength : ((("/claim/cut.py" : Str)) == file_WrongLength) = true)
    (h5_WrongLength : K.lookup cc_WrongLength = some ⟨cl_WrongLength, cld_WrongLength, .cell (some (.ref cWL)), csl_WrongLength⟩)
    (s1 : PySem.W.subIn K (.ref cWL) (.ref cNE) = some true)
    (s2 : PySem.W.subIn K (.ref cWL) (.ref cBN) = some false)
    (a_table_lines : PySem.W.nsIn K mainGlobals "table_lines" = some (some (.ref f_table_lines)))
    (l_table_lines : K.lookup f_table_lines = some ⟨oc_table_lines, od_table_lines, .func (PySem.W.fnOf "table_lines" "table_lines" (defArgs s_table_lines) (defBody s_table_lines) (defScope s_table_lines) .none kV_table_lines dc_table_lines pm_table_lines an_table_lines cd_table_lines ct_table_lines), sl_table_lines⟩)
    (c_table_lines : PySem.W.codeIn K cd_table_lines "table_lines" = true)
    (k_table_lines : PySem.W.keepIn K (.ref f_table_lines) = true)
    (a_table_line : PySem.W.nsIn K mainGlobals "table_line" = some (some (.ref f_table_line)))
    (l_table_line : K.lookup f_table_line = some ⟨oc_table_line, od_table_line, .func (PySem.W.fnOf "table_line" "table_line" (defArgs s_table_line) (defBody s_table_line) (defScope s_table_line) .none kV_table_line dc_table_line pm_table_line an_table_line cd_table_line ct_table_line), sl_table_line⟩)
    (c_table_line : PySem.W.codeIn K cd_table_line "table_line" = true)
    (k_table_line : PySem.W.keepIn K (.ref f_table_line) = true)
    (a_padded : PySem.W.nsIn K mainGlobals "padded" = some (some (.ref f_padded)))
    (l_padded : K.lookup f_padded = some ⟨oc_padded, od_padded, .func (PySem.W.fnOf "padded" "padded" (defArgs s_padded) (defBody s_padded) (defScope s_padded) .none kV_padded dc_padded pm_padded an_padded cd_padded ct_padded), sl_padded⟩)
    (c_padded : PySem.W.codeIn K cd_padded "padded" = true)
    (k_padded : PySem.W.keepIn K (.ref f_padded) = true)
    (a_joined_columns : PySem.W.nsIn K mainGlobals "joined_columns" = some (some (.ref f_joined_columns)))
    (l_joined_columns : K.lookup f_joined_columns = some ⟨oc_joined_columns, od_joined_columns, .func (PySem.W.fnOf "joined_columns" "joined_columns" (defArgs s_joined_columns) (defBody s_joined_columns) (defScope s_joined_columns) .none kV_joined_columns dc_joined_columns pm_joined_columns an_joined_columns cd_joined_columns ct_joined_columns), sl_joined_columns⟩)
    (c_joined_columns : PySem.W.codeIn K cd_joined_columns "joined_columns" = true)
    (k_joined_columns : PySem.W.keepIn K (.ref f_joined_columns) = true)
    (a__law_pool : PySem.W.nsIn K mainGlobals "_law_pool" = some (some (.ref f__law_pool)))
    (l__law_pool : K.lookup f__law_pool = some ⟨oc__law_pool, od__law_pool, .func (PySem.W.fnOf "_law_pool" "_law_pool" (defArgs s__law_pool) (defBody s__law_pool) (defScope s__law_pool) .none kV__law_pool dc__law_pool pm__law_pool an__law_pool cd__law_pool ct__law_pool), sl__law_pool⟩)
    (c__law_pool : PySem.W.codeIn K cd__law_pool "_law_pool" = true)
    (k__law_pool : PySem.W.keepIn K (.ref f__law_pool) = true)
    (a__law_draw : PySem.W.nsIn K mainGlobals "_law_draw" = some (some (.ref f__law_draw)))
    (l__law_draw : K.lookup f__law_draw = some ⟨oc__law_draw, od__law_draw, .func (PySem.W.fnOf "_law_draw" "_law_draw" (defArgs s__law_draw) (defBody s__law_draw) (defScope s__law_draw) .none kV__law_draw dc__law_draw pm__law_draw an__law_draw cd__law_draw ct__law_draw), sl__law_draw⟩)
    (c__law_draw : PySem.W.codeIn K cd__law_draw "_law_draw" = true)
    (k__law_draw : PySem.W.keepIn K (.ref f__law_draw) = true)
    (a__law_int : PySem.W.nsIn K mainGlobals "_law_int" = some (some (.ref f__law_int)))
    (l__law_int : K.lookup f__law_int = some ⟨oc__law_int, od__law_int, .func (PySem.W.fnOf "_law_int" "_law_int" (defArgs s__law_int) (defBody s__law_int) (defScope s__law_int) .none kV__law_int dc__law_int pm__law_int an__law_int cd__law_int ct__law_int), sl__law_int⟩)
    (c__law_int : PySem.W.codeIn K cd__law_int "_law_int" = true)
    (k__law_int : PySem.W.keepIn K (.ref f__law_int) = true)
    (a__law_same : PySem.W.nsIn K mainGlobals "_law_same" = some (some (.ref f__law_same)))
    (l__law_same : K.lookup f__law_same = some ⟨oc__law_same, od__law_same, .func (PySem.W.fnOf "_law_same" "_law_same" (defArgs s__law_same) (defBody s__law_same) (defScope s__law_same) .none kV__law_same dc__law_same pm__law_same an__law_same cd__law_same ct__law_same), sl__law_same⟩)
    (c__law_same : PySem.W.codeIn K cd__law_same "_law_same" = true)
    (k__law_same : PySem.W.keepIn K (.ref f__law_same) = true)
    (a__law_cell_text : PySem.W.nsIn K mainGlobals "_law_cell_text" = some (some (.ref f__law_cell_text)))
    (l__law_cell_text : K.lookup f__law_cell_text = some ⟨oc__law_cell_text, od__law_cell_text, .func (PySem.W.fnOf "_law_cell_text" "_law_cell_text" (defArgs s__law_cell_text) (defBody s__law_cell_text) (defScope s__law_cell_text) .none kV__law_cell_text dc__law_cell_text pm__law_cell_text an__law_cell_text cd__law_cell_text ct__law_cell_text), sl__law_cell_text⟩)
    (c__law_cell_text : PySem.W.codeIn K cd__law_cell_text "_law_cell_text" = true)
    (k__law_cell_text : PySem.W.keepIn K (.ref f__law_cell_text) = true)
    (a__law_padded : PySem.W.nsIn K mainGlobals "_law_padded" = some (some (.ref f__law_padded)))
    (l__law_padded : K.lookup f__law_padded = some ⟨oc__law_padded, od__law_padded, .func (PySem.W.fnOf "_law_padded" "_law_padded" (defArgs s__law_padded) (defBody s__law_padded) (defScope s__law_padded) .none kV__law_padded dc__law_padded pm__law_padded an__law_padded cd__law_padded ct__law_padded), sl__law_padded⟩)
    (c__law_padded : PySem.W.codeIn K cd__law_padded "_law_padded" = true)
    (k__law_padded : PySem.W.keepIn K (.ref f__law_padded) = true)
    (a__law_line_of : PySem.W.nsIn K mainGlobals "_law_line_of" = some (some (.ref f__law_line_of)))
    (l__law_line_of : K.lookup f__law_line_of = some ⟨oc__law_line_of, od__law_line_of, .func (PySem.W.fnOf "_law_line_of" "_law_line_of" (defArgs s__law_line_of) (defBody s__law_line_of) (defScope s__law_line_of) .none kV__law_line_of dc__law_line_of pm__law_line_of an__law_line_of cd__law_line_of ct__law_line_of), sl__law_line_of⟩)
    (c__law_line_of : PySem.W.codeIn K cd__law_line_of "_law_line_of" = true)
    (k__law_line_of : PySem.W.keepIn K (.ref f__law_line_of) = true)
    (a__law_due : PySem.W.nsIn K mainGlobals "_law_due" = some (some (.ref f__law_due)))
    (l__law_due : K.lookup f__law_due = some ⟨oc__law_due, od__law_due, .func (PySem.W.fnOf "_law_due" "_law_due" (defArgs s__law_due) (defBody s__law_due) (defScope s__law_due) .none kV__law_due dc__law_due pm__law_due an__law_due cd__law_due ct__law_due), sl__law_due⟩)
    (c__law_due : PySem.W.codeIn K cd__law_due "_law_due" = true)
    (k__law_due : PySem.W.keepIn K (.ref f__law_due) = true)
    (a__law_print : PySem.W.nsIn K mainGlobals "_law_print" = some (some (.ref f__law_print)))
    (l__law_print : K.lookup f__law_print = some ⟨oc__law_print, od__law_print, .func (PySem.W.fnOf "_law_print" "_law_print" (defArgs s__law_print) (defBody s__law_print) (defScope s__law_print) .none kV__law_print dc__law_print pm__law_print an__law_print cd__law_print ct__law_print), sl__law_print⟩)
    (c__law_print : PySem.W.codeIn K cd__law_print "_law_print" = true)
    (k__law_print : PySem.W.keepIn K (.ref f__law_print) = true)
    (a__law_refusal : PySem.W.nsIn K mainGlobals "_law_refusal" = some (some (.ref f__law_refusal)))
    (l__law_refusal : K.lookup f__law_refusal = some ⟨oc__law_refusal, od__law_refusal, .func (PySem.W.fnOf "_law_refusal" "_law_refusal" (defArgs s__law_refusal) (defBody s__law_refusal) (defScope s__law_refusal) .none kV__law_refusal dc__law_refusal pm__law_refusal an__law_refusal cd__law_refusal ct__law_refusal), sl__law_refusal⟩)
    (c__law_refusal : PySem.W.codeIn K cd__law_refusal "_law_refusal" = true)
    (k__law_refusal : PySem.W.keepIn K (.ref f__law_refusal) = true)
    (a__law_bent_rows : PySem.W.nsIn K mainGlobals "_law_bent_rows" = some (some (.ref f__law_bent_rows)))
    (l__law_bent_rows : K.lookup f__law_bent_rows = some ⟨oc__law_bent_rows, od__law_bent_rows, .func (PySem.W.fnOf "_law_bent_rows" "_law_bent_rows" (defArgs s__law_bent_rows) (defBody s__law_bent_rows) (defScope s__law_bent_rows) .none kV__law_bent_rows dc__law_bent_rows pm__law_bent_rows an__law_bent_rows cd__law_bent_rows ct__law_bent_rows), sl__law_bent_rows⟩)
    (c__law_bent_rows : PySem.W.codeIn K cd__law_bent_rows "_law_bent_rows" = true)
    (k__law_bent_rows : PySem.W.keepIn K (.ref f__law_bent_rows) = true)
    (a__law_stays : PySem.W.nsIn K mainGlobals "_law_stays" = some (some (.ref f__law_stays)))
    (l__law_stays : K.lookup f__law_stays = some ⟨oc__law_stays, od__law_stays, .func (PySem.W.fnOf "_law_stays" "_law_stays" (defArgs s__law_stays) (defBody s__law_stays) (defScope s__law_stays) .none kV__law_stays dc__law_stays pm__law_stays an__law_stays cd__law_stays ct__law_stays), sl__law_stays⟩)
    (c__law_stays : PySem.W.codeIn K cd__law_stays "_law_stays" = true)
    (k__law_stays : PySem.W.keepIn K (.ref f__law_stays) = true)
    (a_law : PySem.W.nsIn K mainGlobals "law" = some (some (.ref f_law)))
    (l_law : K.lookup f_law = some ⟨oc_law, od_law, .func (PySem.W.fnOf "law" "law" (defArgs s_law) (defBody s_law) (defScope s_law) .none kV_law dc_law pm_law an_law cd_law ct_law), sl_law⟩)
    (c_law : PySem.W.codeIn K cd_law "law" = true)
    (k_law : PySem.W.keepIn K (.ref f_law) = true) :
    ∃ fd : FuncData, (∀ (s : Shared) (v : Value), BindsTo s fd ⟨[v], []⟩ [("script", v)]) ∧ ∀ base : Heap, K.In base → base.Ns mainGlobals mg → FnOk l.prog w K mg base (L2.CX l.prog w) 8 fa fd ["script"] (spLaw K) := by
  have e := hfa.symm.trans (PySem.W.mg_of X G a_law)
  cases e
  have B : Blt mg := Blt.of X G z_len z_abs z_max z_min z_sum z_sorted z_isinstance z_iter z_ord z_any z_all z_int z_bool z_str z_list z_tuple z_dict z_set z_range z_enumerate z_zip z_reversed z_super z_ValueError
  have xb_NightsError := ExcB.of X G e0_NightsError e1_NightsError e2_NightsError e3_NightsError e4_NightsError e5_NightsError e6_NightsError e7_NightsError e8_NightsError q_get q_takes e9_NightsError
  have xb_BadNumber := ExcB.of X G e0_BadNumber e1_BadNumber e2_BadNumber e3_BadNumber e4_BadNumber e5_BadNumber e6_BadNumber e7_BadNumber e8_BadNumber q_get q_takes e9_BadNumber
  have xb_WrongLength := ExcB.of X G e0_WrongLength e1_WrongLength e2_WrongLength e3_WrongLength e4_WrongLength e5_WrongLength e6_WrongLength e7_WrongLength e8_WrongLength q_get q_takes e9_WrongLength
  have x_WrongLength : ErrC K mg "WrongLength" cWL iWL (["found", "wanted"] : List Str) := ErrTxt.of si_WrongLength xb_WrongLength g1_WrongLength g2_WrongLength g3_WrongLength (fun f hf => by simp only [List.mem_cons, List.not_mem_nil, or_false] at hf; rcases hf with rfl | rfl <;> assumption) g4_WrongLength g5_WrongLength g6_WrongLength g7_WrongLength g8_WrongLength q_tp z_super g9_WrongLength h1_WrongLength h2_WrongLength h3_WrongLength h4_WrongLength h5_WrongLength
  have F_table_lines := fun_mk (st := s_table_lines) l_table_lines c_table_lines k_table_lines
  have b_table_lines := F_table_lines.binds (ps := (["headings", "rows", "sides"] : List Str)) fun _ _ _ _ _ _ us hl => match us, hl with | [_, _, _], _ => rfl
  have m_table_lines := PySem.W.mg_of X G a_table_lines
  have F_table_line := fun_mk (st := s_table_line) l_table_line c_table_line k_table_line
  have b_table_line := F_table_line.binds (ps := (["cells", "widths", "sides"] : List Str)) fun _ _ _ _ _ _ us hl => match us, hl with | [_, _, _], _ => rfl
  have m_table_line := PySem.W.mg_of X G a_table_line
  have F_padded := fun_mk (st := s_padded) l_padded c_padded k_padded
  have b_padded := F_padded.binds (ps := (["cell", "width", "side"] : List Str)) fun _ _ _ _ _ _ us hl => match us, hl with | [_, _, _], _ => rfl
  have m_padded := PySem.W.mg_of X G a_padded
  have F_joined_columns := fun_mk (st := s_joined_columns) l_joined_columns c_joined_columns k_joined_columns
  have b_joined_columns := F_joined_columns.binds (ps := (["cells"] : List Str)) fun _ _ _ _ _ _ us hl => match us, hl with | [_], _ => rfl
  have m_joined_columns := PySem.W.mg_of X G a_joined_columns
  have F__law_pool := fun_mk (st := s__law_pool) l__law_pool c__law_pool k__law_pool
  have b__law_pool := F__law_pool.binds (ps := (["script", "at"] : List Str)) fun _ _ _ _ _ _ us hl => match us, hl with | [_, _], _ => rfl
  have m__law_pool := PySem.W.mg_of X G a__law_pool
  have F__law_draw := fun_mk (st := s__law_draw) l__law_draw c__law_draw k__law_draw
  have b__law_draw := F__law_draw.binds (ps := (["pool", "many"] : List Str)) fun _ _ _ _ _ _ us hl => match us, hl with | [_, _], _ => rfl
  have m__law_draw := PySem.W.mg_of X G a__law_draw
  have F__law_int := fun_mk (st := s__law_int) l__law_int c__law_int k__law_int
  have b__law_int := F__law_int.binds (ps := (["x"] : List Str)) fun _ _ _ _ _ _ us hl => match us, hl with | [_], _ => rfl
  have m__law_int := PySem.W.mg_of X G a__law_int
  have F__law_same := fun_mk (st := s__law_same) l__law_same c__law_same k__law_same
  have b__law_same := F__law_same.binds (ps := (["got", "due"] : List Str)) fun _ _ _ _ _ _ us hl => match us, hl with | [_, _], _ => rfl
  have m__law_same := PySem.W.mg_of X G a__law_same
  have F__law_cell_text := fun_mk (st := s__law_cell_text) l__law_cell_text c__law_cell_text k__law_cell_text
  have b__law_cell_text := F__law_cell_text.binds (ps := (["pool"] : List Str)) fun _ _ _ _ _ _ us hl => match us, hl with | [_], _ => rfl
  have m__law_cell_text := PySem.W.mg_of X G a__law_cell_text
  have F__law_padded := fun_mk (st := s__law_padded) l__law_padded c__law_padded k__law_padded
  have b__law_padded := F__law_padded.binds (ps := (["text", "width", "side"] : List Str)) fun _ _ _ _ _ _ us hl => match us, hl with | [_, _, _], _ => rfl
  have m__law_padded := PySem.W.mg_of X G a__law_padded
  have F__law_line_of := fun_mk (st := s__law_line_of) l__law_line_of c__law_line_of k__law_line_of
  have b__law_line_of := F__law_line_of.binds (ps := (["cells", "widths", "sides"] : List Str)) fun _ _ _ _ _ _ us hl => match us, hl with | [_, _, _], _ => rfl
  have m__law_line_of := PySem.W.mg_of X G a__law_line_of
  have F__law_due := fun_mk (st := s__law_due) l__law_due c__law_due k__law_due
  have b__law_due := F__law_due.binds (ps := (["headings", "rows", "sides"] : List Str)) fun _ _ _ _ _ _ us hl => match us, hl with | [_, _, _], _ => rfl
  have m__law_due := PySem.W.mg_of X G a__law_due
  have F__law_print := fun_mk (st := s__law_print) l__law_print c__law_print k__law_print
  have b__law_print := F__law_print.binds (ps := (["headings", "rows", "sides"] : List Str)) fun _ _ _ _ _ _ us hl => match us, hl with | [_, _, _], _ => rfl
  have m__law_print := PySem.W.mg_of X G a__law_print
  have F__law_refusal := fun_mk (st := s__law_refusal) l__law_refusal c__law_refusal k__law_refusal
  have b__law_refusal := F__law_refusal.binds (ps := (["headings", "rows", "sides"] : List Str)) fun _ _ _ _ _ _ us hl => match us, hl with | [_, _, _], _ => rfl
  have m__law_refusal := PySem.W.mg_of X G a__law_refusal
  have F__law_bent_rows := fun_mk (st := s__law_bent_rows) l__law_bent_rows c__law_bent_rows k__law_bent_rows
  have b__law_bent_rows := F__law_bent_rows.binds (ps := (["pool", "rows"] : List Str)) fun _ _ _ _ _ _ us hl => match us, hl with | [_, _], _ => rfl
  have m__law_bent_rows := PySem.W.mg_of X G a__law_bent_rows
  have F__law_stays := fun_mk (st := s__law_stays) l__law_stays c__law_stays k__law_stays
  have b__law_stays := F__law_stays.binds (ps := (["headings", "rows", "sides", "due"] : List Str)) fun _ _ _ _ _ _ us hl => match us, hl with | [_, _, _, _], _ => rfl
  have m__law_stays := PySem.W.mg_of X G a__law_stays
  have F_law := fun_mk (st := s_law) l_law c_law k_law
  have b_law := F_law.binds (ps := (["script"] : List Str)) fun _ _ _ _ _ _ us hl => match us, hl with | [_], _ => rfl
  have m_law := PySem.W.mg_of X G a_law
  have T : Tx K mg cNE cBN cWL iWL := ⟨x_WrongLength, xb_NightsError, xb_BadNumber, s1, s2⟩
  refine ⟨PySem.W.fnOf "law" "law" (defArgs s_law) (defBody s_law) (defScope s_law) .none kV_law dc_law pm_law an_law cd_law ct_law, fun s v => .of_eq rfl, fun base _ _ => ?_⟩
  have C_padded : FnAt l.prog w K mg base 1 "padded" (["cell", "width", "side"] : List Str) (spPad) := .of F_padded m_padded (ok_padded F_padded B) b_padded
  have C_joined_columns : FnAt l.prog w K mg base 1 "joined_columns" (["cells"] : List Str) (spJoin K) := .of F_joined_columns m_joined_columns (ok_joined_columns F_joined_columns B) b_joined_columns
  have C_table_line : FnAt l.prog w K mg base 2 "table_line" (["cells", "widths", "sides"] : List Str) (spLine K) := .of F_table_line m_table_line (ok_table_line F_table_line B C_joined_columns C_padded) b_table_line
  have C_table_lines : FnAt l.prog w K mg base 3 "table_lines" (["headings", "rows", "sides"] : List Str) (spTable K cWL) := .of F_table_lines m_table_lines (ok_table_lines F_table_lines B T hfile htop C_joined_columns C_table_line) b_table_lines
  have C__law_pool : FnAt l.prog w K mg base 1 "_law_pool" (["script", "at"] : List Str) (spPool K) := .of F__law_pool m__law_pool (ok__law_pool F__law_pool B) b__law_pool
  have C__law_draw : FnAt l.prog w K mg base 1 "_law_draw" (["pool", "many"] : List Str) (spDraw) := .of F__law_draw m__law_draw (ok__law_draw F__law_draw B) b__law_draw
  have C__law_int : FnAt l.prog w K mg base 1 "_law_int" (["x"] : List Str) (spInt K) := .of F__law_int m__law_int (ok__law_int F__law_int B) b__law_int
  have S0 : FnAt l.prog w K mg base (0 + 2) "_law_same" ["got", "due"] (spSame K 0) := .no F__law_same m__law_same b__law_same
  have S1 : FnAt l.prog w K mg base (0 + 3) "_law_same" (["got", "due"] : List Str) (spSame K (0 + 1)) := .of F__law_same m__law_same (ok__law_same F__law_same B C__law_int S0) b__law_same
  have S2 : FnAt l.prog w K mg base (1 + 3) "_law_same" (["got", "due"] : List Str) (spSame K (1 + 1)) := .of F__law_same m__law_same (ok__law_same F__law_same B C__law_int S1) b__law_same
  have S3 : FnAt l.prog w K mg base (2 + 3) "_law_same" (["got", "due"] : List Str) (spSame K (2 + 1)) := .of F__law_same m__law_same (ok__law_same F__law_same B C__law_int S2) b__law_same
  have C__law_same : FnAt l.prog w K mg base (3 + 3) "_law_same" (["got", "due"] : List Str) (spSame K (3 + 1)) := .of F__law_same m__law_same (ok__law_same F__law_same B C__law_int S3) b__law_same
  have C__law_cell_text : FnAt l.prog w K mg base 2 "_law_cell_text" (["pool"] : List Str) (spCell) := .of F__law_cell_text m__law_cell_text (ok__law_cell_text F__law_cell_text B C__law_draw) b__law_cell_text
  have C__law_padded : FnAt l.prog w K mg base 1 "_law_padded" (["text", "width", "side"] : List Str) (spPad) := .of F__law_padded m__law_padded (ok__law_padded F__law_padded B) b__law_padded
  have C__law_line_of : FnAt l.prog w K mg base 2 "_law_line_of" (["cells", "widths", "sides"] : List Str) (spLine K) := .of F__law_line_of m__law_line_of (ok__law_line_of F__law_line_of B C__law_padded) b__law_line_of
  have C__law_due : FnAt l.prog w K mg base 3 "_law_due" (["headings", "rows", "sides"] : List Str) (spDue K) := .of F__law_due m__law_due (ok__law_due F__law_due B C__law_line_of) b__law_due
  have C__law_print : FnAt l.prog w K mg base 4 "_law_print" (["headings", "rows", "sides"] : List Str) (spPrint K) := .of F__law_print m__law_print (ok__law_print F__law_print B T C_table_lines) b__law_print
  have C__law_refusal : FnAt l.prog w K mg base 4 "_law_refusal" (["headings", "rows", "sides"] : List Str) (spRefusal K) := .of F__law_refusal m__law_refusal (ok__law_refusal F__law_refusal B C__law_due) b__law_refusal
  have C__law_bent_rows : FnAt l.prog w K mg base 3 "_law_bent_rows" (["pool", "rows"] : List Str) (spBent K) := .of F__law_bent_rows m__law_bent_rows (ok__law_bent_rows F__law_bent_rows B C__law_draw C__law_cell_text) b__law_bent_rows
  have C__law_stays : FnAt l.prog w K mg base 7 "_law_stays" (["headings", "rows", "sides", "due"] : List Str) (spStays K) := .of F__law_stays m__law_stays (ok__law_stays F__law_stays B C__law_same C__law_print) b__law_stays
  exact ok_law F_law B C__law_pool C__law_draw C__law_cell_text C__law_bent_rows C__law_stays C__law_refusal C__law_due C__law_same C__law_print
theorem walk {l : PySem.W.OpenLaw} {q : Program} {loose : List Str} {XP : (Str → Option Value) → Heap → Prop} {YP : World → Heap → Prop} {d : DefRec} {K : Params → PySem.W.Frag} (hn : l.most = some 63) (hdf : d.params.defaults = [])
    (hY : ∀ (w : World) (h : Heap), YP w h → (K w.params).In h)
    (F : ∀ (w : World) (mg : Str → Option Value) (fa : Addr) (h : Heap), (K w.params).In h → h.Ns mainGlobals mg → mg d.name = some (.ref fa) →
      ∃ fd : FuncData, (∀ (s : Shared) (u : Value), BindsTo s fd ⟨[u], []⟩ [("script", u)]) ∧ ∀ base : Heap, (K w.params).In base → base.Ns mainGlobals mg → FnOk l.prog w (K w.params) mg base (L2.CX l.prog w) 8 fa fd ["script"] (spLaw (K w.params))) :
    PySem.W.WalkO q loose XP YP l.row.toRowW d [] (fun f vs => PySem.call f vs) :=
  L2.walk_of (n := 63) (k := 8) (x := "script") (CX := fun w => L2.CX l.prog w) (sp := fun w => spLaw (K w.params)) hn (by decide) hdf ⟨rfl, by decide, by decide⟩ hY F (fun _ _ a ns hl _ hS => ⟨a, ns, rfl, hS, fun _ => rfl⟩) fun _ _ _ _ _ ⟨_, _, _, _, _, _, _, _, _, _, _, _, z⟩ => z
end Nk
open PySem PySem.W PyProof.Rows
set_option maxRecDepth 100000 in
set_option maxHeartbeats 0 in
theorem PySem.Challenge.cw_nightsoff_k78_tables_holds : PySem.Challenge.rw_nightsoff_k78_tables.Holds := by
  w_on; o_law; k_head; (case hw => w_witness2)
  k_fill
  refine Nk.walk (l := PySem.Challenge.rw_nightsoff_k78_tables) rfl rfl (fun w h Y => PySem.W.kIn_of Y) ?F
  case F =>
    intro w mg fa h KX G hmg
    refine' Nk.all_mk (by decide +kernel) (by decide +kernel) KX G hmg ?z_len ?z_abs ?z_max ?z_min ?z_sum ?z_sorted ?z_isinstance ?z_iter ?z_ord ?z_any ?z_all ?z_int ?z_bool ?z_str ?z_list ?z_tuple ?z_dict ?z_set ?z_range ?z_enumerate ?z_zip ?z_reversed ?z_super ?z_ValueError ?q_get ?q_takes ?q_tp ?e0_NightsError ?e1_NightsError ?e2_NightsError ?e3_NightsError ?e4_NightsError ?e5_NightsError ?e6_NightsError ?e7_NightsError ?e8_NightsError ?e9_NightsError ?e0_BadNumber ?e1_BadNumber ?e2_BadNumber ?e3_BadNumber ?e4_BadNumber ?e5_BadNumber ?e6_BadNumber ?e7_BadNumber ?e8_BadNumber ?e9_BadNumber ?e0_WrongLength ?e1_WrongLength ?e2_WrongLength ?e3_WrongLength ?e4_WrongLength ?e5_WrongLength ?e6_WrongLength ?e7_WrongLength ?e8_WrongLength ?e9_WrongLength ?g1_WrongLength ?g2_WrongLength ?g3_WrongLength ?n0_WrongLength ?n1_WrongLength ?g4_WrongLength ?g5_WrongLength ?g6_WrongLength ?g7_WrongLength ?g8_WrongLength ?g9_WrongLength ?h1_WrongLength ?h2_WrongLength ?h3_WrongLength ?h4_WrongLength ?h5_WrongLength ?s1 ?s2 ?a_table_lines ?l_table_lines ?c_table_lines ?k_table_lines ?a_table_line ?l_table_line ?c_table_line ?k_table_line ?a_padded ?l_padded ?c_padded ?k_padded ?a_joined_columns ?l_joined_columns ?c_joined_columns ?k_joined_columns ?a__law_pool ?l__law_pool ?c__law_pool ?k__law_pool ?a__law_draw ?l__law_draw ?c__law_draw ?k__law_draw ?a__law_int ?l__law_int ?c__law_int ?k__law_int ?a__law_same ?l__law_same ?c__law_same ?k__law_same ?a__law_cell_text ?l__law_cell_text ?c__law_cell_text ?k__law_cell_text ?a__law_padded ?l__law_padded ?c__law_padded ?k__law_padded ?a__law_line_of ?l__law_line_of ?c__law_line_of ?k__law_line_of ?a__law_due ?l__law_due ?c__law_due ?k__law_due ?a__law_print ?l__law_print ?c__law_print ?k__law_print ?a__law_refusal ?l__law_refusal ?c__law_refusal ?k__law_refusal ?a__law_bent_rows ?l__law_bent_rows ?c__law_bent_rows ?k__law_bent_rows ?a__law_stays ?l__law_stays ?c__law_stays ?k__law_stays ?a_law ?l_law ?c_law ?k_law
    (case z_len => k_is)
    (case z_abs => k_is)
    (case z_max => k_is)
    (case z_min => k_is)
    (case z_sum => k_is)
    (case z_sorted => k_is)
    (case z_isinstance => k_is)
    (case z_iter => k_is)
    (case z_ord => k_is)
    (case z_any => k_is)
    (case z_all => k_is)
    (case z_int => k_is)
    (case z_bool => k_is)
    (case z_str => k_is)
    (case z_list => k_is)
    (case z_tuple => k_is)
    (case z_dict => k_is)
    (case z_set => k_is)
    (case z_range => k_is)
    (case z_enumerate => k_is)
    (case z_zip => k_is)
    (case z_reversed => k_is)
    (case z_super => k_is)
    (case z_ValueError => k_is)
    (case q_get => k_is)
    (case q_takes => k_is)
    (case q_tp => k_is)
    (case e0_NightsError => k_is)
    (case e1_NightsError => k_is)
    (case e2_NightsError => k_is)
    (case e3_NightsError => k_is)
    (case e4_NightsError => k_is)
    (case e5_NightsError => k_is)
    (case e6_NightsError => k_is)
    (case e7_NightsError => k_is)
    (case e8_NightsError => k_is)
    (case e9_NightsError => k_is)
    (case e0_BadNumber => k_is)
    (case e1_BadNumber => k_is)
    (case e2_BadNumber => k_is)
    (case e3_BadNumber => k_is)
    (case e4_BadNumber => k_is)
    (case e5_BadNumber => k_is)
    (case e6_BadNumber => k_is)
    (case e7_BadNumber => k_is)
    (case e8_BadNumber => k_is)
    (case e9_BadNumber => k_is)
    (case e0_WrongLength => k_is)
    (case e1_WrongLength => k_is)
    (case e2_WrongLength => k_is)
    (case e3_WrongLength => k_is)
    (case e4_WrongLength => k_is)
    (case e5_WrongLength => k_is)
    (case e6_WrongLength => k_is)
    (case e7_WrongLength => k_is)
    (case e8_WrongLength => k_is)
    (case e9_WrongLength => k_is)
    (case g1_WrongLength => k_is)
    (case g2_WrongLength => exact rfl)
    (case g3_WrongLength => k_is)
    (case n0_WrongLength => k_is)
    (case n1_WrongLength => k_is)
    (case g4_WrongLength => k_is)
    (case g5_WrongLength => k_is)
    (case g6_WrongLength => k_is)
    (case g7_WrongLength => kernel_rfl)
    (case g8_WrongLength => k_is)
    (case g9_WrongLength => k_is)
    (case h1_WrongLength => k_is)
    (case h2_WrongLength => k_is)
    (case h3_WrongLength => exact rfl)
    (case h4_WrongLength => exact rfl)
    (case h5_WrongLength => k_is)
    (case s1 => k_is)
    (case s2 => k_is)
    (case a_table_lines => k_is)
    (case l_table_lines => k_is)
    (case c_table_lines => k_is)
    (case k_table_lines => k_is)
    (case a_table_line => k_is)
    (case l_table_line => k_is)
    (case c_table_line => k_is)
    (case k_table_line => k_is)
    (case a_padded => k_is)
    (case l_padded => k_is)
    (case c_padded => k_is)
    (case k_padded => k_is)
    (case a_joined_columns => k_is)
    (case l_joined_columns => k_is)
    (case c_joined_columns => k_is)
    (case k_joined_columns => k_is)
    (case a__law_pool => k_is)
    (case l__law_pool => k_is)
    (case c__law_pool => k_is)
    (case k__law_pool => k_is)
    (case a__law_draw => k_is)
    (case l__law_draw => k_is)
    (case c__law_draw => k_is)
    (case k__law_draw => k_is)
    (case a__law_int => k_is)
    (case l__law_int => k_is)
    (case c__law_int => k_is)
    (case k__law_int => k_is)
    (case a__law_same => k_is)
    (case l__law_same => k_is)
    (case c__law_same => k_is)
    (case k__law_same => k_is)
    (case a__law_cell_text => k_is)
    (case l__law_cell_text => k_is)
    (case c__law_cell_text => k_is)
    (case k__law_cell_text => k_is)
    (case a__law_padded => k_is)
    (case l__law_padded => k_is)
    (case c__law_padded => k_is)
    (case k__law_padded => k_is)
    (case a__law_line_of => k_is)
    (case l__law_line_of => k_is)
    (case c__law_line_of => k_is)
    (case k__law_line_of => k_is)
    (case a__law_due => k_is)
    (case l__law_due => k_is)
    (case c__law_due => k_is)
    (case k__law_due => k_is)
    (case a__law_print => k_is)
    (case l__law_print => k_is)
    (case c__law_print => k_is)
    (case k__law_print => k_is)
    (case a__law_refusal => k_is)
    (case l__law_refusal => k_is)
    (case c__law_refusal => k_is)
    (case k__law_refusal => k_is)
    (case a__law_bent_rows => k_is)
    (case l__law_bent_rows => k_is)
    (case c__law_bent_rows => k_is)
    (case k__law_bent_rows => k_is)
    (case a__law_stays => k_is)
    (case l__law_stays => k_is)
    (case c__law_stays => k_is)
    (case k__law_stays => k_is)
    (case a_law => k_is)
    (case l_law => k_is)
    (case c_law => k_is)
    (case k_law => k_is)
