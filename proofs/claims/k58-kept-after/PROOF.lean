import PyProof.Rows.All
import Wide.All
import OpenK.AllK
import Wide.FinOn
import HandS.ForMost
import KE.KSuper
import KE.KExcSuper
import HandS.ForExc
import HandS.ExcInit
import HandS.ExcIs
import HandS.ExcField
import HandS.TryMany
import HandS.IsInst
import HandS.Wide
import HandS.TupAny
import KE.KEqSeq
import KE.KEqDeep
import HandS.Iter
import KE.GoesMore
import KE.GoesZip
import KE.GoesEnum
import HandS.StrMore
import HandS.Text
import HandS.Property
import HandS.OwnEq
import HandS.IterVal
import KE.KOwnIter
import PyProof.EnumMake
import HandS.MakeKwOnly
import HandS.ClsMeth
import OpenK.KOps
import PyProof.Rows.SumAny
import HandS.Conv
import PySem.Challenge.RW_nightsoff_k58_kept_after_whole_many_week
import HandS.Deep
set_option Elab.async false
set_option linter.all false
set_option maxRecDepth 100000
set_option maxHeartbeats 4000000
/-! x is True, x is False, x is not True .. of any x -/
namespace L2
open PySem PySem.Spec PyProof.Rows
section
variable {X : Cx}
theorem nk_isB {M : Model} {A : Around} {E : Value → Shared → Prop} {s : Shared} {x : V} {v : Value} {b : Bool} {Q : Value → Shared → Prop} (r : RelV x v) (h : Q (.bool (decide (x = .bl b))) s) : wpAny M A (compareOp .Is v (.bool b)) Q E s := by
  cases x with
  | non => cases r; exact wpAny_pure h
  | bl c =>
    cases r
    have e : (Value.bool c == Value.bool b) = decide (V.bl c = V.bl b) := by cases c <;> cases b <;> rfl
    rw [← e] at h
    exact wpAny_pure h
  | int _ => obtain ⟨t, rfl⟩ := r; exact wpAny_pure h
  | str _ => obtain ⟨t, rfl⟩ := r; exact wpAny_pure h
  | byt _ => obtain ⟨t, rfl⟩ := r; exact wpAny_pure h
  | flt _ => obtain ⟨t, rfl⟩ := r; exact wpAny_pure h
  | ref _ => cases r; exact wpAny_pure h
  | ty _ => cases r; exact wpAny_pure h
theorem nk_isnotB {M : Model} {A : Around} {E : Value → Shared → Prop} {s : Shared} {x : V} {v : Value} {b : Bool} {Q : Value → Shared → Prop} (r : RelV x v) (h : Q (.bool (!decide (x = .bl b))) s) : wpAny M A (compareOp .IsNot v (.bool b)) Q E s := by
  cases x with
  | non => cases r; exact wpAny_pure h
  | bl c =>
    cases r
    have e : (Value.bool c == Value.bool b) = decide (V.bl c = V.bl b) := by cases c <;> cases b <;> rfl
    rw [← e] at h
    exact wpAny_pure h
  | int _ => obtain ⟨t, rfl⟩ := r; exact wpAny_pure h
  | str _ => obtain ⟨t, rfl⟩ := r; exact wpAny_pure h
  | byt _ => obtain ⟨t, rfl⟩ := r; exact wpAny_pure h
  | flt _ => obtain ⟨t, rfl⟩ := r; exact wpAny_pure h
  | ref _ => cases r; exact wpAny_pure h
  | ty _ => cases r; exact wpAny_pure h
def rIsBl : R2 := fun x y H Q => ∃ b, y = .bl b ∧ Q (.bl (decide (x = .bl b))) H
def rNotBl : R2 := fun x y H Q => ∃ b, y = .bl b ∧ Q (.bl (!decide (x = .bl b))) H
theorem op_isB : OpR X (compareOp .Is) rIsBl := by
  intro pins s σ H x y v u Q I rx ry h
  obtain ⟨b, rfl, q⟩ := h
  cases ry
  exact nk_isB rx (fin_bl I q rfl)
theorem op_isnotB : OpR X (compareOp .IsNot) rNotBl := by
  intro pins s σ H x y v u Q I rx ry h
  obtain ⟨b, rfl, q⟩ := h
  cases ry
  exact nk_isnotB rx (fin_bl I q rfl)
end
end L2
/-! An own error class over ValueError (through own classes) whose __init__ says super().__init__(a text), then stores each of its arguments as a field of that name: made by a call. -/
namespace PySem
namespace NKE
open PySem.W PySem.Calls PyProof.Rows PySem.HandSPX PySem.OEX
/-- self.f = f -/
def IsFld (f : Str) (st : Stmt) : Prop := ∃ p q r z, st = .Assign [.Attribute (.Name "self" p) f q] (.Name f r) z
inductive IsFlds : List Str → List Stmt → Prop
  | nil : IsFlds [] []
  | cons {f : Str} {st : Stmt} {fs : List Str} {sts : List Stmt} : IsFld f st → IsFlds fs sts → IsFlds (f :: fs) (st :: sts)
/-- super().__init__(txt) -/
def IsSup (st : Stmt) : Prop := ∃ (p0 p1 p2 p3 p4 p5 : Pos) (j : Nat) (txt : Str), (p2.endLine == p4.line) = true ∧ st = .Expr (.Call (.Attribute (.Call (.Name "super" p0) [] [] p1) "__init__" p2) [.Constant (.str txt) j p3] [] p4) p5
/-- what the written part says of the class at C, and of its __init__, at fI -/
structure ErrTxt (K : Frag) (C fI : Addr) (fs : List Str) : Prop where
  cls : ∃ nm q N bs bm sn sub ab col dd k0 k1 k2 k3 k5, K.lookup C = some (excClassObj nm q C N bs bm true sn sub ab col dd k0 k1 k2 k3 k5 "ValueError.__new__") ∧ refsVE bm = true
  sa : findIn K (.ref C) "__setattr__" = some (some (.builtin "object.__setattr__"))
  noN : ∀ f ∈ fs, findIn K (.ref C) f = some none
  iC : findIn K (.ref C) "__init__" = some (some (.ref fI))
  tC : typeIn K (.ref fI) = some (.type "function")
  kC : keepIn K (.ref C) = true
  exC : subIn K (.ref C) (.type "BaseException") = some true
  veC : subIn K (.ref C) (.type "ValueError") = some true
  tyC : typeIn K (.ref C) = some (.type "type")
  sup : ks_superIn K C C "__init__" = some (some (.builtin "ValueError.__init__"))
  selfC : mroIn K C (.ref C) = some true
  tp : nsIn K cStatics "thirdparty.any" = some none
  nosup : nsIn K mainGlobals "super" = some none
  fn : ∃ (oc : Value) (od : Option Addr) (qual : Str) (params : Arguments) (body : List Stmt) (scope : Scope) (dV kV doc pm : Value) (an : Option Addr) (cda : Addr) (ct : Value) (osl : Array (Option Value)) (cc : Addr) (ar : Arg) (ccl cl : Value) (cdd cld : Option Addr) (vs : Array Value) (file : Str) (tf : Tok) (ccs csl : Array (Option Value)) (st : Stmt) (sts : List Stmt),
    K.lookup fI = some ⟨oc, od, .func (ksFn "__init__" qual params body scope dV kV doc pm an (.ref cda) ct cc), osl⟩ ∧ codeIn K (.ref cda) qual = true ∧
    (params.posonlyargs ++ params.args).head? = some ar ∧ ar.arg = "self" ∧
    K.lookup cda = some ⟨ccl, cdd, .fields vs, ccs⟩ ∧ vs[2]? = some (.str file tf) ∧ ((("/claim/cut.py" : Str)) == file) = true ∧
    K.lookup cc = some ⟨cl, cld, .cell (some (.ref C)), csl⟩ ∧
    body = st :: sts ∧ IsSup st ∧ IsFlds fs sts ∧
    scope.names.lookup ("super" : Str) = some .globalImplicit ∧ scope.names.lookup ("__class__" : Str) = some .free ∧ (∀ f ∈ ("self" : Str) :: fs, scope.names.lookup f = some .local) ∧ scope.kind = .function ∧
    (∀ x ∈ scope.names, x.2 ≠ .cell) ∧ scope.isCoroutine = false ∧ scope.isGenerator = false ∧
    (∀ us : List Value, us.length = fs.length + 1 → bindArgs (ksFn "__init__" qual params body scope dV kV doc pm an (.ref cda) ct cc) ⟨us, []⟩ = pure ((("self" : Str) :: fs).zip us)) ∧
    (("self" : Str) :: fs).Nodup ∧ (∀ f ∈ fs, (f == ("__debug__" : Str)) = false)

section
variable {prog : Program} {w : World} {A : Around} {E : Value → Shared → Prop} {R : Result → Shared → Prop} {s : Shared} {K : Frag} {mg : Str → Option Value} {C fI : Addr} {fs : List Str}
theorem in_but {h h' : Heap} {x : Addr} (X : K.In h) (hx : K.lookup x = none) (k : ∀ b o, b ≠ x → h.get? b = some o → h'.get? b = some o) : K.In h' := fun a o e =>
  k a o (fun z => by rw [z, hx] at e; cases e) (X a o e)
/-- the name self, the name f, in the frame at L -/
theorem ld1 {M : Model} {env : Env} {m : Str → Option Value} {x : Str} {pos : Pos} {v : Value} {Q : Value → Shared → Prop} (hn : s.heap.Ns env.locals m) (hv : m x = some v) (h : Q v s)
    (hk : env.scope.kind = .function) (hl : env.kindOf x = some .local) (hd : (x == ("__debug__" : Str)) = false) :
    wpAny M A (eval (.Name x pos) env) Q E s := wpAny_Name (wpAny_loadName_local hk hl hn hv h) hd
/-- the exception at x as __init__ leaves it -/
def excB (C t1 : Addr) (d : Option Addr) : Obj := { cls := .ref C, dict := d, data := .fields #[.ref t1, .none, .none, .none, .bool false, .none] }
/-- the stores behind the first -/
theorem err_stores {env : Env} {x t1 dx : Addr} {nm q : Str} {N : Addr} {bs bm : List Value} {sn : List Str} {sub : List Value} {ab : Bool} {col : Option Bool}
    (hcl : clsIn K C = some { name := nm, bases := bs, mro := .ref C :: bm, ns := N, qualname := q, hasDict := true, slotNames := sn, subclasses := sub, abstract := ab, collection := col, hasDel := false }) (hbm : refsVE bm = true)
    (sa : findIn K (.ref C) "__setattr__" = some (some (.builtin "object.__setattr__"))) (hxK : K.lookup x = none) (hdK : K.lookup dx = none)
    (hk : env.scope.kind = .function) (hself : env.kindOf "self" = some .local) {m : Str → Option Value} (hms : m "self" = some (.ref x)) (hxl : x ≠ env.locals) (hdl : dx ≠ env.locals) (hdx : dx ≠ x) :
    ∀ {fs : List Str} {sts : List Stmt}, IsFlds fs sts → ∀ {us : List Value} {m0 : Str → Option Value} {nl : List Str} {s : Shared}, us.length = fs.length → (∀ f ∈ fs, env.kindOf f = some .local) → (∀ f ∈ fs, (f == ("__debug__" : Str)) = false) → (∀ f ∈ fs, findIn K (.ref C) f = some none) →
      (∀ (i : Nat) (f : Str) (u : Value), fs[i]? = some f → us[i]? = some u → m f = some u) → K.In s.heap → s.heap.Ns env.locals m → s.heap.get? x = some (excB C t1 (some dx)) → s.heap.Ns1 dx m0 → Within m0 nl → nl.length + fs.length ≤ 900 →
      ∀ {Q : Flow → Shared → Prop}, (∀ h' tk, (∀ b o, b ≠ x → b ≠ dx → s.heap.get? b = some o → h'.get? b = some o) → h'.get? x = some (excB C t1 (some dx)) → h'.Ns1 dx (fun y => (((fs.zip us).reverse.lookup y).or (m0 y))) → Q .next { s with heap := h', toks := tk }) →
      wpAny (model prog w) A (execs sts env) Q E s := by
  intro fs sts hf
  induction hf with
  | nil =>
    intro us m0 nl s hl _ _ _ _ X hn hx hd hw hz Q hq
    refine wpAny_execs_nil ?_
    have := hq s.heap s.toks (fun _ _ _ _ e => e) hx (by simpa using hd)
    exact this
  | @cons f st fs sts h1 hr ih =>
    intro us m0 nl s hl hloc hdb hno hmv X hn hx hd hw hz Q hq
    obtain ⟨p, q', r, z, rfl⟩ := h1
    obtain ⟨u, us, rfl⟩ : ∃ u r, us = u :: r := by
      cases us with
      | nil => simp at hl
      | cons u r => exact ⟨u, r, rfl⟩
    have hl' : us.length = fs.length := by simpa using hl
    have hu : m f = some u := hmv 0 f u rfl rfl
    refine wpAny_execs_cons (plainObj_wpAny_Assign_Attribute ?_)
    refine ld1 (v := u) hn hu (ld1 (v := .ref x) hn hms ?_ hk hself (by decide +kernel)) hk (hloc f (by simp)) (hdb f (by simp))
    obtain ⟨hp, g, dr, tk, os⟩ := s
    obtain ⟨oD, es, ep, hoD, hdD, hrest⟩ := id hd
    refine set_plain X (ox := excB C t1 (some dx)) (od := some oD) ⟨hx, rfl, rfl, hoD⟩ sa ?_
    refine osa_old X hx hd hw (by simp at hz; omega) hcl (show refsVE (.ref C :: bm) = true from hbm) rfl (hno f (by simp)) (fun h' tk' k' hn' => ?_)
    have hd' : h'.Ns env.locals m := by
      obtain ⟨o, es, ep, e, rest⟩ := hn
      exact ⟨o, es, ep, k' _ _ (fun z => hdl z.symm) e, rest⟩
    refine ih (us := us) (m0 := fun y => if y = f then some u else m0 y) (nl := f :: nl) (s := ⟨h', g, dr, tk', os⟩) hl' (fun y hy => hloc y (by simp [hy])) (fun y hy => hdb y (by simp [hy])) (fun y hy => hno y (by simp [hy])) (fun i f' u' h1 h2 => hmv (i + 1) f' u' (by simpa using h1) (by simpa using h2))
      (in_but X hdK fun b o hb e => k' b o hb e) hd' (k' _ _ hdx.symm hx) hn' (Within.cons f u hw) (by simp at hz ⊢; omega) (fun h2 tk2 k2 hx2 hn2 => ?_)
    refine hq h2 tk2 (fun b o hb1 hb2 e => k2 b o hb1 hb2 (k' b o hb2 e)) hx2 ?_
    have e : (fun y => ((((f :: fs).zip (u :: us)).reverse.lookup y).or (m0 y))) = (fun y => (((fs.zip us).reverse.lookup y).or ((fun y => if y = f then some u else m0 y) y))) := by
      funext y
      rw [List.zip_cons_cons, List.reverse_cons, List.lookup_append]
      cases hh : (fs.zip us).reverse.lookup y with
      | some v => simp
      | none =>
        by_cases hy : y = f
        · subst hy; simp [List.lookup]
        · have : (y == f) = false := by simpa using hy
          simp [List.lookup, this, hy]
    rw [e]
    exact hn2
/-- what __init__ leaves of a fresh exception at x -/
structure InitEnd (h h' : Heap) (x C dx t1 : Addr) (fs : List Str) (us : List Value) : Prop where
  keep : ∀ b o, b ≠ x → h.get? b = some o → h'.get? b = some o
  obj : h'.get? x = some (excB C t1 (some dx))
  dbig : h.objs.size ≤ dx
  dne : dx ≠ x
  ns : h'.Ns1 dx (fun y => (fs.zip us).reverse.lookup y)
theorem lk_zip : ∀ {fs : List Str} {us : List Value} {i : Nat} {f : Str} {u : Value}, fs.Nodup → fs[i]? = some f → us[i]? = some u → (fs.zip us).reverse.lookup f = some u
  | [], _, _, _, _, _, h, _ => by simp at h
  | _ :: _, [], _, _, _, _, _, h => by simp at h
  | g :: fs, v :: us, 0, f, u, nd, h1, h2 => by
    simp at h1 h2
    subst h1 h2
    rw [List.zip_cons_cons, List.reverse_cons, List.lookup_append]
    have : (fs.zip us).reverse.lookup g = none := by
      rw [List.lookup_eq_none_iff]
      intro p hp
      have := (List.of_mem_zip (List.mem_reverse.mp hp)).1
      have n := (List.nodup_cons.mp nd).1
      simp
      rintro rfl
      exact n this
    rw [this]
    simp [List.lookup]
  | g :: fs, v :: us, i + 1, f, u, nd, h1, h2 => by
    have ih := lk_zip (i := i) (List.nodup_cons.mp nd).2 (by simpa using h1) (by simpa using h2)
    rw [List.zip_cons_cons, List.reverse_cons, List.lookup_append, ih]
    rfl
/-- what a method call asks whether .. -/
def pl_ (o : Expr) (env : Env) : Sem Bool := do return (← importBound o env).getD true
theorem sup_eq {o : Expr} {name : Str} {p2 p4 p3 : Pos} {txt : Str} {j : Nat} {env : Env} (h : (p2.endLine == p4.line) = true) : eval (.Call (.Attribute o name p2) [.Constant (.str txt) j p3] [] p4) env = (do
      let ov ← attributeBase o name env (eval o env)
      standAt p2.atName
      let (f, first) ← holding [ov] (getMethod ov name (pl_ o env))
      callWith p4 f first (backTo p4 (starEach [.Constant (.str txt) j p3] env)) []) := by
  rw [arm_eval_Call]
  unfold methodCall methodCallPos
  simp only [h, Bool.or_true, if_true]
  rfl
theorem err_init (T : ErrTxt K C fI fs) (hfs : fs ≠ []) (hfl : fs.length ≤ 800) (hfile : ((prog.main.file : Str) == "/claim/cut.py") = true) (htop : (prog.main.scope.names.lookup ("super" : Str)).isSome = false) {x t0 : Addr} {us : List Value} (hus : us.length = fs.length) (X : K.In s.heap) (hlim : s.heap.NoLimit)
    {mb : Str → Option Value} (hG : s.heap.Ns mainGlobals mg) (hB : s.heap.Ns builtinsNs mb) (hbb : ∀ x : Str, x ≠ "__name__" → mb x = bootBuiltins x) (hms : mg "super" = none)
    (hx : s.heap.get? x = some (excO C t0)) (hnx : K.lookup x = none) (hroom : A.depth < recursionLimit)
    (hq : ∀ h' tk dx t1, InitEnd s.heap h' x C dx t1 fs us → R (.ok (.ret .none)) { s with heap := h', toks := tk }) :
    codeAny (model prog w) A (.call (.ref fI) ⟨.ref x :: us, []⟩) R s := by
  obtain ⟨oc, od, qual, params, body, scope, dV, kV, doc, pm, an, cda, ct, osl, cc, ar, ccl, cl, cdd, cld, vs, file, tf, ccs, csl, st, sts, ho, hcd, har, hself, hcda, hvs, hfl2, hcc, rfl, hsup, hflds, hks, hkc, hloc, hkind, hcell, hco, hgen, hbind, hnd, hdbg⟩ := T.fn
  obtain ⟨nm, q, N, bs, bm, sn, sub, ab, col, dd, k0, k1, k2, k3, k5, hC, hbm⟩ := T.cls
  have hcl : clsIn K C = some { name := nm, bases := bs, mro := .ref C :: bm, ns := N, qualname := q, hasDict := true, slotNames := sn, subclasses := sub, abstract := ab, collection := col, hasDel := false } := by unfold clsIn; rw [hC] <;> rfl
  have hxs : x < s.heap.objs.size := Heap.lt_size hx
  refine ks_codeAny_call_defAt (fd := ksFn "__init__" qual params (st :: sts) scope dV kV doc pm an (.ref cda) ct cc) (body := st :: sts) (binds := (("self" : Str) :: fs).zip (.ref x :: us)) hroom (X _ _ ho) rfl hlim (codeRec_of X hcd) rfl
    (BindsTo.of_eq (hbind _ (by simp [hus]))) hcell (fun y hy => hloc y.1 (List.of_mem_zip hy).1) (fun h₁ hns hk₁ => ?_) hco hgen hkind
  have X₁ : K.In h₁ := X.keeps hk₁
  have hx₁ := hk₁ _ _ hx
  obtain ⟨hp, g, dr, tk, os⟩ := s
  generalize tk + ((("self" : Str) :: fs).zip (.ref x :: us)).length = tk1
  obtain ⟨p0, p1, p2, p3, p4, p5, j, txt, hpos, rfl⟩ := hsup
  -- the frame's names
  have hm : ∀ (i : Nat) (f : Str) (u : Value), (("self" : Str) :: fs)[i]? = some f → (Value.ref x :: us)[i]? = some u → ((("self" : Str) :: fs).zip (Value.ref x :: us)).reverse.lookup f = some u := by
    intro i f u h1 h2
    exact lk_zip hnd h1 h2
  refine ks_wpAt_execs_cons (ks_wpAt_Expr_any (hi := (show (scope.kind == .module && _) = false by rw [hkind]; rfl)) (ks_wpAt_MethodCall ?_ (pl := pl_ _ _) (he := sup_eq hpos)))
  refine ks_wpAt_super_base (f := fI) (cc := cda) hks hkc (by decide +kernel) rfl (hk₁ _ _ (X _ _ ho)) rfl har rfl (hk₁ _ _ (X _ _ hcda)) rfl hvs (by rw [beq_iff_eq] at hfile hfl2 ⊢; rw [hfile, hfl2]) htop ?_
  refine ks_loadName_global hkind hks (loadGlobal_builtin (hG.keeps hk₁) hms (hB.keeps hk₁) ((hbb _ (by decide +kernel)).trans (by first | boot_by_name | rfl | kernel_rfl)) ⟨rfl, ?_⟩)
  refine wpAny_loadName_free hkind hkc rfl ⟨_, X₁ _ _ hcc, rfl⟩ ?_
  refine wpAny_loadName_local hkind (hself ▸ hloc "self" (by simp)) hns (v := .ref x) (by rw [hself]; exact hm 0 "self" (.ref x) rfl rfl) ?_
  refine ks_wpAny_isType_cls (X₁ _ _ hC) rfl ⟨rfl, ?_⟩
  refine ks_wpAny_call_super (X₁ _ _ hC) rfl hx₁ rfl (fun c e => by cases e) (looks_mroIn X₁ T.selfC) (fun h2 hso k2 => ?_)
  have X2 : K.In h2 := X₁.keeps k2
  have hx2 := k2 _ _ hx₁
  have I2 : InstAt h2 x (excO C t0) C none := ⟨hx2, rfl, rfl, trivial⟩
  have hal : alongIn K "__init__" (((Value.ref C :: bm).dropWhile (· != .ref C)).drop 1) = some (some (.builtin "ValueError.__init__")) := by
    have z := T.sup
    unfold ks_superIn at z
    rw [hcl] at z
    exact z
  refine kxs_getMethod kxs_ValueError hso (looks_opaque X2 T.tp) (l₀ := .ref C :: bm) (fun A Q E s k q => wpAny_bind ((looks_clsIn X2 hcl) A _ E s k (wpAny_pure q))) rfl X2 hal (I2.type.andThen (looks_subIn X2 T.veC)) (ks_ne X2 I2 hcl) (by decide +kernel) ?_
  have hu : (h2.push (kxs_mw "ValueError.__init__" x)).get? h2.objs.size = some (kxs_mw "ValueError.__init__" x) := by heap_get
  have k3 : ∀ b o, h2.get? b = some o → (h2.push (kxs_mw "ValueError.__init__" x)).get? b = some o := fun b o e => Heap.get?_push_of_some _ e
  refine kxs_callWith (u := h2.objs.size) (i := "ValueError.__init__") (x := x) rfl (evalArgs_plain ?_)
  show wpAny _ _ (spliced ((false, eval (.Constant (.str txt) j p3) _) :: _)) _ _ _
  refine Calls.spliced_cons (Calls.Constant_str (Calls.spliced_nil ⟨hu, ?_⟩))
  generalize hh3 : h2.push (kxs_mw "ValueError.__init__" x) = h3 at hu k3 ⊢
  have X3 : K.In h3 := X2.keeps k3
  have hx3 := k3 _ _ hx2
  refine wpAny_call (codeAny_of_tree ?_)
  show wpAny _ _ (callAny (.ref h2.objs.size) _) _ _ _
  simp only [callAny]
  refine wpAny_bind (wpAny_load hu ?_)
  simp only [kxs_mw, show (Value.type "method-wrapper" == Value.type "method" || Value.type "method-wrapper" == Value.type "builtin_function_or_method" || Value.type "method-wrapper" == Value.type "method-wrapper") = true by decide, if_true]
  refine KFB.if_so (by decide) ?_
  have FB := F.excBase_ValueError
  refine wpAny_bind (check_bound_init FB.toExcCallFacts (X3 _ _ hC) hx3 rfl ?_)
  refine wpAny_bind (wpAny_pure (wpAny_pure ?_))
  refine ⟨plainId_quiet FB.init.plain _, codeAny_builtin FB.initEntry ?_⟩
  refine exc_init_tree (cls := .ref C) (t0 := t0) (dv := none) (c2 := .none) (c3 := .none) (b4 := .bool false) hx3 (by rw [sizeLine_eq]; exact (by decide : 1 ≤ 16777216)) (fun h4 k4 hx4 _ => ?_)
  -- the first field
  have old : ∀ b o, b ≠ x → hp.get? b = some o → h4.get? b = some o := fun b o hb e => k4 b o hb (k3 _ _ (k2 _ _ (hk₁ _ _ e)))
  have hL : x ≠ hp.objs.size := Nat.ne_of_lt hxs
  have hn4 : h4.Ns hp.objs.size (fun y => ((("self" : Str) :: fs).zip (Value.ref x :: us)).reverse.lookup y) := by
    obtain ⟨o, es, ep, e, rest⟩ := hns
    exact ⟨o, es, ep, k4 _ _ hL.symm (k3 _ _ (k2 _ _ e)), rest⟩
  have X4 : K.In h4 := in_but X hnx old
  have hx4' : h4.get? x = some (excO C h3.objs.size) := hx4
  have h3L : hp.objs.size < h4.objs.size := hn4.lt
  have hself' : (callEnv (ksFn "__init__" qual params (Stmt.Expr (.Call (.Attribute (.Call (.Name "super" p0) [] [] p1) "__init__" p2) [.Constant (.str txt) j p3] [] p4) p5 :: sts) scope dV kV doc pm an (.ref cda) ct cc) hp.objs.size fI).kindOf "self" = some .local := hloc "self" (by simp)
  cases hflds with
  | nil => exact absurd rfl hfs
  | @cons f st fs sts hf1 hfr =>
  obtain ⟨pp, qq, rr, zz, rfl⟩ := hf1
  obtain ⟨u, us, rfl⟩ : ∃ u r, us = u :: r := by
    cases us with
    | nil => simp at hus
    | cons u r => exact ⟨u, r, rfl⟩
  refine wpAt_of_wpAny ?_
  refine wpAny_execs_cons (plainObj_wpAny_Assign_Attribute ?_)
  refine ld1 (v := u) hn4 (hm 1 f u rfl rfl) (ld1 (v := .ref x) hn4 (hm 0 "self" (.ref x) rfl rfl) ?_ hkind hself' (by decide +kernel)) hkind (hloc f (by simp)) (hdbg f (by simp))
  refine set_plain X4 (ox := excO C h3.objs.size) (od := none) ⟨hx4', rfl, rfl, trivial⟩ T.sa ?_
  refine exc_osa X4 hx4' hcl (show refsVE (.ref C :: bm) = true from hbm) rfl (T.noN f (by simp)) (fun h5 tk5 dx k5 dn dne hx5 hn5 => ?_)
  have hdL : dx ≠ hp.objs.size := Nat.ne_of_gt (Nat.lt_of_lt_of_le h3L dn)
  have hdK : K.lookup dx = none := by
    cases e : K.lookup dx with
    | none => rfl
    | some o => exact absurd (Heap.lt_size (X4 _ _ e)) (Nat.not_lt.mpr dn)
  have hn5' : h5.Ns hp.objs.size (fun y => ((("self" : Str) :: f :: fs).zip (Value.ref x :: u :: us)).reverse.lookup y) := by
    obtain ⟨o, es, ep, e, rest⟩ := hn4
    exact ⟨o, es, ep, k5 _ _ hL.symm e, rest⟩
  show wpAny _ _ (execs sts _) _ _ _
  refine err_stores (s := ⟨h5, g, dr, tk5, os⟩) (t1 := h3.objs.size) (us := us) (nl := [f]) (m0 := fun y => if y = f then some u else none) (x := x) (dx := dx) hcl hbm T.sa hnx hdK hkind hself' (hm 0 "self" (.ref x) rfl rfl) hL hdL dne hfr (by simpa using hus) (fun y hy => hloc y (by simp [hy])) (fun y hy => hdbg y (by simp [hy])) (fun y hy => T.noN y (by simp [hy]))
    (fun i f' u' h1 h2 => hm (i + 2) f' u' (by simpa using h1) (by simpa using h2)) (in_but X4 hnx k5) hn5' hx5 hn5 (Within.cons f u Within.nil) (by simp at hfl ⊢; omega) (fun h6 tk6 k6 hx6 hn6 => ?_)
  refine hq h6 tk6 dx h3.objs.size ⟨fun b o hb e => k6 b o hb (fun z => ?_) (k5 b o hb (old b o hb e)), hx6, Nat.le_of_lt (Nat.lt_of_lt_of_le h3L dn), dne, ?_⟩
  · subst z
    exact absurd (Nat.lt_trans (Heap.lt_size e) h3L) (Nat.not_lt.mpr dn)
  · have e : (fun y => (((f :: fs).zip (u :: us)).reverse.lookup y)) = (fun y => (((fs.zip us).reverse.lookup y).or ((fun y => if y = f then some u else none) y))) := by
      funext y
      rw [List.zip_cons_cons, List.reverse_cons, List.lookup_append]
      cases hh : (fs.zip us).reverse.lookup y with
      | some v => simp
      | none =>
        by_cases hy : y = f
        · subst hy; simp [List.lookup]
        · have : (y == f) = false := by simpa using hy
          simp [List.lookup, this, hy]
    rw [e]
    exact hn6
/-- a made one -/
structure ErrMade (h h' : Heap) (e C d : Addr) (fs : List Str) (us : List Value) : Prop where
  keep : ∀ b o, h.get? b = some o → h'.get? b = some o
  new : h.objs.size ≤ e
  obj : ∃ oe vs, h'.get? e = some oe ∧ oe.cls = .ref C ∧ oe.dict = some d ∧ oe.data = .fields vs ∧ vs[1]? = some .none
  dbig : h.objs.size ≤ d
  dne : d ≠ e
  ns : h'.Ns1 d (fun y => (fs.zip us).reverse.lookup y)
theorem err_made (T : ErrTxt K C fI fs) (hfs : fs ≠ []) (hfl : fs.length ≤ 800) (hfile : ((prog.main.file : Str) == "/claim/cut.py") = true) (htop : (prog.main.scope.names.lookup ("super" : Str)).isSome = false) {us : List Value} (hus : us.length = fs.length) (X : K.In s.heap) (hlim : s.heap.NoLimit)
    {mb : Str → Option Value} (hG : s.heap.Ns mainGlobals mg) (hB : s.heap.Ns builtinsNs mb) (hbb : ∀ x : Str, x ≠ "__name__" → mb x = bootBuiltins x) (hms : mg "super" = none) (hroom : A.depth + 1 < recursionLimit)
    (hq : ∀ h' tk e d, ErrMade s.heap h' e C d fs us → R (.ok (.ret (.ref e))) { s with heap := h', toks := tk }) :
    codeAny (model prog w) A (.call (.ref C) ⟨us, []⟩) R s := by
  obtain ⟨nm, q, N, bs, bm, sn, sub, ab, col, dd, k0, k1, k2, k3, k5, hC, hbm⟩ := T.cls
  obtain ⟨hp, g, dr, tk, os⟩ := s
  have k : ∀ b o, hp.get? b = some o → ((hp.push (kdv_tup us)).push (excO C hp.objs.size)).get? b = some o := fun b o e => Heap.get?_push_of_some _ (Heap.get?_push_of_some _ e)
  have hget : ((hp.push (kdv_tup us)).push (excO C hp.objs.size)).get? (hp.objs.size + 1) = some (excO C hp.objs.size) := by heap_get
  have hnx : K.lookup (hp.objs.size + 1) = none := by
    cases e : K.lookup (hp.objs.size + 1) with
    | none => rfl
    | some o =>
      have z : hp.get? (hp.objs.size + 1) = some o := X _ _ e
      exact absurd (Nat.lt_of_succ_lt (Heap.lt_size z)) (Nat.lt_irrefl _)
  refine call_own F.excBase_ValueError (fun X => refsVE_contains X bm hbm) (X _ _ hC) (looks_findIn X T.iC) (fun self => bind_fn X self T.tC) (by rw [hus, sizeLine_eq]; omega) ?_
  refine err_init (s := ⟨(hp.push (kdv_tup us)).push (excO C hp.objs.size), g, dr, tk, os⟩) T hfs hfl hfile htop hus (X.keeps k) (hlim.keeps k) (hG.keeps k) (hB.keeps k) hbb hms hget hnx ?_ fun h' tk' dx t1 ⟨k', hx, dn, dne, hns⟩ => ?_
  · show A.depth + 1 < recursionLimit
    exact hroom
  · have old : ∀ b o, hp.get? b = some o → h'.get? b = some o := fun b o e => k' b o (Nat.ne_of_lt (Nat.lt_succ_of_lt (Heap.lt_size e))) (k b o e)
    have z : hp.objs.size + 1 + 1 ≤ dx := by
      first
        | (simpa only [Heap.size_push] using dn)
        | exact dn
        | (have q := dn; rw [Heap.size_push, Heap.size_push] at q; exact q)
    exact ⟨rfl, hq h' tk' (hp.objs.size + 1) dx ⟨old, Nat.le_succ _, ⟨_, _, hx, rfl, rfl, rfl, rfl⟩, Nat.le_trans (Nat.le_trans (Nat.le_succ _) (Nat.le_succ _)) z, dne, hns⟩⟩
end
end NKE
end PySem
namespace L2
open PySem PySem.Spec PyProof.Rows
theorem relO_err : ∀ {fs : List Str} {vs : List V} {us : List Value}, Vals vs us → fs.length = vs.length → fs.Nodup → ∀ f, RelO (List.lookup f (fs.zip vs)) ((fs.zip us).reverse.lookup f)
  | [], _, _, _, _, _, f => by simp [List.lookup]; trivial
  | g :: fs, [], _, _, h, _, f => by simp at h
  | g :: fs, v :: vs, _, rr, h, nd, f => by
    cases rr with
    | cons r rs =>
    rename_i u us
    have ih := relO_err rs (by simpa using h) (List.nodup_cons.mp nd).2 f
    rw [List.zip_cons_cons, List.zip_cons_cons, List.reverse_cons, List.lookup_append]
    by_cases hg : f = g
    · subst hg
      have : (fs.zip us).reverse.lookup f = none := by
        rw [List.lookup_eq_none_iff]
        intro p hp
        have q := (List.of_mem_zip (List.mem_reverse.mp hp)).1
        have n := (List.nodup_cons.mp nd).1
        simp
        rintro rfl
        exact n q
      rw [this]
      simp [List.lookup]
      exact r
    · have hb : (f == g) = false := by simpa using hg
      rw [List.lookup_cons, hb]
      have e : ((fs.zip us).reverse.lookup f).or (List.lookup f [(g, u)]) = (fs.zip us).reverse.lookup f := by
        simp [List.lookup, hb]
      rw [e]
      exact ih
section
variable {X : Cx} {C fI : Addr} {fs : List Str}
/-- C(e, ..): an error of the class at C with the fields fs -/
def tMkErr (C : Addr) (fs : List Str) (ta : TA) : St → Hp → XK → Prop := fun σ H Q => ta σ H fun vs H1 => vs.length = fs.length ∧ ∀ d, H1 d = none → Q (.ref C) (some d) (upd H1 d (.xd (fs.zip vs)))
theorem pmk_err {x : Str} {a : Expr} {as : List Expr} {ta : TA} {p pos : Pos} {k : Nat} (T : PySem.NKE.ErrTxt X.K C fI fs) (hfs : fs ≠ []) (hfl : fs.length ≤ 800) (hnd : fs.Nodup) (hfile : ((X.prog.main.file : Str) == "/claim/cut.py") = true) (htop : (X.prog.main.scope.names.lookup ("super" : Str)).isSome = false) (hms : X.mg "super" = none)
    (hr : Room k X.A) (gC : X.mg x = some (.ref C)) (ha : PA X (a :: as) ta) (hg : Gl X x := by rfl) (hdb : (x == ("__debug__" : Str)) = false := by decide)
    (he : starEach (a :: as) X.env = (false, eval a X.env) :: starEach as X.env := by rfl) (hpl : (backTo pos (starEach as X.env)).any (·.1) = false := by rfl) :
    PMk X (.Call (.Name x p) (a :: as) [] pos) (tMkErr C fs ta) := by
  intro pins s σ H Q I h
  refine wpAny_Call_Name_kw (ld_glob I hg gC ?_ hdb)
  refine PySem.W.callWith_K (h₀ := X.base) I.ok.mod.kin T.kC (thn (ha.run pos pins s σ H _ I h) fun us s1 hh => ?_) he hpl
  obtain ⟨vs, H1, I1, r1, ev, q1⟩ := hh
  refine ⟨I1.kIn, ?_⟩
  show wpAny _ _ (call (.ref C) us) _ _ _
  have hlim := I1.nolimit
  obtain ⟨mb, hb1, hb2⟩ := I1.mod.blt
  have hGl : s1.heap.Ns mainGlobals X.mg := I1.mod.glob.keeps I1.bk
  have hBl : s1.heap.Ns builtinsNs mb := hb1.keeps I1.bk
  obtain ⟨hp, g, dr, tk, os⟩ := s1
  refine wpAny_call (PySem.NKE.err_made T hfs hfl hfile htop (by rw [← r1.length, ev]) I1.kIn hlim hGl hBl hb2 hms (by have := hr.dp; omega) fun h' tk' e d M => ?_)
  show MkP X pins σ Q (.ref e) ⟨h', g, dr, tk', os⟩
  obtain ⟨oe, fv, hoe, hc, hd, hdat, h1⟩ := M.obj
  have hns := M.ns
  obtain ⟨G', g1, g2⟩ := restrict h' fun b => decide (b ≠ e)
  have gk : ∀ b, b ≠ e → G'.get? b = h'.get? b := fun b hb => g1 b (decide_eq_true hb)
  have ge : G'.get? e = none := g2 e (by simp)
  have old : ∀ b o, hp.get? b = some o → G'.get? b = some o := fun b o q => (gk b (Nat.ne_of_lt (Nat.lt_of_lt_of_le (Heap.lt_size q) M.new))).trans (M.keep b o q)
  have ob : ObjOk X.prog X.w (upd H1 d (.xd (fs.zip vs))) G' d (.xd (fs.zip vs)) :=
    ⟨_, hns.at (fun o q => (gk d M.dne).trans q), relO_err r1 ev.symm hnd⟩
  have J : Inv X pins σ (upd H1 d (.xd (fs.zip vs))) ⟨G', g, dr, tk', os⟩ := I1.laid (t' := tk') old M.dbig ob
  refine ⟨e, oe, fv, ⟨G', g, dr, tk', os⟩, _, .ref C, some d, rfl, J, fun b o q => ?_, ge, hoe, ⟨hc, hd⟩, hdat, h1, ?_, rfl, I1.bare, raises_own T.exC T.tyC, q1 d (I1.hok.fresh M.dbig)⟩
  · by_cases hb : b = e
    · subst hb
      rw [ge] at q
      cases q
    · exact (gk b hb).symm.trans q
  · rw [upd_ne M.dne.symm]
    exact I1.hok.fresh M.new
end
end L2
/-! isinstance of a caught error that has its own dict; several except clauses with names. -/
namespace PySem.W
open PySem PySem.Spec PySem.Calls PyProof.Rows
section
variable {prog : Program} {w : World} {A : Around} {E : Value → Shared → Prop} {s : Shared} {K : Frag} {x D : Addr} {ox : Obj} {od : Option Obj}
theorem nk_findObj {C : Addr} {name : Str} {a g : Value} (hc : (clsIn K C).isSome = true) (ha : findIn K (.ref C) name = some (some a)) (hg : specialIn K a "__get__" = some (some g)) (ht : takesIn K a = some true) : findObj K C od name = some (.bind g a) := by
  obtain ⟨cd, hc⟩ := Option.isSome_iff_exists.mp hc
  unfold findObj
  rw [hc, Option.bind_some, ha, Option.bind_some]
  simp [hg, ht]
theorem nk_classE {Q : Option Value → Shared → Prop} (hga : findIn K (.ref D) "__getattribute__" = some (some (.builtin "BaseException.__getattribute__"))) (hgt : findIn K (.ref D) "__getattr__" = some none) (hsub : subIn K (.ref D) (.type "BaseException") = some true)
    (hdct : hasDictIn K D = true) (ha : findIn K (.ref D) "__class__" = some (some (.builtin "object.__class__")))
    (hn : specialIn K (.builtin "object.__class__") "__get__" = some (some (.builtin "getset_descriptor.__get__"))) (htk : takesIn K (.builtin "object.__class__") = some true) (hm : mroIn K D (.type "object") = some true)
    (X : K.In s.heap) (I : InstAt s.heap x ox D od) (h : Q (some (.ref D)) { s with toks := s.toks + 1 }) : wpAny (model prog w) A (getAttr? (.ref x) "__class__") Q E s := by
  have hf : findObj K D od "__class__" = some (.bind (.builtin "getset_descriptor.__get__") (.builtin "object.__class__")) := nk_findObj (by obtain ⟨cd, hc, _⟩ := any_some hdct; rw [hc]; rfl) ha hn htk
  obtain ⟨hp, g, d, t, os⟩ := s
  have L0 := I.type (M := model prog w)
  have L1 := looks_findIn (M := model prog w) X hga
  have L2 := looks_findIn (M := model prog w) X hgt
  have L3 := looks_find (M := model prog w) X I hf
  have sub : Looks (model prog w) hp (isInstance (.ref x) (.type "BaseException")) true := L0.andThen (looks_subIn X hsub)
  have hx0 : (false && onTheHeap (Value.builtin "BaseException.__getattribute__")) = false := rfl
  have hx2 : (Value.builtin "BaseException.__getattribute__" == Value.builtin "object.__getattribute__") = false := by decide +kernel
  have hx1 : (onTheHeap (Value.ref D) && Value.builtin "BaseException.__getattribute__" == Value.builtin "object.__getattribute__") = false := by rw [hx2]; rfl
  unfold getAttr? getAttrBy? getAttrBy
  refine wpAny_bind (wpAny_mkText (wpAny_bind (wpAny_attempt (wpAny_holding (wpAny_bind (L0.at (wpAny_bind (L1.at ?_))))))))
  show wpAny _ _ (if (onTheHeap (Value.ref D) && Value.builtin "BaseException.__getattribute__" == Value.builtin "object.__getattribute__") = true then _ else _) _ _ _
  rw [hx1, if_neg Bool.false_ne_true]
  unfold getAttrByItsOwn hookBefore
  refine wpAny_bind ?_
  rw [if_pos (show onTheHeap (Value.ref D) = true from rfl)]
  refine L2.at ?_
  refine wpAny_bind (wpAny_attempt (wpAny_holding ?_))
  unfold callGetattribute
  rw [hx0, if_neg Bool.false_ne_true]
  unfold boundAndCalled
  rw [PySem.F.excAttr_ValueError.ga.bind (.ref x)]
  refine wpAny_bind (wpAny_pure ?_)
  show wpAny _ _ (call (.builtin "BaseException.__getattribute__") [.ref x, .str "__class__" t]) _ _ _
  refine wpAny_call (codeAny_call_builtin PySem.F.excAttr_ValueError.ga.plain PySem.F.entry_bexc_ga ?_)
  refine @check_slot (model prog w) _ _ ⟨hp, g, d, t + 1, os⟩ "BaseException.__getattribute__" "BaseException" "__getattribute__" (.ref x) [.str "__class__" t] [] _ (by decide +kernel) (by decide +kernel) sub (PySem.F.args_bexc_ga (.ref x) (.str "__class__" t)) ?_
  unfold Builtin.«object.__getattribute__»
  refine wpAny_bind (wpAny_of_eq (a := ((Value.ref x : Value), [Value.str "__class__" t])) (by first | rfl | (simp only [slotArgs]; rfl)) ?_)
  refine wpAny_bind (wpAny_pure (wpAny_bind (L0.at (wpAny_bind (L3.at ?_)))))
  show wpAny _ _ (holding [Value.builtin "object.__class__"] (call (.builtin "getset_descriptor.__get__") [.builtin "object.__class__", .ref x, .ref D]) >>= ret) _ _ _
  refine wpAny_bind (wpAny_holding (wpAny_call (class_get (s := ⟨hp, g, d, t + 1, os⟩) (ox := ox) (od := od) X I hm ?_)))
  refine wpAny_pure ?_
  show wpAny _ _ (handedOut (.ref D)) _ _ _
  rw [handedOut_of (v := .ref D) rfl]
  first
    | exact wpAny_pure (wpAny_pure h)
    | exact wpAny_pure h
    | exact wpAny_pure (wpAny_bind (wpAny_pure (wpAny_pure h)))
theorem nk_kitx (hga : findIn K (.ref D) "__getattribute__" = some (some (.builtin "BaseException.__getattribute__"))) (hgt : findIn K (.ref D) "__getattr__" = some none) (hsub : subIn K (.ref D) (.type "BaseException") = some true) (hdct : hasDictIn K D = true) (ha : findIn K (.ref D) "__class__" = some (some (.builtin "object.__class__")))
    (hn : specialIn K (.builtin "object.__class__") "__get__" = some (some (.builtin "getset_descriptor.__get__"))) (htk : takesIn K (.builtin "object.__class__") = some true) (hm : mroIn K D (.type "object") = some true) :
    KitX K (.ref x) (.ref D) (fun h => ∃ od, InstAt h x ox D od) where
  ty := fun _ _ _ ⟨_, I⟩ => I.type
  it := fun _ _ X _ => by
    obtain ⟨cdD, hcD, _⟩ := any_some hdct
    unfold clsIn at hcD
    split at hcD
    · rename_i c' d' cd' sl' ho
      intro A' Q' E' s' k q
      unfold isType loadHead
      exact wpAny_bind (wpAny_loadPart (k _ _ (X _ _ ho)) (wpAny_pure q))
    · cases hcD
  ne := fun h tp dd its n sl X htp => by
    obtain ⟨cdD, hcD, _⟩ := any_some hdct
    refine Bool.eq_false_iff.mpr fun q => ?_
    have e : D = tp := Value.ref.inj (beq_iff_eq.mp q)
    subst e
    unfold clsIn at hcD
    split at hcD
    · rename_i c' d' cd' sl' ho
      have z := (X _ _ ho).symm.trans htp
      cases z
    · cases hcD
  ca := fun X ⟨_, I⟩ k => nk_classE hga hgt hsub hdct ha hn htk hm X I k
end
end PySem.W
namespace L2
open PySem PySem.Spec PyProof.Rows
/-- isinstance(e, c), e the error that the suite holds at a, of the class at D -/
def rIsX (K : PySem.W.Frag) (D a : Addr) (cls : Value) (d : Option Addr) : List V → Hp → VK → Prop := fun xs H Q => ∃ (c : V) (cv : Value) (b : Bool), xs = [.ref a, c] ∧ cls = .ref D ∧ (∀ u, RelV c u → u = cv) ∧ (∀ dd, d = some dd → ∃ fs, H dd = some (.xd fs)) ∧ PySem.W.kitOne K (.ref D) cv = some b ∧ Q (.bl b) H
theorem call_isX {X : Cx} {a D : Addr} {oe : Obj} {cls : Value} {d : Option Addr} {pn : List (Addr × Obj)} (C : ExcC X.K D) (hz : Zc cls d oe) (hf : ∃ vs, oe.data = .fields vs) : CallR (X.suite a ((a, oe) :: pn)) (.builtin "isinstance") (rIsX X.K D a cls d) := by
  intro pins s σ H xs us Q I r h
  obtain ⟨c, cv, b, rfl, rfl, hcv, hdd, e, q⟩ := h
  cases r with
  | cons rx rr =>
    cases rr with
    | cons rt rr =>
      cases rr
      cases rx
      have ec := hcv _ rt
      subst ec
      obtain ⟨hget, _⟩ := I.pin (a, oe) (List.mem_append.mpr (.inl List.mem_cons_self))
      obtain ⟨vs, hv⟩ := hf
      have J : ∃ od, PySem.W.InstAt s.heap a oe D od := by
        obtain ⟨oc, od, oda, osl⟩ := oe
        obtain ⟨h1, h2⟩ := hz
        dsimp only at h1 h2 hv
        subst h1 h2 hv
        cases od with
        | none => exact ⟨none, hget, rfl, rfl, trivial⟩
        | some dd =>
          obtain ⟨fs, hx⟩ := hdd dd rfl
          obtain ⟨mA, ⟨o, es, ep, ho, _⟩, _⟩ : ∃ mA, s.heap.Ns1 dd mA ∧ _ := I.hok dd _ hx
          exact ⟨some o, hget, rfl, rfl, ho⟩
      exact PySem.W.kia_one (PySem.W.nk_kitx C.hg C.hk C.hs C.hd C.ha C.hn C.ht C.hm) I.kIn J e (fun z => nomatch z) fun tk => ⟨.bl b, H, I.kept (t' := tk) fun _ _ z => z, rfl, q⟩

/-! ### several except clauses, each with or without a name -/
/-- a clause: the class it names; the slot of its name; what its suite asks -/
abbrev Hd := Value × Option Nat × (Addr → Value → Option Addr → TS)
/-- what the clauses wish of an exception of the body, one after the other -/
def wHds (K : PySem.W.Frag) (Wout : WX) (D : Ends) : List Hd → WX
  | [] => Wout
  | (c, none, ts) :: r => fun cls d σ H => ∃ b, PySem.W.exmOne K cls c = some b ∧ (b = true → ∀ a, H a = none → ts a cls d D σ H) ∧ (b = false → wHds K Wout D r cls d σ H)
  | (c, some i, ts) :: r => fun cls d σ H => ∃ b, PySem.W.exmOne K cls c = some b ∧ (b = true → ∀ a, H a = none → ts a cls d { nx := fun σ' H' => D.nx (σ'.set i none) H', rt := D.rt, bk := fun σ' H' => D.bk (σ'.set i none) H', ct := fun σ' H' => D.ct (σ'.set i none) H' } (σ.set i (some (.ref a))) H) ∧ (b = false → wHds K Wout D r cls d σ H)
inductive HdsN (X : Cx) : List ExceptHandler → List Hd → Prop
  | nil : HdsN X [] []
  | bare {x : Str} {c : Value} {ts : Addr → Value → Option Addr → TS} {b₀ : Stmt} {suite : List Stmt} {np pos' : Pos} {hds : List ExceptHandler} {l : List Hd} (hc : Names X x c)
      (hsu : ∀ (a : Addr) (oe : Obj) (cls : Value) (d : Option Addr) (pn : List (Addr × Obj)), Zc cls d oe → (∃ vs, oe.data = .fields vs) → PSs (X.suite a ((a, oe) :: pn)) (b₀ :: suite) (ts a cls d)) (r : HdsN X hds l) :
      HdsN X (.ExceptHandler (some (.Name x np)) none (b₀ :: suite) pos' :: hds) ((c, none, ts) :: l)
  | as_ {x n : Str} {i : Nat} {c : Value} {ts : Addr → Value → Option Addr → TS} {b₀ : Stmt} {suite : List Stmt} {np pos' : Pos} {hds : List ExceptHandler} {l : List Hd} (hi : X.N[i]? = some n) (hln : X.env.kindOf n = some .local) (hc : Names X x c)
      (hsu : ∀ (a : Addr) (oe : Obj) (cls : Value) (d : Option Addr) (pn : List (Addr × Obj)), Zc cls d oe → (∃ vs, oe.data = .fields vs) → PSs (X.suite a ((a, oe) :: pn)) (b₀ :: suite) (ts a cls d)) (r : HdsN X hds l) :
      HdsN X (.ExceptHandler (some (.Name x np)) (some n) (b₀ :: suite) pos' :: hds) ((c, some i, ts) :: l)
section
variable {X : Cx} {body : List Stmt} {h₀ : ExceptHandler} {hds : List ExceptHandler} {l : List Hd} {pos : Pos} {tb : WX → TS} {Wout : WX}
theorem ps_try_hds (hs : X.stack = X.env :: X.outer) (hf : X.env.frame = some X.env.locals) (hN : X.N.Nodup) (tk : Takes X Wout)
    (hb : ∀ (W : WX) (pn : List (Addr × Obj)) (xe : Value → Shared → Prop), Takes (X.tr pn xe) W → PassesOwn (model X.prog X.w) X.A X.env xe → PSs (X.tr pn xe) body (tb W))
    (hh : HdsN X (h₀ :: hds) l) : PS X (.Try body (h₀ :: hds) [] [] pos) (fun D σ H => tb (wHds X.K Wout D l) D σ H) := by
  refine ⟨fun pins s σ H D I h => ?_⟩
  have ok := I.ok
  have hfr : X.A.frames = some (X.env :: X.outer) := by rw [ok.frames, hs]
  refine wpAny_Try_except ?_
  refine wpAny_mono ((hb (wHds X.K Wout D l) (X.pn ++ pins) (fun e s₁ => wpAny (model X.prog X.w) X.A (noteFrame e X.env) (fun _ s₂ => wpAny (model X.prog X.w) X.A (setFlight e none) (fun _ s₃ =>
    wpAny (model X.prog X.w) X.A (handleBy e X.env (h₀ :: hds)) (SP X pins D) X.xe s₃) X.xe s₂) X.xe s₁) (fun u s' xx => ?_) PassesOwn.looking).run [] s σ H D (I.toTry _) h) (fun f s1 hsp => ?_) (fun e s1 he => he)
  · -- the catch
    obtain ⟨a, B, sI, pins', σ', H', cls, d, rfl, J', nb, up, sky, na, os, ag, w⟩ := xx
    have J : Inv X pins σ' H' sI := J'.ofTry ok
    have sky' : Sky B (X.env :: X.outer) a (Zc cls d) X.env.locals s'.heap := by rw [← hs]; exact sky
    show wpAny (model X.prog X.w) X.A (noteFrame (.ref a) X.env) _ _ _
    refine Sky.land Zc.steady hfr hf sky' fun h3 fl3 up3 => ?_
    have J3 : Inv X pins σ' H' { s' with heap := h3 } := J.landed nb fl3.1 (up.trans up3) os ag
    obtain ⟨oe3, vs3, he3, hz3, hd3⟩ := fl3.there
    have notFr : ∀ {h : Heap} {o : Obj} {vs : Array Value}, h.FunFrames B (X.env :: X.outer) → h.get? a = some o → o.data = .fields vs → a ∉ frs (X.env :: X.outer) := fun {h o vs} ff e dd hm => by
      obtain ⟨_, o', e', hnf⟩ := ff.mem hm
      rw [e] at e'; cases e'
      exact hnf _ dd
    have nfr := notFr fl3.2.2.1 he3 hd3
    have nL : a ≠ X.env.locals := fun z => nfr (List.mem_filterMap.mpr ⟨X.env, List.mem_cons_self, by rw [hf, z]⟩)
    have nF : a ∉ X.fs := fun hm => by
      obtain ⟨e, he, q⟩ := List.mem_filterMap.mp hm
      exact nfr (List.mem_filterMap.mpr ⟨e, List.mem_cons_of_mem _ he, q⟩)
    have S3 := J3.suite he3 hd3 na nL nF
    have test : ∀ {x : Str} {np : Pos} {c : Value} {Q : Value → Shared → Prop} {E : Value → Shared → Prop}, Names X x c → Q c { s' with heap := h3 } → wpAny (model X.prog X.w) (X.A.mark (some (.ref a))) (eval (.Name x np) X.env) Q E { s' with heap := h3 } := fun {x np c Q E} hc q => by
      obtain ⟨hg, hdbg, hm | ⟨hm, hv, hnn⟩⟩ := hc
      · exact ld_glob (X := X.suite a ((a, oe3) :: (X.pn ++ pins))) S3 hg hm q hdbg
      · exact ld_blt (X := X.suite a ((a, oe3) :: (X.pn ++ pins))) S3 hg hm hv q hnn hdbg
    have LT : PySem.W.Looks (model X.prog X.w) h3 (typeOf (.ref a)) cls := fun A Q E s k q => wpAny_typeOf_ref (k _ _ he3) (by rw [hz3.1]; exact q)
    have go : ∀ {hds' : List ExceptHandler} {l' : List Hd}, HdsN X hds' l' → wHds X.K Wout D l' cls d σ' H' →
        wpAny (model X.prog X.w) X.A (handleBy (.ref a) X.env hds') (SP X pins D) X.xe { s' with heap := h3 } := by
      intro hds' l' hk
      induction hk with
      | nil =>
        intro w
        refine wpAny_handleBy_nil ?_
        obtain ⟨k1, k2, k3, oe, vs, T, oT, ts', he, hz, hd, h1, hr⟩ := id fl3
        unfold PySem.passOn
        refine wpAny_bind (wpAny_field he hd h1 ?_)
        rw [if_neg (show ¬ ((Value.ref T == Value.none) = true) from by simp)]
        have fin : wpAny (model X.prog X.w) X.A (setFlight (.ref a) X.env.frame) (fun _ s4 => wpAny (model X.prog X.w) X.A (throw (.ref a) : Sem Flow) (SP X pins D) X.xe s4) X.xe { s' with heap := h3 } := by
          rw [hf]
          refine HandSPX.setFlight_upZ fl3 fun h4 hh4 up4 => wpAny_throw (tk _ _ ?_)
          exact ⟨a, B, sI, pins, σ', H', cls, d, rfl, J, nb, (up.trans up3).trans up4, .inr (.inr (by rw [hs]; exact hh4)), na, os, ag, w⟩
        first
          | exact wpAny_bind (wpAny_pure (wpAny_bind fin))
          | exact wpAny_bind fin
      | @bare x c ts b₀ suite np pos' hds2 l2 hc hsu r ih =>
        intro w
        obtain ⟨b, hb1, hyes, hno⟩ := w
        refine wpAny_handleBy_cons (codeAny_handlers_test ?_) (by intro q; cases q)
        have LM := PySem.W.exm_one (M := model X.prog X.w) (J3.kIn) LT hb1
        refine test hc (LM.here ?_)
        cases b with
        | true =>
          refine codeAny_handlers_suite ?_
          refine HandSPX.lands_againZ fl3 fun h4 fl4 up4 => ?_
          have J4 : Inv X pins σ' H' { s' with heap := h4 } := J.landed nb fl4.1 ((up.trans up3).trans up4) os ag
          obtain ⟨oe4, vs4, he4, hz4, hd4⟩ := fl4.there
          have S4 := J4.suite he4 hd4 na nL nF
          refine wpAny_mono ((hsu a oe4 cls d (X.pn ++ pins) hz4 ⟨_, hd4⟩).run [] _ _ H' _ S4 (hyes rfl a na)) (fun f s6 hsp => ?_) (fun _ _ z => False.elim z)
          cases f with
          | next =>
            obtain ⟨σ6, H6, S6, q6⟩ := hsp
            exact ⟨_, _, S6.unsuite ok, q6⟩
          | brk =>
            obtain ⟨σ6, H6, S6, q6⟩ := hsp
            exact ⟨_, _, S6.unsuite ok, q6⟩
          | cont =>
            obtain ⟨σ6, H6, S6, q6⟩ := hsp
            exact ⟨_, _, S6.unsuite ok, q6⟩
          | ret u =>
            obtain ⟨v6, σ6, H6, S6, r6, q6⟩ := hsp
            exact ⟨_, _, _, S6.unsuite ok, r6, q6⟩
        | false =>
          show wpAny _ X.A (handleBy (.ref a) X.env hds2) _ _ _
          exact ih (hno rfl)
      | @as_ x n i c ts b₀ suite np pos' hds2 l2 hi hln hc hsu r ih =>
        intro w
        obtain ⟨b, hb1, hyes, hno⟩ := w
        refine wpAny_handleBy_cons (codeAny_handlers_test ?_) (by intro q; cases q)
        have LM := PySem.W.exm_one (M := model X.prog X.w) (J3.kIn) LT hb1
        refine test hc (LM.here ?_)
        have hloc : Loc X.env.scope n := .inl hln
        cases b with
        | true =>
          refine codeAny_handlers_suite_as ?_
          refine HandSPX.lands_againZ fl3 fun h4 fl4 up4 => ?_
          have J4 : Inv X pins σ' H' { s' with heap := h4 } := J.landed nb fl4.1 ((up.trans up3).trans up4) os ag
          obtain ⟨oe4, vs4, he4, hz4, hd4⟩ := fl4.there
          have S4 := J4.suite he4 hd4 na nL nF
          refine store_ok (X := X.suite a ((a, oe4) :: (X.pn ++ pins))) (v := .ref a) S4 hN hi hloc rfl (fun s5 S5 => ?_) (.inr hln)
          refine wpAny_mono ((hsu a oe4 cls d (X.pn ++ pins) hz4 ⟨_, hd4⟩).run [] s5 _ H' _ S5 (hyes rfl a na)) (fun f s6 hsp => ?_) (fun _ _ z => False.elim z)
          have end_ : ∀ {σ6 : St} {H6 : Hp} {Q : Shared → Prop}, Inv (X.suite a ((a, oe4) :: (X.pn ++ pins))) [] σ6 H6 s6 → (∀ s7, Inv X pins (σ6.set i none) H6 s7 → Q s7) →
              wpAny (model X.prog X.w) X.A (do bindName X.env n .none; unbindBehindTheSuite X.env n pos') (fun _ s7 => Q s7) X.xe s6 := fun {σ6 H6 Q} S6 hq => gone_ok (S6.unsuite ok) hN hi hln hq
          cases f with
          | next =>
            obtain ⟨σ6, H6, S6, q6⟩ := hsp
            exact end_ S6 fun s7 J7 => ⟨_, _, J7, q6⟩
          | brk =>
            obtain ⟨σ6, H6, S6, q6⟩ := hsp
            exact end_ S6 fun s7 J7 => ⟨_, _, J7, q6⟩
          | cont =>
            obtain ⟨σ6, H6, S6, q6⟩ := hsp
            exact end_ S6 fun s7 J7 => ⟨_, _, J7, q6⟩
          | ret u =>
            obtain ⟨v6, σ6, H6, S6, r6, q6⟩ := hsp
            exact end_ S6 fun s7 J7 => ⟨_, _, _, J7, r6, q6⟩
        | false =>
          show wpAny _ X.A (handleBy (.ref a) X.env hds2) _ _ _
          exact ih (hno rfl)
    exact go hh w
  · cases f with
    | next =>
      obtain ⟨σ', H', J', q⟩ := hsp
      exact wpAny_execs_nil ⟨σ', H', J'.ofTry ok, q⟩
    | brk =>
      obtain ⟨σ', H', J', q⟩ := hsp
      exact ⟨σ', H', J'.ofTry ok, q⟩
    | cont =>
      obtain ⟨σ', H', J', q⟩ := hsp
      exact ⟨σ', H', J'.ofTry ok, q⟩
    | ret u =>
      obtain ⟨v, σ', H', J', r, q⟩ := hsp
      exact ⟨v, σ', H', J'.ofTry ok, r, q⟩
end
end L2
/-! Rules that take their operands as they come (ints, texts, lists, tuples): the reading is a match on the values. -/
namespace L2
open PySem PySem.Spec PyProof.Rows
/-! ### operators -/
section
variable {X : Cx}
def aAdd (K : PySem.W.Frag) : R2 := fun x y H Q => match x, y with
  | .int i, .int j => Q (.int (i + j)) H
  | .int i, .bl k => Q (.int (i + b2i k)) H
  | .str i, .str j => i.length + j.length ≤ sizeLine ∧ Q (.str (i ++ j)) H
  | .ref a, .ref b => rCat (.ref a) (.ref b) H Q ∨ rCatA K (.ref a) (.ref b) H Q
  | _, _ => False
theorem oa_add : OpR X (binaryOp .Add) (aAdd X.K) := by
  intro pins s σ H x y v u Q I rx ry h
  cases x <;> cases y <;> first
    | exact False.elim h
    | exact op_add pins s σ H _ _ v u Q I rx ry ⟨_, _, rfl, rfl, h⟩
    | exact op_add_ib pins s σ H _ _ v u Q I rx ry ⟨_, _, rfl, rfl, h⟩
    | exact op_add_str pins s σ H _ _ v u Q I rx ry ⟨_, _, rfl, rfl, h.1, h.2⟩
    | exact (op_cat.or op_catA) pins s σ H _ _ v u Q I rx ry h
def aSub : R2 := fun x y H Q => match x, y with
  | .int i, .int j => Q (.int (i - j)) H
  | _, _ => False
theorem oa_sub : OpR X (binaryOp .Sub) aSub := by
  intro pins s σ H x y v u Q I rx ry h
  cases x <;> cases y <;> first
    | exact False.elim h
    | exact op_sub pins s σ H _ _ v u Q I rx ry ⟨_, _, rfl, rfl, h⟩
def aMul (K : PySem.W.Frag) : R2 := fun x y H Q => match x, y with
  | .int i, .int j => IntMulOk i j ∧ Q (.int (i * j)) H
  | .ref a, .int j => rRep (.ref a) (.int j) H Q
  | .str z, .int j => (-1000000 ≤ j ∧ j ≤ 10000 ∧ z.length ≤ 1000) ∧ Q (.str (Txt.mul z j)) H
  | _, _ => False
theorem mulOk_of {z : Str} {j : Int} (h : -1000000 ≤ j ∧ j ≤ 10000 ∧ z.length ≤ 1000) : MulOk z j := by
  obtain ⟨h1, h2, h3⟩ := h
  refine ⟨?_, fun a _ => ?_, fun a _ => ?_⟩
  · rw [Bool.or_eq_false_iff, decide_eq_false_iff_not, decide_eq_false_iff_not]
    constructor <;> omega
  · have : (1000 : Int) ≤ (2 ^ 63 - 1) / j := Int.le_ediv_of_mul_le (by omega) (by omega)
    omega
  · have b : z.length * j.toNat ≤ 1000 * 10000 := Nat.mul_le_mul h3 (by omega)
    unfold Builtin.Str.tooLong
    rw [decide_eq_false_iff_not]
    have : (1000 * 10000 : Nat) ≤ sizeLine := by decide
    omega
theorem oa_mul : OpR X (binaryOp .Mult) (aMul X.K) := by
  intro pins s σ H x y v u Q I rx ry h
  cases x <;> cases y <;> first
    | exact False.elim h
    | (obtain ⟨t, rfl⟩ := rx; obtain ⟨t', rfl⟩ := ry; exact mul_int ⟨.int _, H, I.tok _, ⟨_, rfl⟩, h.2⟩ h.1)
    | exact op_rep pins s σ H _ _ v u Q I rx ry h
    | (obtain ⟨t, rfl⟩ := rx; obtain ⟨t', rfl⟩ := ry; exact SB.mul (mulOk_of h.1) fun t' k => ⟨.str _, H, I.tok k, ⟨t', rfl⟩, h.2⟩)
def aDiv : R2 := fun x y H Q => match x, y with
  | .int i, .int j => j ≠ 0 ∧ j.natAbs.log2 < 9000 ∧ Q (.int (i.fdiv j)) H
  | _, _ => False
theorem oa_div : OpR X (binaryOp .FloorDiv) aDiv := by
  intro pins s σ H x y v u Q I rx ry h
  cases x <;> cases y <;> first
    | exact False.elim h
    | (obtain ⟨t, rfl⟩ := rx; obtain ⟨t', rfl⟩ := ry; exact floordiv_int h.1 ⟨.int _, H, I.tok _, ⟨_, rfl⟩, h.2.2⟩ (.inl (PyProof.noPylong_of_log2 h.2.1)))
def aMod : R2 := fun x y H Q => match x, y with
  | .int i, .int j => j ≠ 0 ∧ Q (.int (i.fmod j)) H
  | _, _ => False
theorem oa_mod : OpR X (binaryOp .Mod) aMod := by
  intro pins s σ H x y v u Q I rx ry h
  cases x <;> cases y <;> first
    | exact False.elim h
    | exact op_modN pins s σ H _ _ v u Q I rx ry ⟨_, _, rfl, rfl, h.1, h.2⟩
def aPow : R2 := fun x y H Q => match x, y with
  | .int i, .int j => (0 ≤ j ∧ j ≤ 1000000 ∧ i.natAbs < 2 ^ 64) ∧ Q (.int (i ^ j.toNat)) H
  | _, _ => False
theorem oa_pow : OpR X (binaryOp .Pow) aPow := by
  intro pins s σ H x y v u Q I rx ry h
  cases x <;> cases y <;> first
    | exact False.elim h
    | exact op_pow pins s σ H _ _ v u Q I rx ry ⟨_, _, rfl, rfl, h.1, h.2⟩
def aNeg : V → Hp → VK → Prop := fun x H Q => match x with
  | .int i => Q (.int (-i)) H
  | _ => False
theorem oa_neg : UnR X (unaryOp .USub) aNeg := by
  intro pins s σ H x v Q I rx h
  cases x <;> first
    | exact False.elim h
    | exact un_neg pins s σ H _ v Q I rx ⟨_, rfl, h⟩
/-! ### comparisons -/
def aEq (K : PySem.W.Frag) : R2 := fun x y H Q => match x, y with
  | .ref a, .ref b => rEqD K (.ref a) (.ref b) H Q
  | x, y => scal x y = true ∧ Q (.bl (decide (x = y))) H
theorem oa_eq (hu : X.A.units + 64 < cLine) : OpR X (compareOp .Eq) (aEq X.K) := by
  intro pins s σ H x y v u Q I rx ry h
  by_cases e : ∃ a b, x = .ref a ∧ y = .ref b
  · obtain ⟨a, b, rfl, rfl⟩ := e
    exact op_eqD hu pins s σ H _ _ v u Q I rx ry h
  · have h' : scal x y = true ∧ Q (.bl (decide (x = y))) H := by
      cases x <;> cases y <;> first
        | exact h
        | exact absurd ⟨_, _, rfl, rfl⟩ e
    exact op_eq pins s σ H _ _ v u Q I rx ry h'
def aNe (K : PySem.W.Frag) : R2 := fun x y H Q => match x, y with
  | .ref a, .ref b => rNeD K (.ref a) (.ref b) H Q
  | x, y => scal x y = true ∧ Q (.bl (!decide (x = y))) H
theorem oa_ne (hu : X.A.units + 64 < cLine) : OpR X (compareOp .NotEq) (aNe X.K) := by
  intro pins s σ H x y v u Q I rx ry h
  by_cases e : ∃ a b, x = .ref a ∧ y = .ref b
  · obtain ⟨a, b, rfl, rfl⟩ := e
    exact op_neD hu pins s σ H _ _ v u Q I rx ry h
  · have h' : scal x y = true ∧ Q (.bl (!decide (x = y))) H := by
      cases x <;> cases y <;> first
        | exact h
        | exact absurd ⟨_, _, rfl, rfl⟩ e
    exact op_ne pins s σ H _ _ v u Q I rx ry h'
def aCmp (p : Int → Int → Bool) : R2 := fun x y H Q => match x, y with
  | .int i, .int j => Q (.bl (p i j)) H
  | _, _ => False
theorem oa_cmp {op : CmpOp} {p : Int → Int → Bool} (h0 : OpR X (compareOp op) (rI0 fun i j => .bl (p i j))) : OpR X (compareOp op) (aCmp p) := by
  intro pins s σ H x y v u Q I rx ry h
  cases x <;> cases y <;> first
    | exact False.elim h
    | exact h0 pins s σ H _ _ v u Q I rx ry ⟨_, _, rfl, rfl, h⟩
abbrev aLt : R2 := aCmp fun i j => decide (i < j)
abbrev aLe : R2 := aCmp fun i j => decide (i ≤ j)
abbrev aGt : R2 := aCmp fun i j => decide (j < i)
abbrev aGe : R2 := aCmp fun i j => decide (j ≤ i)
theorem oa_lt : OpR X (compareOp .Lt) aLt := oa_cmp op_lt
theorem oa_le : OpR X (compareOp .LtE) aLe := oa_cmp op_le
theorem oa_gt : OpR X (compareOp .Gt) aGt := oa_cmp op_gt
theorem oa_ge : OpR X (compareOp .GtE) aGe := oa_cmp op_ge
/-- x is y: None, True, False on the right -/
def aIs : R2 := fun x y H Q => match y with
  | .non => Q (.bl (decide (x = .non))) H
  | .bl b => Q (.bl (decide (x = .bl b))) H
  | _ => False
theorem oa_is : OpR X (compareOp .Is) aIs := by
  intro pins s σ H x y v u Q I rx ry h
  cases y <;> first
    | exact False.elim h
    | exact op_isN pins s σ H _ _ v u Q I rx ry ⟨rfl, h⟩
    | exact op_isB pins s σ H _ _ v u Q I rx ry ⟨_, rfl, h⟩
def aIsnot : R2 := fun x y H Q => match y with
  | .non => Q (.bl (!decide (x = .non))) H
  | .bl b => Q (.bl (!decide (x = .bl b))) H
  | _ => False
theorem oa_isnot : OpR X (compareOp .IsNot) aIsnot := by
  intro pins s σ H x y v u Q I rx ry h
  cases y <;> first
    | exact False.elim h
    | exact op_notN pins s σ H _ _ v u Q I rx ry ⟨rfl, h⟩
    | exact op_isnotB pins s σ H _ _ v u Q I rx ry ⟨_, rfl, h⟩
/-! ### subscripts, slices, len -/
def aIx (K : PySem.W.Frag) : R2 := fun x y H Q => match x, y with
  | .str z, .int i => z.length ≤ sizeLine ∧ ∃ c, atI z.cps.toList i = some c ∧ Q (.str ⟨#[c]⟩) H
  | .ref p, .int i => ∃ xs v, (SqL K H p xs ∨ SqT K H p xs) ∧ atI xs i = some v ∧ Q v H
  | _, _ => False
theorem oa_ix : IxR X (aIx X.K) := by
  intro va sl pins s σ H x y v u Q I rx ry h hs
  cases x <;> cases y <;> first
    | exact False.elim h
    | (obtain ⟨h1, c, h2, q⟩ := h; exact ix_str va sl pins s σ H _ _ v u Q I rx ry ⟨_, _, _, rfl, rfl, h1, h2, q⟩ hs)
    | (obtain ⟨xs, w, h1 | h1, h2, q⟩ := h
       · exact ix_list va sl pins s σ H _ _ v u Q I rx ry ⟨_, _, _, _, rfl, rfl, h1, h2, q⟩ hs
       · exact ix_tup va sl pins s σ H _ _ v u Q I rx ry ⟨_, _, _, _, rfl, rfl, h1, h2, q⟩ hs)
def aLen (K : PySem.W.Frag) : List V → Hp → VK → Prop := fun xs H Q => match xs with
  | [.str z] => z.length ≤ sizeLine ∧ Q (.int z.length) H
  | [.ref p] => ∃ ys, (SqL K H p ys ∨ SqT K H p ys) ∧ Q (.int ys.length) H
  | _ => False
theorem ca_len : CallR X (.builtin "len") (aLen X.K) := by
  intro pins s σ H xs us Q I r h
  match xs, h with
  | [.str z], h => exact call_len_str pins s σ H _ us Q I r ⟨_, rfl, h.1, h.2⟩
  | [.ref p], ⟨ys, h1, q⟩ => exact call_len_seq pins s σ H _ us Q I r ⟨_, _, rfl, h1, q⟩
/-- int(x) of an int -/
def aInt : List V → Hp → VK → Prop := fun xs H Q => match xs with
  | [.int i] => Q (.int i) H
  | [.bl k] => Q (.int (if k then 1 else 0)) H
  | _ => False
theorem ca_int : CallR X (.type "int") aInt := by
  intro pins s σ H xs us Q I r h
  match xs, h with
  | [.int i], h => exact call_int1 pins s σ H _ us Q I r (.inl ⟨_, rfl, h⟩)
  | [.bl k], h => exact call_int1 pins s σ H _ us Q I r (.inr ⟨_, rfl, h⟩)
def aAbs : List V → Hp → VK → Prop := fun xs H Q => match xs with
  | [.int i] => Q (.int (i.natAbs : Int)) H
  | _ => False
theorem ca_abs : CallR X (.builtin "abs") aAbs := by
  intro pins s σ H xs us Q I r h
  match xs, h with
  | [.int i], h =>
    have e : (if i < 0 then -i else i) = (i.natAbs : Int) := by split <;> omega
    exact call_abs pins s σ H _ us Q I r ⟨_, rfl, by rw [e]; exact h⟩
/-- list(x) of a list or a tuple -/
def aList (K : PySem.W.Frag) : List V → Hp → VK → Prop := fun xs H Q => match xs with
  | [.ref p] => ∃ ys, (SqL K H p ys ∨ SqT K H p ys) ∧ ∀ l, H l = none → Q (.ref l) (upd H l (.lst ys))
  | _ => False
theorem ca_list : CallR X (.type "list") (aList X.K) := by
  intro pins s σ H xs us Q I r h
  match xs, h with
  | [.ref p], ⟨ys, h1, q⟩ => exact call_list_of pins s σ H _ us Q I r ⟨_, _, rfl, h1, q⟩
/-- tuple(x) of a list -/
def aTuple (K : PySem.W.Frag) : List V → Hp → VK → Prop := fun xs H Q => match xs with
  | [.ref p] => ∃ ys, ((SqL K H p ys ∧ ∀ l, H l = none → Q (.ref l) (upd H l (.tup ys))) ∨ (SqT K H p ys ∧ Q (.ref p) H))
  | _ => False
theorem ca_tuple : CallR X (.type "tuple") (aTuple X.K) := by
  intro pins s σ H xs us Q I r h
  match xs, h with
  | [.ref p], ⟨ys, h1⟩ => exact call_tuple_of pins s σ H _ us Q I r ⟨_, _, rfl, h1⟩
def aSl (K : PySem.W.Frag) : V → Option Int → Option Int → Hp → VK → Prop := fun x lo hi H Q => rSlL K x lo hi H Q ∨ (rSlA K x lo hi H Q ∨ rSlS x lo hi H Q)
theorem oa_sl : SlR X (aSl X.K) := sl_list.or (sl_tupA.or sl_str)
/-- max(a, b), min(a, b) of two ints; max(xs), min(xs) of a list of ints -/
def aMax (K : PySem.W.Frag) : List V → Hp → VK → Prop := fun xs H Q => match xs with
  | [.int i, .int j] => Q (.int (max i j)) H
  | [.ref p] => ∃ ns : List Int, SqL K H p (ns.map V.int) ∧ 0 < ns.length ∧ ∀ m, m ∈ ns → (∀ y, y ∈ ns → y ≤ m) → Q (.int m) H
  | _ => False
theorem ca_max (hc : X.calm = true) : CallR X (.builtin "max") (aMax X.K) := by
  intro pins s σ H xs us Q I r h
  match xs, h with
  | [.int i, .int j], h =>
    have e : (if j > i then j else i) = max i j := by split <;> omega
    exact call_max2 hc pins s σ H _ us Q I r ⟨_, _, rfl, by rw [e]; exact h⟩
  | [.ref p], ⟨ns, h1, h2, q⟩ => exact cr_max hc pins s σ H _ us Q I r ⟨_, _, rfl, h1, h2, q⟩
def aMin (K : PySem.W.Frag) : List V → Hp → VK → Prop := fun xs H Q => match xs with
  | [.int i, .int j] => Q (.int (min i j)) H
  | [.ref p] => ∃ ns : List Int, SqL K H p (ns.map V.int) ∧ 0 < ns.length ∧ ∀ m, m ∈ ns → (∀ y, y ∈ ns → m ≤ y) → Q (.int m) H
  | _ => False
theorem ca_min (hc : X.calm = true) : CallR X (.builtin "min") (aMin X.K) := by
  intro pins s σ H xs us Q I r h
  match xs, h with
  | [.int i, .int j], h =>
    have e : (if j < i then j else i) = min i j := by split <;> omega
    exact call_min2 hc pins s σ H _ us Q I r ⟨_, _, rfl, by rw [e]; exact h⟩
  | [.ref p], ⟨ns, h1, h2, q⟩ => exact cr_min hc pins s σ H _ us Q I r ⟨_, _, rfl, h1, h2, q⟩
/-- truth of any value: TruV -/
def tTr (K : PySem.W.Frag) (ta : TE) : TT := fun σ H Q => ta σ H fun x H' => match x with
  | .bl b => Q b H'
  | .int i => Q (i != 0) H'
  | .non => Q false H'
  | x => ∃ k, TruV K x H' k ∧ Q k H'
theorem pt_tr {a : Expr} {ta : TE} (ha : PE X a ta) (he : ∀ whole, isTrue a X.env whole = (do let v ← whole; standAt a.pos; holding [v] (truthy v)) := by intro _; rfl) : PT X a (tTr X.K ta) := by
  refine ⟨fun pins s σ H Q I hw => ?_⟩
  refine isTrue_plain (thn (ha.run pins s σ H _ I hw) fun v s1 ⟨x, H1, I1, r1, q1⟩ => ?_) (he _)
  refine tru_ok pins s1 σ H1 x v Q I1 r1 ?_
  cases x <;> first
    | exact q1
    | exact ⟨_, rfl, q1⟩
end
end L2
/-! Calls in short, what a reading comes to (s_*), the ledger of what may change (W). -/
namespace L2
open PySem PySem.Spec PyProof.Rows
/-! ### calls -/
/-- the def named x keeps the promise sp (it may let errors out) -/
def FnAt (P : Program) (w : World) (K : PySem.W.Frag) (mg : Str → Option Value) (base : Heap) (k : Nat) (x : Str) (ps : List Str) (sp : Sp) : Prop :=
  ∃ (f : Addr) (fd : FuncData), FnOk P w K mg base (L2.CX P w) k f fd ps sp ∧ mg x = some (.ref f) ∧ PySem.W.keepIn K (.ref f) = true ∧ Binds K fd ps []
section
variable {X : Cx} {k : Nat} {x : Str} {ps : List Str} {sp : Sp} {E : XK} {t : TA} {e : Expr} {es : List Expr} {p pos : Pos}
theorem pe_fn (C : FnAt X.prog X.w X.K X.mg X.base k x ps sp) (hr : Room k X.A) (hx : Passes (L2.CX X.prog X.w) X E) (ha : PA X (e :: es) t) (hg : Gl X x := by rfl) (hdb : (x == ("__debug__" : Str)) = false := by decide)
    (he : starEach (e :: es) X.env = (false, eval e X.env) :: starEach es X.env := by rfl) (hpl : (backTo pos (starEach es X.env)).any (·.1) = false := by rfl) : PE X (.Call (.Name x p) (e :: es) [] pos) (tCall sp [] E t) := by
  obtain ⟨f, fd, F, hm, hk, hb⟩ := C
  exact pe_call F hr hg hm hk hb .nil hx ha hdb he hpl
theorem pe_fn0 (C : FnAt X.prog X.w X.K X.mg X.base k x ps sp) (hr : Room k X.A) (hx : Passes (L2.CX X.prog X.w) X E) (hg : Gl X x := by rfl) (hdb : (x == ("__debug__" : Str)) = false := by decide) : PE X (.Call (.Name x p) [] [] pos) (tCall sp [] E tNil) := by
  obtain ⟨f, fd, F, hm, hk, hb⟩ := C
  exact pe_call0 F hr hg hm hk hb .nil hx hdb
/-- within a try -/
theorem pe_fnS {Eσ : St → XK} (C : FnAt X.prog X.w X.K X.mg X.base k x ps sp) (hr : Room k X.A) (hx : ∀ σ, PassesAt (L2.CX X.prog X.w) X σ (Eσ σ)) (ha : PA X (e :: es) t) (hg : Gl X x := by rfl) (hdb : (x == ("__debug__" : Str)) = false := by decide)
    (he : starEach (e :: es) X.env = (false, eval e X.env) :: starEach es X.env := by rfl) (hpl : (backTo pos (starEach es X.env)).any (·.1) = false := by rfl) : PE X (.Call (.Name x p) (e :: es) [] pos) (tCallS sp Eσ t) := by
  obtain ⟨f, fd, F, hm, hk, hb⟩ := C
  exact pe_callS F hr hg hm hk hb hx ha hdb he hpl
/-- a def whose errors go out of the def that calls it -/
theorem passE {W : WX} (tk : Takes X W) (hW : ∀ c d σ H, E c d H → W c d σ H) : Passes (L2.CX X.prog X.w) X E := passes_call tk hW
theorem FnAt.of {P : Program} {w : World} {K : PySem.W.Frag} {mg : Str → Option Value} {base : Heap} {x : Str} {st : Stmt} {f : Addr} {fd : FuncData} {ps : List Str} {k : Nat} {sp : Sp} (F : Fun K x x st f fd) (hm : mg x = some (.ref f)) (h : FnOk P w K mg base (L2.CX P w) k f fd ps sp)
    (hb : Binds K fd ps []) : FnAt P w K mg base k x ps sp := ⟨f, fd, h, hm, F.kp, hb⟩
/-! ### statements in short -/
/-- x = e -/
theorem ps_st (i : Nat) {y : Str} {te : TE} {pos' : Pos} (hN : X.N.Nodup) (he : PE X e te) (hi : X.N[i]? = some y := by rfl) (hx : Loc X.env.scope y := by first | exact Or.inl rfl | exact Or.inr rfl) (hs : swapsWith e (some (.Name y pos')) pos.line X.env = pure false := by rfl) (hf : X.fn y = true ∨ X.env.scope.names.lookup y = some .local := by first | exact .inl rfl | exact .inr rfl) :
    PS X (.Assign [.Name y pos'] e pos) (tAsg te (gName i)) := ps_set hN hi hx he hs hf
/-- a target that is the name in slot i -/
theorem pg_n (i : Nat) {y : Str} (hN : X.N.Nodup) (hi : X.N[i]? = some y := by rfl) (hx : Loc X.env.scope y := by first | exact Or.inl rfl | exact Or.inr rfl) (hf : X.fn y = true ∨ X.env.scope.names.lookup y = some .local := by first | exact .inl rfl | exact .inr rfl) : PG X (.Name y pos) (gName i) := pg_name hN hi hx hf
/-- what a for walks: a list or a tuple -/
def iSeq (K : PySem.W.Frag) (tl : TE) : TI := fun σ H R => tl σ H fun x H1 => ∃ a, x = .ref a ∧ ((∃ xs, SqL K H1 a xs) ∧ R (Itl K a) H1 ∨ (∃ xs, SqT K H1 a xs) ∧ R (Itt K a) H1)
theorem pi_seq {tg l : Expr} {tl : TE} (hl : PE X l tl) : PI X tg l (iSeq X.K tl) := by
  refine ⟨fun pins s σ H R I h => ?_⟩
  refine thn (hl.run pins s σ H _ I h) fun v s1 ⟨x, H1, I1, r1, q1⟩ => ?_
  obtain ⟨a, rfl, ⟨⟨xs, hq⟩, q⟩ | ⟨⟨xs, hq⟩, q⟩⟩ := q1
  · cases r1
    obtain ⟨its, rv, p, hz⟩ := I1.list hq
    refine wpAny_pyIter_list p.isList ?_
    refine ⟨s1.heap.objs.size, [s1.heap.objs.size], _, _, H1, rfl, I1.kept (t' := s1.toks) fun b o e => Heap.get?_push_of_some _ e, turn_list a _, ⟨_, Heap.get?_push_size _ rfl, rfl, rfl⟩, fun b hb => ?_, q⟩
    have e : b = s1.heap.objs.size := by simpa using hb
    subst e
    exact I1.fpOk (Nat.le_refl _) (I1.hok.fresh (Nat.le_refl _))
  · cases r1
    obtain ⟨its, rv, p, hz⟩ := I1.tuple hq
    refine wpAny_pyIter_tuple (show s1.heap.IsTuple a its.toArray from p) ?_
    refine ⟨s1.heap.objs.size, [s1.heap.objs.size], _, _, H1, rfl, I1.kept (t' := s1.toks) fun b o e => Heap.get?_push_of_some _ e, turn_tuple a _, ⟨_, Heap.get?_push_size _ rfl, rfl, rfl⟩, fun b hb => ?_, q⟩
    have e : b = s1.heap.objs.size := by simpa using hb
    subst e
    exact I1.fpOk (Nat.le_refl _) (I1.hok.fresh (Nat.le_refl _))
end
/-! ### what a reading comes to -/
section
variable {K : PySem.W.Frag} {t u : TS} {te ta tb tc : TE} {tt c tA tB' : TT} {g : TG} {D : Ends} {σ : St} {H : Hp} {Q : VK} {QT : Bool → Hp → Prop} {QA : List V → Hp → Prop} {QG : St → Hp → Prop} {i j : Nat} {v x y : V} {r r' : R2} {tr : TA} {gs : TGs}
theorem s_seq : tSeq t u D σ H = t { D with nx := u D } σ H := rfl
theorem s_next : tNext D σ H = D.nx σ H := rfl
theorem s_brk : tBreak D σ H = D.bk σ H := rfl
theorem s_cont : tCont D σ H = D.ct σ H := rfl
theorem s_drop : tDrop te D σ H = te σ H (fun _ H1 => D.nx σ H1) := rfl
theorem s_ret : tRet te D σ H = te σ H D.rt := rfl
theorem s_retN : tRetN D σ H = D.rt .non H := rfl
/-- the ways behind an if: not opened before it is known which -/
def tBr (t u : TS) (D : Ends) (σ : St) (b : Bool) (H : Hp) : Prop := if b = true then t D σ H else u D σ H
theorem s_ifS : tIfS c t u D σ H = c σ H (fun b H1 => tBr t u D σ b H1) := rfl
theorem s_br1 : tBr t u D σ true H = t D σ H := rfl
theorem s_br0 : tBr t u D σ false H = u D σ H := rfl
theorem w_br {p : Prop} [Decidable p] (h1 : p → t D σ H) (h2 : ¬ p → u D σ H) : tBr t u D σ (decide p) H := by
  by_cases h : p
  · rw [decide_eq_true h]; exact h1 h
  · rw [decide_eq_false h]; exact h2 h
theorem w_brN {p : Prop} [Decidable p] (h1 : ¬ p → t D σ H) (h2 : p → u D σ H) : tBr t u D σ (!decide p) H := by
  by_cases h : p
  · rw [decide_eq_true h]; exact h2 h
  · rw [decide_eq_false h]; exact h1 h
theorem w_brB {b : Bool} (h1 : b = true → t D σ H) (h2 : b = false → u D σ H) : tBr t u D σ b H := by
  cases b with
  | true => exact h1 rfl
  | false => exact h2 rfl
theorem w_brNB {b : Bool} (h1 : b = false → t D σ H) (h2 : b = true → u D σ H) : tBr t u D σ (!b) H := by
  cases b with
  | true => exact h2 rfl
  | false => exact h1 rfl
/-- a store behind an evaluation: not opened before the value's kind is known -/
def tAs (g : TG) (D : Ends) (σ : St) (x : V) (H : Hp) : Prop := g x σ H D.nx
theorem s_asg : tAsg te g D σ H = te σ H (fun x H1 => tAs g D σ x H1) := rfl
theorem s_asV : tAs g D σ x H = g x σ H D.nx := rfl
theorem s_asI {a : Int} : tAs g D σ (.int a) H = g (.int a) σ H D.nx := rfl
theorem s_asB {a : Bool} : tAs g D σ (.bl a) H = g (.bl a) σ H D.nx := rfl
theorem s_asN : tAs g D σ .non H = g .non σ H D.nx := rfl
theorem s_asS {a : Str} : tAs g D σ (.str a) H = g (.str a) σ H D.nx := rfl
theorem s_asR {a : Addr} : tAs g D σ (.ref a) H = g (.ref a) σ H D.nx := rfl
theorem s_gName : gName i v σ H QG = QG (σ.set i (some v)) H := rfl
theorem s_gSub {ts : TSet} : gSub ta tb ts v σ H QG = ta σ H (fun o H1 => tb σ H1 (fun i H2 => ts o i v H2 (fun H3 => QG σ H3))) := rfl
theorem s_gNil {vs : List V} : gNil vs σ H QG = (vs = [] ∧ QG σ H) := rfl
theorem s_gCons {vs : List V} : gCons g gs vs σ H QG = ∃ v r, vs = v :: r ∧ g v σ H (fun σ' H' => gs r σ' H' QG) := rfl
theorem s_var : tVar i σ H Q = ∃ v, σ[i]? = some (some v) ∧ Q v H := rfl
theorem s_C : tC v σ H Q = Q v H := rfl
theorem s_op : tOp r ta tb σ H Q = ta σ H (fun x H1 => tb σ H1 (fun y H2 => r x y H2 Q)) := rfl
theorem s_un {ru : V → Hp → VK → Prop} : tUn ru ta σ H Q = ta σ H (fun x H1 => ru x H1 Q) := rfl
theorem s_chain : tChain r r' ta tb tc σ H Q = ta σ H (fun x H1 => tb σ H1 (fun y H2 => r x y H2 (fun z H3 => ∃ k, z = .bl k ∧ (if k = true then tc σ H3 (fun w' H4 => r' y w' H4 Q) else Q (.bl false) H3)))) := rfl
theorem s_test : tTest te σ H QT = te σ H (fun x H' => ∃ k, x = .bl k ∧ QT k H') := rfl
theorem s_B : tB te σ H QT = te σ H (fun x H' => ∃ k, x = .bl k ∧ QT k H') := rfl
/-- and, or: the second part -/
def aB (tB' : TT) (σ : St) (QT : Bool → Hp → Prop) (b : Bool) (H : Hp) : Prop := if b = true then tB' σ H QT else QT false H
def oB (tB' : TT) (σ : St) (QT : Bool → Hp → Prop) (b : Bool) (H : Hp) : Prop := if b = true then QT true H else tB' σ H QT
theorem s_and : tAnd tA tB' σ H QT = tA σ H (fun c H1 => aB tB' σ QT c H1) := rfl
theorem s_or : tOr tA tB' σ H QT = tA σ H (fun c H1 => oB tB' σ QT c H1) := rfl
theorem s_aB1 : aB tB' σ QT true H = tB' σ H QT := rfl
theorem s_aB0 : aB tB' σ QT false H = QT false H := rfl
theorem s_oB1 : oB tB' σ QT true H = QT true H := rfl
theorem s_oB0 : oB tB' σ QT false H = tB' σ H QT := rfl
theorem w_aB {p : Prop} [Decidable p] (h1 : p → tB' σ H QT) (h2 : ¬ p → QT false H) : aB tB' σ QT (decide p) H := by
  by_cases h : p
  · rw [decide_eq_true h]; exact h1 h
  · rw [decide_eq_false h]; exact h2 h
theorem w_aBN {p : Prop} [Decidable p] (h1 : ¬ p → tB' σ H QT) (h2 : p → QT false H) : aB tB' σ QT (!decide p) H := by
  by_cases h : p
  · rw [decide_eq_true h]; exact h2 h
  · rw [decide_eq_false h]; exact h1 h
theorem w_aBB {b : Bool} (h1 : b = true → tB' σ H QT) (h2 : b = false → QT false H) : aB tB' σ QT b H := by
  cases b with
  | true => exact h1 rfl
  | false => exact h2 rfl
theorem w_oB {p : Prop} [Decidable p] (h1 : p → QT true H) (h2 : ¬ p → tB' σ H QT) : oB tB' σ QT (decide p) H := by
  by_cases h : p
  · rw [decide_eq_true h]; exact h1 h
  · rw [decide_eq_false h]; exact h2 h
theorem w_oBN {p : Prop} [Decidable p] (h1 : ¬ p → QT true H) (h2 : p → tB' σ H QT) : oB tB' σ QT (!decide p) H := by
  by_cases h : p
  · rw [decide_eq_true h]; exact h2 h
  · rw [decide_eq_false h]; exact h1 h
theorem w_oBB {b : Bool} (h1 : b = true → QT true H) (h2 : b = false → tB' σ H QT) : oB tB' σ QT b H := by
  cases b with
  | true => exact h1 rfl
  | false => exact h2 rfl
theorem s_not : tNot tA σ H QT = tA σ H (fun c H1 => QT (!c) H1) := rfl
/-- .. as values -/
def aE (tb : TE) (σ : St) (Q : VK) (x : V) (H : Hp) : Prop := ∃ c, x = .bl c ∧ if c = true then tb σ H Q else Q (.bl false) H
def oE (tb : TE) (σ : St) (Q : VK) (x : V) (H : Hp) : Prop := ∃ c, x = .bl c ∧ if c = true then Q (.bl true) H else tb σ H Q
theorem s_andV : tAndV ta tb σ H Q = ta σ H (fun x H1 => aE tb σ Q x H1) := rfl
theorem s_orV : tOrV ta tb σ H Q = ta σ H (fun x H1 => oE tb σ Q x H1) := rfl
theorem s_aE1 : aE tb σ Q (.bl true) H = tb σ H Q := propext ⟨fun ⟨c, e, h⟩ => by cases e; exact h, fun h => ⟨true, rfl, h⟩⟩
theorem s_aE0 : aE tb σ Q (.bl false) H = Q (.bl false) H := propext ⟨fun ⟨c, e, h⟩ => by cases e; exact h, fun h => ⟨false, rfl, h⟩⟩
theorem s_oE1 : oE tb σ Q (.bl true) H = Q (.bl true) H := propext ⟨fun ⟨c, e, h⟩ => by cases e; exact h, fun h => ⟨true, rfl, h⟩⟩
theorem s_oE0 : oE tb σ Q (.bl false) H = tb σ H Q := propext ⟨fun ⟨c, e, h⟩ => by cases e; exact h, fun h => ⟨false, rfl, h⟩⟩
theorem w_aE {p : Prop} [Decidable p] (h1 : p → tb σ H Q) (h2 : ¬ p → Q (.bl false) H) : aE tb σ Q (.bl (decide p)) H := by
  by_cases h : p
  · rw [decide_eq_true h, s_aE1]; exact h1 h
  · rw [decide_eq_false h, s_aE0]; exact h2 h
theorem w_aEB {b : Bool} (h1 : b = true → tb σ H Q) (h2 : b = false → Q (.bl false) H) : aE tb σ Q (.bl b) H := by
  cases b with
  | true => rw [s_aE1]; exact h1 rfl
  | false => rw [s_aE0]; exact h2 rfl
theorem w_oE {p : Prop} [Decidable p] (h1 : p → Q (.bl true) H) (h2 : ¬ p → tb σ H Q) : oE tb σ Q (.bl (decide p)) H := by
  by_cases h : p
  · rw [decide_eq_true h, s_oE1]; exact h1 h
  · rw [decide_eq_false h, s_oE0]; exact h2 h
theorem w_oEB {b : Bool} (h1 : b = true → Q (.bl true) H) (h2 : b = false → tb σ H Q) : oE tb σ Q (.bl b) H := by
  cases b with
  | true => rw [s_oE1]; exact h1 rfl
  | false => rw [s_oE0]; exact h2 rfl
def nE (Q : VK) (x : V) (H : Hp) : Prop := ∃ c, x = .bl c ∧ Q (.bl (!c)) H
theorem s_notV : tNotV ta σ H Q = ta σ H (fun x H1 => nE Q x H1) := rfl
theorem s_nE {b : Bool} : nE Q (.bl b) H = Q (.bl (!b)) H := propext ⟨fun ⟨c, e, h⟩ => by cases e; exact h, fun h => ⟨b, rfl, h⟩⟩
def iE (ta tb : TE) (σ : St) (Q : VK) (c : Bool) (H : Hp) : Prop := if c = true then ta σ H Q else tb σ H Q
theorem s_if : tIf tt ta tb σ H Q = tt σ H (fun c H1 => iE ta tb σ Q c H1) := rfl
theorem s_iE1 : iE ta tb σ Q true H = ta σ H Q := rfl
theorem s_iE0 : iE ta tb σ Q false H = tb σ H Q := rfl
theorem w_iE {p : Prop} [Decidable p] (h1 : p → ta σ H Q) (h2 : ¬ p → tb σ H Q) : iE ta tb σ Q (decide p) H := by
  by_cases h : p
  · rw [decide_eq_true h]; exact h1 h
  · rw [decide_eq_false h]; exact h2 h
theorem w_iEB {b : Bool} (h1 : b = true → ta σ H Q) (h2 : b = false → tb σ H Q) : iE ta tb σ Q b H := by
  cases b with
  | true => exact h1 rfl
  | false => exact h2 rfl
/-- truth -/
def trV (K : PySem.W.Frag) (QT : Bool → Hp → Prop) (x : V) (H : Hp) : Prop := match x with
  | .bl b => QT b H
  | .int i => QT (i != 0) H
  | .non => QT false H
  | x => ∃ k, TruV K x H k ∧ QT k H
theorem s_tr : tTr K ta σ H QT = ta σ H (fun x H' => trV K QT x H') := rfl
theorem s_trB {b : Bool} : trV K QT (.bl b) H = QT b H := rfl
theorem s_trI {a : Int} : trV K QT (.int a) H = QT (a != 0) H := rfl
theorem s_trN : trV K QT .non H = QT false H := rfl
theorem w_trL {p : Addr} {xs : List V} (h : SqL K H p xs) (q : QT (!xs.isEmpty) H) : trV K QT (.ref p) H := ⟨_, .inl ⟨xs, h, rfl⟩, q⟩
theorem w_trT {p : Addr} {xs : List V} (h : SqT K H p xs) (q : QT (!xs.isEmpty) H) : trV K QT (.ref p) H := ⟨_, .inr (.inl ⟨xs, h, rfl⟩), q⟩
theorem s_nil : tNil σ H QA = QA [] H := rfl
theorem s_cons : tCons ta tr σ H QA = ta σ H (fun x H1 => tr σ H1 (fun xs H2 => QA (x :: xs) H2)) := rfl
theorem s_CB {rc : List V → Hp → VK → Prop} : tCB rc tr σ H Q = tr σ H (fun vs H1 => rc vs H1 Q) := rfl
theorem s_call {sp : Sp} {dvs : List V} {E : XK} : tCall sp dvs E tr σ H Q = tr σ H (fun vs H1 => sp (vs ++ dvs) H1 Q E) := rfl
theorem s_callS {sp : Sp} {E : St → XK} : tCallS sp E tr σ H Q = tr σ H (fun vs H1 => sp vs H1 Q (E σ)) := rfl
theorem s_sl {rs : V → Option Int → Option Int → Hp → VK → Prop} {tl th : TO} : tSl rs te tl th σ H Q = te σ H (fun x H1 => tl σ H1 (fun l H2 => th σ H2 (fun u H3 => rs x l u H3 Q))) := rfl
theorem s_part {QO : Option Int → Hp → Prop} : tPart te σ H QO = te σ H (fun x H1 => ∃ i, x = .int i ∧ QO (some i) H1) := rfl
theorem s_noPart {QO : Option Int → Hp → Prop} : tNoPart σ H QO = QO none H := rfl
theorem s_BM0 {T : String} {rm : V → List V → Hp → VK → Prop} : tBM0 K T rm te σ H Q = te σ H (fun x H1 => tyV K T x H1 ∧ rm x [] H1 Q) := rfl
theorem s_BM {T : String} {rm : V → List V → Hp → VK → Prop} : tBM K T rm te tr σ H Q = te σ H (fun x H1 => tyV K T x H1 ∧ tr σ H1 (fun xs H2 => rm x xs H2 Q)) := rfl
variable {a b : Int} {k : Bool}
theorem v_addI : aAdd K (.int a) (.int b) H Q = Q (.int (a + b)) H := rfl
theorem v_subI : aSub (.int a) (.int b) H Q = Q (.int (a - b)) H := rfl
theorem v_mulI : aMul K (.int a) (.int b) H Q = (IntMulOk a b ∧ Q (.int (a * b)) H) := rfl
theorem v_divI (h : 0 < b) (h9 : b.natAbs.log2 < 9000) : aDiv (.int a) (.int b) H Q = Q (.int (a / b)) H := by
  show (b ≠ 0 ∧ b.natAbs.log2 < 9000 ∧ Q (.int (a.fdiv b)) H) = _
  rw [Int.fdiv_eq_ediv_of_nonneg a (by omega)]
  exact propext ⟨fun h => h.2.2, fun q => ⟨by omega, h9, q⟩⟩
theorem v_modI (h : 0 < b) : aMod (.int a) (.int b) H Q = Q (.int (a % b)) H := by
  show (b ≠ 0 ∧ Q (.int (a.fmod b)) H) = _
  rw [Int.fmod_eq_emod_of_nonneg a (by omega)]
  exact propext ⟨fun h => h.2, fun q => ⟨by omega, q⟩⟩
theorem v_powI (h0 : 0 ≤ b) (h1 : b ≤ 1000000) (h2 : a.natAbs < 18446744073709551616) : aPow (.int a) (.int b) H Q = Q (.int (a ^ b.toNat)) H := by
  show ((0 ≤ b ∧ b ≤ 1000000 ∧ a.natAbs < 2 ^ 64) ∧ Q (.int (a ^ b.toNat)) H) = _
  exact propext ⟨fun h => h.2, fun q => ⟨⟨h0, h1, h2⟩, q⟩⟩
theorem v_negI : aNeg (.int a) H Q = Q (.int (-a)) H := rfl
theorem v_cmp {p : Int → Int → Bool} : aCmp p (.int a) (.int b) H Q = Q (.bl (p a b)) H := rfl
theorem v_eqI : aEq K (.int a) (.int b) H Q = Q (.bl (decide (a = b))) H := by
  show (true = true ∧ Q (.bl (decide (V.int a = V.int b))) H) = _
  simp
theorem v_neI : aNe K (.int a) (.int b) H Q = Q (.bl (!decide (a = b))) H := by
  show (true = true ∧ Q (.bl (!decide (V.int a = V.int b))) H) = _
  simp
theorem v_isN : aIs x .non H Q = Q (.bl (decide (x = .non))) H := rfl
theorem v_isB : aIs x (.bl k) H Q = Q (.bl (decide (x = .bl k))) H := rfl
theorem v_isnotN : aIsnot x .non H Q = Q (.bl (!decide (x = .non))) H := rfl
theorem v_isnotB : aIsnot x (.bl k) H Q = Q (.bl (!decide (x = .bl k))) H := rfl
theorem v_int : aInt [.int a] H Q = Q (.int a) H := rfl
theorem v_abs : aAbs [.int a] H Q = Q (.int (a.natAbs : Int)) H := rfl
theorem v_max2 : aMax K [.int a, .int b] H Q = Q (.int (max a b)) H := rfl
theorem v_min2 : aMin K [.int a, .int b] H Q = Q (.int (min a b)) H := rfl
variable {p q : Addr} {xs ys : List V}
theorem w_ixL {w : V} (h : SqL K H p xs) (e : atI xs a = some w) (hq : Q w H) : aIx K (.ref p) (.int a) H Q := ⟨xs, w, .inl h, e, hq⟩
theorem w_ixT {w : V} (h : SqT K H p xs) (e : atI xs a = some w) (hq : Q w H) : aIx K (.ref p) (.int a) H Q := ⟨xs, w, .inr h, e, hq⟩
theorem w_lenL (h : SqL K H p xs) (hq : Q (.int xs.length) H) : aLen K [.ref p] H Q := ⟨xs, .inl h, hq⟩
theorem w_lenT (h : SqT K H p xs) (hq : Q (.int xs.length) H) : aLen K [.ref p] H Q := ⟨xs, .inr h, hq⟩
theorem w_list (h : SqL K H p xs ∨ SqT K H p xs) (hq : ∀ l, H l = none → Q (.ref l) (upd H l (.lst xs))) : aList K [.ref p] H Q := ⟨xs, h, hq⟩
theorem w_set {v : V} {QS : Hp → Prop} {jj : Nat} {kk : Int} (h : H p = some (.lst xs)) (e : ixN xs.length kk = some jj) (hq : QS (upd H p (.lst (xs.set jj v)))) : rSetL (.ref p) (.int kk) v H QS := ⟨p, xs, kk, jj, rfl, rfl, h, e, hq⟩
theorem w_app {v : V} (h : H p = some (.lst xs)) (hz : xs.length < sizeLine) (hq : Q .non (upd H p (.lst (xs ++ [v])))) : tyV K "list" (.ref p) H ∧ rAppend (.ref p) [v] H Q :=
  ⟨.inl ⟨rfl, _, SqL.of h⟩, p, xs, v, rfl, rfl, h, hz, hq⟩
theorem w_lst (hz : xs.length ≤ sizeLine) (hq : ∀ p, H p = none → Q (.ref p) (upd H p (.lst xs))) : xs.length ≤ sizeLine ∧ ∀ p, H p = none → Q (.ref p) (upd H p (.lst xs)) := ⟨hz, hq⟩
theorem s_lst : tLst tr σ H Q = tr σ H (fun xs H1 => xs.length ≤ sizeLine ∧ ∀ p, H1 p = none → Q (.ref p) (upd H1 p (.lst xs))) := rfl
theorem s_tup : tTup tr σ H Q = tr σ H (fun xs H1 => xs.length ≤ sizeLine ∧ ∀ p, H1 p = none → Q (.ref p) (upd H1 p (.tup xs))) := rfl
/-! ### loops -/
/-- a for over what J walks -/
def forJ (J : It) (g : TG) (tb : TS) (D : Ends) (σ : St) (H : Hp) : Prop := ∃ W : Nat → Nat → St → Hp → Prop, (∃ m, W 0 m σ H) ∧ ∀ i m σ H, W i m σ H →
  (J.stop i H ∧ D.nx σ H) ∨ (J.go i H ∧ ∃ N : St → Hp → Prop, (∀ σ' H', N σ' H' → ∃ m', m' < m ∧ W (i + 1) m' σ' H') ∧ ∀ x H', J.yld i H x H' → g x σ H' fun σ2 H2 => tb { D with nx := N, ct := N, bk := D.nx } σ2 H2)
theorem s_for {wi : TI} : tFor wi g t D σ H = wi σ H (fun J H1 => forJ J g t D σ H1) := rfl
/-- a list comprehension over what J walks -/
def lcJ (J : It) (g : TG) (tt : TT) (te : TE) (vs : List Nat) (σ : St) (Q : VK) (H1 : Hp) : Prop := ∀ D, H1 D = none → ∃ W : Nat → Nat → Hp → Prop, (∃ m, W 0 m (upd H1 D (.lst []))) ∧ ∀ i m H, W i m H →
  (J.stop i H ∧ Q (.ref D) H) ∨ (J.go i H ∧ ∃ Nx : Hp → Prop, (∀ H', Nx H' → ∃ m', m' < m ∧ W (i + 1) m' H') ∧ ∀ x H', J.yld i H x H' → g x (wipe σ vs) H' fun σ2 H2 => wipe σ2 vs = wipe σ vs ∧ tt σ2 H2 fun b H3 =>
    if b = true then te σ2 H3 fun y H4 => ∃ acc, H4 D = some (.lst acc) ∧ acc.length < sizeLine ∧ Nx (upd H4 D (.lst (acc ++ [y]))) else Nx H3)
theorem s_lc {wi : TI} {vs : List Nat} : tLc wi g tt te vs σ H Q = wi σ H (fun J H1 => lcJ J g tt te vs σ Q H1) := rfl
def rg1 (vs : List V) (H : Hp) (R : It → Hp → Prop) : Prop := ∃ j : Int, vs = [.int j] ∧ -(2 ^ 62) ≤ j ∧ j < 2 ^ 62 ∧ R (Itr 0 j.toNat) H
def rg2 (vs : List V) (H : Hp) (R : It → Hp → Prop) : Prop := ∃ i j : Int, vs = [.int i, .int j] ∧ (-(2 ^ 62) ≤ i ∧ i < 2 ^ 62 ∧ -(2 ^ 62) ≤ j ∧ j < 2 ^ 62) ∧ R (Itr i (j - i).toNat) H
def rg3 (vs : List V) (H : Hp) (R : It → Hp → Prop) : Prop := ∃ (i j c : Int) (n : Nat), vs = [.int i, .int j, .int c] ∧ RgC i j c n ∧ R (Itc i c n) H
def enm (K : PySem.W.Frag) (vs : List V) (H : Hp) (R : It → Hp → Prop) : Prop := ∃ a xs, vs = [.ref a] ∧ SqL K H a xs ∧ R (Ite K a) H
def zpp (K : PySem.W.Frag) (vs : List V) (H : Hp) (R : It → Hp → Prop) : Prop := ∃ a b xs ys, vs = [.ref a, .ref b] ∧ SqL K H a xs ∧ SqL K H b ys ∧ R (Itz K a b) H
def sqq (K : PySem.W.Frag) (x : V) (H : Hp) (R : It → Hp → Prop) : Prop := ∃ a, x = .ref a ∧ ((∃ xs, SqL K H a xs) ∧ R (Itl K a) H ∨ (∃ xs, SqT K H a xs) ∧ R (Itt K a) H)
variable {R : It → Hp → Prop}
theorem s_rng1 : iRng1 tr σ H R = tr σ H (fun vs H1 => rg1 vs H1 R) := rfl
theorem s_rng2 : iRng2 tr σ H R = tr σ H (fun vs H1 => rg2 vs H1 R) := rfl
theorem s_rng3 : iRng3 tr σ H R = tr σ H (fun vs H1 => rg3 vs H1 R) := rfl
theorem s_enum : iEnum K tr σ H R = tr σ H (fun vs H1 => enm K vs H1 R) := rfl
theorem s_zip : iZip K tr σ H R = tr σ H (fun vs H1 => zpp K vs H1 R) := rfl
theorem s_seqI : iSeq K te σ H R = te σ H (fun x H1 => sqq K x H1 R) := rfl
theorem w_rg1 {j : Int} (h1 : -4611686018427387904 ≤ j) (h2 : j < 4611686018427387904) (q : R (Itr 0 j.toNat) H) : rg1 [.int j] H R := ⟨j, rfl, h1, h2, q⟩
theorem w_rg2 {i j : Int} (h1 : -4611686018427387904 ≤ i) (h2 : i < 4611686018427387904) (h3 : -4611686018427387904 ≤ j) (h4 : j < 4611686018427387904) (q : R (Itr i (j - i).toNat) H) : rg2 [.int i, .int j] H R := ⟨i, j, rfl, ⟨h1, h2, h3, h4⟩, q⟩
theorem w_enum {a : Addr} {xs : List V} (h : SqL K H a xs) (q : R (Ite K a) H) : enm K [.ref a] H R := ⟨a, xs, rfl, h, q⟩
theorem w_zip {a b : Addr} {xs ys : List V} (h : SqL K H a xs) (h' : SqL K H b ys) (q : R (Itz K a b) H) : zpp K [.ref a, .ref b] H R := ⟨a, b, xs, ys, rfl, h, h', q⟩
theorem w_sqL {a : Addr} {xs : List V} (h : SqL K H a xs) (q : R (Itl K a) H) : sqq K (.ref a) H R := ⟨a, rfl, .inl ⟨⟨xs, h⟩, q⟩⟩
theorem w_sqT {a : Addr} {xs : List V} (h : SqT K H a xs) (q : R (Itt K a) H) : sqq K (.ref a) H R := ⟨a, rfl, .inr ⟨⟨xs, h⟩, q⟩⟩
theorem w_forR {lo : Int} {n : Nat} (Pv : Nat → St → Hp → Prop) (h0 : Pv 0 σ H)
    (hs : ∀ i σ H, i < n → Pv i σ H → g (.int (lo + i)) σ H fun σ2 H2 => t { D with nx := Pv (i + 1), ct := Pv (i + 1), bk := D.nx } σ2 H2) (hd : ∀ σ H, Pv n σ H → D.nx σ H) : forJ (Itr lo n) g t D σ H := for_range Pv h0 hs hd
theorem w_forC {lo c : Int} {n : Nat} (Pv : Nat → St → Hp → Prop) (h0 : Pv 0 σ H)
    (hs : ∀ i σ H, i < n → Pv i σ H → g (.int (lo + (i : Nat) * c)) σ H fun σ2 H2 => t { D with nx := Pv (i + 1), ct := Pv (i + 1), bk := D.nx } σ2 H2) (hd : ∀ σ H, Pv n σ H → D.nx σ H) : forJ (Itc lo c n) g t D σ H := for_rangeC Pv h0 hs hd
theorem w_forL {a : Addr} {xs : List V} (Pv : Nat → St → Hp → Prop) (h0 : Pv 0 σ H) (hl : ∀ i σ H, i ≤ xs.length → Pv i σ H → SqL K H a xs)
    (hs : ∀ i x σ H, xs[i]? = some x → Pv i σ H → g x σ H fun σ2 H2 => t { D with nx := Pv (i + 1), ct := Pv (i + 1), bk := D.nx } σ2 H2) (hd : ∀ σ H, Pv xs.length σ H → D.nx σ H) : forJ (Itl K a) g t D σ H := for_list Pv h0 hl hs hd
theorem w_forT {a : Addr} {xs : List V} (Pv : Nat → St → Hp → Prop) (h0 : Pv 0 σ H) (hl : ∀ i σ H, i ≤ xs.length → Pv i σ H → SqT K H a xs)
    (hs : ∀ i x σ H, xs[i]? = some x → Pv i σ H → g x σ H fun σ2 H2 => t { D with nx := Pv (i + 1), ct := Pv (i + 1), bk := D.nx } σ2 H2) (hd : ∀ σ H, Pv xs.length σ H → D.nx σ H) : forJ (Itt K a) g t D σ H := for_tup Pv h0 hl hs hd
/-- for i, x in enumerate(xs): the pair is of no more use -/
theorem w_forE {a : Addr} {xs : List V} {p q : Nat} (Pv : Nat → St → Hp → Prop) (h0 : Pv 0 σ H) (hl : ∀ i σ H, i ≤ xs.length → Pv i σ H → SqL K H a xs)
    (hs : ∀ i x σ H H', xs[i]? = some x → Pv i σ H → Same H H' → t { D with nx := Pv (i + 1), ct := Pv (i + 1), bk := D.nx } ((σ.set p (some (.int (i : Nat)))).set q (some x)) H') (hd : ∀ σ H, Pv xs.length σ H → D.nx σ H) :
    forJ (Ite K a) (gTup K 2 (gCons (gName p) (gCons (gName q) gNil))) t D σ H := by
  refine ⟨fun i m σ H => m = xs.length - i ∧ i ≤ xs.length ∧ Pv i σ H, ⟨xs.length, by simp, Nat.zero_le _, h0⟩, ?_⟩
  rintro i m σ H ⟨rfl, hi, pp⟩
  have hS := hl i σ H hi pp
  by_cases hlt : i < xs.length
  · refine .inr ⟨⟨xs, xs[i], hS, by simp [hlt]⟩, Pv (i + 1), fun σ' H' p' => ⟨xs.length - (i + 1), by omega, rfl, hlt, p'⟩, fun x H' y => ?_⟩
    obtain ⟨T, z, rfl, hT, rfl, y⟩ := y
    have sm : Same H (upd H T (.tup [.int (i : Nat), z])) := fun b o e => by rw [upd_ne (ne_of_none e hT)]; exact e
    refine ⟨T, _, rfl, SqT.of upd_same, rfl, .int (i : Nat), [z], rfl, z, [], rfl, rfl, ?_⟩
    exact hs i z σ H _ (y xs hS) pp sm
  · have e : i = xs.length := by omega
    subst e
    exact .inl ⟨⟨xs, hS, Nat.le_refl _⟩, hd σ H pp⟩
/-- for x, y in zip(xs, ys) -/
theorem w_forZ {a b : Addr} {xs ys : List V} {p q : Nat} (hlen : xs.length = ys.length) (Pv : Nat → St → Hp → Prop) (h0 : Pv 0 σ H) (hl : ∀ i σ H, i ≤ xs.length → Pv i σ H → SqL K H a xs ∧ SqL K H b ys)
    (hs : ∀ i x y σ H H', xs[i]? = some x → ys[i]? = some y → Pv i σ H → Same H H' → t { D with nx := Pv (i + 1), ct := Pv (i + 1), bk := D.nx } ((σ.set p (some x)).set q (some y)) H') (hd : ∀ σ H, Pv xs.length σ H → D.nx σ H) :
    forJ (Itz K a b) (gTup K 2 (gCons (gName p) (gCons (gName q) gNil))) t D σ H := by
  refine ⟨fun i m σ H => m = xs.length - i ∧ i ≤ xs.length ∧ Pv i σ H, ⟨xs.length, by simp, Nat.zero_le _, h0⟩, ?_⟩
  rintro i m σ H ⟨rfl, hi, pp⟩
  obtain ⟨hS, hS'⟩ := hl i σ H hi pp
  by_cases hlt : i < xs.length
  · refine .inr ⟨⟨xs, ys, xs[i], ys[i]'(by omega), hS, hS', by simp [hlt], by simp [← hlen, hlt]⟩, Pv (i + 1), fun σ' H' p' => ⟨xs.length - (i + 1), by omega, rfl, hlt, p'⟩, fun x H' y => ?_⟩
    obtain ⟨T, z, z', rfl, hT, rfl, y, y'⟩ := y
    have sm : Same H (upd H T (.tup [z, z'])) := fun b o e => by rw [upd_ne (ne_of_none e hT)]; exact e
    refine ⟨T, _, rfl, SqT.of upd_same, rfl, z, [z'], rfl, z', [], rfl, rfl, ?_⟩
    exact hs i z z' σ H _ (y xs hS) (y' ys hS') pp sm
  · have e : i = xs.length := by omega
    subst e
    exact .inl ⟨⟨xs, ys, hS, hS', .inl (Nat.le_refl _)⟩, hd σ H pp⟩
/-- comprehensions: Pv says what the list at L holds behind i turns -/
theorem w_lcR {lo : Int} {n : Nat} {vs : List Nat} (Pv : Addr → Nat → Hp → Prop) (h0 : ∀ L, H L = none → Pv L 0 (upd H L (.lst [])))
    (hs : ∀ L i H, i < n → Pv L i H → g (.int (lo + i)) (wipe σ vs) H fun σ2 H2 => wipe σ2 vs = wipe σ vs ∧ tt σ2 H2 fun b H3 =>
      if b = true then te σ2 H3 fun y H4 => ∃ acc, H4 L = some (.lst acc) ∧ acc.length < sizeLine ∧ Pv L (i + 1) (upd H4 L (.lst (acc ++ [y]))) else Pv L (i + 1) H3) (hd : ∀ L H', H L = none → Pv L n H' → Q (.ref L) H') :
    lcJ (Itr lo n) g tt te vs σ Q H := fun L hL => lc_range (Pv L) (h0 L hL) (fun i H => hs L i H) (fun H' => hd L H' hL)
theorem w_lcL {a : Addr} {xs : List V} {vs : List Nat} (Pv : Addr → Nat → Hp → Prop) (h0 : ∀ L, H L = none → Pv L 0 (upd H L (.lst []))) (hl : ∀ L i H, i ≤ xs.length → Pv L i H → SqL K H a xs)
    (hs : ∀ L i x H, xs[i]? = some x → Pv L i H → g x (wipe σ vs) H fun σ2 H2 => wipe σ2 vs = wipe σ vs ∧ tt σ2 H2 fun b H3 =>
      if b = true then te σ2 H3 fun y H4 => ∃ acc, H4 L = some (.lst acc) ∧ acc.length < sizeLine ∧ Pv L (i + 1) (upd H4 L (.lst (acc ++ [y]))) else Pv L (i + 1) H3) (hd : ∀ L H', H L = none → Pv L xs.length H' → Q (.ref L) H') :
    lcJ (Itl K a) g tt te vs σ Q H := fun L hL => lc_list (Pv L) (h0 L hL) (hl L) (fun i x H => hs L i x H) (fun H' => hd L H' hL)
theorem w_lcT {a : Addr} {xs : List V} {vs : List Nat} (Pv : Addr → Nat → Hp → Prop) (h0 : ∀ L, H L = none → Pv L 0 (upd H L (.lst []))) (hl : ∀ L i H, i ≤ xs.length → Pv L i H → SqT K H a xs)
    (hs : ∀ L i x H, xs[i]? = some x → Pv L i H → g x (wipe σ vs) H fun σ2 H2 => wipe σ2 vs = wipe σ vs ∧ tt σ2 H2 fun b H3 =>
      if b = true then te σ2 H3 fun y H4 => ∃ acc, H4 L = some (.lst acc) ∧ acc.length < sizeLine ∧ Pv L (i + 1) (upd H4 L (.lst (acc ++ [y]))) else Pv L (i + 1) H3) (hd : ∀ L H', H L = none → Pv L xs.length H' → Q (.ref L) H') :
    lcJ (Itt K a) g tt te vs σ Q H := fun L hL => lc_tup (Pv L) (h0 L hL) (hl L) (fun i x H => hs L i x H) (fun H' => hd L H' hL)
/-- while, by a word and a measure -/
def whB (Pv : Nat → St → Hp → Prop) (m : Nat) (t : TS) (D : Ends) (σ : St) (b : Bool) (H : Hp) : Prop :=
  if b = true then ∃ N : St → Hp → Prop, (∀ σ' H', N σ' H' → ∃ m', m' < m ∧ Pv m' σ' H') ∧ t { D with nx := N, ct := N, bk := D.nx } σ H else D.nx σ H
theorem w_while (Pv : Nat → St → Hp → Prop) (m : Nat) (h0 : Pv m σ H) (hs : ∀ m σ H, Pv m σ H → c σ H fun b H1 => whB Pv m t D σ b H1) : tWhile c t D σ H := ⟨Pv, ⟨m, h0⟩, hs⟩
theorem w_wh {Pv : Nat → St → Hp → Prop} {m : Nat} {p : Prop} [Decidable p] (h1 : p → t { D with nx := fun σ' H' => ∃ m', m' < m ∧ Pv m' σ' H', ct := fun σ' H' => ∃ m', m' < m ∧ Pv m' σ' H', bk := D.nx } σ H) (h2 : ¬ p → D.nx σ H) : whB Pv m t D σ (decide p) H := by
  by_cases h : p
  · rw [decide_eq_true h]; exact ⟨_, fun _ _ h => h, h1 h⟩
  · rw [decide_eq_false h]; exact h2 h
theorem w_whN {Pv : Nat → St → Hp → Prop} {m : Nat} {p : Prop} [Decidable p] (h1 : ¬ p → t { D with nx := fun σ' H' => ∃ m', m' < m ∧ Pv m' σ' H', ct := fun σ' H' => ∃ m', m' < m ∧ Pv m' σ' H', bk := D.nx } σ H) (h2 : p → D.nx σ H) : whB Pv m t D σ (!decide p) H := by
  by_cases h : p
  · rw [decide_eq_true h]; exact h2 h
  · rw [decide_eq_false h]; exact ⟨_, fun _ _ h => h, h1 h⟩
theorem w_whB {Pv : Nat → St → Hp → Prop} {m : Nat} {b : Bool} (h1 : b = true → t { D with nx := fun σ' H' => ∃ m', m' < m ∧ Pv m' σ' H', ct := fun σ' H' => ∃ m', m' < m ∧ Pv m' σ' H', bk := D.nx } σ H) (h2 : b = false → D.nx σ H) : whB Pv m t D σ b H := by
  cases b with
  | true => exact ⟨_, fun _ _ h => h, h1 rfl⟩
  | false => exact h2 rfl
theorem cxK {CX : CXT} {P : Program} {w : World} {mg : Str → Option Value} {base : Heap} {N : List Str} {qual : Str} {scope : Scope} {f : Addr} {cd : Value} {A : Around} {outer : List Env} {s : Shared} {H : Hp} {E : XK} : (cxOf CX P w K mg base N qual scope f cd A outer s H E).K = K := rfl
theorem atI_int {ns : List Int} {i : Int} (h0 : 0 ≤ i) (h1 : i < ns.length) : atI (ns.map V.int) i = some (.int (ns.getD i.toNat 0)) := by
  obtain ⟨j, rfl⟩ := Int.eq_ofNat_of_zero_le h0
  refine atI_nat ?_
  have hj : j < ns.length := by omega
  rw [List.getElem?_map, List.getElem?_eq_getElem hj]
  simp [hj]
theorem small1000' {n : Nat} (h : n ≤ 100000) : n < sizeLine := Nat.lt_of_le_of_lt h (by decide)
theorem le_line {n : Nat} (h : n ≤ 1000) : (n ≤ sizeLine) = True := eq_true (Nat.le_of_lt (small1000 h))
theorem mulokL {i j : Int} (h : -18446744073709551616 < i ∧ i < 18446744073709551616) : IntMulOk i j := CMul.ok (.inl h)
theorem mulokR {i j : Int} (h : -18446744073709551616 < j ∧ j < 18446744073709551616) : IntMulOk i j := CMul.ok (.inr h)
theorem log2_lt {b : Int} {n : Nat} (h0 : 0 < b) (h : b.toNat < 2 ^ n) (hn : n ≤ 9000) (h1 : 0 < n) : b.natAbs.log2 < 9000 := by
  have e : b.natAbs = b.toNat := by omega
  rw [e]
  have := (Nat.log2_lt (by omega : b.toNat ≠ 0)).mpr h
  omega
end
/-! ### the ledger: F stands, L may change -/
def But (p : Addr) (H H' : Hp) : Prop := ∀ b o, b ≠ p → H b = some o → H' b = some o
structure W (F : Hp) (L : List (Addr × HO)) (H : Hp) : Prop where
  fr : Same F H
  nd : (L.map (·.1)).Nodup
  at_ : ∀ p ∈ L, H p.1 = some p.2
  off : ∀ p ∈ L, F p.1 = none
def rem (H : Hp) (a : Addr) : Hp := fun b => if b = a then none else H b
theorem rem_same {H : Hp} {a : Addr} : rem H a a = none := if_pos rfl
theorem rem_ne {H : Hp} {a b : Addr} (h : b ≠ a) : rem H a b = H b := if_neg h
theorem Same.rem {H : Hp} {a : Addr} : Same (rem H a) H := fun b o e => by
  by_cases h : b = a
  · subst h; rw [rem_same] at e; cases e
  · rw [rem_ne h] at e; exact e
section
variable {F F' H H' : Hp} {L L' : List (Addr × HO)} {p r : Addr} {o o' o2 : HO}
theorem W.start : W H [] H := ⟨Same.refl H, List.nodup_nil, (fun _ h => nomatch h), (fun _ h => nomatch h)⟩
theorem W.own (h : H p = some o) : W (rem H p) [(p, o)] H :=
  ⟨Same.rem, by simp, fun q hq => by simp at hq; subst hq; exact h, fun q hq => by simp at hq; subst hq; exact rem_same⟩
theorem W.get (w : W F L H) (i : Nat) (h : L[i]? = some (p, o)) : H p = some o := w.at_ _ (List.mem_of_getElem? h)
theorem W.offI (w : W F L H) (i : Nat) (h : L[i]? = some (p, o)) : F p = none := w.off _ (List.mem_of_getElem? h)
theorem W.new (w : W F L H) (h : H p = none) : W F ((p, o) :: L) (upd H p o) := by
  refine ⟨fun b u e => ?_, ?_, fun q hq => ?_, fun q hq => ?_⟩
  · rw [upd_ne (ne_of_none (w.fr b u e) h)]; exact w.fr b u e
  · rw [List.map_cons, List.nodup_cons]
    refine ⟨fun hm => ?_, w.nd⟩
    obtain ⟨q, hq, e⟩ := List.mem_map.mp hm
    have z := w.at_ q hq
    rw [e, h] at z
    cases z
  · rcases List.mem_cons.mp hq with rfl | hq
    · exact upd_same
    · rw [upd_ne (ne_of_none (w.at_ q hq) h)]; exact w.at_ q hq
  · rcases List.mem_cons.mp hq with rfl | hq
    · cases e : F p with
      | none => rfl
      | some u =>
        have z := w.fr p u e
        rw [h] at z; cases z
    · exact w.off q hq
/-- what stood at p in the ledger is another thing now -/
theorem W.mut (w : W F L H) (i : Nat) (h : L[i]? = some (p, o)) (hb : But p H H') (hp : H' p = some o') : W F (L.set i (p, o')) H' := by
  have hm : (L.set i (p, o')).map (·.1) = L.map (·.1) := by
    obtain ⟨hi, e⟩ := List.getElem?_eq_some_iff.mp h
    rw [List.map_set]
    apply List.ext_getElem?
    intro n
    by_cases hn : i = n
    · subst hn
      rw [List.getElem?_set_self (by simpa using hi), List.getElem?_map, h]
      rfl
    · rw [List.getElem?_set_ne hn]
  have hF : F p = none := w.offI i h
  have key : ∀ q ∈ L.set i (p, o'), q = (p, o') ∨ (q ∈ L ∧ q.1 ≠ p) := fun q hq => by
    obtain ⟨n, hn, e⟩ := List.mem_iff_getElem.mp hq
    by_cases hi : i = n
    · subst hi
      rw [List.getElem_set_self] at e
      exact .inl e.symm
    · rw [List.getElem_set_ne hi] at e
      refine .inr ⟨e ▸ List.getElem_mem _, fun z => hi ?_⟩
      obtain ⟨hi', e'⟩ := List.getElem?_eq_some_iff.mp h
      have hn' : n < L.length := by simpa using hn
      have nd := w.nd
      have := (List.getElem_inj (i := i) (j := n) (h₀ := by simpa using hi') (h₁ := by simpa using hn') nd).mp (by rw [List.getElem_map, List.getElem_map, e', e]; exact z.symm)
      exact this
  refine ⟨fun b u e => hb b u (fun z => by rw [z, hF] at e; cases e) (w.fr b u e), by rw [hm]; exact w.nd, fun q hq => ?_, fun q hq => ?_⟩
  · rcases key q hq with rfl | ⟨h1, h2⟩
    · exact hp
    · exact hb _ _ h2 (w.at_ q h1)
  · rcases key q hq with rfl | ⟨h1, h2⟩
    · exact hF
    · exact w.off q h1
theorem But.upd : But p H (upd H p o) := fun b u hb e => by rw [upd_ne hb]; exact e
theorem W.upd (w : W F L H) (i : Nat) (h : L[i]? = some (p, o)) : W F (L.set i (p, o')) (upd H p o') := w.mut i h But.upd upd_same
/-- a call that changed nothing that stood -/
theorem W.grow (w : W F L H) (s : Same H H') : W F L H' := ⟨w.fr.trans s, w.nd, fun q hq => s _ _ (w.at_ q hq), w.off⟩
/-- a new thing of a call's -/
theorem W.add (w' : W F L' H') (w : W F L H) (hr : H r = none) (hr' : H' r = some o) (hm : L'.map (·.1) = L.map (·.1) := by rfl) : W F ((r, o) :: L') H' := by
  refine ⟨w'.fr, ?_, fun q hq => ?_, fun q hq => ?_⟩
  · rw [List.map_cons, List.nodup_cons]
    refine ⟨fun hx => ?_, w'.nd⟩
    rw [hm] at hx
    obtain ⟨q, hq, e⟩ := List.mem_map.mp hx
    have z := w.at_ q hq
    rw [e, hr] at z
    cases z
  · rcases List.mem_cons.mp hq with rfl | hq
    · exact hr'
    · exact w'.at_ q hq
  · rcases List.mem_cons.mp hq with rfl | hq
    · cases e : F r with
      | none => rfl
      | some u =>
        have z := w.fr r u e
        rw [hr] at z; cases z
    · exact w'.off q hq
/-- it will not change any more -/
theorem W.frz (w : W F ((p, o) :: L) H) : Same F (L2.upd F p o) ∧ W (L2.upd F p o) L H := by
  have hF := w.off _ List.mem_cons_self
  have nd := List.nodup_cons.mp w.nd
  refine ⟨fun b u e => by rw [upd_ne (ne_of_none e hF)]; exact e, fun b u e => ?_, nd.2, fun q hq => w.at_ q (List.mem_cons_of_mem _ hq), fun q hq => ?_⟩
  · by_cases hb : b = p
    · subst hb; rw [upd_same] at e; cases e
      exact w.at_ _ List.mem_cons_self
    · rw [upd_ne hb] at e; exact w.fr b u e
  · have hb : q.1 ≠ p := fun z => nd.1 (List.mem_map.mpr ⟨q, hq, z⟩)
    rw [upd_ne hb]; exact w.off q (List.mem_cons_of_mem _ hq)
/-- it is of no more use -/
theorem W.drop (w : W F ((p, o) :: L) H) : W F L H := ⟨w.fr, (List.nodup_cons.mp w.nd).2, fun q hq => w.at_ q (List.mem_cons_of_mem _ hq), fun q hq => w.off q (List.mem_cons_of_mem _ hq)⟩
theorem W.perm (w : W F L H) (h : L.Perm L') : W F L' H := ⟨w.fr, (h.map _).nodup w.nd, fun q hq => w.at_ q (h.mem_iff.mpr hq), fun q hq => w.off q (h.mem_iff.mpr hq)⟩
theorem Same.but (s : Same H H') : But p H H' := fun b o _ e => s b o e
theorem But.trans {H1 : Hp} (a : But p H H1) (b : But p H1 H') : But p H H' := fun c o hc e => b c o hc (a c o hc e)
/-- what a caller keeps: all that stood but p -/
theorem W.but (w : W (L2.rem H r) ((r, o) :: L) H') : But r H H' := fun b u hb e => w.fr b u (by rw [rem_ne hb]; exact e)
end
end L2
/-! The built-in names: none of them is bound by the module. -/
namespace L2
open PySem PySem.Spec PyProof.Rows
structure Blt (mg : Str → Option Value) : Prop where
  len : mg "len" = none
  abs : mg "abs" = none
  max : mg "max" = none
  min : mg "min" = none
  sum : mg "sum" = none
  sorted : mg "sorted" = none
  isinstance : mg "isinstance" = none
  iter : mg "iter" = none
  ord : mg "ord" = none
  any : mg "any" = none
  all : mg "all" = none
  int : mg "int" = none
  bool : mg "bool" = none
  str : mg "str" = none
  list : mg "list" = none
  tuple : mg "tuple" = none
  dict : mg "dict" = none
  set : mg "set" = none
  range : mg "range" = none
  enumerate : mg "enumerate" = none
  zip : mg "zip" = none
  reversed : mg "reversed" = none
  super : mg "super" = none
  ValueError : mg "ValueError" = none
theorem bt_len : bootBuiltins "len" = some (.builtin "len") := by first | boot_by_name | decide +kernel
theorem bt_abs : bootBuiltins "abs" = some (.builtin "abs") := by first | boot_by_name | decide +kernel
theorem bt_max : bootBuiltins "max" = some (.builtin "max") := by first | boot_by_name | decide +kernel
theorem bt_min : bootBuiltins "min" = some (.builtin "min") := by first | boot_by_name | decide +kernel
theorem bt_sum : bootBuiltins "sum" = some (.builtin "sum") := by first | boot_by_name | decide +kernel
theorem bt_sorted : bootBuiltins "sorted" = some (.builtin "sorted") := by first | boot_by_name | decide +kernel
theorem bt_isinstance : bootBuiltins "isinstance" = some (.builtin "isinstance") := by first | boot_by_name | decide +kernel
theorem bt_iter : bootBuiltins "iter" = some (.builtin "iter") := by first | boot_by_name | decide +kernel
theorem bt_ord : bootBuiltins "ord" = some (.builtin "ord") := by first | boot_by_name | decide +kernel
theorem bt_any : bootBuiltins "any" = some (.builtin "any") := by first | boot_by_name | decide +kernel
theorem bt_all : bootBuiltins "all" = some (.builtin "all") := by first | boot_by_name | decide +kernel
theorem bt_int : bootBuiltins "int" = some (.type "int") := by first | boot_by_name | decide +kernel
theorem bt_bool : bootBuiltins "bool" = some (.type "bool") := by first | boot_by_name | decide +kernel
theorem bt_str : bootBuiltins "str" = some (.type "str") := by first | boot_by_name | decide +kernel
theorem bt_list : bootBuiltins "list" = some (.type "list") := by first | boot_by_name | decide +kernel
theorem bt_tuple : bootBuiltins "tuple" = some (.type "tuple") := by first | boot_by_name | decide +kernel
theorem bt_dict : bootBuiltins "dict" = some (.type "dict") := by first | boot_by_name | decide +kernel
theorem bt_set : bootBuiltins "set" = some (.type "set") := by first | boot_by_name | decide +kernel
theorem bt_range : bootBuiltins "range" = some (.type "range") := by first | boot_by_name | decide +kernel
theorem bt_enumerate : bootBuiltins "enumerate" = some (.type "enumerate") := by first | boot_by_name | decide +kernel
theorem bt_zip : bootBuiltins "zip" = some (.type "zip") := by first | boot_by_name | decide +kernel
theorem bt_reversed : bootBuiltins "reversed" = some (.type "reversed") := by first | boot_by_name | decide +kernel
theorem bt_super : bootBuiltins "super" = some (.type "super") := by first | boot_by_name | decide +kernel
theorem bt_ValueError : bootBuiltins "ValueError" = some (.type "ValueError") := by first | boot_by_name | decide +kernel
theorem Blt.of {K : PySem.W.Frag} {h : Heap} {mg : Str → Option Value} (X : K.In h) (G : h.Ns mainGlobals mg)
    (z_len : PySem.W.nsIn K mainGlobals "len" = some none)    (z_abs : PySem.W.nsIn K mainGlobals "abs" = some none)    (z_max : PySem.W.nsIn K mainGlobals "max" = some none)    (z_min : PySem.W.nsIn K mainGlobals "min" = some none)    (z_sum : PySem.W.nsIn K mainGlobals "sum" = some none)    (z_sorted : PySem.W.nsIn K mainGlobals "sorted" = some none)    (z_isinstance : PySem.W.nsIn K mainGlobals "isinstance" = some none)    (z_iter : PySem.W.nsIn K mainGlobals "iter" = some none)    (z_ord : PySem.W.nsIn K mainGlobals "ord" = some none)    (z_any : PySem.W.nsIn K mainGlobals "any" = some none)    (z_all : PySem.W.nsIn K mainGlobals "all" = some none)    (z_int : PySem.W.nsIn K mainGlobals "int" = some none)    (z_bool : PySem.W.nsIn K mainGlobals "bool" = some none)    (z_str : PySem.W.nsIn K mainGlobals "str" = some none)    (z_list : PySem.W.nsIn K mainGlobals "list" = some none)    (z_tuple : PySem.W.nsIn K mainGlobals "tuple" = some none)    (z_dict : PySem.W.nsIn K mainGlobals "dict" = some none)    (z_set : PySem.W.nsIn K mainGlobals "set" = some none)    (z_range : PySem.W.nsIn K mainGlobals "range" = some none)    (z_enumerate : PySem.W.nsIn K mainGlobals "enumerate" = some none)    (z_zip : PySem.W.nsIn K mainGlobals "zip" = some none)    (z_reversed : PySem.W.nsIn K mainGlobals "reversed" = some none)    (z_super : PySem.W.nsIn K mainGlobals "super" = some none)    (z_ValueError : PySem.W.nsIn K mainGlobals "ValueError" = some none) : Blt mg := ⟨PySem.W.mg_none_of X G z_len, PySem.W.mg_none_of X G z_abs, PySem.W.mg_none_of X G z_max, PySem.W.mg_none_of X G z_min, PySem.W.mg_none_of X G z_sum, PySem.W.mg_none_of X G z_sorted, PySem.W.mg_none_of X G z_isinstance, PySem.W.mg_none_of X G z_iter, PySem.W.mg_none_of X G z_ord, PySem.W.mg_none_of X G z_any, PySem.W.mg_none_of X G z_all, PySem.W.mg_none_of X G z_int, PySem.W.mg_none_of X G z_bool, PySem.W.mg_none_of X G z_str, PySem.W.mg_none_of X G z_list, PySem.W.mg_none_of X G z_tuple, PySem.W.mg_none_of X G z_dict, PySem.W.mg_none_of X G z_set, PySem.W.mg_none_of X G z_range, PySem.W.mg_none_of X G z_enumerate, PySem.W.mg_none_of X G z_zip, PySem.W.mg_none_of X G z_reversed, PySem.W.mg_none_of X G z_super, PySem.W.mg_none_of X G z_ValueError⟩
end L2
/-! Nested data: what isinstance says of it; the same data. -/
namespace L2
open PySem PySem.Spec PyProof.Rows
def tyN : PyData → String
  | .none => "NoneType"
  | .bool _ => "bool"
  | .int _ => "int"
  | .str _ => "str"
  | .list _ => "list"
  | .tuple _ => "tuple"
  | .dict _ => "dict"
section
variable {K : PySem.W.Frag} {H H' : Hp} {v : V} {d : PyData} {Q : VK}
theorem Same.seqT {a : Addr} {xs : List V} (e : Same H H') (h : SqT K H a xs) : SqT K H' a xs := by
  rcases h with (h | ⟨o, h⟩) | h
  · exact .inl (.inl (e _ _ h))
  · exact .inl (.inr ⟨o, e _ _ h⟩)
  · exact .inr h
mutual
theorem Dp.mono (e : Same H H') : ∀ {v : V} {d : PyData}, Dp K H v d → Dp K H' v d
  | _, _, .non => .non
  | _, _, .bl b => .bl b
  | _, _, .int i => .int i
  | _, _, .str x => .str x
  | _, _, .lst h r => .lst (e.seq h) (DpAll.mono e r)
  | _, _, .tup h r => .tup (e.seqT h) (DpAll.mono e r)
theorem DpAll.mono (e : Same H H') : ∀ {vs : List V} {ds : List PyData}, DpAll K H vs ds → DpAll K H' vs ds
  | _, _, .nil => .nil
  | _, _, .cons h r => .cons (Dp.mono e h) (DpAll.mono e r)
end
theorem Dp.ty (h : Dp K H v d) : TyX K H v (.type (tyN d)) := by
  cases h with
  | non => exact .base .non
  | bl b => exact .base (.bl b)
  | int i => exact .base (.int i)
  | str x => exact .base (.str x)
  | lst h r =>
    rcases h with (h | ⟨o, h⟩) | ⟨o, its, n, h1, h2, _⟩
    · exact .base (.lst h)
    · exact .base (.frz h)
    · exact .kList h1 h2
  | tup h r =>
    rcases h with (h | ⟨o, h⟩) | ⟨o, its, n, h1, h2, _⟩
    · exact .base (.tup h)
    · exact .fTuple h
    · exact .kTuple h1 h2
theorem DpAll.length : ∀ {vs : List V} {ds : List PyData}, DpAll K H vs ds → vs.length = ds.length
  | _, _, .nil => rfl
  | _, _, .cons _ r => by simp [DpAll.length r]
theorem DpAll.get : ∀ {vs : List V} {ds : List PyData} {i : Nat} {d : PyData}, DpAll K H vs ds → ds[i]? = some d → ∃ v, vs[i]? = some v ∧ Dp K H v d
  | _, _, _, _, .nil, h => by simp at h
  | _, _, 0, _, .cons h r, e => by simp at e; subst e; exact ⟨_, rfl, h⟩
  | _, _, i + 1, d, .cons h r, e => by
    obtain ⟨v, h1, h2⟩ := DpAll.get (i := i) r (by simpa using e)
    exact ⟨v, by simpa using h1, h2⟩
theorem DpAll.ints : ∀ ns : List Int, DpAll K H (ns.map V.int) (ns.map PyData.int)
  | [] => .nil
  | n :: ns => .cons (.int n) (DpAll.ints ns)
theorem DpAll.strs : ∀ ns : List Str, DpAll K H (ns.map V.str) (ns.map PyData.str)
  | [] => .nil
  | n :: ns => .cons (.str n) (DpAll.strs ns)
theorem Dp.intL {a : Addr} {ns : List Int} (h : SqL K H a (ns.map V.int)) : Dp K H (.ref a) (.list (ns.map PyData.int)) := .lst h (DpAll.ints ns)
theorem Dp.intT {a : Addr} {ns : List Int} (h : SqT K H a (ns.map V.int)) : Dp K H (.ref a) (.tuple (ns.map PyData.int)) := .tup h (DpAll.ints ns)
/-- isinstance(v, T), T a built-in type -/
def isInt : PyData → Bool | .int _ => true | .bool _ => true | _ => false
def isBool : PyData → Bool | .bool _ => true | _ => false
def isStr : PyData → Bool | .str _ => true | _ => false
def isList : PyData → Bool | .list _ => true | _ => false
def isTuple : PyData → Bool | .tuple _ => true | _ => false
theorem isi_ty {T : String} {b : Bool} (h : Dp K H v d) (hb : kitB (tyN d) T = some b) (q : Q (.bl b) H) : rIsi K [v, .ty T] H Q :=
  ⟨v, .ty T, .type (tyN d), .type T, b, rfl, .ty T, h.ty, kit_ty hb, q⟩
theorem isi_int (h : Dp K H v d) (q : Q (.bl (isInt d)) H) : rIsi K [v, .ty "int"] H Q := isi_ty h (by
  cases d <;> first
    | (show kitB "NoneType" "int" = some false; decide +kernel)
    | (show kitB "bool" "int" = some true; decide +kernel)
    | (show kitB "int" "int" = some true; decide +kernel)
    | (show kitB "str" "int" = some false; decide +kernel)
    | (show kitB "list" "int" = some false; decide +kernel)
    | (show kitB "tuple" "int" = some false; decide +kernel)
    | (show kitB "dict" "int" = some false; decide +kernel)) q
theorem isi_bool (h : Dp K H v d) (q : Q (.bl (isBool d)) H) : rIsi K [v, .ty "bool"] H Q := isi_ty h (by
  cases d <;> first
    | (show kitB "NoneType" "bool" = some false; decide +kernel)
    | (show kitB "bool" "bool" = some true; decide +kernel)
    | (show kitB "int" "bool" = some false; decide +kernel)
    | (show kitB "str" "bool" = some false; decide +kernel)
    | (show kitB "list" "bool" = some false; decide +kernel)
    | (show kitB "tuple" "bool" = some false; decide +kernel)
    | (show kitB "dict" "bool" = some false; decide +kernel)) q
theorem isi_str (h : Dp K H v d) (q : Q (.bl (isStr d)) H) : rIsi K [v, .ty "str"] H Q := isi_ty h (by
  cases d <;> first
    | (show kitB "NoneType" "str" = some false; decide +kernel)
    | (show kitB "bool" "str" = some false; decide +kernel)
    | (show kitB "int" "str" = some false; decide +kernel)
    | (show kitB "str" "str" = some true; decide +kernel)
    | (show kitB "list" "str" = some false; decide +kernel)
    | (show kitB "tuple" "str" = some false; decide +kernel)
    | (show kitB "dict" "str" = some false; decide +kernel)) q
theorem isi_list (h : Dp K H v d) (q : Q (.bl (isList d)) H) : rIsi K [v, .ty "list"] H Q := isi_ty h (by
  cases d <;> first
    | (show kitB "NoneType" "list" = some false; decide +kernel)
    | (show kitB "bool" "list" = some false; decide +kernel)
    | (show kitB "int" "list" = some false; decide +kernel)
    | (show kitB "str" "list" = some false; decide +kernel)
    | (show kitB "list" "list" = some true; decide +kernel)
    | (show kitB "tuple" "list" = some false; decide +kernel)
    | (show kitB "dict" "list" = some false; decide +kernel)) q
theorem isi_tuple (h : Dp K H v d) (q : Q (.bl (isTuple d)) H) : rIsi K [v, .ty "tuple"] H Q := isi_ty h (by
  cases d <;> first
    | (show kitB "NoneType" "tuple" = some false; decide +kernel)
    | (show kitB "bool" "tuple" = some false; decide +kernel)
    | (show kitB "int" "tuple" = some false; decide +kernel)
    | (show kitB "str" "tuple" = some false; decide +kernel)
    | (show kitB "list" "tuple" = some false; decide +kernel)
    | (show kitB "tuple" "tuple" = some true; decide +kernel)
    | (show kitB "dict" "tuple" = some false; decide +kernel)) q
end
/-! ### the same data -/
mutual
def sm : PyData → PyData → Bool
  | .none, .none => true
  | .bool c, .bool b => c == b
  | .int j, .int i => j == i
  | .str t, .str s => t == s
  | .tuple gs, .tuple ds => smL gs ds
  | .list gs, .list ds => smL gs ds
  | _, _ => false
def smL : List PyData → List PyData → Bool
  | [], [] => true
  | g :: gs, d :: ds => sm g d && smL gs ds
  | _, _ => false
end
def fits : Nat → PyData → Prop
  | _, .none => True
  | _, .bool _ => True
  | _, .int _ => True
  | _, .str _ => True
  | n + 1, .tuple ds => ds.length ≤ 100000 ∧ ∀ d ∈ ds, fits n d
  | n + 1, .list ds => ds.length ≤ 100000 ∧ ∀ d ∈ ds, fits n d
  | _, _ => False
theorem smL_len : ∀ {gs ds : List PyData}, smL gs ds = true → gs.length = ds.length
  | [], [], _ => rfl
  | g :: gs, d :: ds, h => by
    simp only [smL, Bool.and_eq_true] at h
    simp [smL_len h.2]
theorem smL_all : ∀ {gs ds : List PyData}, gs.length = ds.length → smL gs ds = (List.range ds.length).all fun i => sm (gs.getD i .none) (ds.getD i .none)
  | [], [], _ => by simp [smL]
  | g :: gs, d :: ds, h => by
    have ih := smL_all (gs := gs) (ds := ds) (by simpa using h)
    rw [smL, ih, List.length_cons, List.range_succ_eq_map, List.all_cons, List.all_map]
    rfl
  | [], _ :: _, h => by simp at h
  | _ :: _, [], h => by simp at h
theorem sm_refl : ∀ (n : Nat) (d : PyData), fits n d → sm d d = true
  | _, .none, _ => by simp [sm]
  | _, .bool _, _ => by simp [sm]
  | _, .int _, _ => by simp [sm]
  | _, .str _, _ => by simp [sm]
  | n + 1, .tuple ds, h => by
    rw [sm, smL_all rfl, List.all_eq_true]
    intro i hi
    have hi' : i < ds.length := List.mem_range.mp hi
    have : ds.getD i .none = ds[i] := by simp [hi']
    rw [this]
    exact sm_refl n _ (h.2 _ (List.getElem_mem hi'))
  | n + 1, .list ds, h => by
    rw [sm, smL_all rfl, List.all_eq_true]
    intro i hi
    have hi' : i < ds.length := List.mem_range.mp hi
    have : ds.getD i .none = ds[i] := by simp [hi']
    rw [this]
    exact sm_refl n _ (h.2 _ (List.getElem_mem hi'))
  | _, .dict _, h => by cases ‹Nat› <;> exact h.elim
  | 0, .tuple _, h => h.elim
  | 0, .list _, h => h.elim
theorem sm_eq {n : Nat} {g d : PyData} (e : g = d) (h : fits n d) : sm g d = true := by rw [e]; exact sm_refl n d h
end L2
/-! The error classes of the text. -/
namespace L2
open PySem PySem.Spec PyProof.Rows
/-- an exception class of the text that stands at C -/
structure ExcB (K : PySem.W.Frag) (mg : Str → Option Value) (x : Str) (C : Addr) : Prop where
  g : mg x = some (.ref C)
  exC : PySem.W.subIn K (.ref C) (.type "BaseException") = some true
  veC : PySem.W.subIn K (.ref C) (.type "ValueError") = some true
  tyC : PySem.W.typeIn K (.ref C) = some (.type "type")
  hdC : PySem.W.hasDictIn K C = true
  seC : PySem.W.subIn K (.ref C) (.ref C) = some true
  ex : ExcC K C
  xf : XfC K C
/-- .. with fields -/
structure ErrC (K : PySem.W.Frag) (mg : Str → Option Value) (x : Str) (C fI : Addr) (fs : List Str) : Prop extends ExcB K mg x C where
  txt : PySem.NKE.ErrTxt K C fI fs
section
variable {K : PySem.W.Frag} {mg : Str → Option Value} {x : Str} {C D : Addr} {b : Bool}
theorem ExcB.cls (h : ExcB K mg x C) : (PySem.W.clsIn K C).isSome = true := by
  obtain ⟨cd, hc, _⟩ := PySem.W.any_some h.hdC
  rw [hc]; rfl
theorem ExcB.kit (h : ExcB K mg x C) {t : Value} (s : PySem.W.subIn K t (.ref C) = some b) : PySem.W.kitCls K t (.ref C) = some b := by
  have e2 : ((PySem.W.clsIn K C).isSome && PySem.W.typeIn K (.ref C) == some (.type "type")) = true := by rw [h.cls, h.tyC] <;> rfl
  show (if ((PySem.W.clsIn K C).isSome && PySem.W.typeIn K (.ref C) == some (.type "type")) = true then PySem.W.subIn K t (.ref C) else none) = some b
  rw [if_pos e2]; exact s
theorem ExcB.kit1 (h : ExcB K mg x C) {D : Addr} (s : PySem.W.subIn K (.ref D) (.ref C) = some b) : PySem.W.kitOne K (.ref D) (.ref C) = some b := by
  unfold PySem.W.kitOne
  by_cases e : D = C
  · subst e
    rw [h.seC] at s
    cases s
    rw [if_pos (by simp)]
  · rw [if_neg (by simp [e])]
    exact h.kit s
theorem ExcB.exm (h : ExcB K mg x C) {t : Value} (s : PySem.W.subIn K t (.ref C) = some b) : PySem.W.exmOne K t (.ref C) = some b := by
  have e1 : (PySem.W.subIn K (.ref C) (.type "BaseException") == some true) = true := by rw [h.exC] <;> rfl
  show (if (PySem.W.subIn K (.ref C) (.type "BaseException") == some true) = true then PySem.W.kitCls K t (.ref C) else none) = some b
  rw [if_pos e1]; exact h.kit s
theorem kit_VE {t : Addr} (s : PySem.W.subIn K (.ref t) (.type "ValueError") = some b) : PySem.W.kitOne K (.ref t) (.type "ValueError") = some b := by
  unfold PySem.W.kitOne
  rw [if_neg (by simp)]
  show (if PySem.W.kitMeta "ValueError" = true then PySem.W.subIn K (.ref t) (.type "ValueError") else none) = some b
  rw [if_pos (by decide +kernel)]; exact s
/-- isinstance of the error at hand -/
theorem w_isX {a : Addr} {d : Addr} {H : Hp} {Q : VK} {fs : List (Str × V)} (h : ExcB K mg x C) (hd : H d = some (.xd fs)) (s : PySem.W.subIn K (.ref D) (.ref C) = some b) (q : Q (.bl b) H) : rIsX K D a (.ref D) (some d) [.ref a, .ref C] H Q :=
  ⟨.ref C, .ref C, b, rfl, rfl, fun u r => r, fun dd e => by cases e; exact ⟨fs, hd⟩, h.kit1 s, q⟩
theorem w_isX0 {a : Addr} {H : Hp} {Q : VK} (h : ExcB K mg x C) (s : PySem.W.subIn K (.ref D) (.ref C) = some b) (q : Q (.bl b) H) : rIsX K D a (.ref D) none [.ref a, .ref C] H Q :=
  ⟨.ref C, .ref C, b, rfl, rfl, fun u r => r, fun dd e => (by cases e), h.kit1 s, q⟩
theorem w_isXV {a : Addr} {d : Addr} {H : Hp} {Q : VK} {fs : List (Str × V)} (hd : H d = some (.xd fs)) (s : PySem.W.subIn K (.ref D) (.type "ValueError") = some b) (q : Q (.bl b) H) : rIsX K D a (.ref D) (some d) [.ref a, .ty "ValueError"] H Q :=
  ⟨.ty "ValueError", .type "ValueError", b, rfl, rfl, fun u r => r, fun dd e => by cases e; exact ⟨fs, hd⟩, kit_VE s, q⟩
theorem w_isXV0 {a : Addr} {H : Hp} {Q : VK} (s : PySem.W.subIn K (.ref D) (.type "ValueError") = some b) (q : Q (.bl b) H) : rIsX K D a (.ref D) none [.ref a, .ty "ValueError"] H Q :=
  ⟨.ty "ValueError", .type "ValueError", b, rfl, rfl, fun u r => r, fun dd e => (by cases e), kit_VE s, q⟩
/-- a new error -/
def mkE (C : Addr) (fs : List Str) (vs : List V) (H1 : Hp) (Q : XK) : Prop := vs.length = fs.length ∧ ∀ d, H1 d = none → Q (.ref C) (some d) (upd H1 d (.xd (fs.zip vs)))
theorem s_mk {fs : List Str} {ta : TA} {σ : St} {H : Hp} {Q : XK} : tMkErr C fs ta σ H Q = ta σ H (fun vs H1 => mkE C fs vs H1 Q) := rfl
/-- a field of the error at hand -/
def xfV (a : Addr) (cls : Value) (d : Option Addr) (C : Addr) (f : Str) (x : V) (H : Hp) (Q : VK) : Prop := x = .ref a ∧ cls = .ref C ∧ ∃ (dd : Addr) (fs : List (Str × V)) (v : V), d = some dd ∧ H dd = some (.xd fs) ∧ fs.lookup f = some v ∧ Q v H
theorem s_xf {a : Addr} {cls : Value} {d : Option Addr} {f : Str} {te : TE} {σ : St} {H : Hp} {Q : VK} : tXf a cls d C f te σ H Q = te σ H (fun x H1 => xfV a cls d C f x H1 Q) := rfl
theorem w_xf {a d : Addr} {f : Str} {H : Hp} {Q : VK} {fs : List (Str × V)} {v : V} (hd : H d = some (.xd fs)) (l : fs.lookup f = some v) (q : Q v H) : xfV a (.ref C) (some d) C f (.ref a) H Q := ⟨rfl, rfl, d, fs, v, rfl, hd, l, q⟩
end
end L2
/-! More readings. -/
namespace L2
open PySem PySem.Spec PyProof.Rows
section
variable {K : PySem.W.Frag} {F H H' : Hp} {L : List (Addr × HO)} {a b p r : Addr} {o o' : HO} {Q : VK} {ns ms : List Int} {xs : List V}
theorem eqv_ints : PyData.eqv (.list (ns.map PyData.int)) (.list (ms.map PyData.int)) = decide (ns = ms) := by
  rw [PyData.eqv]; exact PySem.W.ked_eqvAll ns ms
theorem w_neIL (h : SqL K H a (ns.map V.int)) (h' : SqL K H b (ms.map V.int)) (q : Q (.bl (!decide (ns = ms))) H) : aNe K (.ref a) (.ref b) H Q :=
  ⟨_, _, Dp.intL h, Dp.intL h', PySem.W.ke_shaped_ints ns, PySem.W.ke_shaped_ints ms, by rw [eqv_ints]; exact q⟩
theorem w_eqIL (h : SqL K H a (ns.map V.int)) (h' : SqL K H b (ms.map V.int)) (q : Q (.bl (decide (ns = ms))) H) : aEq K (.ref a) (.ref b) H Q :=
  ⟨_, _, Dp.intL h, Dp.intL h', PySem.W.ke_shaped_ints ns, PySem.W.ke_shaped_ints ms, by rw [eqv_ints]; exact q⟩
theorem w_sum (h : SqL K H a (ns.map V.int)) (q : Q (.int ns.sum) H) : rSum K [.ref a] H Q := ⟨a, ns, rfl, h, q⟩
/-- [x] * k -/
theorem w_rep1 {x : V} {k : Int} (h : H p = some (.lst [x])) (h1 : -9223372036854775808 ≤ k) (h2 : k ≤ 100000) (q : ∀ r, H r = none → Q (.ref r) (upd H r (.lst (List.replicate k.toNat x)))) : aMul K (.ref p) (.int k) H Q := by
  refine ⟨p, k, [x], rfl, rfl, h, by omega, by omega, ?_, fun r hr => ?_⟩
  · have : k.toNat ≤ 100000 := by omega
    simp only [List.length_singleton, Nat.one_mul]
    exact Nat.le_of_lt (small1000' this)
  · have := q r hr
    rwa [List.flatten_replicate_singleton]
theorem at_last (h : 0 < ns.length) : atI (ns.map V.int) (-1) = some (.int (ns.getD (ns.length - 1) 0)) := by
  have hj : ns.length - 1 < ns.length := by omega
  have e : ixN (ns.map V.int).length (-1) = some (ns.length - 1) := by
    unfold ixN
    rw [List.length_map, if_neg (by decide), if_pos (by omega)]
    congr 1; omega
  unfold atI
  rw [e]
  simp [hj]
theorem FnAt.no {P : Program} {w : World} {mg : Str → Option Value} {base : Heap} {f : Addr} {fd : FuncData} {x : Str} {st : Stmt} {ps : List Str} {k : Nat} (F : Fun K x x st f fd) (hm : mg x = some (.ref f)) (hb : Binds K fd ps []) : FnAt P w K mg base k x ps (fun _ _ _ _ => False) :=
  ⟨f, fd, ⟨fun _ _ _ _ h => h.elim, fun _ _ _ _ _ _ _ _ _ _ _ _ _ h => h.elim⟩, hm, F.kp, hb⟩
section
variable {t u : TS} {D : Ends} {σ : St}
/-- an if whose ways meet again: J holds there -/
theorem w_brJ {p : Prop} [Decidable p] (J : St → Hp → Prop) (hJ : ∀ σ H, J σ H → D.nx σ H) (h1 : p → ∀ nx : St → Hp → Prop, (∀ σ H, J σ H → nx σ H) → t { D with nx := nx } σ H) (h2 : ¬ p → ∀ nx : St → Hp → Prop, (∀ σ H, J σ H → nx σ H) → u { D with nx := nx } σ H) : tBr t u D σ (decide p) H := by
  by_cases h : p
  · rw [decide_eq_true h]; exact h1 h D.nx hJ
  · rw [decide_eq_false h]; exact h2 h D.nx hJ
theorem w_brJN {p : Prop} [Decidable p] (J : St → Hp → Prop) (hJ : ∀ σ H, J σ H → D.nx σ H) (h1 : ¬ p → ∀ nx : St → Hp → Prop, (∀ σ H, J σ H → nx σ H) → t { D with nx := nx } σ H) (h2 : p → ∀ nx : St → Hp → Prop, (∀ σ H, J σ H → nx σ H) → u { D with nx := nx } σ H) : tBr t u D σ (!decide p) H := by
  by_cases h : p
  · rw [decide_eq_true h]; exact h2 h D.nx hJ
  · rw [decide_eq_false h]; exact h1 h D.nx hJ
theorem w_brJB {b : Bool} (J : St → Hp → Prop) (hJ : ∀ σ H, J σ H → D.nx σ H) (h1 : b = true → ∀ nx : St → Hp → Prop, (∀ σ H, J σ H → nx σ H) → t { D with nx := nx } σ H) (h2 : b = false → ∀ nx : St → Hp → Prop, (∀ σ H, J σ H → nx σ H) → u { D with nx := nx } σ H) : tBr t u D σ b H := by
  cases b with
  | true => exact h1 rfl D.nx hJ
  | false => exact h2 rfl D.nx hJ
end
theorem s_yes {σ : St} {QT : Bool → Hp → Prop} : tYes σ H QT = QT true H := rfl
theorem W.noF (w : W F L H) (h : H r = none) : F r = none := by
  cases e : F r with
  | none => rfl
  | some u => rw [w.fr r u e] at h; cases h
theorem W.noL (w : W F L H) (h : H r = none) : r ∉ L.map (·.1) := fun hm => by
  obtain ⟨q, hq, e⟩ := List.mem_map.mp hm
  have z := w.at_ q hq
  rw [e, h] at z
  cases z
theorem W.ins (w : W F L H) (h1 : F r = none) (h2 : r ∉ L.map (·.1)) (h3 : H r = some o) : W F ((r, o) :: L) H := by
  refine ⟨w.fr, List.nodup_cons.mpr ⟨h2, w.nd⟩, fun q hq => ?_, fun q hq => ?_⟩
  · rcases List.mem_cons.mp hq with rfl | hq
    · exact h3
    · exact w.at_ q hq
  · rcases List.mem_cons.mp hq with rfl | hq
    · exact h1
    · exact w.off q hq
/-- two new things -/
theorem W.add2 {L' : List (Addr × HO)} {c : Addr} (w' : W F L' H') (w : W F L H) (hr : H r = none) (hc : H c = none) (hr' : H' r = some o) (hc' : H' c = some o') (hne : o ≠ o') (hm : L'.map (·.1) = L.map (·.1) := by rfl) : W F ((r, o) :: (c, o') :: L') H' := by
  refine (w'.ins (w.noF hc) (by rw [hm]; exact w.noL hc) hc').ins (w.noF hr) ?_ hr'
  rw [List.map_cons, List.mem_cons, hm]
  rintro (z | z)
  · have z' : r = c := z
    subst z'
    rw [hr'] at hc'
    exact hne (Option.some.inj hc')
  · exact w.noL hr z
/-- what stands in F stands beside p -/
theorem W.frem (w : W F L H) (i : Nat) (h : L[i]? = some (p, o)) : Same F (rem H p) := fun b u e => by
  rw [rem_ne (ne_of_none e (w.offI i h))]; exact w.fr b u e
end
end L2
/-! What the written part must say, premise by premise. -/
namespace L2
open PySem PySem.Spec PyProof.Rows PySem.W PySem.NKE
section
variable {K : PySem.W.Frag} {h : Heap} {mg : Str → Option Value} {x : Str} {C fI : Addr} {fs : List Str}
theorem ExcB.of (X : K.In h) (G : h.Ns mainGlobals mg) (aC : nsIn K mainGlobals x = some (some (.ref C))) (exC : subIn K (.ref C) (.type "BaseException") = some true) (veC : subIn K (.ref C) (.type "ValueError") = some true)
    (tyC : typeIn K (.ref C) = some (.type "type")) (hdC : hasDictIn K C = true) (seC : subIn K (.ref C) (.ref C) = some true) (hg : findIn K (.ref C) "__getattribute__" = some (some (.builtin "BaseException.__getattribute__"))) (hk : findIn K (.ref C) "__getattr__" = some none)
    (ha : findIn K (.ref C) "__class__" = some (some (.builtin "object.__class__"))) (hn : specialIn K (.builtin "object.__class__") "__get__" = some (some (.builtin "getset_descriptor.__get__"))) (ht : takesIn K (.builtin "object.__class__") = some true) (hm : mroIn K C (.type "object") = some true) : ExcB K mg x C :=
  ⟨mg_of X G aC, exC, veC, tyC, hdC, seC, ⟨hg, hk, exC, hdC, ha, hn, ht, hm⟩, ⟨hg, hk, exC, hdC⟩⟩
/-- what the text of __init__ is -/
structure SupInit (st : Stmt) (fs : List Str) : Prop where
  ar : ∃ ar, ((defArgs st).posonlyargs ++ (defArgs st).args).head? = some ar ∧ ar.arg = "self"
  body : ∃ s0 sts, defBody st = s0 :: sts ∧ IsSup s0 ∧ IsFlds fs sts
  sup : (defScope st).names.lookup ("super" : Str) = some .globalImplicit
  cls : (defScope st).names.lookup ("__class__" : Str) = some .free
  loc : ∀ f ∈ ("self" : Str) :: fs, (defScope st).names.lookup f = some .local
  kind : (defScope st).kind = .function
  noc : ∀ x ∈ (defScope st).names, x.2 ≠ .cell
  coro : (defScope st).isCoroutine = false
  gen : (defScope st).isGenerator = false
  bind : ∀ (qual : Str) (dV kV doc pm : Value) (an : Option Addr) (cd ct : Value) (cc : Addr) (us : List Value), dV = .none → us.length = fs.length + 1 → bindArgs (ksFn "__init__" qual (defArgs st) (defBody st) (defScope st) dV kV doc pm an cd ct cc) ⟨us, []⟩ = pure ((("self" : Str) :: fs).zip us)
  nd : (("self" : Str) :: fs).Nodup
  nodbg : ∀ f ∈ fs, (f == ("__debug__" : Str)) = false
theorem ErrTxt.of {st : Stmt} {qual : Str} (S : SupInit st fs) {nm q : Str} {N : Addr} {bs bm : List Value} {sn : List Str} {sub : List Value} {ab : Bool} {col : Option Bool} {dd : Option Addr} {k0 k1 k2 k3 k5 : Option Value}
    {oc kV doc pm ct ccl cl : Value} {od an cdd cld : Option Addr} {osl ccs csl : Array (Option Value)} {cda cc : Addr} {vs : Array Value} {file : Str} {tf : Tok}
    (B : ExcB K mg x C) (lC : K.lookup C = some (excClassObj nm q C N bs bm true sn sub ab col dd k0 k1 k2 k3 k5 "ValueError.__new__")) (hb : PySem.HandSPX.refsVE bm = true)
    (sa : findIn K (.ref C) "__setattr__" = some (some (.builtin "object.__setattr__"))) (noN : ∀ f ∈ fs, findIn K (.ref C) f = some none) (iC : findIn K (.ref C) "__init__" = some (some (.ref fI))) (tC : typeIn K (.ref fI) = some (.type "function")) (kC : keepIn K (.ref C) = true)
    (sup : ks_superIn K C C "__init__" = some (some (.builtin "ValueError.__init__"))) (selfC : mroIn K C (.ref C) = some true) (tp : nsIn K cStatics "thirdparty.any" = some none) (nosup : nsIn K mainGlobals "super" = some none)
    (lI : K.lookup fI = some ⟨oc, od, .func (ksFn "__init__" qual (defArgs st) (defBody st) (defScope st) .none kV doc pm an (.ref cda) ct cc), osl⟩) (cI : codeIn K (.ref cda) qual = true)
    (lK : K.lookup cda = some ⟨ccl, cdd, .fields vs, ccs⟩) (hf : vs[2]? = some (.str file tf)) (hf2 : ((("/claim/cut.py" : Str)) == file) = true) (lc : K.lookup cc = some ⟨cl, cld, .cell (some (.ref C)), csl⟩) : ErrC K mg x C fI fs := by
  refine ⟨B, ⟨⟨nm, q, N, bs, bm, sn, sub, ab, col, dd, k0, k1, k2, k3, k5, lC, hb⟩, sa, noN, iC, tC, kC, B.exC, B.veC, B.tyC, sup, selfC, tp, nosup, ?_⟩⟩
  obtain ⟨ar, h1, h2⟩ := S.ar
  obtain ⟨s0, sts, h3, h4, h5⟩ := S.body
  exact ⟨oc, od, qual, _, _, _, _, kV, doc, pm, an, cda, ct, osl, cc, ar, ccl, cl, cdd, cld, vs, file, tf, ccs, csl, s0, sts, lI, cI, h1, h2, lK, hf, hf2, lc, h3, h4, h5, S.sup, S.cls, S.loc, S.kind, S.noc, S.coro, S.gen, fun us => S.bind _ _ _ _ _ _ _ _ _ us rfl, S.nd, S.nodbg⟩
end
end L2
/-! for x, y, z in zip(list, list, text) -/
namespace L2
open PySem PySem.Spec PyProof.Rows
/-- the lists at a and b as they stand at each turn, the signs of x, in new triples -/
def Itz3 (K : PySem.W.Frag) (a b : Addr) (x : Str) : It :=
  ⟨fun i H => ∃ (xs ys : List V), SqL K H a xs ∧ SqL K H b ys ∧ i < xs.length ∧ i < ys.length ∧ i < x.cps.size,
    fun i H v H' => ∃ (T : Addr) (u w : V) (c : Nat), v = .ref T ∧ H T = none ∧ H' = upd H T (.tup [u, w, .str ⟨#[c]⟩]) ∧ (∀ xs, SqL K H a xs → xs[i]? = some u) ∧ (∀ ys, SqL K H b ys → ys[i]? = some w) ∧ x.cps[i]? = some c,
    fun i H => ∃ xs ys : List V, SqL K H a xs ∧ SqL K H b ys ∧ i = min (min xs.length ys.length) x.cps.size⟩
theorem mem36 {c z TI TO i1 i2 i3 : Addr} (h : c ∈ [z, TO, i1, i2, i3]) : c ∈ [z, TI, TO, i1, i2, i3] := by
  simp only [List.mem_cons, List.not_mem_nil, or_false] at h ⊢
  rcases h with e | e | e | e | e <;> simp [e]
theorem turn_zip3 {P : Program} {w : World} {K : PySem.W.Frag} {elts : List Expr} {kk : Nat} {tpos : Pos} {a b z TI TO i1 i2 i3 : Addr} {x : Str} {t : Tok} (D : ZipSep3 z TI TO i1 i2 i3 [i1, a] [i2, b] [i3]) (na : a ≠ i1) (nb : b ≠ i2) :
    Turn P w K (.Tuple elts kk tpos) (Itz3 K a b x) [z, TI, TO, i1, i2, i3] z (fun i h => IsZip h z TI TO .none ∧ IsTupOf3 h TI (.ref i1) (.ref i2) (.ref i3) ∧ (∃ a1 a2 a3, IsTupOf3 h TO a1 a2 a3) ∧ h.IsListIter i1 a i ∧ h.IsListIter i2 b i ∧ h.IsStrIter i3 (strIterType x) x t i) where
  mem := by simp
  obj := fun i h st c hc => by
    obtain ⟨hz, hTI, ⟨_, _, _, hTO⟩, ⟨o1, e1, _, d1⟩, ⟨o2, e2, _, d2⟩, ⟨o3, e3, _, d3⟩⟩ := st
    have e' : c = z ∨ c = TI ∨ c = TO ∨ c = i1 ∨ c = i2 ∨ c = i3 := by simpa using hc
    rcases e' with q | q | q | q | q | q
    · rw [q]; exact ⟨_, hz, fun v q => nomatch q⟩
    · rw [q]; exact ⟨_, hTI, fun v q => nomatch q⟩
    · rw [q]; exact ⟨_, hTO, fun v q => nomatch q⟩
    · rw [q]; exact ⟨o1, e1, fun v q => by rw [d1] at q; cases q⟩
    · rw [q]; exact ⟨o2, e2, fun v q => by rw [d2] at q; cases q⟩
    · rw [q]; exact ⟨o3, e3, fun v q => by rw [d3] at q; cases q⟩
  keep := fun i h h' st k => by
    obtain ⟨hz, hTI, ⟨a1, a2, a3, hTO⟩, h1, h2, ⟨o3, e3, d3⟩⟩ := st
    exact ⟨k z (by simp) _ hz, k TI (by simp) _ hTI, ⟨a1, a2, a3, k TO (by simp) _ hTO⟩, h1.at fun o q => k i1 (by simp) o q, h2.at fun o q => k i2 (by simp) o q, ⟨o3, k i3 (by simp) _ e3, d3⟩⟩
  item := by
    intro X hP hw hK hc i pins s σ H E I hf st hg
    subst hP hw hK
    obtain ⟨hz, hTI, hTO, h1, h2, h3⟩ := st
    obtain ⟨xs, ys, hqx, hqy, hx, hy, hxx⟩ := hg
    obtain ⟨its, rv, p, _⟩ := I.list hqx
    obtain ⟨its2, rv2, p2, _⟩ := I.list hqy
    have l1 := rv.length
    have l2 := rv2.length
    have hh : X.A.in1.handled = none := I.ok.hd hc
    have D1 := Draws.list (prog := X.prog) (w := X.w) hh i1 a na its.toArray
    have D2 := Draws.list (prog := X.prog) (w := X.w) hh i2 b nb its2.toArray
    have D3 := Draws.text (prog := X.prog) (w := X.w) hh i3 x t
    have T3 := WalksT.zipD3 (A := X.A) D D1 D2 D3
    refine wpAny_mono (T3.item i s (fun r s1 => ∃ u, r = some u ∧ wpAny (model X.prog X.w) X.A (letOwnedTupleGo (.Tuple elts kk tpos) (.ref z) u) (fun _ s2 => ∃ x_1 H', Inv X pins σ H' s2 ∧ RelV x_1 u ∧ (Itz3 X.K a b x).yld i H x_1 H' ∧
      (IsZip s2.heap z TI TO .none ∧ IsTupOf3 s2.heap TI (.ref i1) (.ref i2) (.ref i3) ∧ (∃ a1 a2 a3, IsTupOf3 s2.heap TO a1 a2 a3) ∧ s2.heap.IsListIter i1 a (i + 1) ∧ s2.heap.IsListIter i2 b (i + 1) ∧ s2.heap.IsStrIter i3 (strIterType x) x t (i + 1)) ∧ ∀ b ∈ [z, TI, TO, i1, i2, i3], H' b = none) E s1) E ?_ ⟨hz, hTI, hTO, ⟨h1, p.isList⟩, ⟨h2, p2.isList⟩, h3⟩ fun T vals h' tk ⟨u1, u2, u3, y1, y2, ⟨c, tc, y3, y3'⟩, ev⟩ hge hT mid hk => ⟨_, rfl, ?_⟩) (fun _ _ q => q) fun _ _ q => q
    · simp; omega
    subst ev y3'
    have ap := T3.apart _ _ _ mid
    refine T3.go elts kk tpos i T { s with heap := h', toks := tk } _ _ mid fun h'' st'' hk'' => ?_
    obtain ⟨hz', hTI', hTO', ⟨h1', _⟩, ⟨h2', _⟩, h3'⟩ := st''
    obtain ⟨u, hu, ru⟩ := rv.get (i := i) (List.getElem?_eq_getElem hx)
    obtain ⟨v, hv, rv'⟩ := rv2.get (i := i) (List.getElem?_eq_getElem hy)
    obtain rfl : u = u1 := by
      have : its[i]? = some u1 := by simpa using y1
      rw [hu] at this; exact Option.some.inj this
    obtain rfl : v = u2 := by
      have : its2[i]? = some u2 := by simpa using y2
      rw [hv] at this; exact Option.some.inj this
    have hT2 : h''.IsTuple T #[u, v, .str ⟨#[c]⟩ tc] := hT.at fun o e => hk'' T o ap e
    have hk2 : ∀ b o, b ∉ [z, TO, i1, i2, i3] → s.heap.get? b = some o → h''.get? b = some o := fun b o hb e => hk'' b o hb (hk b o hb e)
    have new : ObjOk X.prog X.w (upd H T (.tup [xs[i], ys[i], .str ⟨#[c]⟩])) h'' T (.tup [xs[i], ys[i], .str ⟨#[c]⟩]) :=
      ⟨by show 3 ≤ sizeLine; decide, [u, v, .str ⟨#[c]⟩ tc], .cons ru (.cons rv' (.cons ⟨tc, rfl⟩ .nil)), hT2⟩
    have I1 : Inv X pins σ (upd H T (.tup [xs[i], ys[i], .str ⟨#[c]⟩])) { s with heap := h'', toks := tk } :=
      I.turnedNew (ch := [z, TI, TO, i1, i2, i3]) (fun c o hb q => hk2 c o (fun z => hb (mem36 z)) q) hf hge new
    refine ⟨.ref T, _, I1, rfl, ⟨T, xs[i], ys[i], c, rfl, I.hok.fresh hge, rfl, fun l hl => by rw [I.list_inj hl hqx]; exact List.getElem?_eq_getElem hx, fun l hl => by rw [I.list_inj hl hqy]; exact List.getElem?_eq_getElem hy, y3⟩, ⟨hz', hTI', hTO', h1', h2', h3'⟩, fun c hcm => ?_⟩
    have hlt : c < s.heap.objs.size := by
        have e' : c = z ∨ c = TI ∨ c = TO ∨ c = i1 ∨ c = i2 ∨ c = i3 := by simpa using hcm
        rcases e' with q | q | q | q | q | q
        · rw [q]; exact Heap.lt_size hz
        · rw [q]; exact Heap.lt_size hTI
        · rw [q]; obtain ⟨_, _, _, e⟩ := hTO; exact Heap.lt_size e
        · rw [q]; obtain ⟨_, e1, _⟩ := h1; exact Heap.lt_size e1
        · rw [q]; obtain ⟨_, e1, _⟩ := h2; exact Heap.lt_size e1
        · rw [q]; obtain ⟨_, e1, _⟩ := h3; exact Heap.lt_size e1
    rw [upd_ne (Nat.ne_of_lt (Nat.lt_of_lt_of_le hlt hge))]
    exact (hf c hcm).1
  done := by
    intro X hP hw hK hc i pins s σ H E I hf st hg
    subst hP hw hK
    obtain ⟨hz, hTI, hTO, h1, h2, h3⟩ := st
    obtain ⟨xs, ys, hqx, hqy, hend⟩ := hg
    obtain ⟨its, rv, p, _⟩ := I.list hqx
    obtain ⟨its2, rv2, p2, _⟩ := I.list hqy
    have l1 := rv.length
    have l2 := rv2.length
    have hh : X.A.in1.handled = none := I.ok.hd hc
    have D1 := Draws.list (prog := X.prog) (w := X.w) hh i1 a na its.toArray
    have D2 := Draws.list (prog := X.prog) (w := X.w) hh i2 b nb its2.toArray
    have D3 := Draws.text (prog := X.prog) (w := X.w) hh i3 x t
    have T3 := WalksT.zipD3 (A := X.A) D D1 D2 D3
    have ei : i = min (min its.toArray.size its2.toArray.size) x.cps.size := by simp; omega
    refine T3.done s _ E (by rw [← ei]; exact ⟨hz, hTI, hTO, ⟨h1, p.isList⟩, ⟨h2, p2.isList⟩, h3⟩) fun h' tk hk => ⟨rfl, I.turnedL (ch := [z, TI, TO, i1, i2, i3]) (fun c o hb q => hk c o (fun z => hb (mem36 z)) q) hf⟩
  self := fun A i s Q E st h => wpAny_pyIter_zip st.1 h
def zp3 (K : PySem.W.Frag) (vs : List V) (H : Hp) (R : It → Hp → Prop) : Prop := ∃ (a b : Addr) (x : Str) (xs ys : List V), vs = [.ref a, .ref b, .str x] ∧ SqL K H a xs ∧ SqL K H b ys ∧ R (Itz3 K a b x) H
def iZip3 (K : PySem.W.Frag) (ta : TA) : TI := fun σ H R => ta σ H fun vs H1 => zp3 K vs H1 R
theorem pi_zip3 {X : Cx} {e e2 e3 : Expr} {ta : TA} {p pos tpos : Pos} {elts : List Expr} {kk : Nat} (hg : Gl X "zip") (hm : X.mg "zip" = none) (ha : PA X [e, e2, e3] ta)
    (hs : starEach [e, e2, e3] X.env = (false, eval e X.env) :: starEach [e2, e3] X.env := by rfl) (hpl : (backTo pos (starEach [e2, e3] X.env)).any (·.1) = false := by rfl) :
    PI X (.Tuple elts kk tpos) (.Call (.Name "zip" p) [e, e2, e3] [] pos) (iZip3 X.K ta) := by
  refine ⟨fun pins s σ H R I h => ?_⟩
  refine Call_ (ld_blt I hg hm PyProof.Rows.boot_zip (PyProof.Rows.callWith_type1 (thn (ha.run pos pins s σ H _ I h) fun us s1 ⟨vs, H1, I1, r1, q1⟩ => ?_) hs hpl))
  obtain ⟨a, b, x, xs, ys, ex, hqx, hqy, q⟩ := q1
  subst ex
  cases r1 with
  | cons r rr =>
    cases rr with
    | cons r' rr =>
      cases rr with
      | cons r'' rr =>
      cases rr
      cases r
      cases r'
      obtain ⟨t, rfl⟩ := r''
      obtain ⟨its, rv, p1, _⟩ := I1.list hqx
      obtain ⟨its2, rv2, p2, _⟩ := I1.list hqy
      have la : a < s1.heap.objs.size := p1.lt
      have lb : b < s1.heap.objs.size := p2.lt
      refine zip_begins3 (begins_list a its.toArray) (begins_list b its2.toArray) (begins_text x t) p1.isList p2.isList trivial fun h' hz hTI hTO e1 e2 e3 hsz hk => wpAny_pyIter_zip hz ?_
      have I2 : Inv X pins σ H1 { s1 with heap := h' } := I1.kept (t' := s1.toks) hk
      have SP := zip_sep3 (N := s1.heap.objs.size) (fp1 := [a]) (fp2 := [b]) (fp3 := []) (by simpa using la) (by simpa using lb) (by simp)
      refine ⟨s1.heap.objs.size + 5, [s1.heap.objs.size + 5, s1.heap.objs.size + 3, s1.heap.objs.size + 4, s1.heap.objs.size, s1.heap.objs.size + 1, s1.heap.objs.size + 2], _, _, H1, rfl, I2, turn_zip3 (t := t) SP (Nat.ne_of_lt la) (Nat.ne_of_lt (Nat.lt_succ_of_lt lb)), ⟨hz, hTI, ⟨_, _, _, hTO⟩, ⟨_, e1, rfl, rfl⟩, ⟨_, e2, rfl, rfl⟩, ⟨_, e3, rfl, rfl⟩⟩, fun c hcm => ?_, q⟩
      have e' : c = s1.heap.objs.size + 5 ∨ c = s1.heap.objs.size + 3 ∨ c = s1.heap.objs.size + 4 ∨ c = s1.heap.objs.size ∨ c = s1.heap.objs.size + 1 ∨ c = s1.heap.objs.size + 2 := by simpa using hcm
      have hle : s1.heap.objs.size ≤ c := by
        rcases e' with z | z | z | z | z | z
        · rw [z]; exact Nat.le_add_right _ _
        · rw [z]; exact Nat.le_add_right _ _
        · rw [z]; exact Nat.le_add_right _ _
        · rw [z]; exact Nat.le_refl _
        · rw [z]; exact Nat.le_add_right _ _
        · rw [z]; exact Nat.le_add_right _ _
      exact I1.fpOk hle (I1.hok.fresh hle)
theorem s_zip3 {K : PySem.W.Frag} {tr : TA} {σ : L2.St} {H : Hp} {R : It → Hp → Prop} : iZip3 K tr σ H R = tr σ H (fun vs H1 => zp3 K vs H1 R) := rfl
end L2
/-! Texts. -/
namespace L2
open PySem PySem.Spec PyProof.Rows TL
section
variable {K : PySem.W.Frag} {H : Hp} {Q : VK} {x y z : Str} {n i : Int}
theorem v_addS : aAdd K (.str x) (.str y) H Q = (x.length + y.length ≤ sizeLine ∧ Q (.str (x ++ y)) H) := rfl
theorem v_mulS : aMul K (.str z) (.int n) H Q = ((-1000000 ≤ n ∧ n ≤ 10000 ∧ z.length ≤ 1000) ∧ Q (.str (Txt.mul z n)) H) := rfl
theorem v_lenS : aLen K [.str z] H Q = (z.length ≤ sizeLine ∧ Q (.int z.length) H) := rfl
theorem v_eqS : aEq K (.str x) (.str y) H Q = Q (.bl (decide (x = y))) H := by
  show (true = true ∧ Q (.bl (decide (V.str x = V.str y))) H) = _
  have e : decide (V.str x = V.str y) = decide (x = y) := by
    by_cases h : x = y
    · subst h; simp
    · simp [h]
  rw [e]; simp
theorem v_neS : aNe K (.str x) (.str y) H Q = Q (.bl (!decide (x = y))) H := by
  show (true = true ∧ Q (.bl (!decide (V.str x = V.str y))) H) = _
  have e : decide (V.str x = V.str y) = decide (x = y) := by
    by_cases h : x = y
    · subst h; simp
    · simp [h]
  rw [e]; simp
theorem w_ixS (h : z.length ≤ sizeLine) (h0 : 0 ≤ i) (h1 : i < z.length) (q : ∀ c, (tl z)[i.toNat]? = some c → Q (.str ⟨#[c]⟩) H) : aIx K (.str z) (.int i) H Q := by
  obtain ⟨j, rfl⟩ := Int.eq_ofNat_of_zero_le h0
  have hj : j < (tl z).length := by rw [← len_tl]; omega
  refine ⟨h, (tl z)[j], atI_nat (List.getElem?_eq_getElem hj), ?_⟩
  exact q _ (List.getElem?_eq_getElem hj)
theorem w_slS {lo hi : Option Int} (h : z.length ≤ sizeLine) (q : Q (.str (cutS z lo hi)) H) : aSl K (.str z) lo hi H Q := .inr (.inr ⟨z, rfl, h, q⟩)
theorem w_slL {a : Addr} {xs : List V} {lo hi : Option Int} (h : SqL K H a xs) (q : ∀ p, H p = none → Q (.ref p) (upd H p (.lst (cutV xs lo hi)))) : aSl K (.ref a) lo hi H Q := .inl ⟨a, xs, rfl, h, q⟩
theorem joinC {ys : List Str} {m : Nat} (hm : ∀ y ∈ ys, y.length ≤ m) (hz : ys.length * (m + x.length) ≤ 16000000) : (ys.map (·.length)).sum + ys.length * x.length ≤ 16777216 := by
  have : (ys.map (·.length)).sum ≤ ys.length * m := by
    clear hz
    induction ys with
    | nil => simp
    | cons y ys ih =>
      have h1 := hm y List.mem_cons_self
      have h2 := ih fun y hy => hm y (List.mem_cons_of_mem _ hy)
      simp only [List.map_cons, List.sum_cons, List.length_cons, Nat.succ_mul]
      omega
  rw [Nat.mul_add] at hz
  omega
theorem w_join {p : Addr} {ys : List Str} {m : Nat} (h : SqL K H p (ys.map V.str)) (hm : ∀ y ∈ ys, y.length ≤ m) (hz : ys.length * (m + x.length) ≤ 16000000) (q : Q (.str (Str.join x ys)) H) :
    tyV K "str" (.str x) H ∧ ∃ (a : Str) (p' : Addr), ∃ ys' : List Str, V.str x = .str a ∧ [V.ref p] = [.ref p'] ∧ (SqL K H p' (ys'.map V.str) ∨ SqT K H p' (ys'.map V.str)) ∧ (ys'.map (·.length)).sum + ys'.length * a.length ≤ 16777216 ∧ Q (.str (Txt.join a ys')) H := by
  refine ⟨rfl, x, p, ys, rfl, rfl, .inl h, ?_, by rw [join_eq]; exact q⟩
  have : (ys.map (·.length)).sum ≤ ys.length * m := by
    clear h hz q
    induction ys with
    | nil => simp
    | cons y ys ih =>
      have h1 := hm y List.mem_cons_self
      have h2 := ih fun y hy => hm y (List.mem_cons_of_mem _ hy)
      simp only [List.map_cons, List.sum_cons, List.length_cons, Nat.succ_mul]
      omega
  rw [Nat.mul_add] at hz
  omega
theorem w_rstrip (h : z.length ≤ sizeLine) (q : Q (.str (Txt.rstripChars z x)) H) :
    tyV K "str" (.str z) H ∧ ∃ a b : Str, V.str z = .str a ∧ [V.str x] = [.str b] ∧ a.length ≤ sizeLine ∧ Q (.str (Txt.rstripChars a b)) H := ⟨rfl, z, x, rfl, rfl, h, q⟩
/-- list + list -/
theorem w_catL {p q : Addr} {xs ys : List V} (h : H p = some (.lst xs)) (h' : H q = some (.lst ys)) (hz : xs.length + ys.length ≤ sizeLine) (k : ∀ r, H r = none → Q (.ref r) (upd H r (.lst (xs ++ ys)))) : aAdd K (.ref p) (.ref q) H Q := .inl ⟨p, q, xs, ys, rfl, rfl, h, h', hz, k⟩
end
theorem tl_mul (x : Str) (n : Int) : tl (Txt.mul x n) = (List.replicate n.toNat (tl x)).flatten := by
  unfold Txt.mul
  by_cases h : n < 1
  · rw [if_pos h]
    have : n.toNat = 0 := by omega
    rw [this]; rfl
  · rw [if_neg h]
    by_cases h2 : (n == 1 || x.length == 0) = true
    · rw [if_pos h2]
      rcases Bool.or_eq_true_iff.mp h2 with h3 | h3
      · have : n = 1 := by simpa using h3
        subst this; simp
      · have e : x.length = 0 := by simpa using h3
        rw [len_tl] at e
        have e := List.length_eq_zero_iff.mp e
        rw [e]; simp
    · rw [if_neg h2]
      have key : ∀ (m : Nat) (b : Array Nat), ((List.replicate m x.cps).foldl (· ++ ·) b).toList = b.toList ++ (List.replicate m (tl x)).flatten := by
        intro m
        induction m with
        | zero => intro b; simp
        | succ m ih =>
          intro b
          rw [List.replicate_succ, List.foldl_cons, ih, List.replicate_succ, List.flatten_cons, Array.toList_append, List.append_assoc]
      exact key _ _
theorem len_mul {x : Str} {n : Int} : (Txt.mul x n).length = n.toNat * x.length := by
  rw [len_tl, tl_mul, len_tl]
  induction n.toNat with
  | zero => simp
  | succ m ih => rw [List.replicate_succ, List.flatten_cons, List.length_append, ih, Nat.succ_mul]; omega
theorem len_app (x y : Str) : (x ++ y).length = x.length + y.length := by rw [len_tl, tl_append, List.length_append, ← len_tl, ← len_tl]
/-- where the text ends, the spaces behind it aside -/
def rend (l : List Nat) : Nat := l.length - (l.reverse.takeWhile (· == 32)).length
theorem rend_le (l : List Nat) : rend l ≤ l.length := Nat.sub_le _ _
theorem tl_rstrip (x : Str) : tl (Txt.rstripChars x " ") = (tl x).take (rend (tl x)) := by
  have c : (Str.ofString " ").cps.contains = fun c => (c == 32) := by
    have e : (Str.ofString " ").cps = #[32] := by decide +kernel
    rw [e]; funext c
    rw [Bool.eq_iff_iff, Array.contains_iff_mem]
    simp
  have hi : stripHi (Str.ofString " ").cps.contains true x (stripLo (Str.ofString " ").cps.contains false x) = rend (tl x) := by
    show x.length - (((tl x).drop 0).reverse.takeWhile _).length = _
    rw [c, List.drop_zero, len_tl]; rfl
  show tl (if stripSame _ _ _ x = true then x else stripped _ _ _ x) = _
  by_cases h : stripSame (Str.ofString " ").cps.contains false true x = true
  · rw [if_pos h]
    have h2 := (Bool.and_eq_true_iff.mp h).2
    rw [hi] at h2
    have : rend (tl x) = x.length := by simpa using h2
    rw [this, len_tl, List.take_length]
  · rw [if_neg h]
    unfold stripped
    rw [hi, tl_strSub]
    show ((tl x).drop 0).take (rend (tl x) - 0) = _
    simp
theorem rend_uniq {l : List Nat} {e : Nat} (h : e ≤ l.length) (h1 : ∀ j, e ≤ j → j < l.length → l[j]? = some 32) (h2 : e = 0 ∨ l[e - 1]? ≠ some 32) : rend l = e := by
  have key : ∀ (m : List Nat), (∀ c ∈ m, c = 32) → ∀ (a : List Nat), (a = [] ∨ a.getLast? ≠ some 32) → ((a ++ m).reverse.takeWhile (· == 32)).length = m.length := by
    intro m hm a ha
    rw [List.reverse_append, List.takeWhile_append_of_pos (by intro c hc; simpa using hm c (by simpa using hc))]
    have : a.reverse.takeWhile (· == 32) = [] := by
      rcases ha with rfl | ha
      · rfl
      · cases e : a.reverse with
        | nil => rfl
        | cons c r =>
          have e2 : a.getLast? = some c := by rw [List.getLast?_eq_head?_reverse, e]; rfl
          rw [e2] at ha
          have : (c == 32) = false := by
            rw [beq_eq_false_iff_ne]
            intro z; exact ha (by rw [z])
          simp [List.takeWhile, this]
    rw [this]; simp
  unfold rend
  have hl : l = l.take e ++ l.drop e := (List.take_append_drop e l).symm
  have k := key (l.drop e) (fun c hc => ?_) (l.take e) ?_
  · rw [← hl] at k
    rw [k, List.length_drop]; omega
  · obtain ⟨j, hj, e1⟩ := List.mem_iff_getElem.mp hc
    rw [List.length_drop] at hj
    have := h1 (e + j) (by omega) (by omega)
    rw [List.getElem_drop] at e1
    rw [List.getElem?_eq_getElem (by omega)] at this
    rw [← e1]; exact Option.some.inj this
  · rcases h2 with rfl | h2
    · exact .inl rfl
    · by_cases e0 : e = 0
      · subst e0; exact .inl rfl
      · refine .inr ?_
        rw [List.getLast?_eq_getElem?, List.length_take, Nat.min_eq_left h, List.getElem?_take_of_lt (by omega)]
        exact h2
theorem join_snoc (y x : Str) {xs : List Str} (h : xs ≠ []) : Str.join y (xs ++ [x]) = Str.join y xs ++ y ++ x := by
  apply ext_tl
  rw [tl_join, tl_append, tl_append, tl_join]
  rw [List.map_append, List.map_singleton]
  have key : ∀ (ps : List (List Nat)) (S p : List Nat), ps ≠ [] → joinL S (ps ++ [p]) = joinL S ps ++ S ++ p := by
    intro ps S p
    induction ps with
    | nil => intro h; exact absurd rfl h
    | cons a r ih =>
      intro _
      cases r with
      | nil => show a ++ (S ++ p) = a ++ S ++ p; rw [List.append_assoc]
      | cons b r =>
        have := ih (by simp)
        show a ++ (S ++ joinL S ((b :: r) ++ [p])) = a ++ (S ++ joinL S (b :: r)) ++ S ++ p
        rw [this]; simp [List.append_assoc]
  exact key _ _ _ (by simpa using h)
theorem join_one (y x : Str) : Str.join y [x] = x := by
  apply ext_tl
  rw [tl_join]; rfl
theorem join_nil (y : Str) : Str.join y [] = Str.empty := by
  apply ext_tl
  rw [tl_join]; rfl
end L2
/-! The rules within a comprehension: the written part by its own name. -/
namespace L2
open PySem PySem.Spec PyProof.Rows
section
variable {X : Cx} {K : PySem.W.Frag}
theorem opK {op : Value → Value → Sem Value} {r : PySem.W.Frag → R2} (h : OpR X op (r X.K)) (e : X.K = K) : OpR X op (r K) := e ▸ h
theorem ixK {r : PySem.W.Frag → R2} (h : IxR X (r X.K)) (e : X.K = K) : IxR X (r K) := e ▸ h
theorem calK {f : Value} {r : PySem.W.Frag → List V → Hp → VK → Prop} (h : CallR X f (r X.K)) (e : X.K = K) : CallR X f (r K) := e ▸ h
theorem slK {r : PySem.W.Frag → V → Option Int → Option Int → Hp → VK → Prop} (h : SlR X (r X.K)) (e : X.K = K) : SlR X (r K) := e ▸ h
end
end L2
/-! Comprehensions whose elements change nothing that stood. -/
namespace L2
open PySem PySem.Spec PyProof.Rows
section
variable {K : PySem.W.Frag} {te : TE} {g : TG} {σ : St} {H : Hp} {Q : VK} {vs : List Nat}
theorem lc_step {f : Nat → V} {i : Nat} {L : Addr} {H' H4 : Hp} (hL : H L = none) (s1 : Same H H') (e : H' L = some (.lst ((List.range i).map f))) (hi : i < 100000) (s2 : Same H' H4) :
    ∃ acc, H4 L = some (.lst acc) ∧ acc.length < sizeLine ∧ (H L = none ∧ Same H (upd H4 L (.lst (acc ++ [f i]))) ∧ (upd H4 L (.lst (acc ++ [f i]))) L = some (.lst ((List.range (i + 1)).map f))) := by
  refine ⟨_, s2 _ _ e, by rw [List.length_map, List.length_range]; exact small1000' (by omega), hL, fun b o z => ?_, ?_⟩
  · rw [upd_ne (ne_of_none z hL)]
    exact s2 _ _ (s1 _ _ z)
  · rw [upd_same, List.range_succ, List.map_append]; rfl
theorem w_lcLf {a : Addr} {xs : List V} (f : Nat → V) (hS : SqL K H a xs) (hz : xs.length ≤ 100000)
    (hs : ∀ i x H' (N : VK), xs[i]? = some x → Same H H' → (∀ H4, Same H' H4 → N (f i) H4) → g x (wipe σ vs) H' fun σ2 H2 => wipe σ2 vs = wipe σ vs ∧ te σ2 H2 N)
    (hd : ∀ L H', Same H H' → H L = none → H' L = some (.lst ((List.range xs.length).map f)) → Q (.ref L) H') : lcJ (Itl K a) g tYes te vs σ Q H := by
  refine w_lcL (fun L i H' => H L = none ∧ Same H H' ∧ H' L = some (.lst ((List.range i).map f))) (fun L hL => ⟨hL, (W.start.new hL).fr, upd_same⟩) (fun L i H' _ p => p.2.1.seq hS) (fun L i x H' hx p => ?_) (fun L H' hL p => hd L H' p.2.1 p.1 p.2.2)
  have hi : i < xs.length := (List.getElem?_eq_some_iff.mp hx).1
  exact hs i x H' _ hx p.2.1 fun H4 s => lc_step p.1 p.2.1 p.2.2 (by omega) s
theorem w_lcRf {lo : Int} {n : Nat} (f : Nat → V) (hz : n ≤ 100000)
    (hs : ∀ (i : Nat) H' (N : VK), i < n → Same H H' → (∀ H4, Same H' H4 → N (f i) H4) → g (.int (lo + i)) (wipe σ vs) H' fun σ2 H2 => wipe σ2 vs = wipe σ vs ∧ te σ2 H2 N)
    (hd : ∀ L H', Same H H' → H L = none → H' L = some (.lst ((List.range n).map f)) → Q (.ref L) H') : lcJ (Itr lo n) g tYes te vs σ Q H := by
  refine w_lcR (fun L i H' => H L = none ∧ Same H H' ∧ H' L = some (.lst ((List.range i).map f))) (fun L hL => ⟨hL, (W.start.new hL).fr, upd_same⟩) (fun L i H' hi p => ?_) (fun L H' hL p => hd L H' p.2.1 p.1 p.2.2)
  exact hs i H' _ hi p.2.1 fun H4 s => lc_step p.1 p.2.1 p.2.2 (by omega) s
theorem w_lc3f {a b : Addr} {x : Str} {xs ys : List V} {p q r : Nat} (f : Nat → V) (hS : SqL K H a xs) (hS2 : SqL K H b ys) (e1 : ys.length = xs.length) (e2 : x.cps.size = xs.length) (hz : xs.length ≤ 100000)
    (hs : ∀ i u w c H' (N : VK), xs[i]? = some u → ys[i]? = some w → x.cps[i]? = some c → Same H H' → (∀ H4, Same H' H4 → N (f i) H4) →
      wipe ((((wipe σ vs).set p (some u)).set q (some w)).set r (some (.str ⟨#[c]⟩))) vs = wipe σ vs ∧ te ((((wipe σ vs).set p (some u)).set q (some w)).set r (some (.str ⟨#[c]⟩))) H' N)
    (hd : ∀ L H', Same H H' → H L = none → H' L = some (.lst ((List.range xs.length).map f)) → Q (.ref L) H') : lcJ (Itz3 K a b x) (gTup K 3 (gCons (gName p) (gCons (gName q) (gCons (gName r) gNil)))) tYes te vs σ Q H := by
  intro D hD
  refine ⟨fun i m H' => m = xs.length - i ∧ i ≤ xs.length ∧ (H D = none ∧ Same H H' ∧ H' D = some (.lst ((List.range i).map f))), ⟨xs.length, by simp, Nat.zero_le _, hD, (W.start.new hD).fr, upd_same⟩, ?_⟩
  rintro i m H1 ⟨rfl, hi, hD0, s1, e⟩
  have hX := s1.seq hS
  have hY := s1.seq hS2
  by_cases hlt : i < xs.length
  · refine .inr ⟨⟨xs, ys, hX, hY, hlt, by omega, by omega⟩, fun H' => H D = none ∧ Same H H' ∧ H' D = some (.lst ((List.range (i + 1)).map f)), fun H' p' => ⟨xs.length - (i + 1), by omega, rfl, hlt, p'⟩, fun v H' y => ?_⟩
    obtain ⟨T, u, w, c, rfl, hT, rfl, y1, y2, y3⟩ := y
    have sm : Same H1 (upd H1 T (.tup [u, w, .str ⟨#[c]⟩])) := fun b o e => by rw [upd_ne (ne_of_none e hT)]; exact e
    refine ⟨T, _, rfl, SqT.of upd_same, rfl, u, _, rfl, w, _, rfl, _, [], rfl, rfl, ?_⟩
    have := hs i u w c _ (fun y H4 => ∃ acc, H4 D = some (.lst acc) ∧ acc.length < sizeLine ∧ (H D = none ∧ Same H (upd H4 D (.lst (acc ++ [y]))) ∧ (upd H4 D (.lst (acc ++ [y]))) D = some (.lst ((List.range (i + 1)).map f)))) (y1 _ hX) (y2 _ hY) y3 (s1.trans sm) fun H4 s => lc_step hD0 (s1.trans sm) (sm _ _ e) (by omega) s
    exact this
  · have e' : i = xs.length := by omega
    subst e'
    exact .inl ⟨⟨xs, ys, hX, hY, by omega⟩, hd D H1 s1 hD0 e⟩
end
end L2
/-! Comprehensions whose elements are new things; nested lists as data. -/
namespace L2
open PySem PySem.Spec PyProof.Rows TL
section
variable {K : PySem.W.Frag} {te : TE} {g : TG} {σ : St} {H : Hp} {Q : VK} {vs : List Nat}
theorem w_lcNew {a : Addr} {xs : List V} (ob : Nat → HO) (hS : SqL K H a xs) (hz : xs.length ≤ 100000)
    (hs : ∀ i x H' (N : VK), xs[i]? = some x → Same H H' → (∀ l H4, Same H' H4 → H' l = none → H4 l = some (ob i) → N (.ref l) H4) → g x (wipe σ vs) H' fun σ2 H2 => wipe σ2 vs = wipe σ vs ∧ te σ2 H2 N)
    (hd : ∀ L H' (bs : List Addr), Same H H' → H L = none → H' L = some (.lst (bs.map V.ref)) → bs.length = xs.length → (∀ (j : Nat) (b : Addr), bs[j]? = some b → H b = none ∧ b ≠ L ∧ H' b = some (ob j)) → bs.Nodup → Q (.ref L) H') : lcJ (Itl K a) g tYes te vs σ Q H := by
  refine w_lcL (fun L i H' => H L = none ∧ Same H H' ∧ ∃ bs : List Addr, H' L = some (.lst (bs.map V.ref)) ∧ bs.length = i ∧ (∀ (j : Nat) (b : Addr), bs[j]? = some b → H b = none ∧ b ≠ L ∧ H' b = some (ob j)) ∧ bs.Nodup)
    (fun L hL => ⟨hL, (W.start.new hL).fr, [], upd_same, rfl, fun j b e => by simp at e, List.nodup_nil⟩) (fun L i H' _ p => p.2.1.seq hS) (fun L i x H' hx p => ?_) (fun L H' hL p => ?_)
  · have hi : i < xs.length := (List.getElem?_eq_some_iff.mp hx).1
    obtain ⟨hL, s1, bs, e1, e2, e3, e4⟩ := p
    refine hs i x H' _ hx s1 fun l H4 s2 hl hl4 => ?_
    have ne : l ≠ L := fun z => by rw [z, e1] at hl; cases hl
    have hl0 : H l = none := s1.free hl
    refine ⟨_, s2 _ _ e1, by rw [List.length_map]; exact small1000' (by omega), hL, fun b o z => ?_, bs ++ [l], ?_, by simp [e2], fun j b hb => ?_, ?_⟩
    · rw [upd_ne (ne_of_none z hL)]
      exact s2 _ _ (s1 _ _ z)
    · rw [upd_same, List.map_append]; rfl
    · by_cases hj : j < bs.length
      · rw [List.getElem?_append_left hj] at hb
        obtain ⟨h1, h2, h3⟩ := e3 j b hb
        exact ⟨h1, h2, by rw [upd_ne h2]; exact s2 _ _ h3⟩
      · rw [List.getElem?_append_right (by omega)] at hb
        have hj' : j - bs.length = 0 := by
          have := (List.getElem?_eq_some_iff.mp hb).1
          simp at this; omega
        rw [hj'] at hb
        cases Option.some.inj hb
        have : j = i := by omega
        subst this
        exact ⟨hl0, ne, by rw [upd_ne ne]; exact hl4⟩
    · rw [List.nodup_append]
      refine ⟨e4, by simp, fun b hb c hc => ?_⟩
      have hc' : c = l := by simpa using hc
      subst hc'
      obtain ⟨j, hj, e⟩ := List.mem_iff_getElem.mp hb
      obtain ⟨_, _, h3⟩ := e3 j b (by rw [List.getElem?_eq_getElem hj, e])
      intro z
      rw [z, hl] at h3; cases h3
  · obtain ⟨_, s1, bs, e1, e2, e3, e4⟩ := p
    exact hd L H' bs s1 hL e1 e2 e3 e4
end
section
variable {K : PySem.W.Frag} {H : Hp}
/-- lists of lists of texts as data -/
abbrev dS (r : List Str) : PyData := .list (r.map PyData.str)
theorem Dp.strL {a : Addr} {ns : List Str} (h : SqL K H a (ns.map V.str)) : Dp K H (.ref a) (dS ns) := .lst h (DpAll.strs ns)
theorem dpAll_of {α : Type} (d : α → PyData) : ∀ {as : List Addr} {rs : List α}, as.length = rs.length → (∀ (i : Nat) (a : Addr) (r : α), as[i]? = some a → rs[i]? = some r → Dp K H (.ref a) (d r)) → DpAll K H (as.map V.ref) (rs.map d)
  | [], [], _, _ => .nil
  | a :: as, r :: rs, h, k => .cons (k 0 a r rfl rfl) (dpAll_of d (by simpa using h) fun i a r h1 h2 => k (i + 1) a r (by simpa using h1) (by simpa using h2))
  | [], _ :: _, h, _ => by simp at h
  | _ :: _, [], h, _ => by simp at h
theorem fits_dS {n : Nat} {r : List Str} (h : r.length ≤ 100000) : fits (n + 1) (dS r) := by
  refine ⟨by rw [List.length_map]; exact h, fun d hd => ?_⟩
  obtain ⟨x, _, rfl⟩ := List.mem_map.mp hd
  cases n <;> trivial
end
/-- an if whose ways meet again, not opened by the walk: w_ifJ -/
def tIfJ (c : TT) (t u : TS) : TS := tIfS c t u
theorem ps_ifJ {X : Cx} {c : Expr} {th el : List Stmt} {pos : Pos} {tt : TT} {t u : TS} (h : PS X (.If c th el pos) (tIfS tt t u)) : PS X (.If c th el pos) (tIfJ tt t u) := h
theorem w_ifJ {c : TT} {t u : TS} {D : Ends} {σ : St} {H : Hp} (J : St → Hp → Prop) (hJ : ∀ σ H, J σ H → D.nx σ H) (h : ∀ nx : St → Hp → Prop, (∀ σ H, J σ H → nx σ H) → tIfS c t u { D with nx := nx } σ H) : tIfJ c t u D σ H := h D.nx hJ
theorem w_orA {tB' : TT} {σ : St} {QT : Bool → Hp → Prop} {b : Bool} {H : Hp} (hall : ∀ b, QT b H) (h2 : (∀ b, QT b H) → tB' σ H QT) : oB tB' σ QT b H := by
  cases b with
  | true => exact hall true
  | false => exact h2 hall
theorem joinL_nil : ∀ ps : List (List Nat), joinL [] ps = ps.flatten
  | [] => rfl
  | [p] => by simp [joinL]
  | p :: q :: r => by
    have := joinL_nil (q :: r)
    show p ++ ([] ++ joinL [] (q :: r)) = _
    rw [this]; simp
theorem join0_len {ys : List Str} (h : ∀ y ∈ ys, y.length = 1) : (Str.join "" ys).length = ys.length := by
  rw [len_tl, tl_join]
  have e : tl ("" : Str) = [] := by decide +kernel
  rw [e, joinL_nil]
  induction ys with
  | nil => rfl
  | cons y ys ih =>
    have h1 := h y List.mem_cons_self
    have h2 := ih fun y hy => h y (List.mem_cons_of_mem _ hy)
    rw [len_tl] at h1
    simp only [List.map_cons, List.flatten_cons, List.length_append, List.length_cons, h1, h2]
    omega
theorem one_sign (c : Nat) : (⟨#[c]⟩ : Str).length = 1 := rfl
end L2
/-! Own classes: __iter__ that hands out a tuple's iterator, __len__. -/
namespace L2
open PySem PySem.Spec PyProof.Rows
/-- a def's promise that may speak of the heap's size at the call -/
structure FnN (P : Program) (w : World) (K : PySem.W.Frag) (mg : Str → Option Value) (base : Heap) (CX : CXT) (k : Nat) (f : Addr) (fd : FuncData) (ps : List Str) (sp : Nat → Sp) : Prop where
  len : ∀ n vs H Q E, sp n vs H Q E → vs.length = ps.length
  run : ∀ (A : Around) (outer : List Env) (s : Shared) (H : Hp) (args : Args) (us : List Value) (vs : List V) (Q : VK) (E : XK), Room k A → Env0 P w K mg base A outer s H → BindsTo s fd args (ps.zip us) → Vals vs us → sp s.heap.objs.size vs H Q E →
    codeAny (model P w) A (.call (.ref f) args) (CR CX outer P w H s Q E) s
theorem fn_ofN {CX : CXT} {P : Program} {w : World} {K : PySem.W.Frag} {mg : Str → Option Value} {base : Heap} {k : Nat} {f : Addr} {name qual : Str} {params : Arguments} {body : List Stmt} {scope : Scope} {dV kV doc pm cdv ct oc : Value} {an od : Option Addr}
    {osl : Array (Option Value)} {N ps : List Str} {sp : Nat → Sp} (lk : K.lookup f = some ⟨oc, od, .func (PySem.W.fnOf name qual params body scope dV kV doc pm an cdv ct), osl⟩) (hcd : PySem.W.codeIn K cdv qual = true) (S : FnScope N ps scope)
    (len : ∀ n vs H Q E, sp n vs H Q E → vs.length = ps.length)
    (hbody : ∀ (A : Around) (outer : List Env) (s : Shared) (H : Hp) (vs : List V) (Q : VK) (E : XK), Room k (A.deeper (envOfC qual scope s.heap.objs.size f cdv)) → sp s.heap.objs.size vs H Q E →
      ∃ t, PSs (cxOf CX P w K mg base N qual scope f cdv A outer s H E) body t ∧ t { nx := fun _ H' => Q .non H', rt := Q } (start N vs) H) :
    FnN P w K mg base CX (k + 1) f (PySem.W.fnOf name qual params body scope dV kV doc pm an cdv ct) ps sp := by
  refine ⟨len, fun A outer s H args us vs Q E hr e0 hb r hsp => ?_⟩
  have hl := len _ _ _ _ _ hsp
  have KX : K.In s.heap := e0.mod.kin.keeps fun b o e => (e0.bs b o e).1
  have lim : s.heap.NoLimit := e0.mod.nolimit.keeps fun b o e => (e0.bs b o e).1
  have hkind : ∀ y ∈ ps.zip us, scope.names.lookup y.1 = some .local ∨ (scope.names.lookup y.1 = some .cell ∧ ((cellsFrom (s.heap.objs.size + 1) scope.names []).lookup y.1).isSome = true) := fun ⟨n, v⟩ hy => by
    rcases S.par n (List.of_mem_zip hy).1 with q | q
    · exact .inl q
    · exact .inr ⟨q, PySem.W.cellsFrom_some _ _ _ (.inl q)⟩
  refine codeAny_call_function hr.depth (KX _ _ lk) rfl S.co S.gen rfl (PySem.W.codeRec_of KX hcd) (hb _ _ _ _ ?_)
  refine wpAny_newFunctionEnv_cells S.kind hkind fun env he s1 x => ?_
  subst he
  refine ⟨lim.keeps x.toInCall.keep, codeAny_func ?_⟩
  obtain ⟨t, ht, hq⟩ := hbody A outer s H vs Q E (hr.deeper _) hsp
  have I : Inv (cxOf CX P w K mg base N qual scope f cdv A outer s H E) [] (start N vs) H s1 := inv_start S hr.hd e0 hl r x
  refine wpAny_mono (ht.run [] s1 (start N vs) H _ I hq) (fun fl s' hs => ?_) fun e s' hs => hs
  have fin : ∀ {σ' : St} {H' : Hp} {v : V} {u : Value}, Inv (cxOf CX P w K mg base N qual scope f cdv A outer s H E) [] σ' H' s' → RelV v u → Q v H' → CE outer P w H s Q u s' :=
    fun {σ' H' v u} J rv q => ⟨v, H', J.os, J.bare, J.base, J.hok, rv, q⟩
  cases fl with
  | ret u =>
    obtain ⟨v, σ', H', J, rv, q⟩ := hs
    exact fin J rv q
  | next =>
    obtain ⟨σ', H', J, q⟩ := hs
    exact fin (v := V.non) (u := Value.none) J rfl q
  | brk =>
    obtain ⟨_, _, _, q⟩ := hs
    exact False.elim q
  | cont =>
    obtain ⟨_, _, _, q⟩ := hs
    exact False.elim q
/-! ### iter(t), t a tuple -/
/-- the iterator of the tuple at t, at its place i -/
def ItTO (t it : Addr) (i : Nat) : HO := .ext fun h => h.IsTupleIter it t i
theorem itTO_ok {P : Program} {w : World} {H : Hp} {h : Heap} {t it : Addr} {i : Nat} (e : h.IsTupleIter it t i) : ObjOk P w H h it (ItTO t it i) := ⟨e, (let ⟨o, ho, _⟩ := e; ⟨o, ho⟩), fun h1 h2 q k => q.at fun o z => k _ z⟩
def rIterT (K : PySem.W.Frag) (n : Nat) : List V → Hp → VK → Prop := fun xs H Q => ∃ (t : Addr) (zs : List V), xs = [.ref t] ∧ SqT K H t zs ∧ ∀ it, H it = none → n ≤ it → Q (.ref it) (upd H it (ItTO t it 0))
theorem call_iterT {X : Cx} : CallR X (.builtin "iter") (rIterT X.K X.s_0.heap.objs.size) := by
  intro pins s σ H xs us Q I r h
  obtain ⟨t, zs, rfl, hq, q⟩ := h
  obtain ⟨u, rfl, ru⟩ := vals1 r
  cases ru
  obtain ⟨its, rv, pl, hz⟩ := I.tuple hq
  refine Calls.call_function_entry (by decide +kernel) (by decide +kernel) PySem.W.kdk_entry_iter (PySem.W.kdk_args_iter _) ?_
  unfold Builtin.«iter»
  refine wpAny_bind (m := someArgs "iter" 1 2 _) (wpAny_of_eq (a := [Value.ref t]) (by first | rfl | kernel_rfl!) ?_)
  show wpAny _ _ (pyIter (.ref t) >>= _) _ _ _
  refine wpAny_bind (wpAny_pyIter_tuple (show s.heap.IsTuple t its.toArray from pl) ?_)
  refine wpAny_pure ⟨_, rfl, ?_⟩
  exact ⟨.ref s.heap.objs.size, _, I.laid (t' := s.toks) (fun b u e => Heap.get?_push_of_some _ e) (Nat.le_refl _) (itTO_ok ⟨_, Heap.get?_push_size _ rfl, rfl, rfl⟩), rfl, q _ (I.hok.fresh (Nat.le_refl _)) I.sz⟩
/-! ### iter(o): o an instance whose __iter__ is `return iter(self.fld)`, fld a tuple -/
structure OwnIt (K : PySem.W.Frag) (C f : Addr) : Prop where
  it : PySem.W.findIn K (.ref C) "__iter__" = some (some (.ref f))
  fn : PySem.W.isFn K (.ref f) = true
def spIt (K : PySem.W.Frag) (C : Addr) (fld : Str) (n : Nat) : Sp := fun vs H Q _ => ∃ (a dx : Addr) (fs : List (Str × V)) (t : Addr) (zs : List V), vs = [.ref a] ∧ H a = some (.ins C dx fs) ∧ fs.lookup fld = some (.ref t) ∧ SqT K H t zs ∧ ∀ it, H it = none → n ≤ it → Q (.ref it) (upd H it (ItTO t it 0))
theorem own_iter {X : Cx} {A1 : Around} {n : Nat} {C fi a dx t : Addr} {fdI : FuncData} {fld : Str} {fs : List (Str × V)} {zs : List V} {pins : List (Addr × Obj)} {σ : St} {H : Hp} {s : Shared} {Qi : Value → Shared → Prop} (sb : L2.Sub X n A1) (hc : OwnIt X.K C fi)
    (FI : FnN X.prog X.w X.K X.mg X.base (CX X.prog X.w) n fi fdI ["self"] (spIt X.K C fld)) (bI : Binds X.K fdI ["self"] []) (I : Inv X pins σ H s) (ha : H a = some (.ins C dx fs)) (hf : fs.lookup fld = some (.ref t)) (hS : SqT X.K H t zs)
    (h : ∀ it s', Inv X pins σ H s' → s'.heap.IsTupleIter it t 0 → FpOk X pins H it → Qi (.ref it) s') : wpAny (model X.prog X.w) A1 (pyIter (.ref a)) Qi X.xe s := by
  obtain ⟨mA, O, _, _, _, _⟩ := ins_get I.hok ha
  obtain ⟨od, J, _⟩ := O.look
  obtain ⟨m, hF⟩ := I.fr
  refine PySem.W.owit_iter hF I.ok.mod.kin J hc.it hc.fn ?_
  have e0 : Env0 X.prog X.w X.K X.mg X.base A1 X.stack s H := by
    have e := I.env0
    exact ⟨by rw [sb.fr]; exact e.frames, e.mod, e.bs, e.bsz, e.funs, e.frf, e.hok, e.bare⟩
  have r2 : Vals [V.ref a] [Value.ref a] := .cons rfl .nil
  have hsp : spIt X.K C fld s.heap.objs.size [.ref a] H (fun v H' => ∃ it, v = .ref it ∧ H it = none ∧ s.heap.objs.size ≤ it ∧ H' = upd H it (ItTO t it 0)) (fun _ _ _ => False) :=
    ⟨a, dx, fs, t, zs, rfl, ha, hf, hS, fun it h1 h2 => ⟨it, rfl, h1, h2, rfl⟩⟩
  refine wpAny_call (codeAny_mono (FI.run A1 X.stack s H ⟨[.ref a], []⟩ [.ref a] [.ref a] _ _ sb.room e0 (by
    have := bI s [.ref a] I.kIn (by rfl)
    simpa using this) r2 hsp) fun r s' hq => ?_)
  cases r with
  | error e => exact passL pins σ H s e s' I hq
  | ok fl =>
    cases fl with
    | ret u =>
      obtain ⟨v, H', I', rv, it, rfl, h1, h2, rfl⟩ := I.after hq
      cases rv
      have ex : (upd H it (ItTO t it 0)) it = some (ItTO t it 0) := upd_same
      have e : s'.heap.IsTupleIter it t 0 := (I'.hok it _ ex).1
      have I2 := ItX.inv_drop I' (φ := fun h => h.IsTupleIter it t 0) ex
      have fp := ItX.inv_fp I' ex (Nat.le_trans I.sz h2)
      rw [ItX.dropH_upd h1] at I2 fp
      obtain ⟨o, ho, hcl, hd⟩ := id e
      show wpAny _ _ (specialOf (.ref it) "__next__") _ _ _
      refine wpAny_specialOf (name := Str.ofString "__next__") (show s'.TypeIs (.ref it) "tuple_iterator" from ⟨o, ho, hcl⟩) PySem.F.slot_tuple_iterator_next.lookup ?_
      exact h it s' I2 e fp
    | next => exact False.elim hq
    | brk => exact False.elim hq
    | cont => exact False.elim hq

end L2
namespace L2
open PySem PySem.Spec PyProof.Rows
section
variable {prog : Program} {w : World} {A : Around} {s : Shared}
theorem enum_new {v : Value} {E : Value → Shared → Prop} {R : Result → Shared → Prop} (h : wpAny (model prog w) A (pyIter v) (fun it s1 => ∃ b, it = .ref b ∧ R (.ok (.ret (.ref s1.heap.objs.size))) { s1 with heap := s1.heap.push { cls := .type "enumerate", data := .fields #[.none, .bool false, .ref b, rawInt 0, .none, .none] } }) E s) :
    wpAny (model prog w) A (Builtin.«enumerate.__new__» ⟨[.type "enumerate", v], []⟩) (fun fin s' => ∃ r, fin = .done r ∧ R (.ok r) s') E s := by
  obtain ⟨hp, g, d, tk, os⟩ := s
  have hsub := sub_enumerate
  have q1 : ∀ {Q' : Value → Shared → Prop} {E' : Value → Shared → Prop}, (∀ e s', E e s' → E' e s') → (∀ b s1, R (.ok (.ret (.ref s1.heap.objs.size))) { s1 with heap := s1.heap.push { cls := .type "enumerate", data := .fields #[.none, .bool false, .ref b, rawInt 0, .none, .none] } } → Q' (.ref b) s1) → wpAny (model prog w) A (pyIter v) Q' E' ⟨hp, g, d, tk, os⟩ :=
    fun a b => wpAny_mono h (fun it s1 ⟨c, e, z⟩ => by subst e; exact b c s1 z) a
  wp_walk using q1
  refine wpAny_stack_any fun st => wpAny_pure ?_
  split
  · rename_i c _ _ _ _ _
    cases (c == Value.type "enumerate")
    · wp_walk using q1
      · exact fun _ _ z => z
      · rintro b ⟨hp1, g1, d1, tk1, os1⟩ hR
        wp_walk
        exact ⟨_, rfl, hR⟩
    · wp_walk using q1
      · exact fun _ _ z => z
      · rintro b ⟨hp1, g1, d1, tk1, os1⟩ hR
        wp_walk
        exact ⟨_, rfl, hR⟩
  · wp_walk using q1
    · exact fun _ _ z => z
    · rintro b ⟨hp1, g1, d1, tk1, os1⟩ hR
      wp_walk
      exact ⟨_, rfl, hR⟩
/-- enumerate(v): what iter(v) gives, and the new cell -/
theorem call_enumG {v : Value} {E Q : Value → Shared → Prop} (h : wpAny (model prog w) A.in1.in1 (pyIter v) (fun it s1 => ∃ b, it = .ref b ∧ ∀ h', IsEnum h' s1.heap.objs.size b 0 .none → h'.objs.size = s1.heap.objs.size + 1 →
      (∀ c o, s1.heap.get? c = some o → h'.get? c = some o) → Q (.ref s1.heap.objs.size) { s1 with heap := h' }) E s) : wpAny (model prog w) A (call (.type "enumerate") [v]) Q E s := by
  refine callType_codes (Q₁ := fun obj s₁ => s₁.TypeIs obj "enumerate" ∧ Q obj s₁) F.called_enumerate (F.typeCall_enumerate_1 _) F.entry_object_init ?_ fun obj s₁ hq => ⟨hq.1, F.args_object_init_2 obj _, ?_⟩
  · refine codeAny_call_builtin F.called_enumerate.plain F.entry_enumerate_new (wpAny_of_eq (F.newCall_enumerate_1 _) ?_)
    refine wpAny_mono (enum_new (R := wants (fun obj s₁ => s₁.TypeIs obj "enumerate" ∧ Q obj s₁) E) (wpAny_mono h (fun it s1 ⟨b, e, z⟩ => ⟨b, e, ?_⟩) fun _ _ z => z)) (fun fin s' hf => ?_) fun _ _ z => z
    · have g := Heap.get?_push_size s1.heap (o := { cls := .type "enumerate", data := .fields #[.none, .bool false, .ref b, rawInt 0, .none, .none] }) rfl
      exact ⟨⟨_, g, rfl⟩, z _ g (Heap.size_push ..) fun c o q => Heap.get?_push_of_some _ q⟩
    · obtain ⟨r, rfl, hr⟩ := hf
      exact hr
  · exact object_init_meets (newId := "enumerate.__new__") F.called_enumerate.init.lookup F.called_enumerate.made (by decide) prog w A.in1 _ s₁ ⟨hq.1, rfl, hq.2⟩
end
end L2
/-! enumerate of a tuple, of an own instance; for over an own instance. -/
namespace L2
open PySem PySem.Spec PyProof.Rows
def IteT (K : PySem.W.Frag) (a : Addr) : It :=
  ⟨fun i H => ∃ (xs : List V) (x : V), SqT K H a xs ∧ xs[i]? = some x, fun i H v H' => ∃ T x, v = .ref T ∧ H T = none ∧ H' = upd H T (.tup [.int (i : Nat), x]) ∧ ∀ xs, SqT K H a xs → xs[i]? = some x, fun i H => ∃ xs : List V, SqT K H a xs ∧ xs.length = i⟩
theorem turn_enumT {P : Program} {w : World} {K : PySem.W.Frag} {elts : List Expr} {kk : Nat} {tpos : Pos} {a e it : Addr} (nit : a ≠ it) (nea : e ≠ a) :
    Turn P w K (.Tuple elts kk tpos) (IteT K a) [e, it] e (fun i h => (∃ old, IsEnum h e it ((i : Nat) : Int) old) ∧ h.IsTupleIter it a i ∧ e ≠ it) where
  mem := by simp
  obj := fun i h st b hb => by
    obtain ⟨⟨old, he⟩, ⟨o, ho, hc, hd⟩, _⟩ := st
    have e' : b = e ∨ b = it := by simpa using hb
    rcases e' with z | z
    · rw [z]; exact ⟨_, he, fun v q => nomatch q⟩
    · rw [z]; exact ⟨o, ho, fun v q => by rw [hd] at q; cases q⟩
  keep := fun i h h' st k => let ⟨⟨old, he⟩, hi, hne⟩ := st; ⟨⟨old, k e (by simp) _ he⟩, hi.at fun o q => k it (by simp) o q, hne⟩
  item := by
    intro X hP hw hK hc i pins s σ H E I hf st hg
    subst hP hw hK
    obtain ⟨he, hit, hne⟩ := st
    obtain ⟨xs, x, hq, hx⟩ := hg
    obtain ⟨its, rv, p, hz⟩ := I.tuple hq
    obtain ⟨u, hu, ru⟩ := rv.get hx
    have l1 := rv.length
    have hlt : i < xs.length := (List.getElem?_eq_some_iff.mp hx).1
    have hh : X.A.in1.handled = none := I.ok.hd hc
    have D1 := Draws.tuple (prog := X.prog) (w := X.w) hh it a nit its.toArray
    have T2 := WalksT.enumerateD (A := X.A) D1 e hne (by simp; exact ⟨hne, nea⟩) (by simp)
    have hel : e < s.heap.objs.size := by obtain ⟨_, q⟩ := he; exact Heap.lt_size q
    have hil : it < s.heap.objs.size := by obtain ⟨_, q, _⟩ := hit; exact Heap.lt_size q
    refine T2.item i s _ E (by simp; omega) ⟨he, hit, show s.heap.IsTuple a its.toArray from p⟩ fun T vals h' tk ⟨t, x1, y1, ev⟩ hge hT mid hk => ⟨_, rfl, ?_⟩
    subst ev
    have ap := T2.apart _ _ _ mid
    refine T2.go elts kk tpos i T { s with heap := h', toks := tk } _ _ mid fun h'' st'' hk'' => ?_
    obtain ⟨he', hit', _⟩ := st''
    obtain rfl : u = x1 := by
      have : its[i]? = some x1 := by simpa using y1
      rw [hu] at this; exact Option.some.inj this
    have hT2 : h''.IsTuple T #[.int i t, u] := hT.at fun o q => hk'' T o ap q
    have hk2 : ∀ b o, b ∉ [e, it] → s.heap.get? b = some o → h''.get? b = some o := fun b o hb q => hk'' b o hb (hk b o hb q)
    have new : ObjOk X.prog X.w (upd H T (.tup [.int (i : Nat), x])) h'' T (.tup [.int (i : Nat), x]) :=
      ⟨by show 2 ≤ sizeLine; decide, [.int i t, u], .cons ⟨_, rfl⟩ (.cons ru .nil), hT2⟩
    have I1 : Inv X pins σ (upd H T (.tup [.int (i : Nat), x])) { s with heap := h'', toks := tk } := I.turnedNew (ch := [e, it]) hk2 hf hge new
    refine ⟨.ref T, _, I1, rfl, ⟨T, x, rfl, I.hok.fresh hge, rfl, fun ys hy => by rw [I.tuple_inj hy hq]; exact hx⟩, ⟨by
      have e1 : ((i + 1 : Nat) : Int) = (i : Int) + 1 := by omega
      first
        | exact he'
        | (rw [e1]; exact he'), hit', hne⟩, fun b hb => ?_⟩
    have hb' : b < s.heap.objs.size := by
      have e' : b = e ∨ b = it := by simpa using hb
      rcases e' with z | z
      · rw [z]; exact hel
      · rw [z]; exact hil
    rw [upd_ne (Nat.ne_of_lt (Nat.lt_of_lt_of_le hb' hge))]
    exact (hf b hb).1
  done := by
    intro X hP hw hK hc i pins s σ H E I hf st hg
    subst hP hw hK
    obtain ⟨he, hit, hne⟩ := st
    obtain ⟨xs, hq, hx⟩ := hg
    obtain ⟨its, rv, p, hz⟩ := I.tuple hq
    have l1 := rv.length
    have hh : X.A.in1.handled = none := I.ok.hd hc
    have D1 := Draws.tuple (prog := X.prog) (w := X.w) hh it a nit its.toArray
    have T2 := WalksT.enumerateD (A := X.A) D1 e hne (by simp; exact ⟨hne, nea⟩) (by simp)
    have ei : i = its.toArray.size := by simp; omega
    refine T2.done s _ E (by rw [← ei]; exact ⟨he, hit, show s.heap.IsTuple a its.toArray from p⟩) fun h' tk hk => ⟨rfl, I.turnedL (ch := [e, it]) hk hf⟩
  self := fun A i s Q E st h => let ⟨⟨_, he⟩, _⟩ := st; wpAny_pyIter_enum he h
/-- what enumerate is of: a list, a tuple -/
def enmA (K : PySem.W.Frag) (vs : List V) (H : Hp) (R : It → Hp → Prop) : Prop := ∃ a, vs = [.ref a] ∧ ((∃ xs, SqL K H a xs ∧ R (Ite K a) H) ∨ ∃ xs, SqT K H a xs ∧ R (IteT K a) H)
def iEnumA (K : PySem.W.Frag) (ta : TA) : TI := fun σ H R => ta σ H fun vs H1 => enmA K vs H1 R
theorem pi_enumA {X : Cx} {e : Expr} {ta : TA} {p pos tpos : Pos} {elts : List Expr} {kk : Nat} (hg : Gl X "enumerate") (hm : X.mg "enumerate" = none) (ha : PA X [e] ta) (hs : starEach [e] X.env = [(false, eval e X.env)] := by rfl) :
    PI X (.Tuple elts kk tpos) (.Call (.Name "enumerate" p) [e] [] pos) (iEnumA X.K ta) := by
  refine ⟨fun pins s σ H R I h => ?_⟩
  refine Call_ (ld_blt I hg hm boot_enumerate (PyProof.Rows.callWith_type1 (thn (ha.run pos pins s σ H _ I h) fun us s1 ⟨vs, H1, I1, r1, q1⟩ => ?_) hs rfl))
  obtain ⟨a, ex, q1⟩ := q1
  subst ex
  cases r1 with
  | cons r rr =>
    cases rr
    cases r
    have fpO : ∀ b, b ∈ [s1.heap.objs.size + 1, s1.heap.objs.size] → FpOk X pins H1 b := fun b hb => by
      have e' : b = s1.heap.objs.size + 1 ∨ b = s1.heap.objs.size := by simpa using hb
      have hle : s1.heap.objs.size ≤ b := by
        rcases e' with z | z
        · rw [z]; exact Nat.le_add_right _ _
        · rw [z]; exact Nat.le_refl _
      exact I1.fpOk hle (I1.hok.fresh hle)
    rcases q1 with ⟨xs, hq, q⟩ | ⟨xs, hq, q⟩
    · obtain ⟨its, rv, p', hz⟩ := I1.list hq
      refine call_enumerate_list p'.isList fun h' he hit hsz hk => wpAny_pyIter_enum he ?_
      have I2 : Inv X pins σ H1 { s1 with heap := h' } := I1.kept (t' := s1.toks) hk
      exact ⟨s1.heap.objs.size + 1, [s1.heap.objs.size + 1, s1.heap.objs.size], _, _, H1, rfl, I2, turn_enum a (s1.heap.objs.size + 1) s1.heap.objs.size, ⟨⟨.none, he⟩, hit, Nat.succ_ne_self _⟩, fpO, q⟩
    · obtain ⟨its, rv, p', hz⟩ := I1.tuple hq
      have pt : s1.heap.IsTuple a its.toArray := p'
      have la : a < s1.heap.objs.size := by obtain ⟨o, ho, _⟩ := pt; exact Heap.lt_size ho
      refine call_enumG (wpAny_pyIter_tuple pt ⟨_, rfl, fun h' he hsz hk => wpAny_pyIter_enum he ?_⟩)
      have z1 : (s1.heap.push { cls := .type "tuple_iterator", data := .fields #[.ref a, .int 0 0] }).objs.size = s1.heap.objs.size + 1 := Heap.size_push ..
      rw [z1] at he
      have hit : h'.IsTupleIter s1.heap.objs.size a 0 := ⟨_, hk _ _ (Heap.get?_push_size _ rfl), rfl, rfl⟩
      have I2 : Inv X pins σ H1 { s1 with heap := h' } := I1.kept (t' := s1.toks) fun c o q => hk c o (Heap.get?_push_of_some _ q)
      show PIE X pins σ _ R (.ref (Heap.push s1.heap _).objs.size) _
      rw [z1]
      exact ⟨s1.heap.objs.size + 1, [s1.heap.objs.size + 1, s1.heap.objs.size], _, _, H1, rfl, I2, turn_enumT (Nat.ne_of_lt la) (Nat.ne_of_gt (Nat.lt_succ_of_lt la)), ⟨⟨.none, he⟩, hit, Nat.succ_ne_self _⟩, fpO, q⟩
/-! ### own instances -/
def ownT (K : PySem.W.Frag) (C : Addr) (fld : Str) (x : V) (H : Hp) (t : Addr) : Prop := ∃ (a dx : Addr) (fs : List (Str × V)), x = .ref a ∧ H a = some (.ins C dx fs) ∧ fs.lookup fld = some (.ref t) ∧ ∃ zs, SqT K H t zs
def iEnumO (K : PySem.W.Frag) (C : Addr) (fld : Str) (ta : TA) : TI := fun σ H R => ta σ H fun vs H1 => ∃ x t, vs = [x] ∧ ownT K C fld x H1 t ∧ R (IteT K t) H1
theorem pi_enumO {X : Cx} {n : Nat} {C fi : Addr} {fdI : FuncData} {fld : Str} {e : Expr} {ta : TA} {p pos tpos : Pos} {elts : List Expr} {kk : Nat} (hc : OwnIt X.K C fi)
    (FI : FnN X.prog X.w X.K X.mg X.base (CX X.prog X.w) n fi fdI ["self"] (spIt X.K C fld)) (bI : Binds X.K fdI ["self"] []) (hr : Room (n + 2) X.A) (hg : Gl X "enumerate") (hm : X.mg "enumerate" = none) (ha : PA X [e] ta) (hs : starEach [e] X.env = [(false, eval e X.env)] := by rfl) :
    PI X (.Tuple elts kk tpos) (.Call (.Name "enumerate" p) [e] [] pos) (iEnumO X.K C fld ta) := by
  refine ⟨fun pins s σ H R I h => ?_⟩
  refine Call_ (ld_blt I hg hm boot_enumerate (PyProof.Rows.callWith_type1 (thn (ha.run pos pins s σ H _ I h) fun us s1 ⟨vs, H1, I1, r1, q1⟩ => ?_) hs rfl))
  obtain ⟨x, t, ex, ⟨a, dx, fs, rfl, ha', hf, zs, hS⟩, q⟩ := q1
  subst ex
  cases r1 with
  | cons r rr =>
    cases rr
    cases r
    have sb : L2.Sub X n X.A.in1.in1 := L2.Sub.in1 (L2.Sub.in1 (⟨hr, rfl⟩ : L2.Sub X (n + 2) X.A))
    refine call_enumG (own_iter sb hc FI bI I1 ha' hf hS fun it s2 I2 hit fp => ⟨it, rfl, fun h' he hsz hk => wpAny_pyIter_enum he ?_⟩)
    obtain ⟨its, rv, p', hz⟩ := I2.tuple hS
    have pt : s2.heap.IsTuple t its.toArray := p'
    have la : t < s2.heap.objs.size := by obtain ⟨o, ho, _⟩ := pt; exact Heap.lt_size ho
    have lit : it < s2.heap.objs.size := by obtain ⟨o, ho, _⟩ := hit; exact Heap.lt_size ho
    have nti : t ≠ it := fun z => by
      obtain ⟨o, ho, hcl, _⟩ := hit
      obtain ⟨o2, ho2, hc2, _⟩ := pt
      rw [z, ho] at ho2
      cases ho2
      rw [hcl] at hc2
      exact absurd (Value.type.inj hc2) (by decide)
    have hit' : h'.IsTupleIter it t 0 := hit.at fun o z => hk _ _ z
    have I3 : Inv X pins σ H1 { s2 with heap := h' } := I2.kept (t' := s2.toks) hk
    refine ⟨s2.heap.objs.size, [s2.heap.objs.size, it], _, _, H1, rfl, I3, turn_enumT nti (Nat.ne_of_gt la), ⟨⟨.none, he⟩, hit', Nat.ne_of_gt lit⟩, fun b hb => ?_, q⟩
    have e' : b = s2.heap.objs.size ∨ b = it := by simpa using hb
    rcases e' with z | z
    · rw [z]; exact I2.fpOk (Nat.le_refl _) (I2.hok.fresh (Nat.le_refl _))
    · rw [z]; exact fp
def iOwn (K : PySem.W.Frag) (C : Addr) (fld : Str) (te : TE) : TI := fun σ H R => te σ H fun x H1 => ∃ t, ownT K C fld x H1 t ∧ R (Itt K t) H1
theorem pi_own {X : Cx} {n : Nat} {C fi : Addr} {fdI : FuncData} {fld : Str} {tg e : Expr} {te : TE} (hc : OwnIt X.K C fi)
    (FI : FnN X.prog X.w X.K X.mg X.base (CX X.prog X.w) n fi fdI ["self"] (spIt X.K C fld)) (bI : Binds X.K fdI ["self"] []) (hr : Room n X.A) (he : PE X e te) : PI X tg e (iOwn X.K C fld te) := by
  refine ⟨fun pins s σ H R I h => ?_⟩
  refine thn (he.run pins s σ H _ I h) fun v s1 hh => ?_
  obtain ⟨x, H1, I1, r1, t, ⟨a, dx, fs, rfl, ha', hf, zs, hS⟩, q⟩ := hh
  cases r1
  refine own_iter (⟨hr, rfl⟩ : L2.Sub X n X.A) hc FI bI I1 ha' hf hS fun it s2 I2 hit fp => ?_
  refine ⟨it, [it], _, _, H1, rfl, I2, turn_tuple t it, hit, fun b hb => ?_, q⟩
  have e : b = it := by simpa using hb
  rw [e]; exact fp
end L2
/-! Own classes in short: what making one promises, methods, properties, fields, len. -/
namespace L2
open PySem PySem.Spec PyProof.Rows
/-! ### making: mk tells of the values handed in and the instance, not of its parts -/
def MkAt (P : Program) (w : World) (K : PySem.W.Frag) (mg : Str → Option Value) (base : Heap) (k : Nat) (x : Str) (C : Addr) (mk : Sp) : Prop :=
  mg x = some (.ref C) ∧ ∃ (f : Addr) (fd : FuncData) (ps : List Str) (sp : Sp), Mk K C f ∧ FnOk P w K mg base (CX P w) k f fd ps sp ∧ Binds K fd ps [] ∧
    ∀ vs H Q E, mk vs H Q E → ∀ x dx, H x = none → H dx = none → dx ≠ x → sp (.ref x :: vs) (upd (upd H dx (.own x)) x (.ins C dx [])) (fun v H2 => v = .non ∧ Q (.ref x) H2) E
/-- .. with keyword-only values (all of them written) -/
def MkAtK (P : Program) (w : World) (K : PySem.W.Frag) (mg : Str → Option Value) (base : Heap) (k : Nat) (x : Str) (C : Addr) (n : Nat) (ks : List Str) (mk : Sp) : Prop :=
  mg x = some (.ref C) ∧ ∃ (f : Addr) (fd : FuncData) (ps : List Str) (sp : Sp), Mk K C f ∧ FnOk P w K mg base (CX P w) k f fd ps sp ∧ KBn K fd ps (n + 1) ks (fun us ws => us ++ ws) (fun vs zs => vs ++ zs) ∧
    ∀ vs H Q E, mk vs H Q E → ∀ x dx, H x = none → H dx = none → dx ≠ x → sp (.ref x :: vs) (upd (upd H dx (.own x)) x (.ins C dx [])) (fun v H2 => v = .non ∧ Q (.ref x) H2) E
def tMkK (mk : Sp) (n m : Nat) (E : XK) (t tk : TA) : TE := fun σ H Q => t σ H fun vs H1 => tk σ H1 fun zs H2 => vs.length = n ∧ zs.length = m ∧ mk (vs ++ zs) H2 Q E
section
variable {X : Cx} {k n : Nat} {C : Addr} {x : Str} {mk : Sp} {E : XK} {e : Expr} {es : List Expr} {t tk : TA} {p pos : Pos} {ks : List Str} {kws : List Keyword}
theorem pe_mk (M : MkAt X.prog X.w X.K X.mg X.base k x C mk) (hr : Room (k + 1) X.A) (hx : Passes (L2.CX X.prog X.w) X E) (ha : PA X (e :: es) t) (hg : Gl X x := by rfl) (hdb : (x == ("__debug__" : Str)) = false := by decide)
    (he : starEach (e :: es) X.env = (false, eval e X.env) :: starEach es X.env := by rfl) (hpl : (backTo pos (starEach es X.env)).any (·.1) = false := by rfl) : PE X (.Call (.Name x p) (e :: es) [] pos) (tCall mk [] E t) := by
  obtain ⟨hm, f, fd, ps, sp, M1, F, hb, hmk⟩ := M
  refine ⟨fun pins s σ H Q I h => ?_⟩
  refine wpAny_Call_Name_kw (ld_glob I hg hm ?_ hdb)
  refine PySem.W.callWith_K (h₀ := X.base) I.ok.mod.kin M1.kp (thn (ha.run pos pins s σ H _ I h) fun us s1 ⟨vs, H1, I1, r, q⟩ => ⟨I1.kIn, ?_⟩) he hpl
  refine run_make M1 F hr hb .nil hx I1 r fun x dx h1 h2 h3 => ?_
  have q' : mk (vs ++ []) H1 Q E := q
  rw [List.append_nil] at q' ⊢
  exact hmk _ _ _ _ q' x dx h1 h2 h3
theorem pe_mkK (M : MkAtK X.prog X.w X.K X.mg X.base k x C n ks mk) (hr : Room (k + 1) X.A) (hx : Passes (L2.CX X.prog X.w) X E) (ha : PA X (e :: es) t) (hkw : PK X kws tk) (hg : Gl X x := by rfl)
    (hall : (backToKw pos (keywordEach kws X.env)).all (·.1.isSome) = true := by rfl) (hks : (backToKw pos (keywordEach kws X.env)).filterMap (·.1) = ks := by rfl) (hdb : (x == ("__debug__" : Str)) = false := by decide)
    (he : starEach (e :: es) X.env = (false, eval e X.env) :: starEach es X.env := by rfl) (hpl : ((backTo pos (starEach (e :: es) X.env)).any (·.1) || (backToKw pos (keywordEach kws X.env)).any (·.1.isNone)) = false := by rfl) :
    PE X (.Call (.Name x p) (e :: es) kws pos) (tMkK mk n ks.length E t tk) := by
  obtain ⟨hm, f, fd, ps, sp, M1, F, hb, hmk⟩ := M
  refine ⟨fun pins s σ H Q I h => ?_⟩
  refine wpAny_Call_Name_kw (ld_glob I hg hm ?_ hdb)
  refine PySem.W.callWith_KW (h₀ := X.base) I.ok.mod.kin M1.kp hall (thn (ha.run pos pins s σ H _ I h) fun us s1 ⟨vs, H1, I1, r, q⟩ => ?_) hpl he
  refine thn (hkw.run pos pins s1 σ H1 _ I1 q) fun ws s2 ⟨zs, H2, I2, rz, l1, l2, q2⟩ => ⟨I2.kIn, ?_⟩
  rw [hks]
  exact run_makeK M1 F hr hb hx I2 r rz l1 l2 fun x dx h1 h2 h3 => hmk _ _ _ _ q2 x dx h1 h2 h3
end
theorem s_mkK {mk : Sp} {n m : Nat} {E : XK} {t tk : TA} {σ : St} {H : Hp} {Q : VK} : tMkK mk n m E t tk σ H Q = t σ H (fun vs H1 => tk σ H1 (fun zs H2 => vs.length = n ∧ zs.length = m ∧ mk (vs ++ zs) H2 Q E)) := rfl
/-! ### methods -/
def MeAt (P : Program) (w : World) (K : PySem.W.Frag) (mg : Str → Option Value) (base : Heap) (k : Nat) (C : Addr) (m : Str) (ps : List Str) (sp : Sp) : Prop :=
  Cls K C ∧ ∃ (f : Addr) (fd : FuncData), Meth K C m f ∧ FnOk P w K mg base (CX P w) k f fd ps sp ∧ Binds K fd ps []
section
variable {X : Cx} {k : Nat} {C : Addr} {m : Str} {ps : List Str} {sp : Sp} {E : XK} {o e : Expr} {es : List Expr} {ta : TE} {t : TA} {apos pos : Pos}
theorem pe_me {pl : Sem Bool} (M : MeAt X.prog X.w X.K X.mg X.base k C m ps sp) (hr : Room k X.A) (hx : Passes (L2.CX X.prog X.w) X E) (he : PE X o ta) (ha : PA X (e :: es) t)
    (hst : starEach (e :: es) X.env = (false, eval e X.env) :: starEach es X.env := by rfl) (hpl : (backTo pos (starEach es X.env)).any (·.1) = false := by rfl)
    (ht : eval (.Call (.Attribute o m apos) (e :: es) [] pos) X.env = (do
      let ov ← eval o X.env
      standAt apos.atName
      let (f, first) ← holding [ov] (getMethod ov m pl)
      callWith pos f first (backTo pos (starEach (e :: es) X.env)) (backToKw pos (keywordEach [] X.env))) := by rfl) :
    PE X (.Call (.Attribute o m apos) (e :: es) [] pos) (tMeth C m sp [] E ta t) := by
  obtain ⟨c, f, fd, hm, F, hb⟩ := M
  exact pe_meth he c hm F hr hb .nil hx ha hst hpl ht
theorem pe_me0 {pl : Sem Bool} (M : MeAt X.prog X.w X.K X.mg X.base k C m ps sp) (hr : Room k X.A) (hx : Passes (L2.CX X.prog X.w) X E) (he : PE X o ta)
    (ht : eval (.Call (.Attribute o m apos) [] [] pos) X.env = (do
      let ov ← eval o X.env
      standAt apos.atName
      let (f, first) ← holding [ov] (getMethod ov m pl)
      callWith pos f first (backTo pos (starEach [] X.env)) (backToKw pos (keywordEach [] X.env))) := by rfl) :
    PE X (.Call (.Attribute o m apos) [] [] pos) (tMeth C m sp [] E ta tNil) := by
  obtain ⟨c, f, fd, hm, F, hb⟩ := M
  exact pe_meth0 he c hm F hr hb .nil hx ht
end
/-- a method of the instance at hand -/
def meV (C : Addr) (m : Str) (sp : Sp) (E : XK) (t : TA) (σ : St) (Q : VK) (x : V) (H : Hp) : Prop := ∃ a dx fs, x = .ref a ∧ H a = some (.ins C dx fs) ∧ fs.lookup m = none ∧ t σ H fun vs H2 => sp (x :: (vs ++ [])) H2 Q E
theorem s_meth {C : Addr} {m : Str} {sp : Sp} {E : XK} {ta : TE} {t : TA} {σ : St} {H : Hp} {Q : VK} : tMeth C m sp [] E ta t σ H Q = ta σ H (fun x H1 => meV C m sp E t σ Q x H1) := rfl
theorem w_me {C a dx : Addr} {m : Str} {sp : Sp} {E : XK} {t : TA} {σ : St} {H : Hp} {Q : VK} {fs : List (Str × V)} (h : H a = some (.ins C dx fs)) (l : fs.lookup m = none) (q : t σ H fun vs H2 => sp (.ref a :: (vs ++ [])) H2 Q E) : meV C m sp E t σ Q (.ref a) H := ⟨a, dx, fs, rfl, h, l, q⟩
/-! ### properties -/
def PrAt (P : Program) (w : World) (K : PySem.W.Frag) (mg : Str → Option Value) (base : Heap) (k : Nat) (C : Addr) (m : Str) (sp : Sp) : Prop :=
  Cls K C ∧ ∃ (p g : Addr) (fd : FuncData), PropOf K C m p g ∧ FnOk P w K mg base (CX P w) k g fd ["self"] sp ∧ Binds K fd ["self"] []
theorem pe_pr {X : Cx} {k : Nat} {C : Addr} {m : Str} {sp : Sp} {e : Expr} {ta : TE} {pos : Pos} (M : PrAt X.prog X.w X.K X.mg X.base k C m sp) (hr : Room (k + 1) X.A) (he : PE X e ta) (hab : attributeBase e m X.env (eval e X.env) = eval e X.env := by rfl) :
    PE X (.Attribute e m pos) (tProp C sp [] E0 ta) := by
  obtain ⟨c, p, g, fd, hp, F, hb⟩ := M
  exact pe_prop he c hp F hr hb .nil (passL (X := X.nox)) hab
def prV (C : Addr) (sp : Sp) (Q : VK) (x : V) (H : Hp) : Prop := ∃ a dx fs, x = .ref a ∧ H a = some (.ins C dx fs) ∧ sp [.ref a] H Q E0
theorem s_prop {C : Addr} {sp : Sp} {ta : TE} {σ : St} {H : Hp} {Q : VK} : tProp C sp [] E0 ta σ H Q = ta σ H (fun x H1 => prV C sp Q x H1) := rfl
theorem w_pr {C a dx : Addr} {sp : Sp} {H : Hp} {Q : VK} {fs : List (Str × V)} (h : H a = some (.ins C dx fs)) (q : sp [.ref a] H Q E0) : prV C sp Q (.ref a) H := ⟨a, dx, fs, rfl, h, q⟩
/-! ### fields -/
def fldV (K : PySem.W.Frag) (f : Str) (Q : VK) (x : V) (H : Hp) : Prop := ∃ a C dx fs v, x = .ref a ∧ H a = some (.ins C dx fs) ∧ Cls K C ∧ NoAttr K C f ∧ fs.lookup f = some v ∧ Q v H
theorem s_fld {K : PySem.W.Frag} {ta : TE} {f : Str} {σ : St} {H : Hp} {Q : VK} : tFld K ta f σ H Q = ta σ H (fun x H1 => fldV K f Q x H1) := rfl
theorem w_fld {K : PySem.W.Frag} {f : Str} {a C dx : Addr} {H : Hp} {Q : VK} {fs : List (Str × V)} {v : V} (h : H a = some (.ins C dx fs)) (c : Cls K C) (n : NoAttr K C f) (l : fs.lookup f = some v) (q : Q v H) : fldV K f Q (.ref a) H := ⟨a, C, dx, fs, v, rfl, h, c, n, l, q⟩
def stF (K : PySem.W.Frag) (f : Str) (D : Ends) (σ : St) (y x : V) (H : Hp) : Prop := ∃ a C dx fs, x = .ref a ∧ H a = some (.ins C dx fs) ∧ Cls K C ∧ NoAttr K C f ∧ fs.length < 1000 ∧ D.nx σ (upd H a (.ins C dx (putF f y fs)))
theorem s_stF {K : PySem.W.Frag} {ta tv : TE} {f : Str} {D : Ends} {σ : St} {H : Hp} : sFld K ta tv f D σ H = tv σ H (fun y H1 => ta σ H1 (fun x H2 => stF K f D σ y x H2)) := rfl
theorem w_stF {K : PySem.W.Frag} {f : Str} {D : Ends} {σ : St} {y : V} {a C dx : Addr} {H : Hp} {fs : List (Str × V)} (h : H a = some (.ins C dx fs)) (c : Cls K C) (n : NoAttr K C f) (l : fs.length < 1000) (q : D.nx σ (upd H a (.ins C dx (putF f y fs)))) : stF K f D σ y (.ref a) H := ⟨a, C, dx, fs, rfl, h, c, n, l, q⟩
/-! ### C.f, a constant of the class -/
open ClX in
def cvV (K : PySem.W.Frag) (f : Str) (Q : VK) (x : V) (H : Hp) : Prop := ∃ C mc v u, x = .ref C ∧ CRead K C mc ∧ CVal K C mc f v u ∧ Q v H
open ClX in
theorem s_cv {K : PySem.W.Frag} {ta : TE} {f : Str} {σ : St} {H : Hp} {Q : VK} : tCVal K ta f σ H Q = ta σ H (fun x H1 => cvV K f Q x H1) := rfl
open ClX in
theorem w_cv {K : PySem.W.Frag} {f : Str} {C : Addr} {mc u : Value} {v : V} {H : Hp} {Q : VK} (r : CRead K C mc) (c : CVal K C mc f v u) (q : Q v H) : cvV K f Q (.ref C) H := ⟨C, mc, v, u, rfl, r, c, q⟩
/-! ### len(o) -/
def rLenO (C : Addr) (sp : Sp) : List V → Hp → VK → Prop := fun xs H Q => ∃ a dx fs, xs = [.ref a] ∧ H a = some (.ins C dx fs) ∧ sp [.ref a] H (fun v H' => ∃ n : Int, v = .int n ∧ 0 ≤ n ∧ n < 9223372036854775808 ∧ Q (.int n) H') E0
theorem call_lenO {X : Cx} {k : Nat} {C f : Addr} {fd : FuncData} {sp : Sp} (hs : PySem.W.findIn X.K (.ref C) "__len__" = some (some (.ref f))) (hf : PySem.W.isFn X.K (.ref f) = true) (F : FnOk X.prog X.w X.K X.mg X.base (CX X.prog X.w) k f fd ["self"] sp) (hb : Binds X.K fd ["self"] []) (hr : Room (k + 1) X.A) :
    CallR X (.builtin "len") (rLenO C sp) := by
  intro pins s σ H xs us Q I r h
  obtain ⟨a, dx, fs, rfl, ha, q⟩ := h
  obtain ⟨u, rfl, ru⟩ := vals1 r
  cases ru
  obtain ⟨mA, O, _, _, _, _⟩ := ins_get I.hok ha
  obtain ⟨od, J, _⟩ := O.look
  obtain ⟨m, hF⟩ := I.fr
  refine PySem.W.len_K hF I.ok.mod.kin J hs hf ?_
  have r2 : Vals [V.ref a] [Value.ref a] := .cons rfl .nil
  refine wpAny_call (codeAny_mono (F.run X.A.in1 X.stack s H ⟨[.ref a], []⟩ [.ref a] [.ref a] _ _ hr.in1 I.env0.in1 (by
    have := hb s [.ref a] I.kIn (by rfl)
    simpa using this) r2 q) fun r s' hq => ?_)
  cases r with
  | error e => exact passL pins σ H s e s' I hq
  | ok fl =>
    cases fl with
    | ret u =>
      obtain ⟨v, H', I', rv, n, rfl, h0, h1, q'⟩ := I.after hq
      obtain ⟨t, rfl⟩ := rv
      exact ⟨⟨h0, by omega⟩, .int n, H', I'.tok _, ⟨_, rfl⟩, q'⟩
    | next => exact False.elim hq
    | brk => exact False.elim hq
    | cont => exact False.elim hq
end L2
/-! sum of a tuple of ints; op= -/
namespace L2
open PySem PySem.Spec PyProof.Rows
section
variable {prog : Program} {w : World} {A : Around} {E : Value → Shared → Prop} {s : Shared} {l : Addr}
theorem sum_intTupG {xs : Array (Int × Tok)} {Q : Value → Shared → Prop} (hh : A.handled = none) (hl : s.heap.IsTuple l (intItems xs))
    (h : ∀ h' tk t', (∀ b o, s.heap.get? b = some o → h'.get? b = some o) → Q (.int (preSum (numAt xs) xs.size) t') { s with heap := h', toks := tk }) :
    wpAny (model prog w) A (call (.builtin "sum") [.ref l]) Q E s := by
  have hlt : l < s.heap.objs.size := by obtain ⟨_, e, _⟩ := hl; exact Heap.lt_size e
  refine call_sum_walkG (wpAny_pyIter_tuple hl ?_)
  refine ⟨_, _, _, _, _, _, numAt xs, rfl, Walks.tuple (A := A.in1) hh s.heap.objs.size l (Nat.ne_of_lt hlt) (intItems xs), ⟨⟨_, Heap.get?_push_size _ rfl, rfl, rfl⟩, hl.at fun o e => Heap.get?_push_of_some _ e⟩, fun b hb => ?_, (fun _ _ => intItems_at), fun h' tk t' hk => ?_⟩
  · show b < (s.heap.push _).objs.size
    rw [Heap.size_push]
    rcases List.mem_cons.mp hb with rfl | hb
    · exact Nat.lt_succ_self _
    · rcases List.mem_cons.mp hb with rfl | hb
      · exact Nat.lt_succ_of_lt hlt
      · cases hb
  · have := h h' tk t' fun b o e => hk b o (fun hm => by
      rcases List.mem_cons.mp hm with e1 | hm
      · exact absurd (e1 ▸ Heap.lt_size e) (Nat.lt_irrefl _)
      · cases hm) (Heap.get?_push_of_some _ e)
    simpa [intItems] using this
end
def rSumA (K : PySem.W.Frag) : List V → Hp → VK → Prop := fun vs H Q => ∃ (a : Addr) (ns : List Int), vs = [V.ref a] ∧ (SqL K H a (ns.map V.int) ∨ SqT K H a (ns.map V.int)) ∧ Q (.int ns.sum) H
theorem cr_sumA {X : Cx} (hc : X.calm = true) : CallR X (.builtin "sum") (rSumA X.K) := by
  intro pins s σ H vs us Q I r h
  obtain ⟨a, ns, rfl, hs | hs, q⟩ := h
  · exact cr_sum hc pins s σ H _ us Q I r ⟨a, ns, rfl, hs, q⟩
  · obtain ⟨its, rv, hl, _⟩ := I.tuple hs
    rw [Vals.ref1 r]
    obtain ⟨xs, e⟩ := rv.ints.allInts.items
    have hn : numsOf (intItems xs).toList = ns := by rw [← e]; exact rv.ints.numsOf
    rw [nums_intItems] at hn
    have hl' : s.heap.IsTuple a its.toArray := hl
    rw [e] at hl'
    refine sum_intTupG (I.ok.hd hc) hl' fun h' tk t' hk => ?_
    rw [preSum_eq, List.take_of_length_le (by simp), hn]
    exact ⟨.int _, H, I.kept hk, ⟨_, rfl⟩, q⟩
theorem w_sumL {K : PySem.W.Frag} {H : Hp} {Q : VK} {a : Addr} {ns : List Int} (h : SqL K H a (ns.map V.int)) (q : Q (.int ns.sum) H) : rSumA K [.ref a] H Q := ⟨a, ns, rfl, .inl h, q⟩
theorem w_sumT {K : PySem.W.Frag} {H : Hp} {Q : VK} {a : Addr} {ns : List Int} (h : SqT K H a (ns.map V.int)) (q : Q (.int ns.sum) H) : rSumA K [.ref a] H Q := ⟨a, ns, rfl, .inr h, q⟩
theorem w_slT {K : PySem.W.Frag} {H : Hp} {Q : VK} {a : Addr} {xs : List V} {lo hi : Option Int} (h : rSlA K (.ref a) lo hi H Q) : aSl K (.ref a) lo hi H Q := .inr (.inl h)
/-- enumerate, for over own things -/
theorem s_enumA {K : PySem.W.Frag} {tr : TA} {σ : St} {H : Hp} {R : It → Hp → Prop} : iEnumA K tr σ H R = tr σ H (fun vs H1 => enmA K vs H1 R) := rfl
theorem w_enumL {K : PySem.W.Frag} {H : Hp} {R : It → Hp → Prop} {a : Addr} {xs : List V} (h : SqL K H a xs) (q : R (Ite K a) H) : enmA K [.ref a] H R := ⟨a, rfl, .inl ⟨xs, h, q⟩⟩
theorem w_enumT {K : PySem.W.Frag} {H : Hp} {R : It → Hp → Prop} {a : Addr} {xs : List V} (h : SqT K H a xs) (q : R (IteT K a) H) : enmA K [.ref a] H R := ⟨a, rfl, .inr ⟨xs, h, q⟩⟩
def enO (K : PySem.W.Frag) (C : Addr) (fld : Str) (vs : List V) (H : Hp) (R : It → Hp → Prop) : Prop := ∃ x t, vs = [x] ∧ ownT K C fld x H t ∧ R (IteT K t) H
theorem s_enumO {K : PySem.W.Frag} {C : Addr} {fld : Str} {tr : TA} {σ : St} {H : Hp} {R : It → Hp → Prop} : iEnumO K C fld tr σ H R = tr σ H (fun vs H1 => enO K C fld vs H1 R) := rfl
theorem w_enumO {K : PySem.W.Frag} {C : Addr} {fld : Str} {H : Hp} {R : It → Hp → Prop} {x : V} {t : Addr} (h : ownT K C fld x H t) (q : R (IteT K t) H) : enO K C fld [x] H R := ⟨x, t, rfl, h, q⟩
def owV (K : PySem.W.Frag) (C : Addr) (fld : Str) (x : V) (H : Hp) (R : It → Hp → Prop) : Prop := ∃ t, ownT K C fld x H t ∧ R (Itt K t) H
theorem s_own {K : PySem.W.Frag} {C : Addr} {fld : Str} {te : TE} {σ : St} {H : Hp} {R : It → Hp → Prop} : iOwn K C fld te σ H R = te σ H (fun x H1 => owV K C fld x H1 R) := rfl
/-- for i, x in enumerate(t) -/
theorem w_forET {K : PySem.W.Frag} {t : TS} {D : Ends} {σ : St} {H : Hp} {a : Addr} {xs : List V} {p q : Nat} (Pv : Nat → St → Hp → Prop) (h0 : Pv 0 σ H) (hl : ∀ i σ H, i ≤ xs.length → Pv i σ H → SqT K H a xs)
    (hs : ∀ i x σ H H', xs[i]? = some x → Pv i σ H → Same H H' → t { D with nx := Pv (i + 1), ct := Pv (i + 1), bk := D.nx } ((σ.set p (some (.int (i : Nat)))).set q (some x)) H') (hd : ∀ σ H, Pv xs.length σ H → D.nx σ H) :
    forJ (IteT K a) (gTup K 2 (gCons (gName p) (gCons (gName q) gNil))) t D σ H := by
  refine ⟨fun i m σ H => m = xs.length - i ∧ i ≤ xs.length ∧ Pv i σ H, ⟨xs.length, by simp, Nat.zero_le _, h0⟩, ?_⟩
  rintro i m σ H ⟨rfl, hi, pp⟩
  have hS := hl i σ H hi pp
  by_cases hlt : i < xs.length
  · refine .inr ⟨⟨xs, xs[i], hS, by simp [hlt]⟩, Pv (i + 1), fun σ' H' p' => ⟨xs.length - (i + 1), by omega, rfl, hlt, p'⟩, fun x H' y => ?_⟩
    obtain ⟨T, z, rfl, hT, rfl, y⟩ := y
    have sm : Same H (upd H T (.tup [.int (i : Nat), z])) := fun b o e => by rw [upd_ne (ne_of_none e hT)]; exact e
    refine ⟨T, _, rfl, SqT.of upd_same, rfl, .int (i : Nat), [z], rfl, z, [], rfl, rfl, ?_⟩
    exact hs i z σ H _ (y xs hS) pp sm
  · have e : i = xs.length := by omega
    subst e
    exact .inl ⟨⟨xs, hS, rfl⟩, hd σ H pp⟩
/-- for i, x in enumerate(a), a a list or a tuple -/
theorem w_enumAF {K : PySem.W.Frag} {t : TS} {D : Ends} {σ : St} {H : Hp} {a : Addr} {xs : List V} {p q : Nat} (h : SqL K H a xs ∨ SqT K H a xs) (Pv : Nat → St → Hp → Prop) (h0 : Pv 0 σ H) (hl : ∀ i σ H', i ≤ xs.length → Pv i σ H' → Same H H')
    (hs : ∀ i x σ H H', xs[i]? = some x → Pv i σ H → Same H H' → t { D with nx := Pv (i + 1), ct := Pv (i + 1), bk := D.nx } ((σ.set p (some (.int (i : Nat)))).set q (some x)) H') (hd : ∀ σ H, Pv xs.length σ H → D.nx σ H) :
    enmA K [.ref a] H (fun J H1 => forJ J (gTup K 2 (gCons (gName p) (gCons (gName q) gNil))) t D σ H1) := by
  rcases h with h | h
  · exact w_enumL h (w_forE Pv h0 (fun i σ H' hi p => (hl i σ H' hi p).seq h) hs hd)
  · exact w_enumT h (w_forET Pv h0 (fun i σ H' hi p => (hl i σ H' hi p).seqT h) hs hd)
/-- tuple(a) -/
theorem w_tupleB {K : PySem.W.Frag} {H : Hp} {Q : VK} {a : Addr} {xs : List V} (h : SqL K H a xs ∨ SqT K H a xs) (q : ∀ t H', Same H H' → SqT K H' t xs → Q (.ref t) H') : aTuple K [.ref a] H Q := by
  rcases h with h | h
  · exact ⟨xs, .inl ⟨h, fun l hl => q l _ (W.start.new hl).fr (SqT.of upd_same)⟩⟩
  · exact ⟨xs, .inr ⟨h, q a H (Same.refl _) h⟩⟩
theorem sqT_ins {K : PySem.W.Frag} {H : Hp} {t x C dx : Addr} {fs : List (Str × V)} {xs : List V} {o : HO} (h : SqT K H t xs) (hx : H x = some (.ins C dx fs)) : SqT K (upd H x o) t xs := by
  rcases h with (h | ⟨u, h⟩) | h
  · have : t ≠ x := fun z => by rw [z, hx] at h; cases h
    exact .inl (.inl (by rw [upd_ne this]; exact h))
  · have : t ≠ x := fun z => by rw [z, hx] at h; cases h
    exact .inl (.inr ⟨u, by rw [upd_ne this]; exact h⟩)
  · exact .inr h
/-- a name of the module -/
structure GNm (mg : Str → Option Value) (x : Str) (C : Addr) : Prop where
  g : mg x = some (.ref C)
/-! ### op= -/
def augV (ti : TIp) (i : Nat) (D : Ends) (σ : St) (x y : V) (H : Hp) : Prop := ti x y H fun z H2 => D.nx (σ.set i (some z)) H2
theorem s_aug {i : Nat} {te : TE} {ti : TIp} {D : Ends} {σ : St} {H : Hp} : tAug i te ti D σ H = ∃ x, σ[i]? = some (some x) ∧ te σ H fun y H1 => augV ti i D σ x y H1 := rfl
theorem v_aug {f : Int → Int → Int} {i : Nat} {D : Ends} {σ : St} {a b : Int} {H : Hp} : augV (ipI f) i D σ (.int a) (.int b) H = D.nx (σ.set i (some (.int (f a b)))) H :=
  propext ⟨fun ⟨x, y, e1, e2, q⟩ => by cases e1; cases e2; exact q, fun q => ⟨a, b, rfl, rfl, q⟩⟩
/-- l[i] op= e: the reading of l[i] -/
theorem pget_list {X : Cx} : PGet X (rIxL X.K) := by
  intro pins s σ H x y v u Q I rx ry h
  obtain ⟨p, xs, i, z, rfl, rfl, hq, he, q⟩ := h
  cases rx
  obtain ⟨t, rfl⟩ := ry
  obtain ⟨its, r, pl, hz⟩ := I.list hq
  obtain ⟨j, h1, h2, h3, h4, h5⟩ := atI_get he
  obtain ⟨w, ew, rw'⟩ := r.get h2
  have hl := r.length
  have hn := line63
  have fin : EP X pins σ Q w s := ⟨z, H, I, rw', q⟩
  by_cases h0 : 0 ≤ i
  · have hj : i.toNat = j := by
      rw [seqIndex_of h0 h5] at h1
      exact Option.some.inj h1
    exact wpAny_getItem_list pl.isList h0 (by omega) (by rw [hj]; simpa using ew) fin
  · have hj : (i + (its.toArray.size : Int)).toNat = j := by
      rw [seqIndex_neg (by omega) h4] at h1
      rw [List.size_toArray, ← hl]
      exact Option.some.inj h1
    exact wpAny_getItem_list_neg pl.isList (by omega) (by rw [List.size_toArray] <;> omega) (by omega) (by rw [hj]; simpa using ew) fin
def augS (K : PySem.W.Frag) (te : TE) (ti : TIp) (ts : TSet) (D : Ends) (σ : St) (o i : V) (H : Hp) : Prop := rIxL K o i H fun x H3 => te σ H3 fun y H4 => ti x y H4 fun z H5 => ts o i z H5 fun H6 => D.nx σ H6
theorem s_augS {K : PySem.W.Frag} {to ti te : TE} {tip : TIp} {ts : TSet} {D : Ends} {σ : St} {H : Hp} : tAugS to ti te (rIxL K) tip ts D σ H = to σ H (fun o H1 => ti σ H1 (fun i H2 => augS K te tip ts D σ o i H2)) := rfl
/-- a statement that is not reached -/
theorem ps_no {X : Cx} {st : Stmt} : PS X st (fun _ _ _ => False) := ⟨fun pins s σ H D I h => h.elim⟩
/-- what the text must have of a class that is walked, and measured -/
structure OwnC (P : Program) (w : World) (K : PySem.W.Frag) (mg : Str → Option Value) (base : Heap) (C : Addr) (fld : Str) (fL fI : Addr) (fdL fdI : FuncData) (spL : Sp) : Prop where
  cl : Cls K C
  lenA : PySem.W.findIn K (.ref C) "__len__" = some (some (.ref fL))
  lenF : PySem.W.isFn K (.ref fL) = true
  lenOk : FnOk P w K mg base (CX P w) 1 fL fdL ["self"] spL
  lenB : Binds K fdL ["self"] []
  it : OwnIt K C fI
  itOk : FnN P w K mg base (CX P w) 1 fI fdI ["self"] (spIt K C fld)
  itB : Binds K fdI ["self"] []
end L2
/-! Comprehensions with an if. -/
namespace L2
open PySem PySem.Spec PyProof.Rows
def lcC (te : TE) (σ : St) (N : VK) (M : Hp → Prop) (b : Bool) (H : Hp) : Prop := if b = true then te σ H N else M H
section
variable {K : PySem.W.Frag} {tt : TT} {te : TE} {g : TG} {σ : St} {H : Hp} {Q : VK} {vs : List Nat}
theorem s_lcC1 {N : VK} {M : Hp → Prop} : lcC te σ N M true H = te σ H N := rfl
theorem s_lcC0 {N : VK} {M : Hp → Prop} : lcC te σ N M false H = M H := rfl
theorem w_lcC {p : Prop} [Decidable p] {N : VK} {M : Hp → Prop} (h1 : p → te σ H N) (h2 : ¬ p → M H) : lcC te σ N M (decide p) H := by
  by_cases h : p
  · rw [decide_eq_true h]; exact h1 h
  · rw [decide_eq_false h]; exact h2 h
theorem lc_stepF {p : Nat → Bool} {f : Nat → V} {i : Nat} {L : Addr} {H' : Hp} (hL : H L = none) (s1 : Same H H') (e : H' L = some (.lst (((List.range i).filter p).map f))) (hi : i < 100000) :
    (p i = true → ∀ H4, Same H' H4 → ∃ acc, H4 L = some (.lst acc) ∧ acc.length < sizeLine ∧ (H L = none ∧ Same H (upd H4 L (.lst (acc ++ [f i]))) ∧ (upd H4 L (.lst (acc ++ [f i]))) L = some (.lst (((List.range (i + 1)).filter p).map f)))) ∧
    (p i = false → ∀ H4, Same H' H4 → (H L = none ∧ Same H H4 ∧ H4 L = some (.lst (((List.range (i + 1)).filter p).map f)))) := by
  have el : ∀ c, p i = c → ((List.range (i + 1)).filter p).map f = ((List.range i).filter p).map f ++ if c = true then [f i] else [] := fun c hc => by
    rw [List.range_succ, List.filter_append, List.map_append]
    cases c <;> simp [List.filter_cons, hc]
  refine ⟨fun hp H4 s2 => ⟨_, s2 _ _ e, ?_, hL, fun b o z => ?_, ?_⟩, fun hp H4 s2 => ⟨hL, s1.trans s2, ?_⟩⟩
  · rw [List.length_map]
    have : ((List.range i).filter p).length ≤ i := by
      have := List.length_filter_le p (List.range i)
      rwa [List.length_range] at this
    exact small1000' (by omega)
  · rw [upd_ne (ne_of_none z hL)]
    exact s2 _ _ (s1 _ _ z)
  · rw [upd_same, el true hp]; rfl
  · rw [el false hp]
    rw [if_neg (by decide), List.append_nil]
    exact s2 _ _ e
theorem w_lcLF {a : Addr} {xs : List V} (p : Nat → Bool) (f : Nat → V) (hS : SqL K H a xs) (hz : xs.length ≤ 100000)
    (hs : ∀ i x H' (N : VK) (M : Hp → Prop), xs[i]? = some x → Same H H' → (p i = true → ∀ H4, Same H' H4 → N (f i) H4) → (p i = false → ∀ H4, Same H' H4 → M H4) → g x (wipe σ vs) H' fun σ2 H2 => wipe σ2 vs = wipe σ vs ∧ tt σ2 H2 fun b H3 => lcC te σ2 N M b H3)
    (hd : ∀ L H', Same H H' → H L = none → H' L = some (.lst (((List.range xs.length).filter p).map f)) → Q (.ref L) H') : lcJ (Itl K a) g tt te vs σ Q H := by
  refine w_lcL (fun L i H' => H L = none ∧ Same H H' ∧ H' L = some (.lst (((List.range i).filter p).map f))) (fun L hL => ⟨hL, (W.start.new hL).fr, upd_same⟩) (fun L i H' _ q => q.2.1.seq hS) (fun L i x H' hx q => ?_) (fun L H' hL q => hd L H' q.2.1 q.1 q.2.2)
  have hi : i < xs.length := (List.getElem?_eq_some_iff.mp hx).1
  obtain ⟨k1, k2⟩ := lc_stepF q.1 q.2.1 q.2.2 (by omega)
  exact hs i x H' _ _ hx q.2.1 k1 k2
theorem w_lcRF {lo : Int} {n : Nat} (p : Nat → Bool) (f : Nat → V) (hz : n ≤ 100000)
    (hs : ∀ (i : Nat) H' (N : VK) (M : Hp → Prop), i < n → Same H H' → (p i = true → ∀ H4, Same H' H4 → N (f i) H4) → (p i = false → ∀ H4, Same H' H4 → M H4) → g (.int (lo + i)) (wipe σ vs) H' fun σ2 H2 => wipe σ2 vs = wipe σ vs ∧ tt σ2 H2 fun b H3 => lcC te σ2 N M b H3)
    (hd : ∀ L H', Same H H' → H L = none → H' L = some (.lst (((List.range n).filter p).map f)) → Q (.ref L) H') : lcJ (Itr lo n) g tt te vs σ Q H := by
  refine w_lcR (fun L i H' => H L = none ∧ Same H H' ∧ H' L = some (.lst (((List.range i).filter p).map f))) (fun L hL => ⟨hL, (W.start.new hL).fr, upd_same⟩) (fun L i H' hi q => ?_) (fun L H' hL q => hd L H' q.2.1 q.1 q.2.2)
  obtain ⟨k1, k2⟩ := lc_stepF q.1 q.2.1 q.2.2 (by omega)
  exact hs i H' _ _ hi q.2.1 k1 k2
/-- [.. for i, x in enumerate(t) if ..], t a tuple -/
theorem w_lcETF {a : Addr} {xs : List V} {u v : Nat} (p : Nat → Bool) (f : Nat → V) (hS : SqT K H a xs) (hz : xs.length ≤ 100000)
    (hs : ∀ i x H' (N : VK) (M : Hp → Prop), xs[i]? = some x → Same H H' → (p i = true → ∀ H4, Same H' H4 → N (f i) H4) → (p i = false → ∀ H4, Same H' H4 → M H4) →
      wipe (((wipe σ vs).set u (some (.int (i : Nat)))).set v (some x)) vs = wipe σ vs ∧ tt (((wipe σ vs).set u (some (.int (i : Nat)))).set v (some x)) H' fun b H3 => lcC te (((wipe σ vs).set u (some (.int (i : Nat)))).set v (some x)) N M b H3)
    (hd : ∀ L H', Same H H' → H L = none → H' L = some (.lst (((List.range xs.length).filter p).map f)) → Q (.ref L) H') : lcJ (IteT K a) (gTup K 2 (gCons (gName u) (gCons (gName v) gNil))) tt te vs σ Q H := by
  intro D hD
  refine ⟨fun i m H' => m = xs.length - i ∧ i ≤ xs.length ∧ (H D = none ∧ Same H H' ∧ H' D = some (.lst (((List.range i).filter p).map f))), ⟨xs.length, by simp, Nat.zero_le _, hD, (W.start.new hD).fr, upd_same⟩, ?_⟩
  rintro i m H1 ⟨rfl, hi, hD0, s1, e⟩
  have hX := s1.seqT hS
  by_cases hlt : i < xs.length
  · refine .inr ⟨⟨xs, xs[i], hX, by simp [hlt]⟩, fun H' => H D = none ∧ Same H H' ∧ H' D = some (.lst (((List.range (i + 1)).filter p).map f)), fun H' p' => ⟨xs.length - (i + 1), by omega, rfl, hlt, p'⟩, fun x H' y => ?_⟩
    obtain ⟨T, z, rfl, hT, rfl, y⟩ := y
    have sm : Same H1 (upd H1 T (.tup [.int (i : Nat), z])) := fun b o e => by rw [upd_ne (ne_of_none e hT)]; exact e
    refine ⟨T, _, rfl, SqT.of upd_same, rfl, .int (i : Nat), [z], rfl, z, [], rfl, rfl, ?_⟩
    obtain ⟨k1, k2⟩ := lc_stepF hD0 (s1.trans sm) (sm _ _ e) (by omega : i < 100000)
    exact hs i z _ _ _ (y xs hX) (s1.trans sm) k1 k2
  · have e' : i = xs.length := by omega
    subst e'
    exact .inl ⟨⟨xs, hX, rfl⟩, hd D H1 s1 hD0 e⟩
/-- list(range(n)) -/
def lrV (Q : VK) (x : V) (H : Hp) : Prop := ∃ n, x = .int n ∧ (RgOk 0 n ∧ ∀ q, H q = none → Q (.ref q) (upd H q (.lst (rgV 0 n))))
theorem s_lstRg {ta : TE} : tLstRg (tRg1 ta) σ H Q = ta σ H (fun x H1 => lrV Q x H1) := rfl
theorem rgV_nat (n : Nat) : rgV 0 (n : Int) = ((List.range n).map fun p => ((p : Nat) : Int)).map V.int := by
  unfold rgV
  rw [List.map_map, show ((n : Int) - 0).toNat = n by omega]
  refine List.map_congr_left fun p _ => ?_
  show V.int (0 + (p : Int)) = V.int (p : Int)
  rw [Int.zero_add]
theorem w_lr {n : Nat} (h : n ≤ 1000000) (q : ∀ l, H l = none → Q (.ref l) (upd H l (.lst (((List.range n).map fun p => ((p : Nat) : Int)).map V.int)))) : lrV Q (.int n) H := by
  refine ⟨n, rfl, RgOk.of_le (by omega) (by omega) (by omega) (by omega), fun l hl => ?_⟩
  rw [rgV_nat]; exact q l hl
theorem w_slTB {a : Addr} {xs : List V} {lo hi : Option Int} (h : SqT K H a xs) (q : ∀ p H', Same H H' → SqT K H' p (cutV xs lo hi) → Q (.ref p) H') : aSl K (.ref a) lo hi H Q := by
  refine .inr (.inl ⟨a, xs, rfl, h, fun hw => ?_, fun _ p hp => q p _ (W.start.new hp).fr (SqT.of upd_same)⟩)
  refine q a H (Same.refl _) ?_
  have : cutV xs lo hi = xs := by
    unfold cutV
    rw [hw.1, hw.2, List.drop_zero, Nat.sub_zero, List.take_length]
  rw [this]; exact h
end
end L2
/-! Min-plus tables of a week, and the going round of the law: plain. -/
namespace Mp
/-- least of f 0 .. f g -/
def mf : Nat → (Nat → Int) → Int
  | 0, f => f 0
  | g + 1, f => min (mf g f) (f (g + 1))
theorem le_mf {f : Nat → Int} {x : Int} : ∀ {g : Nat}, x ≤ mf g f ↔ ∀ j, j ≤ g → x ≤ f j
  | 0 => ⟨fun h j hj => by rw [Nat.le_zero.mp hj]; exact h, fun h => h 0 (Nat.le_refl _)⟩
  | g + 1 => by
    show x ≤ min (mf g f) (f (g + 1)) ↔ _
    rw [Int.le_min, le_mf]
    constructor
    · rintro ⟨h1, h2⟩ j hj
      by_cases e : j = g + 1
      · rw [e]; exact h2
      · exact h1 j (by omega)
    · exact fun h => ⟨fun j hj => h j (by omega), h _ (Nat.le_refl _)⟩
theorem eq_of_le {a b : Int} (h : ∀ x, x ≤ a ↔ x ≤ b) : a = b := by
  have h1 := (h a).mp (Int.le_refl _)
  have h2 := (h b).mpr (Int.le_refl _)
  omega
theorem mf_congr {g : Nat} {f f' : Nat → Int} (h : ∀ j, j ≤ g → f j = f' j) : mf g f = mf g f' :=
  eq_of_le fun x => by
    rw [le_mf, le_mf]
    exact ⟨fun k j hj => h j hj ▸ k j hj, fun k j hj => (h j hj).symm ▸ k j hj⟩
def led (g : Nat) (M : Nat → Nat → Int) (v : Nat → Int) (i : Nat) : Int := mf g fun j => M i j + v j
def join (g : Nat) (A B : Nat → Nat → Int) (i j : Nat) : Int := mf g fun k => A i k + B k j
theorem led_join {g : Nat} {A B : Nat → Nat → Int} {v : Nat → Int} : led g (join g A B) v = led g A (led g B v) := by
  funext i
  refine eq_of_le fun x => ?_
  unfold led join
  rw [le_mf, le_mf]
  constructor
  · intro h k hk
    have : x - A i k ≤ mf g fun j => B k j + v j := le_mf.mpr fun j hj => by
      have h1 : x - v j ≤ mf g fun k => A i k + B k j := by have := h j hj; omega
      have := le_mf.mp h1 k hk
      omega
    omega
  · intro h j hj
    have : x - v j ≤ mf g fun k => A i k + B k j := le_mf.mpr fun k hk => by
      have h1 : x - A i k ≤ mf g fun j => B k j + v j := by have := h k hk; omega
      have := le_mf.mp h1 j hj
      omega
    omega
def EqG (g : Nat) (u v : Nat → Int) : Prop := ∀ i, i ≤ g → u i = v i
theorem led_congr {g : Nat} {M : Nat → Nat → Int} {u v : Nat → Int} (h : EqG g u v) : led g M u = led g M v := by
  funext i
  exact mf_congr fun j hj => by rw [h j hj]
theorem led_congrM {g : Nat} {M N : Nat → Nat → Int} {u : Nat → Int} {i : Nat} (h : ∀ j, j ≤ g → M i j = N i j) : led g M u i = led g N u i :=
  mf_congr fun j hj => by rw [h j hj]
def stepV (g : Nat) (p w : Int) (v : Nat → Int) (i : Nat) : Int := if i = 0 then min (v 0 + w) (v g + p) else v (i - 1)
def stepM (g : Nat) (p w : Int) (M : Nat → Nat → Int) (i j : Nat) : Int := if i = 0 then min (M 0 j + w) (M g j + p) else M (i - 1) j
theorem led_step {g : Nat} {p w : Int} {M : Nat → Nat → Int} {v : Nat → Int} : led g (stepM g p w M) v = stepV g p w (led g M v) := by
  funext i
  unfold stepV
  by_cases h : i = 0
  · subst h
    rw [if_pos rfl]
    refine eq_of_le fun x => ?_
    unfold led
    rw [le_mf, Int.le_min]
    constructor
    · intro h
      constructor
      · have : x - w ≤ mf g fun j => M 0 j + v j := le_mf.mpr fun j hj => by have := h j hj; unfold stepM at this; rw [if_pos rfl] at this; omega
        omega
      · have : x - p ≤ mf g fun j => M g j + v j := le_mf.mpr fun j hj => by have := h j hj; unfold stepM at this; rw [if_pos rfl] at this; omega
        omega
    · rintro ⟨h1, h2⟩ j hj
      have h3 : x - w ≤ mf g fun j => M 0 j + v j := by omega
      have h4 : x - p ≤ mf g fun j => M g j + v j := by omega
      have := le_mf.mp h3 j hj
      have := le_mf.mp h4 j hj
      unfold stepM
      rw [if_pos rfl]
      omega
  · rw [if_neg h]
    unfold led
    exact mf_congr fun j _ => by unfold stepM; rw [if_neg h]
def wk (g : Nat) (p : Int) (ws : List Int) (v : Nat → Int) : Nat → Int := ws.foldl (fun v w => stepV g p w v) v
def wkM (g : Nat) (p : Int) (ws : List Int) (M : Nat → Nat → Int) : Nat → Nat → Int := ws.foldl (fun M w => stepM g p w M) M
theorem led_wk {g : Nat} {p : Int} {v : Nat → Int} : ∀ {ws : List Int} {M : Nat → Nat → Int}, led g (wkM g p ws M) v = wk g p ws (led g M v)
  | [], _ => rfl
  | w :: ws, M => by
    show led g (wkM g p ws (stepM g p w M)) v = wk g p ws (stepV g p w (led g M v))
    rw [led_wk, led_step]
def idM (far : Int) (i j : Nat) : Int := if i = j then 0 else far
def Sp (g : Nat) (c : Int) (v : Nat → Int) : Prop := ∀ i j, i ≤ g → j ≤ g → v i ≤ v j + c
theorem led_id {g : Nat} {far c : Int} {v : Nat → Int} (h : Sp g c v) (hc : c ≤ far) : EqG g (led g (idM far) v) v := fun i hi => by
  refine eq_of_le fun x => ?_
  unfold led
  rw [le_mf]
  constructor
  · intro k
    have := k i hi
    unfold idM at this
    rw [if_pos rfl] at this
    omega
  · intro k j hj
    unfold idM
    by_cases e : i = j
    · rw [if_pos e, ← e]; omega
    · rw [if_neg e]
      have := h i j hi hj
      omega
theorem stepV_congr {g : Nat} {p w : Int} {u v : Nat → Int} (h : EqG g u v) : EqG g (stepV g p w u) (stepV g p w v) := fun i hi => by
  unfold stepV
  rw [h 0 (by omega), h g (by omega)]
  by_cases e : i = 0
  · rw [if_pos e, if_pos e]
  · rw [if_neg e, if_neg e, h _ (by omega)]
theorem wk_congr {g : Nat} {p : Int} : ∀ {ws : List Int} {u v : Nat → Int}, EqG g u v → EqG g (wk g p ws u) (wk g p ws v)
  | [], _, _, h => h
  | w :: ws, u, v, h => wk_congr (ws := ws) (stepV_congr h)
def it (g : Nat) (p : Int) (ws : List Int) : Nat → (Nat → Int) → (Nat → Int)
  | 0, v => v
  | n + 1, v => wk g p ws (it g p ws n v)
theorem it_congr {g : Nat} {p : Int} {ws : List Int} {u v : Nat → Int} (h : EqG g u v) : ∀ n, EqG g (it g p ws n u) (it g p ws n v)
  | 0 => h
  | n + 1 => wk_congr (it_congr h n)
theorem it_add {g : Nat} {p : Int} {ws : List Int} {v : Nat → Int} {b : Nat} : ∀ a, it g p ws (a + b) v = it g p ws a (it g p ws b v)
  | 0 => by rw [Nat.zero_add]; rfl
  | a + 1 => by
    rw [show a + 1 + b = (a + b) + 1 by omega]
    show wk g p ws (it g p ws (a + b) v) = wk g p ws (it g p ws a (it g p ws b v))
    rw [it_add a]
theorem sp_step {g : Nat} {p w c : Int} {v : Nat → Int} (h : Sp g c v) (hc : 0 ≤ c) (w0 : 0 ≤ w) (w1 : w ≤ 30) (p0 : 0 ≤ p) : Sp g (c + 30) (stepV g p w v) := fun i j hi hj => by
  have n0 : stepV g p w v 0 = min (v 0 + w) (v g + p) := rfl
  have np : ∀ k, k ≠ 0 → stepV g p w v k = v (k - 1) := fun k hk => by unfold stepV; rw [if_neg hk]
  by_cases hi0 : i = 0
  · subst hi0
    by_cases hj0 : j = 0
    · subst hj0; omega
    · rw [n0, np j hj0]
      have := h 0 (j - 1) (by omega) (by omega)
      omega
  · rw [np i hi0]
    by_cases hj0 : j = 0
    · subst hj0
      rw [n0]
      have := h (i - 1) 0 (by omega) (by omega)
      have := h (i - 1) g (by omega) (by omega)
      omega
    · rw [np j hj0]
      have := h (i - 1) (j - 1) (by omega) (by omega)
      omega
theorem sp_wk {g : Nat} {p : Int} (p0 : 0 ≤ p) : ∀ {ws : List Int} {c : Int} {v : Nat → Int}, (∀ w ∈ ws, 0 ≤ w ∧ w ≤ 30) → 0 ≤ c → Sp g c v → Sp g (c + 30 * ws.length) (wk g p ws v)
  | [], c, v, _, _, h => by show Sp g (c + 30 * ((0 : Nat) : Int)) v; simpa using h
  | w :: ws, c, v, hw, hc, h => by
    obtain ⟨a, b⟩ := hw w (List.mem_cons_self ..)
    have := sp_wk p0 (ws := ws) (fun x hx => hw x (List.mem_cons_of_mem _ hx)) (by omega) (sp_step h hc a b p0)
    rw [List.length_cons]
    have e : c + 30 * ((ws.length + 1 : Nat) : Int) = c + 30 + 30 * (ws.length : Int) := by omega
    rw [e]
    exact this
theorem sp_it {g : Nat} {p : Int} (p0 : 0 ≤ p) {ws : List Int} (hw : ∀ w ∈ ws, 0 ≤ w ∧ w ≤ 30) {c : Int} {v : Nat → Int} (hc : 0 ≤ c) (h : Sp g c v) : ∀ n : Nat, Sp g (c + 30 * ws.length * n) (it g p ws n v)
  | 0 => by show Sp g (c + 30 * ws.length * ((0 : Nat) : Int)) v; simpa using h
  | n + 1 => by
    have h0 : (0 : Int) ≤ 30 * (ws.length : Int) * (n : Int) := Int.mul_nonneg (by omega) (by omega)
    have := sp_wk p0 hw (by omega) (sp_it p0 hw hc h n)
    have e : c + 30 * (ws.length : Int) * ((n + 1 : Nat) : Int) = c + 30 * (ws.length : Int) * (n : Int) + 30 * (ws.length : Int) := by
      rw [Int.natCast_add, Int.mul_add]; simp; omega
    rw [e]
    exact this
/-- the table M leads over e weeks -/
def Rep (g : Nat) (p : Int) (ws : List Int) (far : Int) (M : Nat → Nat → Int) (e : Nat) : Prop := ∀ v c, Sp g c v → 0 ≤ c → c + 30 * ws.length * e ≤ far → EqG g (led g M v) (it g p ws e v)
theorem rep_base {g : Nat} {p far : Int} {ws : List Int} : Rep g p ws far (wkM g p ws (idM far)) 1 := fun v c h hc hf => by
  rw [led_wk]
  exact wk_congr (led_id h (by have : (0 : Int) ≤ 30 * (ws.length : Int) := by omega
                               simp at hf; omega))
theorem rep_join {g : Nat} {p far : Int} {ws : List Int} {A B : Nat → Nat → Int} {a b : Nat} (p0 : 0 ≤ p) (hw : ∀ w ∈ ws, 0 ≤ w ∧ w ≤ 30) (hA : Rep g p ws far A a) (hB : Rep g p ws far B b) : Rep g p ws far (join g A B) (a + b) := fun v c h hc hf => by
  have e : 30 * (ws.length : Int) * ((a + b : Nat) : Int) = 30 * (ws.length : Int) * (a : Int) + 30 * (ws.length : Int) * (b : Int) := by
    rw [Int.natCast_add, Int.mul_add]
  have h0 : (0 : Int) ≤ 30 * (ws.length : Int) * (a : Int) := Int.mul_nonneg (by omega) (by omega)
  have h1 : (0 : Int) ≤ 30 * (ws.length : Int) * (b : Int) := Int.mul_nonneg (by omega) (by omega)
  rw [led_join, led_congr (hB v c h hc (by omega)), it_add]
  exact hA _ _ (sp_it p0 hw hc h b) (by omega) (by omega)
theorem rep_congr {g : Nat} {p far : Int} {ws : List Int} {A B : Nat → Nat → Int} {a : Nat} (hA : Rep g p ws far A a) (h : ∀ i j, i ≤ g → j ≤ g → B i j = A i j) : Rep g p ws far B a := fun v c q hc hf i hi => by
  rw [led_congrM fun j hj => h i j hi hj]
  exact hA v c q hc hf i hi
/-! ### the law's going night by night -/
def stl (p w : Int) (st : Int × List Int) : Int × List Int := (st.1 + min w (p - st.2.sum), (st.2 ++ [min w (p - st.2.sum)]).drop 1)
def ow (p : Int) (ws : List Int) (st : Int × List Int) : Int × List Int := ws.foldl (fun st w => stl p w st) st
theorem stl_add {p w f : Int} {st : Int × List Int} : stl p w (f + st.1, st.2) = (f + (stl p w st).1, (stl p w st).2) := by
  unfold stl
  simp only [Int.add_assoc]
theorem ow_add {p f : Int} : ∀ {ws : List Int} {st : Int × List Int}, ow p ws (f + st.1, st.2) = (f + (ow p ws st).1, (ow p ws st).2)
  | [], _ => rfl
  | w :: ws, st => by
    show ow p ws (stl p w (f + st.1, st.2)) = (f + (ow p ws (stl p w st)).1, (ow p ws (stl p w st)).2)
    rw [stl_add, ow_add]
def vecOf (st : Int × List Int) (i : Nat) : Int := st.1 - (st.2.drop (st.2.length - i)).sum
theorem stl_len {p w : Int} {st : Int × List Int} : (stl p w st).2.length = st.2.length := by
  unfold stl; simp
theorem vec_step {p w : Int} {st : Int × List Int} : EqG st.2.length (vecOf (stl p w st)) (stepV st.2.length p w (vecOf st)) := fun i hi => by
  obtain ⟨f, r⟩ := st
  show (stl p w (f, r)).1 - ((stl p w (f, r)).2.drop ((stl p w (f, r)).2.length - i)).sum = _
  rw [stl_len]
  show f + min w (p - r.sum) - (((r ++ [min w (p - r.sum)]).drop 1).drop (r.length - i)).sum = _
  simp only at hi
  generalize hm : min w (p - r.sum) = m
  unfold stepV
  by_cases e : i = 0
  · rw [if_pos e, e]
    have e1 : (((r ++ [m]).drop 1).drop (r.length - 0)).sum = 0 := by
      rw [List.drop_drop, List.drop_eq_nil_of_le (by simp; omega)]; rfl
    have e2 : vecOf (f, r) 0 = f := by unfold vecOf; simp
    have e3 : vecOf (f, r) r.length = f - r.sum := by unfold vecOf; simp
    rw [e1, e2, e3]
    omega
  · rw [if_neg e, List.drop_drop, List.drop_append_of_le_length (by omega), List.sum_append]
    have e1 : vecOf (f, r) (i - 1) = f - (r.drop (1 + (r.length - i))).sum := by
      unfold vecOf
      rw [show (f, r).2.length - (i - 1) = 1 + (r.length - i) by simp only; omega]
    rw [e1]
    simp
    omega
theorem vec_wk {p : Int} {g : Nat} : ∀ {ws : List Int} {st : Int × List Int}, st.2.length = g → EqG g (vecOf (ow p ws st)) (wk g p ws (vecOf st)) ∧ (ow p ws st).2.length = g
  | [], st, h => ⟨fun _ _ => rfl, h⟩
  | w :: ws, st, h => by
    have h2 := vec_wk (p := p) (ws := ws) (st := stl p w st) (g := g) (by rw [stl_len]; exact h)
    refine ⟨fun i hi => (h2.1 i hi).trans ?_, h2.2⟩
    refine wk_congr (fun j hj => ?_) i hi
    have := vec_step (p := p) (w := w) (st := st)
    rw [h] at this
    exact this j hj
def ls (g : Nat) (p : Int) (ws : List Int) : Nat → Int × List Int
  | 0 => (0, List.replicate g 0)
  | n + 1 => ow p ws (ls g p ws n)
def ans (g : Nat) (p : Int) (ws : List Int) (n : Nat) : Int := (ls g p ws n).1
theorem ls_vec {g : Nat} {p : Int} {ws : List Int} : ∀ n, EqG g (vecOf (ls g p ws n)) (it g p ws n fun _ => 0) ∧ (ls g p ws n).2.length = g
  | 0 => by
    refine ⟨fun i hi => ?_, by simp [ls]⟩
    show (0 : Int) - ((List.replicate g (0 : Int)).drop _).sum = 0
    rw [List.drop_replicate]
    simp
  | n + 1 => by
    obtain ⟨h1, h2⟩ := ls_vec n
    obtain ⟨h3, h4⟩ := vec_wk (p := p) (ws := ws) h2
    exact ⟨fun i hi => (h3 i hi).trans (wk_congr h1 i hi), h4⟩
theorem ans_it {g : Nat} {p : Int} {ws : List Int} (n : Nat) : it g p ws n (fun _ => 0) 0 = ans g p ws n := by
  rw [← (ls_vec n).1 0 (by omega)]
  unfold vecOf ans
  simp
/-- what the law keeps in mind is sound -/
def Inv (p m : Int) (g : Nat) (r : List Int) : Prop := r.length = g ∧ (∀ x ∈ r, 0 ≤ x ∧ x ≤ m) ∧ r.sum ≤ p
theorem sum_nn : ∀ {r : List Int}, (∀ x ∈ r, 0 ≤ x) → 0 ≤ r.sum
  | [], _ => by simp
  | x :: r, h => by
    rw [List.sum_cons]
    have := h x (List.mem_cons_self ..)
    have := sum_nn (r := r) fun y hy => h y (List.mem_cons_of_mem _ hy)
    omega
theorem stl_inv {p m w f : Int} {g : Nat} {r : List Int} (h : Inv p m g r) (w0 : 0 ≤ w) (w1 : w ≤ m) : Inv p m g (stl p w (f, r)).2 ∧ f ≤ (stl p w (f, r)).1 ∧ (stl p w (f, r)).1 ≤ f + w := by
  obtain ⟨h1, h2, h3⟩ := h
  have hm : 0 ≤ min w (p - r.sum) := by omega
  refine ⟨⟨by rw [stl_len]; exact h1, ?_, ?_⟩, ?_, ?_⟩
  · intro x hx
    have hx2 : x ∈ r ++ [min w (p - r.sum)] := List.mem_of_mem_drop hx
    rcases List.mem_append.mp hx2 with q | q
    · exact h2 x q
    · rw [List.mem_singleton.mp q]; omega
  · show ((r ++ [min w (p - r.sum)]).drop 1).sum ≤ p
    cases r with
    | nil => simp; simp at h3; omega
    | cons a r =>
      have := (h2 a (List.mem_cons_self ..)).1
      simp only [List.cons_append, List.drop_succ_cons, List.drop_zero, List.sum_append, List.sum_cons, List.sum_nil] at h3 ⊢
      omega
  · show f ≤ f + min w (p - r.sum)
    omega
  · show f + min w (p - r.sum) ≤ f + w
    omega
theorem ow_inv {p m : Int} {g : Nat} : ∀ {ws : List Int} {st : Int × List Int}, (∀ w ∈ ws, 0 ≤ w ∧ w ≤ m) → Inv p m g st.2 → Inv p m g (ow p ws st).2 ∧ st.1 ≤ (ow p ws st).1 ∧ (ow p ws st).1 ≤ st.1 + m * ws.length
  | [], st, _, h => ⟨h, Int.le_refl _, by show st.1 ≤ st.1 + m * ((0 : Nat) : Int); simp⟩
  | w :: ws, st, hw, h => by
    obtain ⟨a, b⟩ := hw w (List.mem_cons_self ..)
    obtain ⟨h1, h2, h3⟩ := stl_inv (f := st.1) h a b
    obtain ⟨h4, h5, h6⟩ := ow_inv (ws := ws) (st := stl p w st) (fun x hx => hw x (List.mem_cons_of_mem _ hx)) h1
    refine ⟨h4, Int.le_trans h2 h5, Int.le_trans h6 ?_⟩
    rw [List.length_cons, Int.natCast_add, Int.mul_add]
    have h3 : (stl p w st).1 ≤ st.1 + w := h3
    simp
    omega
theorem ls_inv {g : Nat} {p m : Int} {ws : List Int} (p0 : 0 ≤ p) (m0 : 0 ≤ m) (hw : ∀ w ∈ ws, 0 ≤ w ∧ w ≤ m) : ∀ n, Inv p m g (ls g p ws n).2
  | 0 => ⟨by simp [ls], fun x hx => by rw [(List.mem_replicate.mp hx).2]; omega, by show (List.replicate g (0 : Int)).sum ≤ p; simp; exact p0⟩
  | n + 1 => (ow_inv hw (ls_inv p0 m0 hw n)).1
theorem ans_mono {g : Nat} {p m : Int} {ws : List Int} (p0 : 0 ≤ p) (m0 : 0 ≤ m) (hw : ∀ w ∈ ws, 0 ≤ w ∧ w ≤ m) (a : Nat) : ∀ b, ans g p ws a ≤ ans g p ws (a + b)
  | 0 => Int.le_refl _
  | b + 1 => Int.le_trans (ans_mono p0 m0 hw a b) (ow_inv hw (ls_inv p0 m0 hw (a + b))).2.1
theorem step_mono {g : Nat} {p w c : Int} {u v : Nat → Int} (h : ∀ i, i ≤ g → u i ≤ v i + c) : ∀ i, i ≤ g → stepV g p w u i ≤ stepV g p w v i + c := fun i hi => by
  unfold stepV
  have h0 := h 0 (by omega)
  have hg := h g (by omega)
  by_cases e : i = 0
  · rw [if_pos e, if_pos e]; omega
  · rw [if_neg e, if_neg e]; exact h _ (by omega)
theorem wk_mono {g : Nat} {p c : Int} : ∀ {ws : List Int} {u v : Nat → Int}, (∀ i, i ≤ g → u i ≤ v i + c) → ∀ i, i ≤ g → wk g p ws u i ≤ wk g p ws v i + c
  | [], _, _, h => h
  | w :: ws, _, _, h => wk_mono (ws := ws) (step_mono h)
theorem it_mono {g : Nat} {p c : Int} {ws : List Int} {u v : Nat → Int} (h : ∀ i, i ≤ g → u i ≤ v i + c) : ∀ n, ∀ i, i ≤ g → it g p ws n u i ≤ it g p ws n v i + c
  | 0 => h
  | n + 1 => wk_mono (it_mono h n)
theorem ans_sub {g : Nat} {p m : Int} {ws : List Int} (p0 : 0 ≤ p) (m0 : 0 ≤ m) (hw : ∀ w ∈ ws, 0 ≤ w ∧ w ≤ m) (a b : Nat) : ans g p ws (a + b) ≤ ans g p ws a + ans g p ws b := by
  rw [← ans_it (a + b), ← ans_it b, show a + b = b + a by omega, it_add]
  have := it_mono (g := g) (p := p) (ws := ws) (u := it g p ws a fun _ => 0) (v := fun _ => 0) (c := ans g p ws a) (fun i hi => by
    rw [← (ls_vec a).1 i hi]
    unfold vecOf ans
    have := sum_nn (r := (ls g p ws a).2.drop ((ls g p ws a).2.length - i)) fun x hx => ((ls_inv p0 m0 hw a).2.1 x (List.mem_of_mem_drop hx)).1
    omega) b 0 (by omega)
  omega
theorem ls_succ {g : Nat} {p : Int} {ws : List Int} (n : Nat) : (ls g p ws (n + 1)).2 = (ow p ws (0, (ls g p ws n).2)).2 ∧ ans g p ws (n + 1) = ans g p ws n + (ow p ws (0, (ls g p ws n).2)).1 := by
  have := ow_add (p := p) (ws := ws) (f := (ls g p ws n).1) (st := (0, (ls g p ws n).2))
  simp only [Int.add_zero] at this
  have e : ls g p ws (n + 1) = ow p ws (ls g p ws n) := rfl
  unfold ans
  rw [e, show ls g p ws n = ((ls g p ws n).1, (ls g p ws n).2) from rfl, this]
  exact ⟨rfl, rfl⟩
theorem round {g : Nat} {p : Int} {ws : List Int} {i t : Nat} (h : (ls g p ws i).2 = (ls g p ws t).2) : ∀ n, (ls g p ws (i + n)).2 = (ls g p ws (t + n)).2 ∧ ans g p ws (t + n) - ans g p ws t = ans g p ws (i + n) - ans g p ws i
  | 0 => ⟨h, by simp⟩
  | n + 1 => by
    obtain ⟨h1, h2⟩ := round h n
    obtain ⟨a1, a2⟩ := ls_succ (g := g) (p := p) (ws := ws) (i + n)
    obtain ⟨b1, b2⟩ := ls_succ (g := g) (p := p) (ws := ws) (t + n)
    rw [← h1] at b1 b2
    refine ⟨a1.trans b1.symm, ?_⟩
    show ans g p ws (t + n + 1) - _ = ans g p ws (i + n + 1) - _
    rw [a2, b2]
    omega
theorem rounds {g : Nat} {p : Int} {ws : List Int} {i t : Nat} (hit : i < t) (h : (ls g p ws i).2 = (ls g p ws t).2) (n : Nat) : ∀ q : Nat, ans g p ws (i + n + q * (t - i)) = ans g p ws (i + n) + q * (ans g p ws t - ans g p ws i)
  | 0 => by simp
  | q + 1 => by
    have e : i + n + (q + 1) * (t - i) = t + (n + q * (t - i)) := by rw [Nat.add_mul]; omega
    have h2 := (round h (n + q * (t - i))).2
    have h3 := rounds hit h n q
    rw [e]
    rw [show i + (n + q * (t - i)) = i + n + q * (t - i) by omega, h3] at h2
    have e2 : ((q + 1 : Nat) : Int) * (ans g p ws t - ans g p ws i) = (q : Int) * (ans g p ws t - ans g p ws i) + (ans g p ws t - ans g p ws i) := by
      rw [Int.natCast_add, Int.add_mul]; simp
    rw [e2]
    omega
/-- the law's own answer -/
theorem kept_eq {g : Nat} {p : Int} {ws : List Int} {i t n : Nat} (hit : i < t) (h : (ls g p ws i).2 = (ls g p ws t).2) (hn : i ≤ n) :
    ans g p ws n = ans g p ws (i + (n - i) % (t - i)) + (((n - i) / (t - i) : Nat) : Int) * (ans g p ws t - ans g p ws i) := by
  rw [← rounds hit h ((n - i) % (t - i)) ((n - i) / (t - i))]
  congr 1
  have := Nat.mod_add_div (n - i) (t - i)
  rw [Nat.mul_comm] at this
  omega
/-! ### some state comes again -/
theorem nodup_bound : ∀ {N : Nat} {l : List Nat}, l.Nodup → (∀ x ∈ l, x < N) → l.length ≤ N
  | 0, l, _, h => by
    cases l with
    | nil => simp
    | cons x l => exact absurd (h x (List.mem_cons_self ..)) (by omega)
  | N + 1, l, hd, h => by
    by_cases hm : N ∈ l
    · have h1 : (l.erase N).length = l.length - 1 := List.length_erase_of_mem hm
      have h2 : 0 < l.length := List.length_pos_of_mem hm
      have := nodup_bound (N := N) (l := l.erase N) (hd.erase N) fun x hx => by
        have h3 := (hd.mem_erase_iff).mp hx
        have := h x h3.2
        have := h3.1
        omega
      omega
    · have := nodup_bound (N := N) (l := l) hd fun x hx => by
        have := h x hx
        have : x ≠ N := fun e => hm (e ▸ hx)
        omega
      omega
def enc (m : Nat) : List Int → Nat
  | [] => 0
  | x :: r => x.toNat + (m + 1) * enc m r
theorem enc_lt {m : Nat} : ∀ {r : List Int}, (∀ x ∈ r, 0 ≤ x ∧ x ≤ (m : Int)) → enc m r < (m + 1) ^ r.length
  | [], _ => by simp [enc]
  | x :: r, h => by
    obtain ⟨a, b⟩ := h x (List.mem_cons_self ..)
    have h1 := enc_lt (r := r) fun y hy => h y (List.mem_cons_of_mem _ hy)
    show x.toNat + (m + 1) * enc m r < (m + 1) ^ (r.length + 1)
    rw [Nat.pow_succ, Nat.mul_comm]
    have h2 : (enc m r + 1) * (m + 1) ≤ (m + 1) ^ r.length * (m + 1) := Nat.mul_le_mul_right _ h1
    rw [Nat.add_mul] at h2
    omega
theorem enc_inj {m : Nat} : ∀ {r s : List Int}, r.length = s.length → (∀ x ∈ r, 0 ≤ x ∧ x ≤ (m : Int)) → (∀ x ∈ s, 0 ≤ x ∧ x ≤ (m : Int)) → enc m r = enc m s → r = s
  | [], [], _, _, _, _ => rfl
  | x :: r, y :: s, hl, hr, hs, e => by
    obtain ⟨a, b⟩ := hr x (List.mem_cons_self ..)
    obtain ⟨c, d⟩ := hs y (List.mem_cons_self ..)
    have e : x.toNat + (m + 1) * enc m r = y.toNat + (m + 1) * enc m s := e
    have e1 : (x.toNat + (m + 1) * enc m r) % (m + 1) = x.toNat := by rw [Nat.add_mul_mod_self_left]; exact Nat.mod_eq_of_lt (by omega)
    have e2 : (y.toNat + (m + 1) * enc m s) % (m + 1) = y.toNat := by rw [Nat.add_mul_mod_self_left]; exact Nat.mod_eq_of_lt (by omega)
    have e3 : x.toNat = y.toNat := by rw [← e1, ← e2, e]
    have e4 : (m + 1) * enc m r = (m + 1) * enc m s := by omega
    have e5 := Nat.eq_of_mul_eq_mul_left (by omega) e4
    rw [enc_inj (by simpa using hl) (fun z hz => hr z (List.mem_cons_of_mem _ hz)) (fun z hz => hs z (List.mem_cons_of_mem _ hz)) e5, show x = y by omega]
/-- no more states than these -/
theorem comes {g m N : Nat} {p : Int} {R : Nat → List Int} (hI : ∀ n, Inv p m g (R n)) (hd : ∀ i j, i < j → j < N → R i ≠ R j) : N ≤ (m + 1) ^ g := by
  have h1 : ((List.range N).map fun i => enc m (R i)).Nodup := by
    rw [List.Nodup, List.pairwise_map]
    refine List.Pairwise.imp_of_mem (R := fun i j => i < j) (fun {i j} hi hj hij he => ?_) List.pairwise_lt_range
    exact hd i j hij (List.mem_range.mp hj) (enc_inj ((hI i).1.trans (hI j).1.symm) (hI i).2.1 (hI j).2.1 he)
  have := nodup_bound (N := (m + 1) ^ g) h1 fun x hx => by
    obtain ⟨i, _, rfl⟩ := List.mem_map.mp hx
    have := enc_lt (hI i).2.1
    rwa [(hI i).1] at this
  simpa using this
end Mp
namespace Nk
open PySem L2
def topS (i : Nat) : Stmt := PySem.Challenge.pw_nightsoff_k58_kept_after_whole_many_week.main.body.getD i (.Pass ⟨0, 0, 0, 0⟩)
/-- the pool: [a, b, c] -/
def poolO (a b c : Int) : HO := .lst [.int a, .int b, .int c]
def POk (b : Int) : Prop := 0 ≤ b ∧ b < 2147483648
def spPool (K : PySem.W.Frag) : Sp := fun vs H Q _ => ∃ (a : Addr) (ns : List Int) (i : Nat), vs = [.ref a, .int i] ∧ SqL K H a (ns.map V.int) ∧
  ∀ (r : Addr) (x y z : Int), H r = none → POk y → Q (.ref r) (upd H r (poolO x y z))
def spDraw : Sp := fun vs H Q _ => ∃ (p : Addr) (m a b c : Int), vs = [.ref p, .int m] ∧ 0 < m ∧ m.natAbs.log2 < 9000 ∧ H p = some (poolO a b c) ∧ POk b ∧
  ∀ (v a' b' c' : Int), 0 ≤ v → v < m → POk b' → Q (.int v) (upd H p (poolO a' b' c'))
theorem w_draw {F H : Hp} {L : List (Addr × HO)} {p : Addr} {m a b c : Int} {Q : VK} {E : XK} (w : W F L H) (i : Nat) (hi : L[i]? = some (p, poolO a b c)) (hb : POk b) (hm : 0 < m) (hM : m ≤ 1000000000000000000000000000000000000000000000000000000000000)
    (q : ∀ v a' b' c' H', 0 ≤ v → v < m → POk b' → But p H H' → W F (L.set i (p, poolO a' b' c')) H' → Q (.int v) H') : spDraw [.ref p, .int m] H Q E := by
  refine ⟨p, m, a, b, c, rfl, hm, log2_lt (n := 200) hm ?_ (by decide) (by decide), w.get i hi, hb, fun v a' b' c' h0 h1 h2 => q v a' b' c' _ h0 h1 h2 But.upd (w.upd i hi)⟩
  have : (1000000000000000000000000000000000000000000000000000000000000 : Int).toNat < 2 ^ 200 := by decide
  omega
def spInt (K : PySem.W.Frag) : Sp := fun vs H Q _ => ∃ (v : V) (d : PyData), vs = [v] ∧ Dp K H v d ∧ Q (.bl (match d with | .int _ => true | _ => false)) H
def spSame (K : PySem.W.Frag) : Nat → Sp
  | 0 => fun _ _ _ _ => False
  | n + 1 => fun vs H Q _ => ∃ (g d : V) (x y : PyData), vs = [g, d] ∧ Dp K H g x ∧ Dp K H d y ∧ fits n y ∧ Q (.bl (sm x y)) H
theorem getD_map {ns : List Int} {i : Nat} {x : V} (hx : (ns.map V.int)[i]? = some x) : i < ns.length ∧ x = .int (ns.getD i 0) := by
  have hi : i < ns.length := by have := (List.getElem?_eq_some_iff.mp hx).1; simpa using this
  refine ⟨hi, ?_⟩
  rw [List.getElem?_map, List.getElem?_eq_getElem hi] at hx
  simp [hi] at hx ⊢
  exact hx.symm
end Nk
namespace Nk
open PySem L2
local macro_rules | `(tactic| walk_at "s") => `(tactic| try simp (decide := true) only [L2.cxK, L2.s_seq, L2.s_next, L2.s_brk, L2.s_cont, L2.s_drop, L2.s_ret, L2.s_retN, L2.s_ifS, L2.s_br1, L2.s_br0, L2.s_asg, L2.s_asI, L2.s_asB, L2.s_asN, L2.s_asS, L2.s_asR, L2.s_gName, L2.s_gSub, L2.s_var, L2.s_C, L2.s_op, L2.s_un, L2.s_chain, L2.s_test, L2.s_B, L2.s_and, L2.s_aB1, L2.s_aB0, L2.s_or, L2.s_oB1, L2.s_oB0, L2.s_not, L2.s_andV, L2.s_aE1, L2.s_aE0, L2.s_orV, L2.s_oE1, L2.s_oE0, L2.s_notV, L2.s_nE, L2.s_if, L2.s_iE1, L2.s_iE0, L2.s_tr, L2.s_trB, L2.s_trI, L2.s_trN, L2.s_nil, L2.s_cons, L2.s_CB, L2.s_call, L2.s_callS, L2.s_sl, L2.s_part, L2.s_noPart, L2.s_lst, L2.s_mk, L2.s_xf, L2.s_for, L2.s_lc, L2.s_rng1, L2.s_rng2, L2.s_rng3, L2.s_enum, L2.s_zip, L2.s_zip3, L2.s_yes, L2.s_lstRg, L2.s_lcC1, L2.s_lcC0, L2.s_mkK, L2.s_meth, L2.s_prop, L2.s_fld, L2.s_stF, L2.s_cv, L2.s_enumA, L2.s_enumO, L2.s_own, L2.s_aug, L2.v_aug, L2.s_augS, L2.s_seqI, L2.s_tup, L2.s_BM, L2.s_BM0, L2.v_addI, L2.v_subI, L2.v_mulI, L2.v_divI, L2.v_modI, L2.v_powI, L2.v_negI, L2.v_cmp, L2.v_eqI, L2.v_eqS, L2.v_neS, L2.v_neI, L2.v_isN, L2.v_isB, L2.v_isnotN, L2.v_isnotB, L2.v_int, L2.v_abs, L2.v_max2, L2.v_min2, L2.le_line, List.set_cons_succ, List.set_cons_zero, List.getElem?_cons_succ, List.getElem?_cons_zero, Option.some.injEq, exists_eq_left', V.bl.injEq, V.int.injEq, true_and, and_true, Bool.not_true, Bool.not_false, if_true, if_false, Bool.false_eq_true, List.append_nil, reduceCtorEq, decide_true, decide_false, ne_eq, not_false_eq_true, Int.reduceToNat, Int.reducePow, Int.reduceMul, Int.reduceAdd, Int.reduceSub, Int.reduceNeg, Nat.reduceAdd, List.length_cons, List.length_nil, List.nil_append, List.cons_append])

/-- Wants with these numbers stands at x -/
def WAt (K : PySem.W.Frag) (C : Addr) (H : Hp) (x : Addr) (ns : List Int) : Prop := ∃ (dx t : Addr), H x = some (.ins C dx [("numbers", .ref t)]) ∧ SqT K H t (ns.map V.int)
def gW (ns : List Int) : Prop := ns.length ≤ 60 ∧ ∀ n ∈ ns, 0 ≤ n ∧ n ≤ 30
theorem WAt.mono {K : PySem.W.Frag} {C : Addr} {H H' : Hp} {x : Addr} {ns : List Int} (h : WAt K C H x ns) (s : Same H H') : WAt K C H' x ns := by
  obtain ⟨dx, t, h1, h2⟩ := h
  exact ⟨dx, t, s _ _ h1, s.seqT h2⟩
/-- what making one promises -/
def mkWants (K : PySem.W.Frag) (C : Addr) : Sp := fun vs H Q _ => ∃ (a : Addr) (ns : List Int), vs = [.ref a] ∧ (SqL K H a (ns.map V.int) ∨ SqT K H a (ns.map V.int)) ∧ gW ns ∧ ∀ x H', Same H H' → H x = none → WAt K C H' x ns → Q (.ref x) H'
def spWInit (K : PySem.W.Frag) (C : Addr) : Sp := fun vs H Q _ => ∃ (x dx a : Addr) (ns : List Int), vs = [.ref x, .ref a] ∧ H x = some (.ins C dx []) ∧ (SqL K (rem H x) a (ns.map V.int) ∨ SqT K (rem H x) a (ns.map V.int)) ∧ gW ns ∧
  ∀ t H', Same (rem H x) H' → H' x = some (.ins C dx [("numbers", .ref t)]) → SqT K H' t (ns.map V.int) → Q .non H'
def spWLen (K : PySem.W.Frag) (C : Addr) : Sp := fun vs H Q _ => ∃ (x : Addr) (ns : List Int), vs = [.ref x] ∧ WAt K C H x ns ∧ Q (.int ns.length) H
structure TxW (K : PySem.W.Frag) (mg : Str → Option Value) (C : Addr) : Prop where
  x_Wants : GNm mg "Wants" C
  cl : Cls K C
  na : NoAttr K C "numbers"
  cr : ∃ mc u v, ClX.CRead K C mc ∧ ClX.CVal K C mc "MOST" (.int 60) u ∧ ClX.CVal K C mc "GREATEST" (.int 30) v
theorem sumlen {K : PySem.W.Frag} {H : Hp} {Q : VK} {a : Addr} {ns : List Int} (h : SqL K H a (ns.map V.int) ∨ SqT K H a (ns.map V.int)) (q : Q (.int ns.length) H) : aLen K [.ref a] H Q := by
  rcases h with h | h
  · exact w_lenL h (by rw [List.length_map]; exact q)
  · exact w_lenT h (by rw [List.length_map]; exact q)
theorem seqB {K : PySem.W.Frag} {H H' : Hp} {a : Addr} {xs : List V} (s : Same H H') (h : SqL K H a xs ∨ SqT K H a xs) : SqL K H' a xs ∨ SqT K H' a xs := h.elim (fun h => .inl (s.seq h)) fun h => .inr (s.seqT h)
section
variable {P : Program} {w : World} {K : PySem.W.Frag} {mg : Str → Option Value} {base : Heap}
variable {cW : Addr}
abbrev s_Wants___init__ : Stmt := inClass (topS 20) 2
theorem sc_Wants___init__ : FnScope (["self", "numbers", "index", "number"] : List Str) (["self", "numbers"] : List Str) (defScope s_Wants___init__) := ⟨rfl, rfl, rfl, by decide +kernel, rfl, by decide +kernel, by decide +kernel⟩
theorem ok_Wants___init__ {f : Addr} {fd : FuncData} (F : Fun K "__init__" "Wants.__init__" s_Wants___init__ f fd) (B : Blt mg) (T : TxW K mg cW) : FnOk P w K mg base (L2.CX P w) 1 f fd (["self", "numbers"] : List Str) (spWInit K cW) := by
  refine F.okX sc_Wants___init__ (fun vs H Q E h => ?_) (fun cdv A outer s H vs Q E hr h => ?_)
  · obtain ⟨x, dx, a, ns, rfl, _⟩ := h; rfl
  · have nd := sc_Wants___init__.nd
    have hu := hr.units
    refine ⟨_, by exact (pss_cons (ps_if (pt_cmpR oa_gt (pe_callB ca_len (by rfl) B.len bt_len (pa_cons (pv 1) pa_nil)) (ClX.pe_cval (pe_glob (v := .ref _) rfl T.x_Wants.g rfl)) (nomark _))
        (pss_one ps_no)
        pss_nil)
        (pss_cons (ps_for (passes_of rfl) rfl (pi_enumA rfl B.enumerate (pa_cons (pv 1) pa_nil)) (pg_tup (n := 2) rfl (pgs_cons (pg_n 2 nd) (pgs_cons (pg_n 3 nd) pgs_nil)))
        (pss_one (ps_if (pt_not (pt_chain oa_le oa_le pe_int (pv 3) (ClX.pe_cval (pe_glob (v := .ref _) rfl T.x_Wants.g rfl))))
        (pss_one ps_no)
        pss_nil)))
        (pss_one (ps_fld (pv 0) (pe_callTy ca_tuple (by rfl) B.tuple bt_tuple (pa_cons (pv 1) pa_nil)) rfl)))), ?_⟩
    obtain ⟨x, dx, a, ns, rfl, hx, hA, hg, k⟩ := h
    obtain ⟨mc, u1, u2, hc, hc1, hc2⟩ := T.cr
    show (tSeq _ _) _ [some (.ref x), some (.ref a), none, none] H
    have wx := W.own hx
    have hAH := seqB wx.fr hA
    walk_at "s"
    refine sumlen hAH ?_
    refine w_cv hc hc1 ?_
    walk_at "s"
    refine w_br (fun c1 => absurd c1 (by have := hg.1; omega)) (fun c1 => ?_)
    walk_at "s"
    refine w_enumAF hAH (fun i σ H' => Same H H' ∧ ∃ v1 v2, σ = [some (.ref x), some (.ref a), v1, v2]) ⟨Same.refl _, _, _, rfl⟩ (fun i σ H' _ p => p.1) ?_ ?_
    · rintro i y σ H1 H2 hy ⟨s1, v1, v2, rfl⟩ s2
      obtain ⟨hi, rfl⟩ := getD_map hy
      have hm : ns.getD i 0 ∈ ns := by rw [List.getD_eq_getElem?_getD, List.getElem?_eq_getElem hi]; exact List.getElem_mem hi
      obtain ⟨g0, g1⟩ := hg.2 _ hm
      walk_at "s"
      rw [decide_eq_true g0]
      simp only [if_true]
      refine w_cv hc hc2 ?_
      walk_at "s"
      rw [decide_eq_true g1]
      walk_at "s"
      exact ⟨s1.trans s2, _, _, rfl⟩
    · rintro σ H1 ⟨s1, v1, v2, rfl⟩
      walk_at "s"
      refine w_tupleB (seqB s1 hAH) fun t H2 s2 hT => ?_
      have s12 := s1.trans s2
      have w2 := wx.grow s12
      refine w_stF (w2.get 0 rfl) T.cl T.na (by decide) ?_
      have w3 := w2.upd (o' := .ins cW dx [("numbers", .ref t)]) 0 rfl
      refine k t _ w3.fr (w3.get 0 rfl) ?_
      exact sqT_ins hT (w2.get 0 rfl)
abbrev s_Wants___len__ : Stmt := inClass (topS 20) 4
theorem sc_Wants___len__ : FnScope (["self"] : List Str) (["self"] : List Str) (defScope s_Wants___len__) := ⟨rfl, rfl, rfl, by decide +kernel, rfl, by decide +kernel, by decide +kernel⟩
theorem ok_Wants___len__ {f : Addr} {fd : FuncData} (F : Fun K "__len__" "Wants.__len__" s_Wants___len__ f fd) (B : Blt mg) (T : TxW K mg cW) : FnOk P w K mg base (L2.CX P w) 1 f fd (["self"] : List Str) (spWLen K cW) := by
  refine F.okX sc_Wants___len__ (fun vs H Q E h => ?_) (fun cdv A outer s H vs Q E hr h => ?_)
  · obtain ⟨x, ns, rfl, _⟩ := h; rfl
  · have nd := sc_Wants___len__.nd
    have hu := hr.units
    refine ⟨_, by exact (pss_one (ps_ret (pe_callB ca_len (by rfl) B.len bt_len (pa_cons (pe_fld (pv 0) rfl) pa_nil)))), ?_⟩
    obtain ⟨x, ns, rfl, ⟨dx, t, hx, hT⟩, k⟩ := h
    show (tRet _) _ [some (.ref x)] H
    walk_at "s"
    refine w_fld hx T.cl T.na rfl ?_
    refine w_lenT hT ?_
    rw [List.length_map]
    exact k
abbrev s_Wants___iter__ : Stmt := inClass (topS 20) 5
theorem sc_Wants___iter__ : FnScope (["self"] : List Str) (["self"] : List Str) (defScope s_Wants___iter__) := ⟨rfl, rfl, rfl, by decide +kernel, rfl, by decide +kernel, by decide +kernel⟩
theorem okN_Wants___iter__ {f : Addr} {fd : FuncData} (F : Fun K "__iter__" "Wants.__iter__" s_Wants___iter__ f fd) (B : Blt mg) (T : TxW K mg cW) : FnN P w K mg base (L2.CX P w) 1 f fd ["self"] (spIt K cW "numbers") := by
  obtain ⟨oc, od, kV, doc, pm, an, cdv, ct, osl, rfl, lk, hcd⟩ := F.ex
  refine fn_ofN lk hcd sc_Wants___iter__ (fun n vs H Q E h => ?_) (fun A outer s H vs Q E hr h => ?_)
  · obtain ⟨a, dx, fs, t, zs, rfl, _⟩ := h; rfl
  · refine ⟨_, by exact (pss_one (ps_ret (pe_callB call_iterT (by rfl) B.iter bt_iter (pa_cons (pe_fld (pv 0) rfl) pa_nil)))), ?_⟩
    obtain ⟨a, dx, fs, t, zs, rfl, ha, hf, hS, k⟩ := h
    show (tRet _) _ [some (.ref a)] H
    walk_at "s"
    refine w_fld ha T.cl T.na hf ?_
    exact ⟨t, zs, rfl, hS, fun it h1 h2 => k it h1 h2⟩
theorem mk_Wants {f : Addr} {fd : FuncData} (F : Fun K "__init__" "Wants.__init__" s_Wants___init__ f fd) (B : Blt mg) (T : TxW K mg cW) (M : Mk K cW f) (b : Binds K fd ["self", "numbers"] []) : MkAt P w K mg base 1 "Wants" cW (mkWants K cW) := by
  refine ⟨T.x_Wants.g, f, fd, _, _, M, ok_Wants___init__ F B T, b, fun vs H Q E h x dx hx hdx hne => ?_⟩
  obtain ⟨a, ns, rfl, hA, hg, k⟩ := h
  have s0 : Same H (rem (upd (upd H dx (.own x)) x (.ins cW dx [])) x) := fun b o e => by
    have n1 := ne_of_none e hx
    rw [rem_ne n1, upd_ne n1, upd_ne (ne_of_none e hdx)]; exact e
  refine ⟨x, dx, a, ns, rfl, upd_same, seqB s0 hA, hg, fun t H' s1 h1 h2 => ⟨rfl, ?_⟩⟩
  exact k x H' (s0.trans s1) hx ⟨dx, t, h1, h2⟩
end
def KAt (K : PySem.W.Frag) (CK CW : Addr) (H : Hp) (x : Addr) (ns : List Int) (r : Int) : Prop := ∃ (dx wx : Addr), H x = some (.ins CK dx [("run", .ref wx), ("rest", .int r)]) ∧ WAt K CW H wx ns
theorem KAt.mono {K : PySem.W.Frag} {CK CW : Addr} {H H' : Hp} {x : Addr} {ns : List Int} {r : Int} (h : KAt K CK CW H x ns r) (s : Same H H') : KAt K CK CW H' x ns r := by
  obtain ⟨dx, wx, h1, h2⟩ := h
  exact ⟨dx, wx, s _ _ h1, h2.mono s⟩
def mkWeek (K : PySem.W.Frag) (CK CW : Addr) : Sp := fun vs H Q _ => ∃ (wx : Addr) (ns : List Int) (r : Int), vs = [.ref wx, .int r] ∧ WAt K CW H wx ns ∧ 0 < ns.length ∧ ns.length ≤ 14 ∧ 0 ≤ r ∧ r ≤ 4 ∧ ∀ x H', Same H H' → H x = none → KAt K CK CW H' x ns r → Q (.ref x) H'
def spKInit (K : PySem.W.Frag) (CK CW : Addr) : Sp := fun vs H Q _ => ∃ (x dx wx : Addr) (ns : List Int) (r : Int), vs = [.ref x, .ref wx, .int r] ∧ H x = some (.ins CK dx []) ∧ WAt K CW (rem H x) wx ns ∧ 0 < ns.length ∧ ns.length ≤ 14 ∧ 0 ≤ r ∧ r ≤ 4 ∧
  ∀ H', Same (rem H x) H' → KAt K CK CW H' x ns r → Q .non H'
structure TxK (K : PySem.W.Frag) (mg : Str → Option Value) (C : Addr) (k1 k2 k3 k4 k5 : Tok) : Prop where
  x_Week : GNm mg "Week" C
  cl : Cls K C
  nw : NoAttr K C "run"
  nr : NoAttr K C "rest"
  g_MOST_NIGHTS : mg "MOST_NIGHTS" = some (.int 14 k1)
  g_MOST_REST : mg "MOST_REST" = some (.int 4 k2)
  g_MOST_PEOPLE : mg "MOST_PEOPLE" = some (.int 1000000 k3)
  g_MOST_WEEKS : mg "MOST_WEEKS" = some (.int 1000000000000000000 k4)
  g_FAR : mg "FAR" = some (.int 10000000000000000000000000000000000000000 k5)
section
variable {P : Program} {w : World} {K : PySem.W.Frag} {mg : Str → Option Value} {base : Heap}
variable {cW cK : Addr} {k1 k2 k3 k4 k5 : Tok}
abbrev s_Week___init__ : Stmt := inClass (topS 14) 0
theorem sc_Week___init__ : FnScope (["self", "run", "rest"] : List Str) (["self", "run", "rest"] : List Str) (defScope s_Week___init__) := ⟨rfl, rfl, rfl, by decide +kernel, rfl, by decide +kernel, by decide +kernel⟩
theorem ok_Week___init__ {f : Addr} {fd : FuncData} (F : Fun K "__init__" "Week.__init__" s_Week___init__ f fd) (B : Blt mg) (T : TxK K mg cK k1 k2 k3 k4 k5) {fL fI : Addr} {fdL fdI : FuncData} (O : OwnC P w K mg base cW "numbers" fL fI fdL fdI (spWLen K cW)) : FnOk P w K mg base (L2.CX P w) 3 f fd (["self", "run", "rest"] : List Str) (spKInit K cK cW) := by
  refine F.okX sc_Week___init__ (fun vs H Q E h => ?_) (fun cdv A outer s H vs Q E hr h => ?_)
  · obtain ⟨x, dx, wx, ns, r, rfl, _⟩ := h; rfl
  · have nd := sc_Week___init__.nd
    have hu := hr.units
    refine ⟨_, by exact (pss_cons (ps_if (pt_cmpR (oa_eq hu) (pe_callB (call_lenO O.lenA O.lenF O.lenOk O.lenB (hr.mono (by first | decide | omega))) (by rfl) B.len bt_len (pa_cons (pv 1) pa_nil)) pe_int (nomark _))
        (pss_one ps_no)
        pss_nil)
        (pss_cons (ps_if (pt_cmpR oa_gt (pe_callB (call_lenO O.lenA O.lenF O.lenOk O.lenB (hr.mono (by first | decide | omega))) (by rfl) B.len bt_len (pa_cons (pv 1) pa_nil)) (pe_glob (v := .int (14)) rfl T.g_MOST_NIGHTS ⟨_, rfl⟩) (nomark _))
        (pss_one ps_no)
        pss_nil)
        (pss_cons (ps_if (pt_not (pt_chain oa_le oa_le pe_int (pv 2) (pe_glob (v := .int (4)) rfl T.g_MOST_REST ⟨_, rfl⟩)))
        (pss_one ps_no)
        pss_nil)
        (pss_cons (ps_fld (pv 0) (pv 1) rfl)
        (pss_one (ps_fld (pv 0) (pv 2) rfl)))))), ?_⟩
    obtain ⟨x, dx, wx, ns, r, rfl, hx, hW, n0, n1, r0, r1, k⟩ := h
    show (tSeq _ _) _ [some (.ref x), some (.ref wx), some (.int r)] H
    have w0 := W.own hx
    obtain ⟨dw, tw, hw1, hw2⟩ := hW.mono w0.fr
    walk_at "s"
    refine ⟨wx, dw, _, rfl, hw1, wx, ns, rfl, ⟨dw, tw, hw1, hw2⟩, _, rfl, by omega, by omega, ?_⟩
    walk_at "s"
    refine w_br (fun c1 => absurd c1 (by omega)) (fun c1 => ?_)
    walk_at "s"
    refine ⟨wx, dw, _, rfl, hw1, wx, ns, rfl, ⟨dw, tw, hw1, hw2⟩, _, rfl, by omega, by omega, ?_⟩
    walk_at "s"
    refine w_br (fun c1 => absurd c1 (by omega)) (fun c1 => ?_)
    walk_at "s"
    rw [decide_eq_true r0]
    simp only [if_true]
    walk_at "s"
    rw [decide_eq_true r1]
    walk_at "s"
    refine w_stF (w0.get 0 rfl) T.cl T.nw (by decide) ?_
    have w2 := w0.upd (o' := .ins cK dx [("run", .ref wx)]) 0 rfl
    walk_at "s"
    refine w_stF (w2.get 0 rfl) T.cl T.nr (by simp) ?_
    have w5 := w2.upd (o' := .ins cK dx [("run", .ref wx), ("rest", .int r)]) 0 rfl
    exact k _ w5.fr ⟨dx, wx, w5.get 0 rfl, hW.mono w5.fr⟩

theorem mk_Week {f : Addr} {fd : FuncData} (F : Fun K "__init__" "Week.__init__" s_Week___init__ f fd) (B : Blt mg) (T : TxK K mg cK k1 k2 k3 k4 k5) {fL fI : Addr} {fdL fdI : FuncData} (O : OwnC P w K mg base cW "numbers" fL fI fdL fdI (spWLen K cW)) (M : Mk K cK f)
    (b : Binds K fd ["self", "run", "rest"] []) : MkAt P w K mg base 3 "Week" cK (mkWeek K cK cW) := by
  refine ⟨T.x_Week.g, f, fd, _, _, M, ok_Week___init__ F B T O, b, fun vs H Q E h x dx hx hdx hne => ?_⟩
  obtain ⟨wx, ns, r, rfl, hW, n0, n1, r0, r1, k⟩ := h
  have s0 : Same H (rem (upd (upd H dx (.own x)) x (.ins cK dx [])) x) := fun b o e => by
    have n1 := ne_of_none e hx
    rw [rem_ne n1, upd_ne n1, upd_ne (ne_of_none e hdx)]; exact e
  exact ⟨x, dx, wx, ns, r, rfl, upd_same, hW.mono s0, n0, n1, r0, r1, fun H' s1 h1 => ⟨rfl, k x H' (s0.trans s1) hx h1⟩⟩
end
end Nk
namespace Nk
open PySem L2
open Mp
local macro_rules | `(tactic| walk_at "s") => `(tactic| try simp (decide := true) only [L2.cxK, L2.s_seq, L2.s_next, L2.s_brk, L2.s_cont, L2.s_drop, L2.s_ret, L2.s_retN, L2.s_ifS, L2.s_br1, L2.s_br0, L2.s_asg, L2.s_asI, L2.s_asB, L2.s_asN, L2.s_asS, L2.s_asR, L2.s_gName, L2.s_gSub, L2.s_var, L2.s_C, L2.s_op, L2.s_un, L2.s_chain, L2.s_test, L2.s_B, L2.s_and, L2.s_aB1, L2.s_aB0, L2.s_or, L2.s_oB1, L2.s_oB0, L2.s_not, L2.s_andV, L2.s_aE1, L2.s_aE0, L2.s_orV, L2.s_oE1, L2.s_oE0, L2.s_notV, L2.s_nE, L2.s_if, L2.s_iE1, L2.s_iE0, L2.s_tr, L2.s_trB, L2.s_trI, L2.s_trN, L2.s_nil, L2.s_cons, L2.s_CB, L2.s_call, L2.s_callS, L2.s_sl, L2.s_part, L2.s_noPart, L2.s_lst, L2.s_mk, L2.s_xf, L2.s_for, L2.s_lc, L2.s_rng1, L2.s_rng2, L2.s_rng3, L2.s_enum, L2.s_zip, L2.s_zip3, L2.s_yes, L2.s_lstRg, L2.s_lcC1, L2.s_lcC0, L2.s_mkK, L2.s_meth, L2.s_prop, L2.s_fld, L2.s_stF, L2.s_cv, L2.s_enumA, L2.s_enumO, L2.s_own, L2.s_aug, L2.v_aug, L2.s_augS, L2.s_seqI, L2.s_tup, L2.s_BM, L2.s_BM0, L2.v_addI, L2.v_subI, L2.v_mulI, L2.v_divI, L2.v_modI, L2.v_powI, L2.v_negI, L2.v_cmp, L2.v_eqI, L2.v_eqS, L2.v_neS, L2.v_neI, L2.v_isN, L2.v_isB, L2.v_isnotN, L2.v_isnotB, L2.v_int, L2.v_abs, L2.v_max2, L2.v_min2, L2.le_line, List.set_cons_succ, List.set_cons_zero, List.getElem?_cons_succ, List.getElem?_cons_zero, Option.some.injEq, exists_eq_left', V.bl.injEq, V.int.injEq, true_and, and_true, Bool.not_true, Bool.not_false, if_true, if_false, Bool.false_eq_true, List.append_nil, reduceCtorEq, decide_true, decide_false, ne_eq, not_false_eq_true, Int.reduceToNat, Int.reducePow, Int.reduceMul, Int.reduceAdd, Int.reduceSub, Int.reduceNeg, Nat.reduceAdd, List.length_cons, List.length_nil, List.nil_append, List.cons_append])

local macro_rules | `(tactic| walk_at "p") => `(tactic| (simp only [L2.wipe, List.map_cons, List.map_nil, List.set_cons_succ, List.set_cons_zero]; walk_at "s"))
def vecL (g : Nat) (v : Nat → Int) : List Int := (List.range (g + 1)).map v
def Rw (K : PySem.W.Frag) (H : Hp) (xs : List V) (g n : Nat) (M : Nat → Nat → Int) : Prop := xs.length = n ∧ ∀ i, i < n → ∃ a, xs[i]? = some (.ref a) ∧ SqL K H a ((vecL g (M i)).map V.int)
def TbS (K : PySem.W.Frag) (H : Hp) (t : Addr) (g : Nat) (M : Nat → Nat → Int) : Prop := ∃ xs, SqL K H t xs ∧ Rw K H xs g (g + 1) M
theorem TbS.mono {K : PySem.W.Frag} {H H' : Hp} {t : Addr} {g : Nat} {M : Nat → Nat → Int} (h : TbS K H t g M) (s : Same H H') : TbS K H' t g M := by
  obtain ⟨xs, h1, h2, h3⟩ := h
  exact ⟨xs, s.seq h1, h2, fun i hi => (h3 i hi).imp fun a q => ⟨q.1, s.seq q.2⟩⟩
theorem TbS.row {K : PySem.W.Frag} {H : Hp} {t : Addr} {g : Nat} {M : Nat → Nat → Int} (h : TbS K H t g M) : ∃ xs, SqL K H t xs ∧ xs.length = g + 1 ∧ ∀ i, i < g + 1 → ∃ a, xs[i]? = some (.ref a) ∧ SqL K H a ((vecL g (M i)).map V.int) := h
theorem vecL_len {g : Nat} {v : Nat → Int} : ((vecL g v).map V.int).length = g + 1 := by simp [vecL]
theorem vecL_len' {g : Nat} {v : Nat → Int} : (vecL g v).length = g + 1 := by simp [vecL]
theorem vecL_at {g i : Nat} {v : Nat → Int} (h : i ≤ g) : atI ((vecL g v).map V.int) (i : Int) = some (.int (v i)) := by
  have h0 : i < (vecL g v).length := by rw [vecL_len']; omega
  rw [show atI ((vecL g v).map V.int) (i : Int) = some (.int ((vecL g v).getD ((i : Int)).toNat 0)) from atI_int (by omega) (by omega)]
  simp [vecL, List.getD_eq_getElem?_getD, show i < g + 1 by omega]
theorem vecL_cong {g : Nat} {u v : Nat → Int} (h : EqG g u v) : vecL g u = vecL g v := List.map_congr_left fun i hi => h i (by have := List.mem_range.mp hi; omega)
theorem min_mf {g : Nat} {f : Nat → Int} {m : Int} (h1 : m ∈ vecL g f) (h2 : ∀ y, y ∈ vecL g f → m ≤ y) : m = mf g f := by
  refine eq_of_le fun x => ?_
  rw [le_mf]
  constructor
  · intro h j hj
    exact Int.le_trans h (h2 _ (List.mem_map.mpr ⟨j, List.mem_range.mpr (by omega), rfl⟩))
  · intro h
    obtain ⟨j, hj, rfl⟩ := List.mem_map.mp h1
    exact h j (by have := List.mem_range.mp hj; omega)
theorem w_minV {K : PySem.W.Frag} {H : Hp} {Q : VK} {a : Addr} {g : Nat} {f : Nat → Int} (h : SqL K H a ((vecL g f).map V.int)) (q : Q (.int (mf g f)) H) : aMin K [.ref a] H Q :=
  ⟨_, h, by rw [vecL_len']; omega, fun m h1 h2 => by rw [min_mf h1 h2]; exact q⟩
theorem rg_map {g : Nat} {f : Nat → Int} : (List.range (g + 1)).map (fun i => V.int (f i)) = (vecL g f).map V.int := by simp [vecL, Function.comp_def]
/-- led_over: the vector that the table makes -/
def spLed (K : PySem.W.Frag) : Sp := fun vs H Q _ => ∃ (t a : Addr) (g : Nat) (M : Nat → Nat → Int) (v : Nat → Int), vs = [.ref t, .ref a] ∧ TbS K H t g M ∧ SqL K H a ((vecL g v).map V.int) ∧ g ≤ 1000 ∧
  ∀ L H', Same H H' → H L = none → H' L = some (.lst ((vecL g (led g M v)).map V.int)) → Q (.ref L) H'
def spJT (K : PySem.W.Frag) : Sp := fun vs H Q _ => ∃ (t a : Addr) (g : Nat) (M N : Nat → Nat → Int), vs = [.ref t, .ref a] ∧ TbS K H t g M ∧ TbS K H a g N ∧ g ≤ 1000 ∧
  ∀ L H', Same H H' → H L = none → TbS K H' L g (join g M N) → Q (.ref L) H'
section
variable {P : Program} {w : World} {K : PySem.W.Frag} {mg : Str → Option Value} {base : Heap}
abbrev s_led_over : Stmt := topS 17
theorem sc_led_over : FnScope (["table", "mosts", "other", "row"] : List Str) (["table", "mosts"] : List Str) (defScope s_led_over) := ⟨rfl, rfl, rfl, by decide +kernel, rfl, by decide +kernel, by decide +kernel⟩
theorem ok_led_over {f : Addr} {fd : FuncData} (F : Fun K "led_over" "led_over" s_led_over f fd) (B : Blt mg) : FnOk P w K mg base (L2.CX P w) 1 f fd (["table", "mosts"] : List Str) (spLed K) := by
  refine F.okX sc_led_over (fun vs H Q E h => ?_) (fun cdv A outer s H vs Q E hr h => ?_)
  · obtain ⟨t, a, g, M, v, rfl, _⟩ := h; rfl
  · have nd := sc_led_over.nd
    have hu := hr.units
    refine ⟨_, by exact (pss_one (ps_ret (pe_lc (own := [("row", 3)]) (g := gName 3) (tt := tYes) rfl nd (pi_seq (pv 0)) (blkOk_by (N := (["table", "mosts", "other", "row"] : List Str)) (sc := defScope (topS 17)) (by decide +kernel)) (fun _ _ _ _ _ => (pg_n 3 nd)) (fun _ _ _ _ _ => pts_nil) (fun _ _ _ _ _ => (pe_callB (calK (K := K) (r := aMin) (ca_min rfl) rfl) (by rfl) B.min bt_min (pa_cons (pe_lc (own := [("other", 2)]) (g := gName 2) (tt := tYes) rfl nd (pi_range1 rfl B.range (pa_cons (pe_callB (calK (K := K) (r := aLen) ca_len rfl) (by rfl) B.len bt_len (pa_cons (pv 1) pa_nil)) pa_nil)) (blkOk_by (by kernel_rfl)) (fun _ _ _ _ _ => (pg_n 2 nd)) (fun _ _ _ _ _ => pts_nil) (fun _ _ _ _ _ => (pe_op (opK (K := K) (r := aAdd) oa_add rfl) (pe_ix (ixK (K := K) (r := aIx) oa_ix rfl) (pv 3) (pv 2) (fun _ _ => rfl)) (pe_ix (ixK (K := K) (r := aIx) oa_ix rfl) (pv 1) (pv 2) (fun _ _ => rfl))))) pa_nil)))))), ?_⟩
    obtain ⟨t, a, g, M, v, rfl, hT, hV, hg, k⟩ := h
    obtain ⟨xs, hS, hl, hrow⟩ := hT.row
    show (tRet _) _ [some (.ref t), some (.ref a), none, none] H
    walk_at "s"
    refine w_sqL hS ?_
    refine w_lcLf (fun i => .int (led g M v i)) hS (by omega) (fun i x H1 N hx s1 hN => ?_) (fun L H2 s2 hL e => ?_)
    · have hi : i < g + 1 := by rw [← hl]; exact (List.getElem?_eq_some_iff.mp hx).1
      obtain ⟨b, hb, hR⟩ := hrow i hi
      rw [hx] at hb
      cases hb
      walk_at "s"
      refine ⟨rfl, ?_⟩
      walk_at "p"
      refine w_lenL (s1.seq hV) ?_
      rw [vecL_len]
      walk_at "s"
      refine w_rg1 (by omega) (by omega) ?_
      rw [show ((g + 1 : Nat) : Int).toNat = g + 1 by omega]
      refine w_lcRf (fun j => .int (M i j + v j)) (by omega) (fun j H3 N3 hj s3 hN3 => ?_) (fun L2 H3 s3 hL2 e2 => ?_)
      · rw [Int.zero_add]
        walk_at "s"
        refine ⟨rfl, ?_⟩
        walk_at "p"
        refine w_ixL ((s1.trans s3).seq hR) (vecL_at (by omega)) ?_
        walk_at "s"
        refine w_ixL ((s1.trans s3).seq hV) (vecL_at (by omega)) ?_
        walk_at "s"
        exact hN3 _ (Same.refl _)
      · rw [rg_map] at e2
        refine w_minV (SqL.of e2) ?_
        exact hN _ s3
    · rw [hl, rg_map] at e
      exact k L H2 s2 hL e

theorem rem_upd {H : Hp} {l : Addr} {o : HO} : rem (upd H l o) l = rem H l := by
  funext b
  by_cases h : b = l
  · subst h; unfold rem; simp
  · rw [rem_ne h, rem_ne h, upd_ne h]
theorem sameRem {H H' : Hp} {l : Addr} (s : Same H H') : Same (rem H l) (rem H' l) := fun b o e => by
  by_cases h : b = l
  · subst h; unfold rem at e; simp at e
  · rw [rem_ne h] at e ⊢; exact s _ _ e
theorem sameTo {H H' : Hp} {l : Addr} (s : Same H H') (h : H l = none) : Same H (rem H' l) := fun b o e => by
  rw [rem_ne (ne_of_none e h)]; exact s _ _ e
abbrev s_joined_tables : Stmt := topS 18
theorem sc_joined_tables : FnScope (["later", "earlier", "size", "table", "row", "place", "other"] : List Str) (["later", "earlier"] : List Str) (defScope s_joined_tables) := ⟨rfl, rfl, rfl, by decide +kernel, rfl, by decide +kernel, by decide +kernel⟩
theorem ok_joined_tables {f : Addr} {fd : FuncData} (F : Fun K "joined_tables" "joined_tables" s_joined_tables f fd) (B : Blt mg) : FnOk P w K mg base (L2.CX P w) 1 f fd (["later", "earlier"] : List Str) (spJT K) := by
  refine F.okX sc_joined_tables (fun vs H Q E h => ?_) (fun cdv A outer s H vs Q E hr h => ?_)
  · obtain ⟨t, a, g, M, N, rfl, _⟩ := h; rfl
  · have nd := sc_joined_tables.nd
    have hu := hr.units
    refine ⟨_, by exact (pss_cons (ps_st 2 nd (pe_callB ca_len (by rfl) B.len bt_len (pa_cons (pv 0) pa_nil)))
        (pss_cons (ps_st 3 nd (pe_lst pa_nil))
        (pss_cons (ps_for (passes_of rfl) rfl (pi_seq (pv 0)) (pg_n 4 nd)
        (pss_one (ps_expr (pe_bm PySem.F.plainAttrs_list PySem.F.slot_list_append PySem.F.type_list_append mt_append (pv 3) (pa_cons (pe_lc (own := [("other", 6)]) (g := gName 6) (tt := tYes) rfl nd (pi_range1 rfl B.range (pa_cons (pv 2) pa_nil)) (blkOk_by (N := (["later", "earlier", "size", "table", "row", "place", "other"] : List Str)) (sc := defScope (topS 18)) (by decide +kernel)) (fun _ _ _ _ _ => (pg_n 6 nd)) (fun _ _ _ _ _ => pts_nil) (fun _ _ _ _ _ => (pe_callB (calK (K := K) (r := aMin) (ca_min rfl) rfl) (by rfl) B.min bt_min (pa_cons (pe_lc (own := [("place", 5)]) (g := gName 5) (tt := tYes) rfl nd (pi_range1 rfl B.range (pa_cons (pv 2) pa_nil)) (blkOk_by (by kernel_rfl)) (fun _ _ _ _ _ => (pg_n 5 nd)) (fun _ _ _ _ _ => pts_nil) (fun _ _ _ _ _ => (pe_op (opK (K := K) (r := aAdd) oa_add rfl) (pe_ix (ixK (K := K) (r := aIx) oa_ix rfl) (pv 4) (pv 5) (fun _ _ => rfl)) (pe_ix (ixK (K := K) (r := aIx) oa_ix rfl) (pe_ix (ixK (K := K) (r := aIx) oa_ix rfl) (pv 1) (pv 5) (fun _ _ => rfl)) (pv 6) (fun _ _ => rfl))))) pa_nil)))) pa_nil)))))
        (pss_one (ps_ret (pv 3)))))), ?_⟩
    obtain ⟨t, a, g, M, N, rfl, hT, hA, hg, k⟩ := h
    obtain ⟨xs, hS, hl, hrow⟩ := hT.row
    obtain ⟨ys, hS2, hl2, hrow2⟩ := hA.row
    show (tSeq _ _) _ [some (.ref t), some (.ref a), none, none, none, none, none] H
    walk_at "s"
    refine w_lenL hS ?_
    walk_at "s"
    intro l hn
    rw [hl]
    refine w_sqL (((W.start (H := H)).new hn).fr.seq hS) ?_
    refine w_forL (xs := xs) (fun i σ H' => (∃ v1 v2 v3, σ = [some (.ref t), some (.ref a), some (.int ((g + 1 : Nat) : Int)), some (.ref l), v1, v2, v3]) ∧ Same H (rem H' l) ∧ ∃ rs, H' l = some (.lst rs) ∧ rs.length = i ∧ ∀ j, j < i → ∃ b, rs[j]? = some (.ref b) ∧ SqL K (rem H' l) b ((vecL g (join g M N j)).map V.int))
      ⟨⟨_, _, _, rfl⟩, by rw [rem_upd]; exact sameTo (Same.refl _) hn, [], upd_same, rfl, fun j hj => absurd hj (by omega)⟩ (fun i σ H' _ q => (q.2.1.trans Same.rem).seq hS) ?_ ?_
    · rintro i x σ H1 hx ⟨⟨v1, v2, v3, rfl⟩, s1, rs, e1, hrl, hrs⟩
      have hi : i < g + 1 := by rw [← hl]; exact (List.getElem?_eq_some_iff.mp hx).1
      obtain ⟨b, hb, hR⟩ := hrow i hi
      rw [hx] at hb
      cases hb
      have s1' := s1.trans Same.rem
      walk_at "s"
      refine ⟨.inl ⟨rfl, _, SqL.of e1⟩, ?_⟩
      refine w_rg1 (by omega) (by omega) ?_
      rw [show ((g + 1 : Nat) : Int).toNat = g + 1 by omega]
      refine w_lcRf (fun j => .int (join g M N i j)) (by omega) (fun j H2 N2 hj s2 hN2 => ?_) (fun L H2 s2 hL e => ?_)
      · rw [Int.zero_add]
        walk_at "s"
        refine ⟨rfl, ?_⟩
        walk_at "p"
        refine w_rg1 (by omega) (by omega) ?_
        rw [show ((g + 1 : Nat) : Int).toNat = g + 1 by omega]
        refine w_lcRf (fun p => .int (M i p + N p j)) (by omega) (fun p H3 N3 hp s3 hN3 => ?_) (fun L3 H3 s3 hL3 e3 => ?_)
        · rw [Int.zero_add]
          obtain ⟨c, hc, hC⟩ := hrow2 p hp
          have s4 := (s1'.trans s2).trans s3
          walk_at "s"
          refine ⟨rfl, ?_⟩
          walk_at "p"
          refine w_ixL (s4.seq hR) (vecL_at (by omega)) ?_
          walk_at "s"
          refine w_ixL (s4.seq hS2) (w := .ref c) (atI_nat hc) ?_
          walk_at "s"
          refine w_ixL (s4.seq hC) (vecL_at (by omega)) ?_
          walk_at "s"
          exact hN3 _ (Same.refl _)
        · rw [rg_map] at e3
          refine w_minV (SqL.of e3) ?_
          exact hN2 _ s3
      · rw [rg_map] at e
        refine ⟨l, _, _, rfl, rfl, s2 _ _ e1, small1000' (by omega), ?_⟩
        have hLl : L ≠ l := fun z => by rw [z, e1] at hL; cases hL
        refine ⟨⟨_, _, _, rfl⟩, by rw [rem_upd]; exact s1.trans (sameRem s2), _, upd_same, by simp [hrl], fun j hj => ?_⟩
        rw [rem_upd]
        by_cases h : j < i
        · obtain ⟨b, h1, h2⟩ := hrs j h
          exact ⟨b, by rw [List.getElem?_append_left (by omega)]; exact h1, (sameRem s2).seq h2⟩
        · have : j = i := by omega
          subst this
          exact ⟨L, by rw [← hrl]; simp, SqL.of (by rw [rem_ne hLl]; exact e)⟩
    · rintro σ H1 ⟨⟨v1, v2, v3, rfl⟩, s1, rs, e1, hrl, hrs⟩
      walk_at "s"
      refine k l H1 (s1.trans Same.rem) hn ⟨rs, SqL.of e1, by omega, fun i hi => ?_⟩
      obtain ⟨b, h1, h2⟩ := hrs i (by omega)
      exact ⟨b, h1, Same.rem.seq h2⟩
end
end Nk
namespace L2
open PySem PySem.Spec PyProof.Rows TL
section
variable {K : PySem.W.Frag} {te : TE} {g : TG} {σ : St} {H : Hp} {Q : VK} {vs : List Nat}
theorem w_lcNewR {lo : Int} {n : Nat} (ob : Nat → HO) (hz : n ≤ 100000)
    (hs : ∀ (i : Nat) H' (N : VK), i < n → Same H H' → (∀ l H4, Same H' H4 → H' l = none → H4 l = some (ob i) → N (.ref l) H4) → g (.int (lo + i)) (wipe σ vs) H' fun σ2 H2 => wipe σ2 vs = wipe σ vs ∧ te σ2 H2 N)
    (hd : ∀ L H' (bs : List Addr), Same H H' → H L = none → H' L = some (.lst (bs.map V.ref)) → bs.length = n → (∀ (j : Nat) (b : Addr), bs[j]? = some b → H b = none ∧ b ≠ L ∧ H' b = some (ob j)) → bs.Nodup → Q (.ref L) H') : lcJ (Itr lo n) g tYes te vs σ Q H := by
  refine w_lcR (fun L i H' => H L = none ∧ Same H H' ∧ ∃ bs : List Addr, H' L = some (.lst (bs.map V.ref)) ∧ bs.length = i ∧ (∀ (j : Nat) (b : Addr), bs[j]? = some b → H b = none ∧ b ≠ L ∧ H' b = some (ob j)) ∧ bs.Nodup)
    (fun L hL => ⟨hL, (W.start.new hL).fr, [], upd_same, rfl, fun j b e => by simp at e, List.nodup_nil⟩) (fun L i H' hi p => ?_) (fun L H' hL p => ?_)
  · obtain ⟨hL, s1, bs, e1, e2, e3, e4⟩ := p
    refine hs i H' _ hi s1 fun l H4 s2 hl hl4 => ?_
    have ne : l ≠ L := fun z => by rw [z, e1] at hl; cases hl
    have hl0 : H l = none := s1.free hl
    refine ⟨_, s2 _ _ e1, by rw [List.length_map]; exact small1000' (by omega), hL, fun b o z => ?_, bs ++ [l], ?_, by simp [e2], fun j b hb => ?_, ?_⟩
    · rw [upd_ne (ne_of_none z hL)]
      exact s2 _ _ (s1 _ _ z)
    · rw [upd_same, List.map_append]; rfl
    · by_cases hj : j < bs.length
      · rw [List.getElem?_append_left hj] at hb
        obtain ⟨h1, h2, h3⟩ := e3 j b hb
        exact ⟨h1, h2, by rw [upd_ne h2]; exact s2 _ _ h3⟩
      · rw [List.getElem?_append_right (by omega)] at hb
        have hj' : j - bs.length = 0 := by
          have := (List.getElem?_eq_some_iff.mp hb).1
          simp at this; omega
        rw [hj'] at hb
        cases Option.some.inj hb
        have : j = i := by omega
        subst this
        exact ⟨hl0, ne, by rw [upd_ne ne]; exact hl4⟩
    · rw [List.nodup_append]
      refine ⟨e4, by simp, fun b hb c hc => ?_⟩
      have hc' : c = l := by simpa using hc
      subst hc'
      obtain ⟨j, hj, e⟩ := List.mem_iff_getElem.mp hb
      obtain ⟨_, _, h3⟩ := e3 j b (by rw [List.getElem?_eq_getElem hj, e])
      intro z
      rw [z, hl] at h3; cases h3
  · obtain ⟨_, s1, bs, e1, e2, e3, e4⟩ := p
    exact hd L H' bs s1 hL e1 e2 e3 e4
end
end L2
namespace Nk
open PySem L2
open Mp
local macro_rules | `(tactic| walk_at "s") => `(tactic| try simp (decide := true) only [L2.cxK, L2.s_seq, L2.s_next, L2.s_brk, L2.s_cont, L2.s_drop, L2.s_ret, L2.s_retN, L2.s_ifS, L2.s_br1, L2.s_br0, L2.s_asg, L2.s_asI, L2.s_asB, L2.s_asN, L2.s_asS, L2.s_asR, L2.s_gName, L2.s_gSub, L2.s_var, L2.s_C, L2.s_op, L2.s_un, L2.s_chain, L2.s_test, L2.s_B, L2.s_and, L2.s_aB1, L2.s_aB0, L2.s_or, L2.s_oB1, L2.s_oB0, L2.s_not, L2.s_andV, L2.s_aE1, L2.s_aE0, L2.s_orV, L2.s_oE1, L2.s_oE0, L2.s_notV, L2.s_nE, L2.s_if, L2.s_iE1, L2.s_iE0, L2.s_tr, L2.s_trB, L2.s_trI, L2.s_trN, L2.s_nil, L2.s_cons, L2.s_CB, L2.s_call, L2.s_callS, L2.s_sl, L2.s_part, L2.s_noPart, L2.s_lst, L2.s_mk, L2.s_xf, L2.s_for, L2.s_lc, L2.s_rng1, L2.s_rng2, L2.s_rng3, L2.s_enum, L2.s_zip, L2.s_zip3, L2.s_yes, L2.s_lstRg, L2.s_lcC1, L2.s_lcC0, L2.s_mkK, L2.s_meth, L2.s_prop, L2.s_fld, L2.s_stF, L2.s_cv, L2.s_enumA, L2.s_enumO, L2.s_own, L2.s_aug, L2.v_aug, L2.s_augS, L2.s_seqI, L2.s_tup, L2.s_BM, L2.s_BM0, L2.v_addI, L2.v_subI, L2.v_mulI, L2.v_divI, L2.v_modI, L2.v_powI, L2.v_negI, L2.v_cmp, L2.v_eqI, L2.v_eqS, L2.v_neS, L2.v_neI, L2.v_isN, L2.v_isB, L2.v_isnotN, L2.v_isnotB, L2.v_int, L2.v_abs, L2.v_max2, L2.v_min2, L2.le_line, List.set_cons_succ, List.set_cons_zero, List.getElem?_cons_succ, List.getElem?_cons_zero, Option.some.injEq, exists_eq_left', V.bl.injEq, V.int.injEq, true_and, and_true, Bool.not_true, Bool.not_false, if_true, if_false, Bool.false_eq_true, List.append_nil, reduceCtorEq, decide_true, decide_false, ne_eq, not_false_eq_true, Int.reduceToNat, Int.reducePow, Int.reduceMul, Int.reduceAdd, Int.reduceSub, Int.reduceNeg, Nat.reduceAdd, List.length_cons, List.length_nil, List.nil_append, List.cons_append])

local macro_rules | `(tactic| walk_at "p") => `(tactic| (simp only [L2.wipe, List.map_cons, List.map_nil, List.set_cons_succ, List.set_cons_zero]; walk_at "s"))
abbrev FARv : Int := 10000000000000000000000000000000000000000
def spWT (K : PySem.W.Frag) (CK CW : Addr) : Sp := fun vs H Q _ => ∃ (x : Addr) (p : Int) (ns : List Int) (g : Nat), vs = [.ref x, .int p] ∧ KAt K CK CW H x ns (g : Int) ∧ g ≤ 4 ∧ ns.length ≤ 14 ∧
  ∀ L H', Same H H' → TbS K H' L g (wkM g p ns (idM FARv)) → Q (.ref L) H'
theorem wkM_take {g i : Nat} {p : Int} {ns : List Int} {M : Nat → Nat → Int} (h : i < ns.length) : wkM g p (ns.take (i + 1)) M = stepM g p (ns.getD i 0) (wkM g p (ns.take i) M) := by
  unfold wkM
  rw [List.take_succ, List.foldl_append, List.getElem?_eq_getElem h, List.getD_eq_getElem?_getD, List.getElem?_eq_getElem h]
  rfl
section
variable {P : Program} {w : World} {K : PySem.W.Frag} {mg : Str → Option Value} {base : Heap}
variable {cW cK : Addr} {k1 k2 k3 k4 k5 : Tok}
abbrev s_week_table : Stmt := topS 16
theorem sc_week_table : FnScope (["week", "people", "size", "rows", "other", "one", "want", "nearest", "farthest", "newest"] : List Str) (["week", "people"] : List Str) (defScope s_week_table) := ⟨rfl, rfl, rfl, by decide +kernel, rfl, by decide +kernel, by decide +kernel⟩
theorem ok_week_table {f : Addr} {fd : FuncData} (F : Fun K "week_table" "week_table" s_week_table f fd) (B : Blt mg) (T : TxK K mg cK k1 k2 k3 k4 k5) {fL fI : Addr} {fdL fdI : FuncData} (O : OwnC P w K mg base cW "numbers" fL fI fdL fdI (spWLen K cW)) : FnOk P w K mg base (L2.CX P w) 3 f fd (["week", "people"] : List Str) (spWT K cK cW) := by
  refine F.okX sc_week_table (fun vs H Q E h => ?_) (fun cdv A outer s H vs Q E hr h => ?_)
  · obtain ⟨x, p, ns, g, rfl, _⟩ := h; rfl
  · have nd := sc_week_table.nd
    have hu := hr.units
    refine ⟨_, by exact (pss_cons (ps_st 2 nd (pe_op oa_add (pe_fld (pv 0) rfl) pe_int))
        (pss_cons (ps_setLc (i := 3) (own := [("one", 5)]) (g := gName 5) (tt := tYes) rfl nd rfl rfl (sw_true rfl rfl rfl (by decide +kernel)) (pi_range1 rfl B.range (pa_cons (pv 2) pa_nil)) (blkOk_by (N := (["week", "people", "size", "rows", "other", "one", "want", "nearest", "farthest", "newest"] : List Str)) (sc := defScope (topS 16)) (by decide +kernel)) (fun _ _ _ _ _ => (pg_n 5 nd)) (fun _ _ _ _ _ => pts_nil) (fun _ _ _ _ _ => (pe_lc (own := [("other", 4)]) (g := gName 4) (tt := tYes) rfl nd (pi_range1 rfl B.range (pa_cons (pv 2) pa_nil)) (blkOk_by (by kernel_rfl)) (fun _ _ _ _ _ => (pg_n 4 nd)) (fun _ _ _ _ _ => pts_nil) (fun _ _ _ _ _ => (pe_ifExp (pt_cmpR (opK (K := K) (r := aEq) (oa_eq hu) rfl) (pv 5) (pv 4) (nomark _)) pe_int (pe_glob (v := .int (10000000000000000000000000000000000000000)) rfl T.g_FAR ⟨_, rfl⟩))))))
        (pss_cons (ps_for (passes_of rfl) rfl (pi_own O.it O.itOk O.itB (hr.mono (by first | decide | omega)) (pe_fld (pv 0) rfl)) (pg_n 6 nd)
        (pss_cons (ps_st 7 nd (pe_ix oa_ix (pv 3) pe_int (fun _ _ => rfl)))
        (pss_cons (ps_st 8 nd (pe_ix oa_ix (pv 3) (pe_op oa_sub (pv 2) pe_int) (fun _ _ => rfl)))
        (pss_cons (ps_setLc (i := 9) (own := [("other", 4)]) (g := gName 4) (tt := tYes) rfl nd rfl rfl (sw_true rfl rfl rfl (by decide +kernel)) (pi_range1 rfl B.range (pa_cons (pv 2) pa_nil)) (blkOk_by (N := (["week", "people", "size", "rows", "other", "one", "want", "nearest", "farthest", "newest"] : List Str)) (sc := defScope (topS 16)) (by decide +kernel)) (fun _ _ _ _ _ => (pg_n 4 nd)) (fun _ _ _ _ _ => pts_nil) (fun _ _ _ _ _ => (pe_callB (calK (K := K) (r := aMin) (ca_min rfl) rfl) (by rfl) B.min bt_min (pa_cons (pe_op (opK (K := K) (r := aAdd) oa_add rfl) (pe_ix (ixK (K := K) (r := aIx) oa_ix rfl) (pv 7) (pv 4) (fun _ _ => rfl)) (pv 6)) (pa_cons (pe_op (opK (K := K) (r := aAdd) oa_add rfl) (pe_ix (ixK (K := K) (r := aIx) oa_ix rfl) (pv 8) (pv 4) (fun _ _ => rfl)) (pv 1)) pa_nil)))))
        (pss_one (ps_st 3 nd (pe_op oa_add (pe_lst (pa_cons (pv 9) pa_nil)) (pe_slice oa_sl (pv 3) po_none (po_some (pe_op oa_sub (pv 2) pe_int))))))))))
        (pss_one (ps_ret (pv 3)))))), ?_⟩
    obtain ⟨x, p, ns, g, rfl, hK, hg, hn, k⟩ := h
    obtain ⟨dx, wx, hx, dw, tw, hw1, hw2⟩ := hK
    show (tSeq _ _) _ [some (.ref x), some (.int p), none, none, none, none, none, none, none, none] H
    walk_at "s"
    refine w_fld hx T.cl T.nr rfl ?_
    walk_at "s"
    refine w_rg1 (by omega) (by omega) ?_
    rw [show ((g : Int) + 1).toNat = g + 1 by omega]
    refine w_lcNewR (fun i => .lst ((vecL g (idM FARv i)).map V.int)) (by omega) (fun i H1 N hi s1 hN => ?_) (fun L H1 bs s1 hL e1 el eb _ => ?_)
    · rw [Int.zero_add]
      walk_at "s"
      refine ⟨rfl, ?_⟩
      walk_at "p"
      refine w_rg1 (by omega) (by omega) ?_
      rw [show ((g : Int) + 1).toNat = g + 1 by omega]
      refine w_lcRf (fun j => .int (idM FARv i j)) (by omega) (fun j H2 N2 hj s2 hN2 => ?_) (fun L2 H2 s2 hL2 e2 => ?_)
      · rw [Int.zero_add]
        walk_at "s"
        refine ⟨rfl, ?_⟩
        walk_at "p"
        refine w_iE (fun c => ?_) (fun c => ?_)
        · have e : idM FARv i j = 0 := by unfold idM; rw [if_pos (by omega)]
          walk_at "s"
          have := hN2 _ (Same.refl _)
          rw [e] at this
          exact this
        · have e : idM FARv i j = FARv := by unfold idM; rw [if_neg (by omega)]
          walk_at "s"
          have := hN2 _ (Same.refl _)
          rw [e] at this
          exact this
      · rw [rg_map] at e2
        exact hN L2 H2 s2 hL2 e2
    · walk_at "s"
      have hT1 : TbS K H1 L g (wkM g p (ns.take 0) (idM FARv)) := by
        refine ⟨_, SqL.of e1, by simp [el], fun i hi => ?_⟩
        have hi' : i < bs.length := by omega
        refine ⟨bs[i], by rw [List.getElem?_map, List.getElem?_eq_getElem hi']; rfl, SqL.of ?_⟩
        exact (eb i bs[i] (List.getElem?_eq_getElem hi')).2.2
      refine w_fld (s1 _ _ hx) T.cl T.nw rfl ?_
      refine ⟨tw, ⟨wx, dw, _, rfl, s1 _ _ hw1, rfl, _, s1.seqT hw2⟩, ?_⟩
      refine w_forT (xs := ns.map V.int) (fun i σ H' => Same H H' ∧ ∃ l v1 v2 v3 v4 v5 v6, σ = [some (.ref x), some (.int p), some (.int ((g : Int) + 1)), some (.ref l), v1, v2, v3, v4, v5, v6] ∧ TbS K H' l g (wkM g p (ns.take i) (idM FARv))) ⟨s1, L, _, _, _, _, _, _, rfl, hT1⟩ (fun i σ H' _ q => q.1.seqT hw2) ?_ ?_
      · rintro i y σ H2 hy ⟨s2, l, v1, v2, v3, v4, v5, v6, rfl, hT⟩
        obtain ⟨hi, rfl⟩ := getD_map hy
        obtain ⟨rs, hS, hrl, hrow⟩ := hT.row
        obtain ⟨b0, hb0, hB0⟩ := hrow 0 (by omega)
        obtain ⟨bg, hbg, hBg⟩ := hrow g (by omega)
        walk_at "s"
        refine w_ixL hS (w := .ref b0) (atI_nat hb0) ?_
        walk_at "s"
        rw [show (g : Int) + 1 - 1 = (g : Int) by omega]
        refine w_ixL hS (w := .ref bg) (atI_nat hbg) ?_
        walk_at "s"
        refine w_rg1 (by omega) (by omega) ?_
        rw [show ((g : Int) + 1).toNat = g + 1 by omega]
        refine w_lcRf (fun j => .int (stepM g p (ns.getD i 0) (wkM g p (ns.take i) (idM FARv)) 0 j)) (by omega) (fun j H3 N3 hj s3 hN3 => ?_) (fun L3 H3 s3 hL3 e3 => ?_)
        · rw [Int.zero_add]
          walk_at "s"
          refine ⟨rfl, ?_⟩
          walk_at "p"
          refine w_ixL (s3.seq hB0) (vecL_at (by omega)) ?_
          walk_at "s"
          refine w_ixL (s3.seq hBg) (vecL_at (by omega)) ?_
          walk_at "s"
          exact hN3 _ (Same.refl _)
        · rw [rg_map] at e3
          walk_at "s"
          intro z hz
          rw [show (g : Int) + 1 - 1 = (g : Int) by omega]
          have sz : Same H3 (upd H3 z (.lst [.ref L3])) := (W.start.new hz).fr
          refine w_slL ((s3.trans sz).seq hS) fun q hq => ?_
          have sq : Same (upd H3 z (.lst [.ref L3])) (upd (upd H3 z (.lst [.ref L3])) q (.lst (cutV rs none (some (g : Int))))) := (W.start.new hq).fr
          refine w_catL (sq _ _ upd_same) upd_same (by simp [cutV]; have := @small1000' (rs.length + 1) (by omega); omega) fun r hr => ?_
          have sr := (W.start (H := upd (upd H3 z (.lst [.ref L3])) q (.lst (cutV rs none (some (g : Int)))))).new (o := .lst ([.ref L3] ++ cutV rs none (some (g : Int)))) hr |>.fr
          have s4 := (sz.trans sq).trans sr
          have ecut : cutV rs none (some (g : Int)) = rs.take g := by
            unfold cutV
            rw [HT.sIx_none, HT.sIx_nat, Nat.min_eq_left (by omega)]
            simp
          refine ⟨s2.trans (s3.trans s4), r, _, _, _, _, _, _, rfl, ?_⟩
          rw [wkM_take hi]
          refine ⟨_, SqL.of upd_same, by rw [ecut]; simp; omega, fun j hj => ?_⟩
          cases j with
          | zero => exact ⟨L3, rfl, s4.seq (SqL.of e3)⟩
          | succ j =>
            obtain ⟨b, hb, hB⟩ := hrow j (by omega)
            refine ⟨b, ?_, (s3.trans s4).seq hB⟩
            rw [ecut]
            show (rs.take g)[j]? = _
            rw [List.getElem?_take_of_lt (by omega)]
            exact hb
      · rintro σ H2 ⟨s2, l, v1, v2, v3, v4, v5, v6, rfl, hT⟩
        rw [List.length_map, List.take_length] at hT
        walk_at "s"
        exact k l H2 s2 hT
end
end Nk
namespace Nk
open PySem L2
open Mp
local macro_rules | `(tactic| walk_at "s") => `(tactic| try simp (decide := true) only [L2.cxK, L2.s_seq, L2.s_next, L2.s_brk, L2.s_cont, L2.s_drop, L2.s_ret, L2.s_retN, L2.s_ifS, L2.s_br1, L2.s_br0, L2.s_asg, L2.s_asI, L2.s_asB, L2.s_asN, L2.s_asS, L2.s_asR, L2.s_gName, L2.s_gSub, L2.s_var, L2.s_C, L2.s_op, L2.s_un, L2.s_chain, L2.s_test, L2.s_B, L2.s_and, L2.s_aB1, L2.s_aB0, L2.s_or, L2.s_oB1, L2.s_oB0, L2.s_not, L2.s_andV, L2.s_aE1, L2.s_aE0, L2.s_orV, L2.s_oE1, L2.s_oE0, L2.s_notV, L2.s_nE, L2.s_if, L2.s_iE1, L2.s_iE0, L2.s_tr, L2.s_trB, L2.s_trI, L2.s_trN, L2.s_nil, L2.s_cons, L2.s_CB, L2.s_call, L2.s_callS, L2.s_sl, L2.s_part, L2.s_noPart, L2.s_lst, L2.s_mk, L2.s_xf, L2.s_for, L2.s_lc, L2.s_rng1, L2.s_rng2, L2.s_rng3, L2.s_enum, L2.s_zip, L2.s_zip3, L2.s_yes, L2.s_lstRg, L2.s_lcC1, L2.s_lcC0, L2.s_mkK, L2.s_meth, L2.s_prop, L2.s_fld, L2.s_stF, L2.s_cv, L2.s_enumA, L2.s_enumO, L2.s_own, L2.s_aug, L2.v_aug, L2.s_augS, L2.s_seqI, L2.s_tup, L2.s_BM, L2.s_BM0, L2.v_addI, L2.v_subI, L2.v_mulI, L2.v_divI, L2.v_modI, L2.v_powI, L2.v_negI, L2.v_cmp, L2.v_eqI, L2.v_eqS, L2.v_neS, L2.v_neI, L2.v_isN, L2.v_isB, L2.v_isnotN, L2.v_isnotB, L2.v_int, L2.v_abs, L2.v_max2, L2.v_min2, L2.le_line, List.set_cons_succ, List.set_cons_zero, List.getElem?_cons_succ, List.getElem?_cons_zero, Option.some.injEq, exists_eq_left', V.bl.injEq, V.int.injEq, true_and, and_true, Bool.not_true, Bool.not_false, if_true, if_false, Bool.false_eq_true, List.append_nil, reduceCtorEq, decide_true, decide_false, ne_eq, not_false_eq_true, Int.reduceToNat, Int.reducePow, Int.reduceMul, Int.reduceAdd, Int.reduceSub, Int.reduceNeg, Nat.reduceAdd, List.length_cons, List.length_nil, List.nil_append, List.cons_append])

def spKA (K : PySem.W.Frag) (CK CW : Addr) : Sp := fun vs H Q _ => ∃ (x : Addr) (p : Int) (ns : List Int) (g n : Nat), vs = [.ref x, .int p, .int (n : Nat)] ∧ KAt K CK CW H x ns (g : Int) ∧ g ≤ 4 ∧ ns.length ≤ 14 ∧ (∀ c ∈ ns, 0 ≤ c ∧ c ≤ 30) ∧ 0 ≤ p ∧ p ≤ 1000000 ∧ n ≤ 1000000000000000000 ∧
  ∀ H', Same H H' → Q (.int (ans g p ns n)) H'
theorem far_ok {len d e n : Nat} (h : len ≤ 14) (h2 : d + e ≤ n) (hn : n ≤ 1000000000000000000) : (0 : Int) + 30 * (len : Int) * (d : Int) + 30 * (len : Int) * (e : Int) ≤ FARv := by
  have h3 : len * (d + e) ≤ 14 * 1000000000000000000 := Nat.mul_le_mul h (Nat.le_trans h2 hn)
  have h4 := Int.ofNat_le.mpr h3
  rw [Int.natCast_mul, Int.natCast_add] at h4
  have h5 : ((14 * 1000000000000000000 : Nat) : Int) = 14000000000000000000 := rfl
  rw [h5] at h4
  rw [Int.mul_assoc, Int.mul_assoc, Int.zero_add, ← Int.mul_add, ← Int.mul_add]
  show _ ≤ (10000000000000000000000000000000000000000 : Int)
  omega
theorem led_on {g : Nat} {p : Int} {ns : List Int} {M : Nat → Nat → Int} {u : Nat → Int} {d e n : Nat} (p0 : 0 ≤ p) (hw : ∀ c ∈ ns, 0 ≤ c ∧ c ≤ 30) (hl : ns.length ≤ 14) (hn : n ≤ 1000000000000000000) (hu : EqG g u (it g p ns d fun _ => 0)) (hM : Rep g p ns FARv M e) (h : d + e ≤ n) :
    EqG g (led g M u) (it g p ns (d + e) fun _ => 0) := by
  rw [led_congr hu, show d + e = e + d by omega, it_add]
  have h0 : (0 : Int) ≤ 30 * (ns.length : Int) * (d : Int) := Int.mul_nonneg (by omega) (by omega)
  have h1 : Sp g 0 (fun _ => 0) := fun _ _ _ _ => by simp
  exact hM _ (0 + 30 * ns.length * d) (sp_it p0 hw (Int.le_refl 0) h1 d) (by omega) (far_ok hl h hn)
theorem half {d e k b : Nat} : d + e * (2 * k + b) = d + e * b + (e + e) * k := by
  rw [Nat.mul_add, Nat.add_mul, Nat.mul_left_comm]
  omega
section
variable {P : Program} {w : World} {K : PySem.W.Frag} {mg : Str → Option Value} {base : Heap}
variable {cW cK : Addr} {k1 k2 k3 k4 k5 : Tok}
abbrev s_kept_after : Stmt := topS 15
theorem sc_kept_after : FnScope (["week", "people", "weeks", "mosts", "table", "left"] : List Str) (["week", "people", "weeks"] : List Str) (defScope s_kept_after) := ⟨rfl, rfl, rfl, by decide +kernel, rfl, by decide +kernel, by decide +kernel⟩
theorem ok_kept_after {f : Addr} {fd : FuncData} (F : Fun K "kept_after" "kept_after" s_kept_after f fd) (B : Blt mg) (T : TxK K mg cK k1 k2 k3 k4 k5) (C_week_table : FnAt P w K mg base 3 "week_table" ["week", "people"] (spWT K cK cW)) (C_led_over : FnAt P w K mg base 1 "led_over" ["table", "mosts"] (spLed K)) (C_joined_tables : FnAt P w K mg base 1 "joined_tables" ["later", "earlier"] (spJT K)) : FnOk P w K mg base (L2.CX P w) 4 f fd (["week", "people", "weeks"] : List Str) (spKA K cK cW) := by
  refine F.okX sc_kept_after (fun vs H Q E h => ?_) (fun cdv A outer s H vs Q E hr h => ?_)
  · obtain ⟨x, p, ns, g, n, rfl, _⟩ := h; rfl
  · have nd := sc_kept_after.nd
    have hu := hr.units
    refine ⟨_, by exact (pss_cons (ps_if (pt_not (pt_chain oa_le oa_le pe_int (pv 1) (pe_glob (v := .int (1000000)) rfl T.g_MOST_PEOPLE ⟨_, rfl⟩)))
        (pss_one ps_no)
        pss_nil)
        (pss_cons (ps_if (pt_not (pt_chain oa_le oa_le pe_int (pv 2) (pe_glob (v := .int (1000000000000000000)) rfl T.g_MOST_WEEKS ⟨_, rfl⟩)))
        (pss_one ps_no)
        pss_nil)
        (pss_cons (ps_st 3 nd (pe_op oa_mul (pe_lst (pa_cons pe_int pa_nil)) (pe_op oa_add (pe_fld (pv 0) rfl) pe_int)))
        (pss_cons (ps_st 4 nd (pe_fn C_week_table (hr.mono (by first | decide | omega)) passL (pa_cons (pv 0) (pa_cons (pv 1) pa_nil))))
        (pss_cons (ps_st 5 nd (pv 2))
        (pss_cons (ps_while (passes_of rfl) (pt_cmpR oa_gt (pv 5) pe_int (nomark _))
        (pss_cons (ps_if (pt_cmpR (oa_eq hu) (pe_op oa_mod (pv 5) pe_int) pe_int (nomark _))
        (pss_one (ps_st 3 nd (pe_fn C_led_over (hr.mono (by first | decide | omega)) passL (pa_cons (pv 4) (pa_cons (pv 3) pa_nil)))))
        pss_nil)
        (pss_cons (ps_st 5 nd (pe_op oa_div (pv 5) pe_int))
        (pss_one (ps_if (pt_cmpR oa_gt (pv 5) pe_int (nomark _))
        (pss_one (ps_st 4 nd (pe_fn C_joined_tables (hr.mono (by first | decide | omega)) passL (pa_cons (pv 4) (pa_cons (pv 4) pa_nil)))))
        pss_nil)))))
        (pss_one (ps_ret (pe_ix oa_ix (pv 3) pe_int (fun _ _ => rfl)))))))))), ?_⟩
    obtain ⟨x, p, ns, g, n, rfl, hK, hg, hl, hw, p0, p1, hn, k⟩ := h
    obtain ⟨dx, wx, hx, hW⟩ := id hK
    show (tSeq _ _) _ [some (.ref x), some (.int p), some (.int (n : Nat)), none, none, none] H
    walk_at "s"
    rw [decide_eq_true p0]
    simp only [if_true]
    walk_at "s"
    rw [decide_eq_true p1]
    walk_at "s"
    rw [decide_eq_true (show (0 : Int) ≤ (n : Int) by omega)]
    simp only [if_true]
    walk_at "s"
    rw [decide_eq_true (show (n : Int) ≤ 1000000000000000000 by omega)]
    walk_at "s"
    intro z hz
    have sz : Same H (upd H z (.lst [.int 0])) := (W.start.new hz).fr
    refine w_fld (sz _ _ hx) T.cl T.nr rfl ?_
    walk_at "s"
    refine w_rep1 upd_same (by omega) (by omega) fun l hl1 => ?_
    have s1 := sz.trans ((W.start (H := upd H z (.lst [.int 0]))).new (o := .lst (List.replicate (((g : Int) + 1)).toNat (.int 0))) hl1).fr
    have e0 : List.replicate (((g : Int) + 1)).toNat (V.int 0) = (vecL g fun _ => 0).map V.int := by
      rw [show ((g : Int) + 1).toNat = g + 1 by omega]
      apply List.ext_getElem?
      intro j
      by_cases h : j < g + 1
      · simp [vecL, h]
      · rw [List.getElem?_eq_none (by simpa using h), List.getElem?_eq_none (by simpa [vecL] using h)]
    rw [e0] at s1 ⊢
    walk_at "s"
    refine ⟨x, p, ns, g, rfl, hK.mono s1, hg, hl, fun t H1 s2 hT => ?_⟩
    walk_at "s"
    refine w_while (fun m σ H' => ∃ (l t : Addr) (left d e : Nat) (M : Nat → Nat → Int) (u : Nat → Int), σ = [some (.ref x), some (.int p), some (.int (n : Nat)), some (.ref l), some (.ref t), some (.int (left : Nat))] ∧ Same H H' ∧ SqL K H' l ((vecL g u).map V.int) ∧ EqG g u (it g p ns d fun _ => 0) ∧ TbS K H' t g M ∧ (0 < left → Rep g p ns FARv M e) ∧ d + e * left = n ∧ m = left) n
      ⟨l, t, n, 0, 1, _, _, rfl, s1.trans s2, s2.seq (SqL.of upd_same), fun _ _ => rfl, hT, fun _ => rep_base, by omega, rfl⟩ ?_
    rintro m σ H2 ⟨l, t, left, d, e, M, u, rfl, s3, hu, hu2, hT, hM, hd, hm⟩
    walk_at "s"
    refine w_wh (fun c => ?_) (fun c => ?_)
    · have c : 0 < left := by omega
      have hM := hM c
      walk_at "s"
      refine w_brJ (fun σ H' => ∃ (l : Addr) (u : Nat → Int) (d' : Nat), σ = [some (.ref x), some (.int p), some (.int (n : Nat)), some (.ref l), some (.ref t), some (.int (left : Nat))] ∧ Same H2 H' ∧ SqL K H' l ((vecL g u).map V.int) ∧ EqG g u (it g p ns d' fun _ => 0) ∧ d' + (e + e) * (left / 2) = n) ?_ (fun c1 nx hnx => ?_) (fun c1 nx hnx => ?_)
      · rintro σ H3 ⟨l, u, d', rfl, s4, hu, hu2, hd'⟩
        walk_at "s"
        rw [show (left : Int) / 2 = ((left / 2 : Nat) : Int) by omega]
        have hlt : left / 2 < m := by omega
        refine w_br (fun c2 => ?_) (fun c2 => ?_)
        · walk_at "s"
          refine ⟨t, t, g, M, M, rfl, hT.mono s4, hT.mono s4, by omega, fun t2 H4 s5 _ hT2 => ?_⟩
          walk_at "s"
          exact ⟨_, hlt, l, t2, left / 2, d', e + e, _, u, rfl, (s3.trans s4).trans s5, s5.seq hu, hu2, hT2, fun _ => rep_join p0 hw hM hM, hd', rfl⟩
        · walk_at "s"
          exact ⟨_, hlt, l, t, left / 2, d', e + e, M, u, rfl, s3.trans s4, hu, hu2, hT.mono s4, fun z => absurd z (by omega), hd', rfl⟩
      · walk_at "s"
        refine ⟨t, l, g, M, u, rfl, hT, hu, by omega, fun L H3 s4 _ hL => ?_⟩
        walk_at "s"
        have hh : left = 2 * (left / 2) + 1 := by omega
        have hn2 := hd
        rw [hh, half] at hn2
        refine hnx _ _ ⟨L, _, d + e, rfl, s4, SqL.of hL, led_on p0 hw hl hn hu2 hM ?_, by simpa using hn2⟩
        have : e * 1 ≤ e * left := Nat.mul_le_mul_left _ c
        omega
      · walk_at "s"
        have hh : left = 2 * (left / 2) + 0 := by omega
        have hn2 := hd
        rw [hh, half] at hn2
        exact hnx _ _ ⟨l, u, d, rfl, Same.refl _, hu, hu2, by simpa using hn2⟩
    · have c : left = 0 := by omega
      subst c
      walk_at "s"
      refine w_ixL hu (vecL_at (i := 0) (by omega)) ?_
      have hdn : d = n := by simpa using hd
      rw [hu2 0 (by omega), ans_it, hdn]
      exact k H2 s3
end
end Nk
namespace Nk
open PySem L2
local macro_rules | `(tactic| walk_at "s") => `(tactic| try simp (decide := true) only [L2.cxK, L2.s_seq, L2.s_next, L2.s_brk, L2.s_cont, L2.s_drop, L2.s_ret, L2.s_retN, L2.s_ifS, L2.s_br1, L2.s_br0, L2.s_asg, L2.s_asI, L2.s_asB, L2.s_asN, L2.s_asS, L2.s_asR, L2.s_gName, L2.s_gSub, L2.s_var, L2.s_C, L2.s_op, L2.s_un, L2.s_chain, L2.s_test, L2.s_B, L2.s_and, L2.s_aB1, L2.s_aB0, L2.s_or, L2.s_oB1, L2.s_oB0, L2.s_not, L2.s_andV, L2.s_aE1, L2.s_aE0, L2.s_orV, L2.s_oE1, L2.s_oE0, L2.s_notV, L2.s_nE, L2.s_if, L2.s_iE1, L2.s_iE0, L2.s_tr, L2.s_trB, L2.s_trI, L2.s_trN, L2.s_nil, L2.s_cons, L2.s_CB, L2.s_call, L2.s_callS, L2.s_sl, L2.s_part, L2.s_noPart, L2.s_lst, L2.s_mk, L2.s_xf, L2.s_for, L2.s_lc, L2.s_rng1, L2.s_rng2, L2.s_rng3, L2.s_enum, L2.s_zip, L2.s_zip3, L2.s_yes, L2.s_lstRg, L2.s_lcC1, L2.s_lcC0, L2.s_mkK, L2.s_meth, L2.s_prop, L2.s_fld, L2.s_stF, L2.s_cv, L2.s_enumA, L2.s_enumO, L2.s_own, L2.s_aug, L2.v_aug, L2.s_augS, L2.s_seqI, L2.s_tup, L2.s_BM, L2.s_BM0, L2.v_addI, L2.v_subI, L2.v_mulI, L2.v_divI, L2.v_modI, L2.v_powI, L2.v_negI, L2.v_cmp, L2.v_eqI, L2.v_eqS, L2.v_neS, L2.v_neI, L2.v_isN, L2.v_isB, L2.v_isnotN, L2.v_isnotB, L2.v_int, L2.v_abs, L2.v_max2, L2.v_min2, L2.le_line, List.set_cons_succ, List.set_cons_zero, List.getElem?_cons_succ, List.getElem?_cons_zero, Option.some.injEq, exists_eq_left', V.bl.injEq, V.int.injEq, true_and, and_true, Bool.not_true, Bool.not_false, if_true, if_false, Bool.false_eq_true, List.append_nil, reduceCtorEq, decide_true, decide_false, ne_eq, not_false_eq_true, Int.reduceToNat, Int.reducePow, Int.reduceMul, Int.reduceAdd, Int.reduceSub, Int.reduceNeg, Nat.reduceAdd, List.length_cons, List.length_nil, List.nil_append, List.cons_append])
section
variable {P : Program} {w : World} {K : PySem.W.Frag} {mg : Str → Option Value} {base : Heap}
abbrev s__law_pool : Stmt := topS 22
theorem sc__law_pool : FnScope (["script", "at", "cell"] : List Str) (["script", "at"] : List Str) (defScope s__law_pool) := ⟨rfl, rfl, rfl, by decide +kernel, rfl, by decide +kernel, by decide +kernel⟩
theorem ok__law_pool {f : Addr} {fd : FuncData} (F : Fun K "_law_pool" "_law_pool" s__law_pool f fd) (B : Blt mg) : FnOk P w K mg base (L2.CX P w) 1 f fd (["script", "at"] : List Str) (spPool K) := by
  refine F.okX sc__law_pool (fun vs H Q E h => ?_) (fun cdv A outer s H vs Q E hr h => ?_)
  · obtain ⟨a, ns, i, rfl, _⟩ := h; rfl
  · have nd := sc__law_pool.nd
    have hu := hr.units
    refine ⟨_, by exact (pss_cons (ps_st 2 nd pe_int)
        (pss_cons (ps_if (pt_cmpR oa_lt (pv 1) (pe_callB ca_len (by rfl) B.len bt_len (pa_cons (pv 0) pa_nil)) (nomark _))
        (pss_one (ps_st 2 nd (pe_callB ca_abs (by rfl) B.abs bt_abs (pa_cons (pe_ix oa_ix (pv 0) (pv 1) (fun _ _ => rfl)) pa_nil))))
        pss_nil)
        (pss_cons (ps_if (pt_cmpR oa_ge (pv 2) (pe_op oa_pow pe_int pe_int) (nomark _))
        (pss_one (ps_ret (pe_lst (pa_cons (pe_op oa_sub (pv 2) (pe_op oa_pow pe_int pe_int)) (pa_cons pe_int (pa_cons pe_int pa_nil))))))
        pss_nil)
        (pss_one (ps_ret (pe_lst (pa_cons (pe_un oa_neg pe_int) (pa_cons (pe_op oa_mod (pe_callTy ca_int (by rfl) B.int bt_int (pa_cons (pv 2) pa_nil)) pe_int) (pa_cons (pe_op oa_add (pv 1) pe_int) pa_nil))))))))), ?_⟩
    obtain ⟨a, ns, i, rfl, hS, k⟩ := h
    show (tSeq _ _) _ [some (.ref a), some (.int i), none] H
    walk_at "s"
    refine w_lenL hS ?_
    walk_at "s"
    have fin : ∀ z : Int, (0 ≤ z % 2147483399 ∧ z % 2147483399 < 2147483648) := fun z => by omega
    refine w_br (fun c => ?_) (fun c => ?_)
    · walk_at "s"
      refine w_ixL hS (atI_int (by omega) (by simpa using c)) ?_
      walk_at "s"
      refine w_br (fun c => ?_) (fun c => ?_) <;> walk_at "s"
      · exact fun r hr => k r _ _ _ hr ⟨by decide, by decide⟩
      · exact fun r hr => k r _ _ _ hr (fin _)
    · walk_at "s"
      exact fun r hr => k r _ _ _ hr (fin _)
abbrev s__law_draw : Stmt := topS 23
theorem sc__law_draw : FnScope (["pool", "many", "value", "mixed"] : List Str) (["pool", "many"] : List Str) (defScope s__law_draw) := ⟨rfl, rfl, rfl, by decide +kernel, rfl, by decide +kernel, by decide +kernel⟩
theorem ok__law_draw {f : Addr} {fd : FuncData} (F : Fun K "_law_draw" "_law_draw" s__law_draw f fd) (B : Blt mg) : FnOk P w K mg base (L2.CX P w) 1 f fd (["pool", "many"] : List Str) spDraw := by
  refine F.okX sc__law_draw (fun vs H Q E h => ?_) (fun cdv A outer s H vs Q E hr h => ?_)
  · obtain ⟨p, m, a, b, c, rfl, _⟩ := h; rfl
  · have nd := sc__law_draw.nd
    have hu := hr.units
    refine ⟨_, by exact (pss_cons (ps_if (pt_cmpR oa_ge (pe_ix oa_ix (pv 0) pe_int (fun _ _ => rfl)) pe_int (nomark _))
        (pss_cons (ps_st 2 nd (pe_op oa_mod (pe_callTy ca_int (by rfl) B.int bt_int (pa_cons (pe_ix oa_ix (pv 0) pe_int (fun _ _ => rfl)) pa_nil)) (pv 1)))
        (pss_cons (ps_asg (pe_op oa_div (pe_ix oa_ix (pv 0) pe_int (fun _ _ => rfl)) (pv 1)) (pg_sub (pv 0) pe_int set_list))
        (pss_one (ps_ret (pv 2)))))
        pss_nil)
        (pss_cons (ps_asg (pe_op oa_add (pe_ix oa_ix (pv 0) pe_int (fun _ _ => rfl)) pe_int) (pg_sub (pv 0) pe_int set_list))
        (pss_cons (ps_st 3 nd (pe_ix oa_ix (pv 0) pe_int (fun _ _ => rfl)))
        (pss_cons (ps_st 3 nd (pe_op oa_mod (pe_callTy ca_int (by rfl) B.int bt_int (pa_cons (pe_op oa_add (pe_op oa_add (pe_op oa_mul (pv 3) (pv 3)) (pe_op oa_mul (pe_ix oa_ix (pv 0) pe_int (fun _ _ => rfl)) pe_int)) pe_int) pa_nil)) pe_int))
        (pss_cons (ps_st 3 nd (pe_op oa_mod (pe_callTy ca_int (by rfl) B.int bt_int (pa_cons (pe_op oa_add (pe_op oa_mul (pv 3) (pv 3)) (pe_op oa_div (pv 3) pe_int)) pa_nil)) pe_int))
        (pss_cons (ps_asg (pv 3) (pg_sub (pv 0) pe_int set_list))
        (pss_one (ps_ret (pe_op oa_mod (pe_callTy ca_int (by rfl) B.int bt_int (pa_cons (pe_op oa_div (pv 3) pe_int) pa_nil)) (pv 1)))))))))), ?_⟩
    obtain ⟨p, m, a, b, c, rfl, hm, h9, hp, hb, k⟩ := h
    have hS : SqL K H p [.int a, .int b, .int c] := SqL.of hp
    show (tSeq _ _) _ [some (.ref p), some (.int m), none, none] H
    walk_at "s"
    refine w_ixL hS (w := .int a) rfl ?_
    walk_at "s"
    refine w_br (fun c0 => ?_) (fun c0 => ?_)
    · walk_at "s"
      refine w_ixL hS (w := .int a) rfl ?_
      walk_at "s"
      rw [v_modI hm]
      walk_at "s"
      refine w_ixL hS (w := .int a) rfl ?_
      walk_at "s"
      rw [v_divI hm h9]
      walk_at "s"
      refine w_set hp (jj := 0) rfl ?_
      walk_at "s"
      exact k _ _ _ _ (Int.emod_nonneg _ (by omega)) (Int.emod_lt_of_pos _ hm) hb
    · walk_at "s"
      refine w_ixL hS (w := .int _) rfl ?_
      walk_at "s"
      refine w_set hp (jj := 2) rfl ?_
      walk_at "s"
      refine w_ixL (SqL.of upd_same) (w := .int _) rfl ?_
      walk_at "s"
      refine ⟨mulokL (by have := hb.1; have := hb.2; omega), ?_⟩
      walk_at "s"
      refine w_ixL (SqL.of upd_same) (w := .int _) rfl ?_
      walk_at "s"
      refine ⟨mulokR (by decide), ?_⟩
      walk_at "s"
      have h1 : ∀ z : Int, 0 ≤ z % 2147483399 ∧ z % 2147483399 < 2147483399 := fun z => by omega
      have h2 : ∀ z : Int, 0 ≤ z % 2147483629 ∧ z % 2147483629 < 2147483629 := fun z => by omega
      obtain ⟨h3, h4⟩ := h1 (b * b + (c + 1) * 3571 + 40692)
      generalize (b * b + (c + 1) * 3571 + 40692) % 2147483399 = d at h3 h4 ⊢
      refine ⟨mulokL (by omega), ?_⟩
      walk_at "s"
      obtain ⟨h5, h6⟩ := h2 (d * d + d / 97)
      generalize (d * d + d / 97) % 2147483629 = e at h5 h6 ⊢
      refine w_set upd_same (jj := 1) rfl ?_
      walk_at "s"
      rw [v_modI hm, upd_upd]
      exact k _ _ _ _ (Int.emod_nonneg _ (by omega)) (Int.emod_lt_of_pos _ hm) ⟨h5, by omega⟩
end
end Nk
namespace Nk
open PySem L2
local macro_rules | `(tactic| walk_at "s") => `(tactic| try simp (decide := true) only [L2.cxK, L2.s_seq, L2.s_next, L2.s_brk, L2.s_cont, L2.s_drop, L2.s_ret, L2.s_retN, L2.s_ifS, L2.s_br1, L2.s_br0, L2.s_asg, L2.s_asI, L2.s_asB, L2.s_asN, L2.s_asS, L2.s_asR, L2.s_gName, L2.s_gSub, L2.s_var, L2.s_C, L2.s_op, L2.s_un, L2.s_chain, L2.s_test, L2.s_B, L2.s_and, L2.s_aB1, L2.s_aB0, L2.s_or, L2.s_oB1, L2.s_oB0, L2.s_not, L2.s_andV, L2.s_aE1, L2.s_aE0, L2.s_orV, L2.s_oE1, L2.s_oE0, L2.s_notV, L2.s_nE, L2.s_if, L2.s_iE1, L2.s_iE0, L2.s_tr, L2.s_trB, L2.s_trI, L2.s_trN, L2.s_nil, L2.s_cons, L2.s_CB, L2.s_call, L2.s_callS, L2.s_sl, L2.s_part, L2.s_noPart, L2.s_lst, L2.s_mk, L2.s_xf, L2.s_for, L2.s_lc, L2.s_rng1, L2.s_rng2, L2.s_rng3, L2.s_enum, L2.s_zip, L2.s_zip3, L2.s_yes, L2.s_lstRg, L2.s_lcC1, L2.s_lcC0, L2.s_mkK, L2.s_meth, L2.s_prop, L2.s_fld, L2.s_stF, L2.s_cv, L2.s_enumA, L2.s_enumO, L2.s_own, L2.s_aug, L2.v_aug, L2.s_augS, L2.s_seqI, L2.s_tup, L2.s_BM, L2.s_BM0, L2.v_addI, L2.v_subI, L2.v_mulI, L2.v_divI, L2.v_modI, L2.v_powI, L2.v_negI, L2.v_cmp, L2.v_eqI, L2.v_eqS, L2.v_neS, L2.v_neI, L2.v_isN, L2.v_isB, L2.v_isnotN, L2.v_isnotB, L2.v_int, L2.v_abs, L2.v_max2, L2.v_min2, L2.le_line, List.set_cons_succ, List.set_cons_zero, List.getElem?_cons_succ, List.getElem?_cons_zero, Option.some.injEq, exists_eq_left', V.bl.injEq, V.int.injEq, true_and, and_true, Bool.not_true, Bool.not_false, if_true, if_false, Bool.false_eq_true, List.append_nil, reduceCtorEq, decide_true, decide_false, ne_eq, not_false_eq_true, Int.reduceToNat, Int.reducePow, Int.reduceMul, Int.reduceAdd, Int.reduceSub, Int.reduceNeg, Nat.reduceAdd, List.length_cons, List.length_nil, List.nil_append, List.cons_append])
section
variable {P : Program} {w : World} {K : PySem.W.Frag} {mg : Str → Option Value} {base : Heap}
abbrev s__law_int : Stmt := topS 25
theorem sc__law_int : FnScope (["x"] : List Str) (["x"] : List Str) (defScope s__law_int) := ⟨rfl, rfl, rfl, by decide +kernel, rfl, by decide +kernel, by decide +kernel⟩
theorem ok__law_int {f : Addr} {fd : FuncData} (F : Fun K "_law_int" "_law_int" s__law_int f fd) (B : Blt mg) : FnOk P w K mg base (L2.CX P w) 1 f fd (["x"] : List Str) (spInt K) := by
  refine F.okX sc__law_int (fun vs H Q E h => ?_) (fun cdv A outer s H vs Q E hr h => ?_)
  · obtain ⟨v, d, rfl, _⟩ := h; rfl
  · have nd := sc__law_int.nd
    have hu := hr.units
    refine ⟨_, by exact (pss_one (ps_ret (pe_and (pe_callB call_isi (by rfl) B.isinstance bt_isinstance (pa_cons (pv 0) (pa_cons (pe_bltn (v := .ty "int") (by rfl) B.int bt_int rfl) pa_nil))) (pe_one (pe_not (pe_callB call_isi (by rfl) B.isinstance bt_isinstance (pa_cons (pv 0) (pa_cons (pe_bltn (v := .ty "bool") (by rfl) B.bool bt_bool rfl) pa_nil)))))))), ?_⟩
    obtain ⟨v, d, rfl, hd, k⟩ := h
    show (tRet _) _ [some v] H
    walk_at "s"
    refine isi_int hd ?_
    refine w_aEB (fun c => ?_) (fun c => ?_) <;> walk_at "s"
    · refine isi_bool hd ?_
      walk_at "s"
      cases d <;> first
        | exact k
        | cases c
    · cases d <;> first
        | exact k
        | cases c
end
end Nk
namespace Nk
open PySem L2
open Mp
local macro_rules | `(tactic| walk_at "s") => `(tactic| try simp (decide := true) only [L2.cxK, L2.s_seq, L2.s_next, L2.s_brk, L2.s_cont, L2.s_drop, L2.s_ret, L2.s_retN, L2.s_ifS, L2.s_br1, L2.s_br0, L2.s_asg, L2.s_asI, L2.s_asB, L2.s_asN, L2.s_asS, L2.s_asR, L2.s_gName, L2.s_gSub, L2.s_var, L2.s_C, L2.s_op, L2.s_un, L2.s_chain, L2.s_test, L2.s_B, L2.s_and, L2.s_aB1, L2.s_aB0, L2.s_or, L2.s_oB1, L2.s_oB0, L2.s_not, L2.s_andV, L2.s_aE1, L2.s_aE0, L2.s_orV, L2.s_oE1, L2.s_oE0, L2.s_notV, L2.s_nE, L2.s_if, L2.s_iE1, L2.s_iE0, L2.s_tr, L2.s_trB, L2.s_trI, L2.s_trN, L2.s_nil, L2.s_cons, L2.s_CB, L2.s_call, L2.s_callS, L2.s_sl, L2.s_part, L2.s_noPart, L2.s_lst, L2.s_mk, L2.s_xf, L2.s_for, L2.s_lc, L2.s_rng1, L2.s_rng2, L2.s_rng3, L2.s_enum, L2.s_zip, L2.s_zip3, L2.s_yes, L2.s_lstRg, L2.s_lcC1, L2.s_lcC0, L2.s_mkK, L2.s_meth, L2.s_prop, L2.s_fld, L2.s_stF, L2.s_cv, L2.s_enumA, L2.s_enumO, L2.s_own, L2.s_aug, L2.v_aug, L2.s_augS, L2.s_seqI, L2.s_tup, L2.s_BM, L2.s_BM0, L2.v_addI, L2.v_subI, L2.v_mulI, L2.v_divI, L2.v_modI, L2.v_powI, L2.v_negI, L2.v_cmp, L2.v_eqI, L2.v_eqS, L2.v_neS, L2.v_neI, L2.v_isN, L2.v_isB, L2.v_isnotN, L2.v_isnotB, L2.v_int, L2.v_abs, L2.v_max2, L2.v_min2, L2.le_line, List.set_cons_succ, List.set_cons_zero, List.getElem?_cons_succ, List.getElem?_cons_zero, Option.some.injEq, exists_eq_left', V.bl.injEq, V.int.injEq, true_and, and_true, Bool.not_true, Bool.not_false, if_true, if_false, Bool.false_eq_true, List.append_nil, reduceCtorEq, decide_true, decide_false, ne_eq, not_false_eq_true, Int.reduceToNat, Int.reducePow, Int.reduceMul, Int.reduceAdd, Int.reduceSub, Int.reduceNeg, Nat.reduceAdd, List.length_cons, List.length_nil, List.nil_append, List.cons_append])

def PO (p : Addr) (H H' : Hp) : Prop := But p H H' ∧ ∃ a b c, H' p = some (poolO a b c) ∧ POk b
def spWnt : Sp := fun vs H Q _ => ∃ (p : Addr) (n m a b c : Int), vs = [.ref p, .int n, .int m] ∧ 0 ≤ n ∧ n ≤ 60 ∧ 0 ≤ m ∧ m ≤ 30 ∧ H p = some (poolO a b c) ∧ POk b ∧
  ∀ (r : Addr) (ns : List Int) (H' : Hp), (ns.length : Int) = n → (∀ c ∈ ns, 0 ≤ c ∧ c ≤ m) → PO p H H' → H r = none → H' r = some (.lst (ns.map V.int)) → Q (.ref r) H'
theorem mem_app1 {q : Int → Prop} {l : List Int} {x : Int} (h : ∀ c ∈ l, q c) (hx : q x) : ∀ c ∈ l ++ [x], q c := fun c hc => by
  rcases List.mem_append.mp hc with hc | hc
  · exact h c hc
  · rw [List.mem_singleton.mp hc]; exact hx
theorem po_of {F H0 H' : Hp} {p r : Addr} {o : HO} {a b c : Int} (w : W (rem H0 p) [(r, o), (p, poolO a b c)] H') (hb : POk b) : PO p H0 H' := ⟨W.but (r := p) (o := poolO a b c) (w.perm (List.Perm.swap _ _ _)), a, b, c, w.get 1 rfl, hb⟩

def spWks : Sp := fun vs H Q _ => ∃ (p : Addr) (a b c : Int), vs = [.ref p] ∧ H p = some (poolO a b c) ∧ POk b ∧ ∀ (v : Nat) (H' : Hp), v ≤ 1000000000000000000 → PO p H H' → Q (.int (v : Nat)) H'
def spOW (K : PySem.W.Frag) : Sp := fun vs H Q _ => ∃ (a r : Addr) (p : Int) (ns rs : List Int), vs = [.ref a, .ref r, .int p] ∧ SqL K H a (ns.map V.int) ∧ SqL K H r (rs.map V.int) ∧ rs.length ≤ 1000 ∧ ns.length ≤ 1000 ∧
  ∀ L C H', Same H H' → H L = none → H C = none → H' L = some (.lst [.int (ow p ns (0, rs)).1, .ref C]) → H' C = some (.lst ((ow p ns (0, rs)).2.map V.int)) → Q (.ref L) H'
theorem ow_take {p : Int} {i : Nat} {ns : List Int} {st : Int × List Int} (h : i < ns.length) : ow p (ns.take (i + 1)) st = stl p (ns.getD i 0) (ow p (ns.take i) st) := by
  unfold ow
  rw [List.take_succ, List.foldl_append, List.getElem?_eq_getElem h, List.getD_eq_getElem?_getD, List.getElem?_eq_getElem h]
  rfl
theorem ow_len {p : Int} : ∀ {ns : List Int} {st : Int × List Int}, (ow p ns st).2.length = st.2.length
  | [], _ => rfl
  | w :: ns, st => by
    show (ow p ns (stl p w st)).2.length = _
    rw [ow_len, stl_len]
theorem cut1 (xs : List V) : cutV xs (some 1) none = xs.drop 1 := by
  have e : HT.sIx xs.length 0 (some 1) = min 1 xs.length := HT.sIx_nat xs.length 0 1
  unfold cutV
  rw [e, HT.sIx_none]
  cases xs with
  | nil => rfl
  | cons x xs => simp
section
variable {P : Program} {w : World} {K : PySem.W.Frag} {mg : Str → Option Value} {base : Heap}
abbrev s__law_wants : Stmt := topS 24
theorem sc__law_wants : FnScope (["pool", "nights", "most", "night"] : List Str) (["pool", "nights", "most"] : List Str) (defScope s__law_wants) := ⟨rfl, rfl, rfl, by decide +kernel, rfl, by decide +kernel, by decide +kernel⟩
theorem ok__law_wants {f : Addr} {fd : FuncData} (F : Fun K "_law_wants" "_law_wants" s__law_wants f fd) (B : Blt mg) (C__law_draw : FnAt P w K mg base 1 "_law_draw" ["pool", "many"] spDraw) : FnOk P w K mg base (L2.CX P w) 2 f fd (["pool", "nights", "most"] : List Str) spWnt := by
  refine F.okX sc__law_wants (fun vs H Q E h => ?_) (fun cdv A outer s H vs Q E hr h => ?_)
  · obtain ⟨p, m, n, a, b, c, rfl, _⟩ := h; rfl
  · have nd := sc__law_wants.nd
    have hu := hr.units
    refine ⟨_, by exact (pss_one (ps_ret (pe_lc (own := [("night", 3)]) (g := gName 3) (tt := tYes) rfl nd (pi_range1 rfl B.range (pa_cons (pv 1) pa_nil)) (blkOk_by (N := (["pool", "nights", "most", "night"] : List Str)) (sc := defScope (topS 24)) (by decide +kernel)) (fun _ _ _ _ _ => (pg_n 3 nd)) (fun _ _ _ _ _ => pts_nil) (fun _ _ _ _ _ => (pe_fn C__law_draw (hr.mono (by first | decide | omega)) passL (pa_cons (pv 0) (pa_cons (pe_op (opK (K := K) (r := aAdd) oa_add rfl) (pv 2) pe_int) pa_nil))))))), ?_⟩
    obtain ⟨p, n, m, a, b, c, rfl, n0, n1, m0, m1, hp, hb, k⟩ := h
    show (tRet _) _ [some (.ref p), some (.int n), some (.int m), none] H
    walk_at "s"
    have wp := W.own hp
    refine w_rg1 (by omega) (by omega) ?_
    refine w_lcR (fun L i H' => ∃ (ns : List Int) (a b c : Int), W (rem H p) [(L, .lst (ns.map V.int)), (p, poolO a b c)] H' ∧ POk b ∧ ns.length = i ∧ ∀ c ∈ ns, 0 ≤ c ∧ c ≤ m) (fun L hL => ⟨[], a, b, c, wp.new hL, hb, rfl, (fun c hc => nomatch hc)⟩) ?_ ?_
    · rintro L i H' hi ⟨ns, a, b, c, w, hb, hl, hc⟩
      walk_at "s"
      refine ⟨rfl, ?_⟩
      refine ⟨_, rfl, _, rfl, ?_⟩
      walk_at "s"
      refine w_draw w 1 rfl hb (by omega) (by omega) fun x a b c H2 q0 q1 hb _ w2 => ?_
      have w3 := w2.upd (o' := .lst ((ns ++ [x]).map V.int)) 0 rfl
      exact ⟨_, w2.get 0 rfl, by rw [List.length_map]; exact small1000' (by omega), ns ++ [x], a, b, c, by simpa using w3, hb, by simp; omega, mem_app1 hc ⟨by omega, by omega⟩⟩
    · rintro L H' hL ⟨ns, a, b, c, w, hb, hl, hc⟩
      exact k L ns H' (by omega) hc (po_of (F := H) w hb) hL (w.get 0 rfl)
abbrev s__law_weeks : Stmt := topS 26
theorem sc__law_weeks : FnScope (["pool", "way"] : List Str) (["pool"] : List Str) (defScope s__law_weeks) := ⟨rfl, rfl, rfl, by decide +kernel, rfl, by decide +kernel, by decide +kernel⟩
theorem ok__law_weeks {f : Addr} {fd : FuncData} (F : Fun K "_law_weeks" "_law_weeks" s__law_weeks f fd) (B : Blt mg) (C__law_draw : FnAt P w K mg base 1 "_law_draw" ["pool", "many"] spDraw) : FnOk P w K mg base (L2.CX P w) 2 f fd (["pool"] : List Str) spWks := by
  refine F.okX sc__law_weeks (fun vs H Q E h => ?_) (fun cdv A outer s H vs Q E hr h => ?_)
  · obtain ⟨p, a, b, c, rfl, _⟩ := h; rfl
  · have nd := sc__law_weeks.nd
    have hu := hr.units
    refine ⟨_, by exact (pss_cons (ps_st 1 nd (pe_fn C__law_draw (hr.mono (by first | decide | omega)) passL (pa_cons (pv 0) (pa_cons pe_int pa_nil))))
        (pss_cons (ps_if (pt_cmpR (oa_eq hu) (pv 1) pe_int (nomark _))
        (pss_one (ps_ret (pe_fn C__law_draw (hr.mono (by first | decide | omega)) passL (pa_cons (pv 0) (pa_cons pe_int pa_nil)))))
        pss_nil)
        (pss_cons (ps_if (pt_cmpR (oa_eq hu) (pe_fn C__law_draw (hr.mono (by first | decide | omega)) passL (pa_cons (pv 0) (pa_cons pe_int pa_nil))) pe_int (nomark _))
        (pss_one (ps_ret (pe_op oa_pow pe_int pe_int)))
        pss_nil)
        (pss_one (ps_ret (pe_op oa_add (pe_fn C__law_draw (hr.mono (by first | decide | omega)) passL (pa_cons (pv 0) (pa_cons (pe_op oa_pow pe_int pe_int) pa_nil))) (pe_op oa_mul (pe_op oa_pow pe_int pe_int) (pe_fn C__law_draw (hr.mono (by first | decide | omega)) passL (pa_cons (pv 0) (pa_cons (pe_op oa_pow pe_int pe_int) pa_nil)))))))))), ?_⟩
    obtain ⟨p, a, b, c, rfl, hp, hb, k⟩ := h
    show (tSeq _ _) _ [some (.ref p), none] H
    have wp := W.own hp
    walk_at "s"
    refine w_draw wp 0 rfl hb (by omega) (by omega) fun d a b c H1 _ _ hb _ w1 => ?_
    walk_at "s"
    refine w_br (fun c1 => ?_) (fun c1 => ?_)
    · walk_at "s"
      refine w_draw w1 0 rfl hb (by omega) (by omega) fun d a b c H2 d0 d1 hb _ w2 => ?_
      obtain ⟨v, rfl⟩ := Int.eq_ofNat_of_zero_le d0
      exact k v _ (by omega) ⟨w2.but, a, b, c, w2.get 0 rfl, hb⟩
    · walk_at "s"
      refine w_draw w1 0 rfl hb (by omega) (by omega) fun d a b c H2 _ _ hb _ w2 => ?_
      walk_at "s"
      refine w_br (fun c2 => ?_) (fun c2 => ?_)
      · walk_at "s"
        exact k 1000000000000000000 _ (by omega) ⟨w2.but, a, b, c, w2.get 0 rfl, hb⟩
      · walk_at "s"
        refine w_draw w2 0 rfl hb (by omega) (by omega) fun x a b c H3 x0 x1 hb _ w3 => ?_
        walk_at "s"
        refine w_draw w3 0 rfl hb (by omega) (by omega) fun y a b c H4 y0 y1 hb _ w4 => ?_
        walk_at "s"
        refine ⟨mulokL (by omega), ?_⟩
        walk_at "s"
        obtain ⟨v, hv⟩ := Int.eq_ofNat_of_zero_le (show 0 ≤ x + 1000000000 * y by omega)
        rw [hv]
        exact k v _ (by omega) ⟨w4.but, a, b, c, w4.get 0 rfl, hb⟩
abbrev s__law_one_week : Stmt := topS 27
theorem sc__law_one_week : FnScope (["run", "recent", "people", "chosen", "kept", "want", "made"] : List Str) (["run", "recent", "people"] : List Str) (defScope s__law_one_week) := ⟨rfl, rfl, rfl, by decide +kernel, rfl, by decide +kernel, by decide +kernel⟩
theorem ok__law_one_week {f : Addr} {fd : FuncData} (F : Fun K "_law_one_week" "_law_one_week" s__law_one_week f fd) (B : Blt mg) : FnOk P w K mg base (L2.CX P w) 1 f fd (["run", "recent", "people"] : List Str) (spOW K) := by
  refine F.okX sc__law_one_week (fun vs H Q E h => ?_) (fun cdv A outer s H vs Q E hr h => ?_)
  · obtain ⟨a, r, p, ns, rs, rfl, _⟩ := h; rfl
  · have nd := sc__law_one_week.nd
    have hu := hr.units
    refine ⟨_, by exact (pss_cons (ps_st 3 nd (pe_callTy ca_list (by rfl) B.list bt_list (pa_cons (pv 1) pa_nil)))
        (pss_cons (ps_st 4 nd pe_int)
        (pss_cons (ps_for (passes_of rfl) rfl (pi_seq (pv 0)) (pg_n 5 nd)
        (pss_cons (ps_st 6 nd (pe_callB (ca_min rfl) (by rfl) B.min bt_min (pa_cons (pe_callTy ca_int (by rfl) B.int bt_int (pa_cons (pv 5) pa_nil)) (pa_cons (pe_op oa_sub (pv 2) (pe_callB (cr_sumA rfl) (by rfl) B.sum bt_sum (pa_cons (pv 3) pa_nil))) pa_nil))))
        (pss_cons (ps_st 4 nd (pe_op oa_add (pv 4) (pv 6)))
        (pss_cons (ps_expr (pe_bm PySem.F.plainAttrs_list PySem.F.slot_list_append PySem.F.type_list_append mt_append (pv 3) (pa_cons (pv 6) pa_nil)))
        (pss_one (ps_st 3 nd (pe_slice oa_sl (pv 3) (po_some pe_int) po_none)))))))
        (pss_one (ps_ret (pe_lst (pa_cons (pv 4) (pa_cons (pv 3) pa_nil)))))))), ?_⟩
    obtain ⟨a, r, p, ns, rs, rfl, hA, hR, hl, hl2, k⟩ := h
    show (tSeq _ _) _ [some (.ref a), some (.ref r), some (.int p), none, none, none, none] H
    walk_at "s"
    refine w_list (.inl hR) fun c hc => ?_
    walk_at "s"
    have w1 := (W.start (H := H)).new (o := .lst (rs.map V.int)) hc
    refine w_sqL (w1.fr.seq hA) ?_
    refine w_forL (xs := ns.map V.int) (fun i σ H' => ∃ (c : Addr) (v1 v2 : Option V), σ = [some (.ref a), some (.ref r), some (.int p), some (.ref c), some (.int (ow p (ns.take i) (0, rs)).1), v1, v2] ∧ W H [(c, .lst ((ow p (ns.take i) (0, rs)).2.map V.int))] H') ⟨c, _, _, rfl, w1⟩ (fun i σ H' _ q => by obtain ⟨_, _, _, _, w⟩ := q; exact w.fr.seq hA) ?_ ?_
    · rintro i y σ H1 hy ⟨c, v1, v2, rfl, w⟩
      obtain ⟨hi, rfl⟩ := getD_map hy
      have hlen : (ow p (ns.take i) (0, rs)).2.length = rs.length := ow_len
      walk_at "s"
      refine w_sumL (SqL.of (w.get 0 rfl)) ?_
      walk_at "s"
      refine w_app (w.get 0 rfl) (by rw [List.length_map, hlen]; exact small1000' (by omega)) ?_
      have w2 := w.upd (o' := .lst ((ow p (ns.take i) (0, rs)).2.map V.int ++ [V.int (min (ns.getD i 0) (p - (ow p (ns.take i) (0, rs)).2.sum))])) 0 rfl
      walk_at "s"
      refine w_slL (SqL.of (w2.get 0 rfl)) fun q hq => ?_
      rw [cut1]
      have w3 := ((w2.new (o := .lst (((ow p (ns.take i) (0, rs)).2.map V.int ++ [V.int (min (ns.getD i 0) (p - (ow p (ns.take i) (0, rs)).2.sum))]).drop 1)) hq).perm (List.Perm.swap _ _ _)).drop
      rw [ow_take hi]
      refine ⟨q, _, _, rfl, ?_⟩
      · skip
        have e : (((ow p (ns.take i) (0, rs)).2.map V.int ++ [V.int (min (ns.getD i 0) (p - (ow p (ns.take i) (0, rs)).2.sum))]).drop 1) = (stl p (ns.getD i 0) (ow p (ns.take i) (0, rs))).2.map V.int := by
          unfold stl
          simp
        rw [← e]
        exact w3
    · rintro σ H1 ⟨c, v1, v2, rfl, w⟩
      rw [List.length_map, List.take_length] at w ⊢
      walk_at "s"
      intro l hl
      have w2 := w.new (o := .lst [.int (ow p ns (0, rs)).1, .ref c]) hl
      exact k l c _ w2.fr (w2.offI 0 rfl) (w2.offI 1 rfl) (w2.get 0 rfl) (w2.get 1 rfl)
end
end Nk
namespace Nk
open PySem L2
open Mp
local macro_rules | `(tactic| walk_at "s") => `(tactic| try simp (decide := true) only [L2.cxK, L2.s_seq, L2.s_next, L2.s_brk, L2.s_cont, L2.s_drop, L2.s_ret, L2.s_retN, L2.s_ifS, L2.s_br1, L2.s_br0, L2.s_asg, L2.s_asI, L2.s_asB, L2.s_asN, L2.s_asS, L2.s_asR, L2.s_gName, L2.s_gSub, L2.s_var, L2.s_C, L2.s_op, L2.s_un, L2.s_chain, L2.s_test, L2.s_B, L2.s_and, L2.s_aB1, L2.s_aB0, L2.s_or, L2.s_oB1, L2.s_oB0, L2.s_not, L2.s_andV, L2.s_aE1, L2.s_aE0, L2.s_orV, L2.s_oE1, L2.s_oE0, L2.s_notV, L2.s_nE, L2.s_if, L2.s_iE1, L2.s_iE0, L2.s_tr, L2.s_trB, L2.s_trI, L2.s_trN, L2.s_nil, L2.s_cons, L2.s_CB, L2.s_call, L2.s_callS, L2.s_sl, L2.s_part, L2.s_noPart, L2.s_lst, L2.s_mk, L2.s_xf, L2.s_for, L2.s_lc, L2.s_rng1, L2.s_rng2, L2.s_rng3, L2.s_enum, L2.s_zip, L2.s_zip3, L2.s_yes, L2.s_lstRg, L2.s_lcC1, L2.s_lcC0, L2.s_mkK, L2.s_meth, L2.s_prop, L2.s_fld, L2.s_stF, L2.s_cv, L2.s_enumA, L2.s_enumO, L2.s_own, L2.s_aug, L2.v_aug, L2.s_augS, L2.s_seqI, L2.s_tup, L2.s_BM, L2.s_BM0, L2.v_addI, L2.v_subI, L2.v_mulI, L2.v_divI, L2.v_modI, L2.v_powI, L2.v_negI, L2.v_cmp, L2.v_eqI, L2.v_eqS, L2.v_neS, L2.v_neI, L2.v_isN, L2.v_isB, L2.v_isnotN, L2.v_isnotB, L2.v_int, L2.v_abs, L2.v_max2, L2.v_min2, L2.le_line, List.set_cons_succ, List.set_cons_zero, List.getElem?_cons_succ, List.getElem?_cons_zero, Option.some.injEq, exists_eq_left', V.bl.injEq, V.int.injEq, true_and, and_true, Bool.not_true, Bool.not_false, if_true, if_false, Bool.false_eq_true, List.append_nil, reduceCtorEq, decide_true, decide_false, ne_eq, not_false_eq_true, Int.reduceToNat, Int.reducePow, Int.reduceMul, Int.reduceAdd, Int.reduceSub, Int.reduceNeg, Nat.reduceAdd, List.length_cons, List.length_nil, List.nil_append, List.cons_append])

abbrev dI (r : List Int) : PyData := .list (r.map PyData.int)
theorem dIs_lay : ∀ zs : List (List Int), PyData.canLayAll0 (zs.map dI) = true
  | [] => by simp [PyData.canLayAll0]
  | z :: zs => by
    have h : (dI z).canLay0 = true := by
      have := PySem.W.ke_shaped_ints z
      have h2 : ((dI z).canLay0 && decide ((dI z).depth ≤ 64)) = true := this
      exact (Bool.and_eq_true _ _ ▸ h2).1
    simp [PyData.canLayAll0, h, dIs_lay zs]
theorem ints_depth : ∀ z : List Int, PyData.depthAll (z.map PyData.int) ≤ 1
  | [] => by simp [PyData.depthAll]
  | z :: zs => by
    have := ints_depth zs
    simp only [List.map_cons, PyData.depthAll, PyData.depth]
    omega
theorem dIs_depth : ∀ zs : List (List Int), PyData.depthAll (zs.map dI) ≤ 3
  | [] => by simp [PyData.depthAll]
  | z :: zs => by
    have h1 := dIs_depth zs
    have h2 := ints_depth z
    simp only [List.map_cons, PyData.depthAll, PyData.depth]
    omega
theorem dIs_shaped (zs : List (List Int)) : SeqAt.shaped (.list (zs.map dI)) = true := by
  have h1 := dIs_depth zs
  have h2 : PyData.depth (.list (zs.map dI)) ≤ 64 := by
    simp only [PyData.depth]
    omega
  show (PyData.canLay0 (.list (zs.map dI)) && decide (PyData.depth (.list (zs.map dI)) ≤ 64)) = true
  rw [Bool.and_eq_true]
  exact ⟨by simp only [PyData.canLay0]; exact dIs_lay zs, decide_eq_true h2⟩
theorem any_dI {r : List Int} : ∀ {zs : List (List Int)}, ((zs.map dI).any fun z => PyData.eqv z (dI r)) = decide (r ∈ zs)
  | [] => by simp
  | z :: zs => by
    rw [List.map_cons, List.any_cons, any_dI, eqv_ints]
    by_cases h : z = r
    · subst h; simp
    · have h' : ¬ r = z := fun e => h e.symm
      simp [h, h']
def rem2 (H : Hp) (a b : Addr) : Hp := rem (rem H a) b
theorem rem2_updA {H : Hp} {a b : Addr} {o : HO} : rem2 (upd H a o) a b = rem2 H a b := by unfold rem2; rw [rem_upd]
theorem rem_comm {H : Hp} {a b : Addr} : rem (rem H a) b = rem (rem H b) a := by
  funext c
  by_cases h1 : c = a
  · subst h1
    by_cases h2 : c = b
    · subst h2; rfl
    · rw [rem_ne h2, rem_same, rem_same]
  · by_cases h2 : c = b
    · subst h2; rw [rem_same, rem_ne h1, rem_same]
    · rw [rem_ne h2, rem_ne h1, rem_ne h1, rem_ne h2]
theorem rem2_updB {H : Hp} {a b : Addr} {o : HO} : rem2 (upd H b o) a b = rem2 H a b := by
  unfold rem2; rw [rem_comm, rem_upd, rem_comm]
theorem same2 {H H' : Hp} {a b : Addr} (s : Same H H') : Same (rem2 H a b) (rem2 H' a b) := sameRem (sameRem s)
theorem rem2S {H : Hp} {a b : Addr} : Same (rem2 H a b) H := Same.rem.trans Same.rem
theorem rem2_ne {H : Hp} {a b c : Addr} (h1 : c ≠ a) (h2 : c ≠ b) : rem2 H a b c = H c := by unfold rem2; rw [rem_ne h2, rem_ne h1]
def spRounds (K : PySem.W.Frag) : Sp := fun vs H Q _ => ∃ (a : Addr) (p : Int) (g m : Nat) (ns : List Int), vs = [.ref a, .int (g : Nat), .int p] ∧ SqL K H a (ns.map V.int) ∧ g ≤ 4 ∧ ns.length ≤ 14 ∧ (∀ c ∈ ns, 0 ≤ c ∧ c ≤ (m : Int)) ∧ 0 ≤ p ∧ (m + 1) ^ g ≤ 699 ∧
  ∀ (r S : Addr) (i t : Nat) (H' : Hp), Same H H' → i < t → t ≤ 1000 → (ls g p ns i).2 = (ls g p ns t).2 → H' r = some (.lst [.int (i : Nat), .ref S]) → SqL K H' S ((vecL t (ans g p ns)).map V.int) → Q (.ref r) H'
def spKept (K : PySem.W.Frag) : Sp := fun vs H Q _ => ∃ (r S : Addr) (p : Int) (g i t n : Nat) (ns : List Int), vs = [.ref r, .int (n : Nat)] ∧ H r = some (.lst [.int (i : Nat), .ref S]) ∧ SqL K H S ((vecL t (ans g p ns)).map V.int) ∧ i < t ∧ t ≤ 1000 ∧ n ≤ 4000000000000000000 ∧ (ls g p ns i).2 = (ls g p ns t).2 ∧
  Q (.int (ans g p ns n)) H
theorem vecL_last {t : Nat} {v : Nat → Int} : atI ((vecL t v).map V.int) (-1) = some (.int (v t)) := by
  unfold atI ixN
  rw [vecL_len, if_neg (by decide), if_pos (by omega)]
  have : ((-1 : Int) + ((t + 1 : Nat) : Int)).toNat = t := by omega
  rw [this]
  simp [vecL]
section
variable {P : Program} {w : World} {K : PySem.W.Frag} {mg : Str → Option Value} {base : Heap}
abbrev s__law_kept : Stmt := topS 29
theorem sc__law_kept : FnScope (["rounds", "weeks", "first", "sums", "long", "whole", "behind"] : List Str) (["rounds", "weeks"] : List Str) (defScope s__law_kept) := ⟨rfl, rfl, rfl, by decide +kernel, rfl, by decide +kernel, by decide +kernel⟩
theorem ok__law_kept {f : Addr} {fd : FuncData} (F : Fun K "_law_kept" "_law_kept" s__law_kept f fd) (B : Blt mg) : FnOk P w K mg base (L2.CX P w) 1 f fd (["rounds", "weeks"] : List Str) (spKept K) := by
  refine F.okX sc__law_kept (fun vs H Q E h => ?_) (fun cdv A outer s H vs Q E hr h => ?_)
  · obtain ⟨r, S, p, g, i, t, n, ns, rfl, _⟩ := h; rfl
  · have nd := sc__law_kept.nd
    have hu := hr.units
    refine ⟨_, by exact (pss_cons (ps_st 2 nd (pe_ix oa_ix (pv 0) pe_int (fun _ _ => rfl)))
        (pss_cons (ps_st 3 nd (pe_ix oa_ix (pv 0) pe_int (fun _ _ => rfl)))
        (pss_cons (ps_if (pt_cmpR oa_lt (pv 1) (pe_callB ca_len (by rfl) B.len bt_len (pa_cons (pv 3) pa_nil)) (nomark _))
        (pss_one (ps_ret (pe_ix oa_ix (pv 3) (pv 1) (fun _ _ => rfl))))
        pss_nil)
        (pss_cons (ps_st 4 nd (pe_op oa_sub (pe_op oa_sub (pe_callB ca_len (by rfl) B.len bt_len (pa_cons (pv 3) pa_nil)) pe_int) (pv 2)))
        (pss_cons (ps_st 5 nd (pe_op oa_sub (pe_ix oa_ix (pv 3) (pe_un oa_neg pe_int) (fun _ _ => rfl)) (pe_ix oa_ix (pv 3) (pv 2) (fun _ _ => rfl))))
        (pss_cons (ps_st 6 nd (pe_op oa_sub (pv 1) (pv 2)))
        (pss_one (ps_ret (pe_op oa_add (pe_ix oa_ix (pv 3) (pe_op oa_add (pv 2) (pe_op oa_mod (pe_callTy ca_int (by rfl) B.int bt_int (pa_cons (pv 6) pa_nil)) (pv 4))) (fun _ _ => rfl)) (pe_op oa_mul (pe_op oa_div (pv 6) (pv 4)) (pv 5))))))))))), ?_⟩
    obtain ⟨r, S, p, g, i, t, n, ns, rfl, hr1, hS, hit, ht, hn, hR, k⟩ := h
    have hr2 : SqL K H r [.int (i : Nat), .ref S] := SqL.of hr1
    show (tSeq _ _) _ [some (.ref r), some (.int (n : Nat)), none, none, none, none, none] H
    walk_at "s"
    refine w_ixL hr2 (w := .int (i : Nat)) rfl ?_
    walk_at "s"
    refine w_ixL hr2 (w := .ref S) rfl ?_
    walk_at "s"
    refine w_lenL hS ?_
    rw [vecL_len]
    walk_at "s"
    refine w_br (fun c => ?_) (fun c => ?_)
    · walk_at "s"
      refine w_ixL hS (vecL_at (by omega)) ?_
      exact k
    · walk_at "s"
      refine w_lenL hS ?_
      rw [vecL_len]
      walk_at "s"
      refine w_ixL hS vecL_last ?_
      walk_at "s"
      refine w_ixL hS (vecL_at (by omega)) ?_
      walk_at "s"
      rw [show ((t + 1 : Nat) : Int) - 1 - (i : Int) = ((t - i : Nat) : Int) by omega, show (n : Int) - (i : Int) = ((n - i : Nat) : Int) by omega]
      rw [v_modI (by omega)]
      walk_at "s"
      rw [show (i : Int) + ((n - i : Nat) : Int) % ((t - i : Nat) : Int) = ((i + (n - i) % (t - i) : Nat) : Int) by rw [Int.natCast_add, Int.natCast_emod]]
      have hlt : (n - i) % (t - i) < t - i := Nat.mod_lt _ (by omega)
      refine w_ixL hS (vecL_at (by omega)) ?_
      walk_at "s"
      rw [v_divI (by omega) (log2_lt (n := 20) (by omega) (by omega) (by decide) (by decide))]
      walk_at "s"
      have hd : (n - i) / (t - i) ≤ n - i := Nat.div_le_self _ _
      rw [show ((n - i : Nat) : Int) / ((t - i : Nat) : Int) = (((n - i) / (t - i) : Nat) : Int) by rw [Int.natCast_ediv]]
      have hq : ∀ q : Nat, q ≤ n - i → (-18446744073709551616 < (q : Int) ∧ (q : Int) < 18446744073709551616) := fun q h => by omega
      refine ⟨mulokL (hq _ hd), ?_⟩
      walk_at "s"
      rw [← kept_eq hit hR (by omega)]
      exact k
end
end Nk
namespace Nk
open PySem L2
open Mp
local macro_rules | `(tactic| walk_at "s") => `(tactic| try simp (decide := true) only [L2.cxK, L2.s_seq, L2.s_next, L2.s_brk, L2.s_cont, L2.s_drop, L2.s_ret, L2.s_retN, L2.s_ifS, L2.s_br1, L2.s_br0, L2.s_asg, L2.s_asI, L2.s_asB, L2.s_asN, L2.s_asS, L2.s_asR, L2.s_gName, L2.s_gSub, L2.s_var, L2.s_C, L2.s_op, L2.s_un, L2.s_chain, L2.s_test, L2.s_B, L2.s_and, L2.s_aB1, L2.s_aB0, L2.s_or, L2.s_oB1, L2.s_oB0, L2.s_not, L2.s_andV, L2.s_aE1, L2.s_aE0, L2.s_orV, L2.s_oE1, L2.s_oE0, L2.s_notV, L2.s_nE, L2.s_if, L2.s_iE1, L2.s_iE0, L2.s_tr, L2.s_trB, L2.s_trI, L2.s_trN, L2.s_nil, L2.s_cons, L2.s_CB, L2.s_call, L2.s_callS, L2.s_sl, L2.s_part, L2.s_noPart, L2.s_lst, L2.s_mk, L2.s_xf, L2.s_for, L2.s_lc, L2.s_rng1, L2.s_rng2, L2.s_rng3, L2.s_enum, L2.s_zip, L2.s_zip3, L2.s_yes, L2.s_lstRg, L2.s_lcC1, L2.s_lcC0, L2.s_mkK, L2.s_meth, L2.s_prop, L2.s_fld, L2.s_stF, L2.s_cv, L2.s_enumA, L2.s_enumO, L2.s_own, L2.s_aug, L2.v_aug, L2.s_augS, L2.s_seqI, L2.s_tup, L2.s_BM, L2.s_BM0, L2.v_addI, L2.v_subI, L2.v_mulI, L2.v_divI, L2.v_modI, L2.v_powI, L2.v_negI, L2.v_cmp, L2.v_eqI, L2.v_eqS, L2.v_neS, L2.v_neI, L2.v_isN, L2.v_isB, L2.v_isnotN, L2.v_isnotB, L2.v_int, L2.v_abs, L2.v_max2, L2.v_min2, L2.le_line, List.set_cons_succ, List.set_cons_zero, List.getElem?_cons_succ, List.getElem?_cons_zero, Option.some.injEq, exists_eq_left', V.bl.injEq, V.int.injEq, true_and, and_true, Bool.not_true, Bool.not_false, if_true, if_false, Bool.false_eq_true, List.append_nil, reduceCtorEq, decide_true, decide_false, ne_eq, not_false_eq_true, Int.reduceToNat, Int.reducePow, Int.reduceMul, Int.reduceAdd, Int.reduceSub, Int.reduceNeg, Nat.reduceAdd, List.length_cons, List.length_nil, List.nil_append, List.cons_append])

theorem u65 {k : Nat} {A : Around} (r : Room k A) : A.units + 65 < cLine := by have := r.un; omega
theorem vecL_succ {t : Nat} {v : Nat → Int} : (vecL (t + 1) v).map V.int = (vecL t v).map V.int ++ [V.int (v (t + 1))] := by
  unfold vecL
  rw [List.range_succ]
  simp
section
variable {P : Program} {w : World} {K : PySem.W.Frag} {mg : Str → Option Value} {base : Heap}
abbrev s__law_rounds : Stmt := topS 28
theorem sc__law_rounds : FnScope (["run", "gap", "people", "recent", "seen", "sums", "turn", "told"] : List Str) (["run", "gap", "people"] : List Str) (defScope s__law_rounds) := ⟨rfl, rfl, rfl, by decide +kernel, rfl, by decide +kernel, by decide +kernel⟩
theorem ok__law_rounds {f : Addr} {fd : FuncData} (F : Fun K "_law_rounds" "_law_rounds" s__law_rounds f fd) (B : Blt mg) (C__law_one_week : FnAt P w K mg base 1 "_law_one_week" ["run", "recent", "people"] (spOW K)) : FnOk P w K mg base (L2.CX P w) 2 f fd (["run", "gap", "people"] : List Str) (spRounds K) := by
  refine F.okX sc__law_rounds (fun vs H Q E h => ?_) (fun cdv A outer s H vs Q E hr h => ?_)
  · obtain ⟨a, p, g, m, ns, rfl, _⟩ := h; rfl
  · have nd := sc__law_rounds.nd
    have hu := hr.units
    refine ⟨_, by exact (pss_cons (ps_st 3 nd (pe_op oa_mul (pe_lst (pa_cons pe_int pa_nil)) (pv 1)))
        (pss_cons (ps_st 4 nd (pe_lst pa_nil))
        (pss_cons (ps_st 5 nd (pe_lst (pa_cons pe_int pa_nil)))
        (pss_cons (ps_for (passes_of rfl) rfl (pi_range1 rfl B.range (pa_cons pe_int pa_nil)) (pg_n 6 nd)
        (pss_cons (ps_if (pt_cmpR (op_inD (u65 hr)) (pv 3) (pv 4) rfl)
        (pss_one (ps_ret (pe_lst (pa_cons (pe_bm PySem.F.plainAttrs_list PySem.F.slot_list_index PySem.F.type_list_index (mt_indexD (u65 hr)) (pv 4) (pa_cons (pv 3) pa_nil)) (pa_cons (pv 5) pa_nil)))))
        pss_nil)
        (pss_cons (ps_expr (pe_bm PySem.F.plainAttrs_list PySem.F.slot_list_append PySem.F.type_list_append mt_append (pv 4) (pa_cons (pv 3) pa_nil)))
        (pss_cons (ps_st 7 nd (pe_fn C__law_one_week (hr.mono (by first | decide | omega)) passL (pa_cons (pv 0) (pa_cons (pv 3) (pa_cons (pv 2) pa_nil)))))
        (pss_cons (ps_expr (pe_bm PySem.F.plainAttrs_list PySem.F.slot_list_append PySem.F.type_list_append mt_append (pv 5) (pa_cons (pe_op oa_add (pe_ix oa_ix (pv 5) (pv 6) (fun _ _ => rfl)) (pe_ix oa_ix (pv 7) pe_int (fun _ _ => rfl))) pa_nil)))
        (pss_one (ps_st 3 nd (pe_ix oa_ix (pv 7) pe_int (fun _ _ => rfl)))))))))
        (pss_one (ps_ret (pe_lst (pa_cons pe_int (pa_cons (pv 5) pa_nil))))))))), ?_⟩
    obtain ⟨a, p, g, m, ns, rfl, hA, hg, hl, hw, p0, hmg, k⟩ := h
    show (tSeq _ _) _ [some (.ref a), some (.int (g : Nat)), some (.int p), none, none, none, none, none] H
    walk_at "s"
    intro z hz
    have wz := (W.start (H := H)).new (o := .lst [.int 0]) hz
    refine w_rep1 upd_same (by omega) (by omega) fun rc hrc => ?_
    have e0 : List.replicate ((g : Nat) : Int).toNat (V.int 0) = (ls g p ns 0).2.map V.int := by
      show _ = (List.replicate g (0 : Int)).map V.int
      rw [Int.toNat_natCast, List.map_replicate]
    rw [e0]
    have w1 := ((wz.new (o := .lst ((ls g p ns 0).2.map V.int)) hrc).perm (List.Perm.swap _ _ _)).drop
    walk_at "s"
    intro sn hsn
    have w2 := w1.new (o := .lst []) hsn
    walk_at "s"
    intro sm hsm
    have w3 := w2.new (o := .lst [.int 0]) hsm
    have ne : sn ≠ sm := ne_of_none (w2.get 0 rfl) hsm
    have ne1 : rc ≠ sn := ne_of_none (w1.get 0 rfl) hsn
    have ne2 : rc ≠ sm := ne_of_none (w2.get 1 rfl) hsm
    have sR : Same H (rem2 _ sn sm) := fun b o e => by
      have h1 : b ≠ sn := fun z => by have := w3.offI 1 rfl; rw [← z, e] at this; cases this
      have h2 : b ≠ sm := fun z => by have := w3.offI 0 rfl; rw [← z, e] at this; cases this
      rw [rem2_ne h1 h2]
      exact w3.fr _ _ e
    have hI := ls_inv (g := g) p0 (show (0 : Int) ≤ (m : Int) by omega) hw
    walk_at "s"
    refine w_rg1 (by omega) (by omega) ?_
    refine w_forR (fun i σ H' => ∃ (rc : Addr) (v1 v2 : Option V) (bs : List Addr), σ = [some (.ref a), some (.int (g : Nat)), some (.int p), some (.ref rc), some (.ref sn), some (.ref sm), v1, v2] ∧ Same H (rem2 H' sn sm) ∧ H' sn = some (.lst (bs.map V.ref)) ∧ H' sm = some (.lst ((vecL i (ans g p ns)).map V.int)) ∧ SqL K (rem2 H' sn sm) rc ((ls g p ns i).2.map V.int) ∧ bs.length = i ∧
        (∀ (j : Nat) (b : Addr), bs[j]? = some b → SqL K (rem2 H' sn sm) b ((ls g p ns j).2.map V.int)) ∧ ∀ j j', j < j' → j' < i → (ls g p ns j).2 ≠ (ls g p ns j').2)
      ⟨rc, _, _, [], rfl, sR, w3.get 1 rfl, w3.get 0 rfl, SqL.of (by rw [rem2_ne ne1 ne2]; exact w3.get 2 rfl), rfl, fun j b e => by simp at e, fun j j' _ h => absurd h (by omega)⟩ ?_ ?_
    · rintro i σ H1 hi ⟨rc, v1, v2, bs, rfl, s1, e1, e2, hrc, hbl, hbs, hdis⟩
      rw [Int.zero_add]
      have dS1 : Dp K H1 (.ref sn) (.list (((List.range i).map fun j => (ls g p ns j).2).map dI)) := .lst (SqL.of e1) (dpAll_of dI (by simp [hbl]) fun j b r h1 h2 => by
        have hj : j < i := by have := (List.getElem?_eq_some_iff.mp h1).1; omega
        have : r = (ls g p ns j).2 := by
          rw [List.getElem?_map, List.getElem?_range hj] at h2
          exact (Option.some.inj h2).symm
        rw [this]
        exact Dp.intL (rem2S.seq (hbs j b h1)))
      have dR : Dp K H1 (.ref rc) (dI (ls g p ns i).2) := Dp.intL (rem2S.seq hrc)
      walk_at "s"
      refine ⟨dI (ls g p ns i).2, _, dR, dS1, PySem.W.ke_shaped_ints _, dIs_shaped _, ?_⟩
      rw [any_dI]
      walk_at "s"
      refine w_br (fun c => ?_) (fun c => ?_)
      · obtain ⟨j, hj, hji⟩ := List.mem_map.mp c
        have hj := List.mem_range.mp hj
        walk_at "s"
        refine ⟨.inl ⟨rfl, _, SqL.of e1⟩, sn, .ref rc, dI (ls g p ns i).2, _, j, dI (ls g p ns j).2, rfl, rfl, dS1, dR, dIs_shaped _, PySem.W.ke_shaped_ints _, by simp [hj], by rw [eqv_ints, hji]; simp, fun q z hq hz => ?_, ?_⟩
        · rw [List.getElem?_map, List.getElem?_map, List.getElem?_range (by omega)] at hz
          rw [← Option.some.inj hz, eqv_ints]
          refine decide_eq_false fun e => ?_
          exact hdis q j hq hj (e.trans hji.symm)
        · walk_at "s"
          intro l hl
          have wl := (W.start (H := H1)).new (o := .lst [.int (j : Nat), .ref sm]) hl
          exact k l sm j i _ ((s1.trans rem2S).trans wl.fr) hj (by omega) hji upd_same (wl.fr.seq (SqL.of e2))
      · walk_at "s"
        refine w_app e1 (by rw [List.length_map]; exact small1000' (by omega)) ?_
        walk_at "s"
        have r2 : rem2 (upd H1 sn (.lst (bs.map V.ref ++ [.ref rc]))) sn sm = rem2 H1 sn sm := rem2_updA
        refine ⟨a, rc, p, ns, _, rfl, (rem2S (a := sn) (b := sm)).seq (by rw [r2]; exact s1.seq hA), (rem2S (a := sn) (b := sm)).seq (by rw [r2]; exact hrc), by rw [(hI i).1]; omega, by omega, fun L C H2 s2 hL hC eL eC => ?_⟩
        have e1' : H2 sn = some (.lst (bs.map V.ref ++ [.ref rc])) := s2 _ _ upd_same
        have e2' : H2 sm = some (.lst ((vecL i (ans g p ns)).map V.int)) := s2 _ _ (by rw [upd_ne ne.symm]; exact e2)
        have s3 : Same (rem2 H1 sn sm) (rem2 H2 sn sm) := by rw [← r2]; exact same2 s2
        have nC1 : C ≠ sn := fun z => by rw [z, upd_same] at hC; cases hC
        have nC2 : C ≠ sm := fun z => by rw [z, upd_ne ne.symm, e2] at hC; cases hC
        walk_at "s"
        refine ⟨.inl ⟨rfl, _, SqL.of e2'⟩, ?_⟩
        refine w_ixL (SqL.of e2') (vecL_at (Nat.le_refl _)) ?_
        walk_at "s"
        refine w_ixL (SqL.of eL) (w := .int _) rfl ?_
        walk_at "s"
        rw [← (ls_succ i).2]
        refine ⟨sm, _, _, rfl, rfl, e2', by rw [vecL_len]; exact small1000' (by omega), ?_⟩
        walk_at "s"
        have nL : L ≠ sm := fun z => by rw [z, upd_ne ne.symm, e2] at hL; cases hL
        refine w_ixL (SqL.of (by rw [upd_ne nL]; exact eL)) (w := .ref C) rfl ?_
        walk_at "s"
        refine ⟨C, _, _, bs ++ [rc], rfl, by rw [rem2_updB]; exact s1.trans s3, by rw [upd_ne ne, List.map_append]; exact e1', by rw [upd_same, vecL_succ], ?_, by simp [hbl], fun j b hb => ?_, fun j j' h1 h2 => ?_⟩
        · rw [rem2_updB, (ls_succ i).1]
          exact SqL.of (by rw [rem2_ne nC1 nC2]; exact eC)
        · rw [rem2_updB]
          by_cases hj : j < bs.length
          · rw [List.getElem?_append_left hj] at hb
            exact s3.seq (hbs j b hb)
          · rw [List.getElem?_append_right (by omega)] at hb
            have hj' : j - bs.length = 0 := by
              have := (List.getElem?_eq_some_iff.mp hb).1
              simp at this; omega
            rw [hj'] at hb
            cases Option.some.inj hb
            have : j = i := by omega
            rw [this]
            exact s3.seq hrc
        · by_cases h3 : j' = i
          · subst h3
            exact fun e => c (List.mem_map.mpr ⟨j, List.mem_range.mpr h1, e⟩)
          · exact hdis j j' h1 (by omega)
    · rintro σ H1 ⟨rc, v1, v2, bs, rfl, s1, e1, e2, hrc, hbl, hbs, hdis⟩
      exfalso
      have := comes (g := g) (m := m) (p := p) (N := 700) (R := fun n => (ls g p ns n).2) hI (fun i j h1 h2 => hdis i j h1 h2)
      omega
end
end Nk
namespace Nk
open PySem L2
open Mp
local macro_rules | `(tactic| walk_at "s") => `(tactic| try simp (decide := true) only [L2.cxK, L2.s_seq, L2.s_next, L2.s_brk, L2.s_cont, L2.s_drop, L2.s_ret, L2.s_retN, L2.s_ifS, L2.s_br1, L2.s_br0, L2.s_asg, L2.s_asI, L2.s_asB, L2.s_asN, L2.s_asS, L2.s_asR, L2.s_gName, L2.s_gSub, L2.s_var, L2.s_C, L2.s_op, L2.s_un, L2.s_chain, L2.s_test, L2.s_B, L2.s_and, L2.s_aB1, L2.s_aB0, L2.s_or, L2.s_oB1, L2.s_oB0, L2.s_not, L2.s_andV, L2.s_aE1, L2.s_aE0, L2.s_orV, L2.s_oE1, L2.s_oE0, L2.s_notV, L2.s_nE, L2.s_if, L2.s_iE1, L2.s_iE0, L2.s_tr, L2.s_trB, L2.s_trI, L2.s_trN, L2.s_nil, L2.s_cons, L2.s_CB, L2.s_call, L2.s_callS, L2.s_sl, L2.s_part, L2.s_noPart, L2.s_lst, L2.s_mk, L2.s_xf, L2.s_for, L2.s_lc, L2.s_rng1, L2.s_rng2, L2.s_rng3, L2.s_enum, L2.s_zip, L2.s_zip3, L2.s_yes, L2.s_lstRg, L2.s_lcC1, L2.s_lcC0, L2.s_mkK, L2.s_meth, L2.s_prop, L2.s_fld, L2.s_stF, L2.s_cv, L2.s_enumA, L2.s_enumO, L2.s_own, L2.s_aug, L2.v_aug, L2.s_augS, L2.s_seqI, L2.s_tup, L2.s_BM, L2.s_BM0, L2.v_addI, L2.v_subI, L2.v_mulI, L2.v_divI, L2.v_modI, L2.v_powI, L2.v_negI, L2.v_cmp, L2.v_eqI, L2.v_eqS, L2.v_neS, L2.v_neI, L2.v_isN, L2.v_isB, L2.v_isnotN, L2.v_isnotB, L2.v_int, L2.v_abs, L2.v_max2, L2.v_min2, L2.le_line, List.set_cons_succ, List.set_cons_zero, List.getElem?_cons_succ, List.getElem?_cons_zero, Option.some.injEq, exists_eq_left', V.bl.injEq, V.int.injEq, true_and, and_true, Bool.not_true, Bool.not_false, if_true, if_false, Bool.false_eq_true, List.append_nil, reduceCtorEq, decide_true, decide_false, ne_eq, not_false_eq_true, Int.reduceToNat, Int.reducePow, Int.reduceMul, Int.reduceAdd, Int.reduceSub, Int.reduceNeg, Nat.reduceAdd, List.length_cons, List.length_nil, List.nil_append, List.cons_append])

def spLaw (K : PySem.W.Frag) : Sp := fun vs H Q _ => ∃ (s : Addr) (ns : List Int), vs = [.ref s] ∧ SqL K H s (ns.map V.int) ∧ ∀ H', Q (.bl true) H'
local macro_rules | `(tactic| walk_at "p") => `(tactic| (simp only [L2.wipe, List.map_cons, List.map_nil, List.set_cons_succ, List.set_cons_zero]; walk_at "s"))
theorem at_last {xs : List V} {v : V} : atI (xs ++ [v]) (-1) = some v := by
  unfold atI ixN
  rw [List.length_append, if_neg (by decide), if_pos (by simp; omega)]
  have : ((-1 : Int) + ((xs.length + [v].length : Nat) : Int)).toNat = xs.length := by simp; omega
  rw [this]
  simp
section
variable {P : Program} {w : World} {K : PySem.W.Frag} {mg : Str → Option Value} {base : Heap}
variable {cW cK : Addr}
abbrev s_law : Stmt := topS 30
theorem sc_law : FnScope (["script", "pool", "nights", "run", "gap", "people", "one", "two", "want", "week", "rounds", "asked", "told", "weeks", "more", "again"] : List Str) (["script"] : List Str) (defScope s_law) := ⟨rfl, rfl, rfl, by decide +kernel, rfl, by decide +kernel, by decide +kernel⟩
theorem ok_law {f : Addr} {fd : FuncData} (F : Fun K "law" "law" s_law f fd) (B : Blt mg) (C__law_pool : FnAt P w K mg base 1 "_law_pool" ["script", "at"] (spPool K)) (C__law_draw : FnAt P w K mg base 1 "_law_draw" ["pool", "many"] spDraw) (C__law_wants : FnAt P w K mg base 2 "_law_wants" ["pool", "nights", "most"] spWnt) (C__law_weeks : FnAt P w K mg base 2 "_law_weeks" ["pool"] spWks) (C__law_int : FnAt P w K mg base 1 "_law_int" ["x"] (spInt K)) (C__law_rounds : FnAt P w K mg base 2 "_law_rounds" ["run", "gap", "people"] (spRounds K)) (C__law_kept : FnAt P w K mg base 1 "_law_kept" ["rounds", "weeks"] (spKept K)) (C_kept_after : FnAt P w K mg base 4 "kept_after" ["week", "people", "weeks"] (spKA K cK cW)) (M_Wants : MkAt P w K mg base 1 "Wants" cW (mkWants K cW)) (M_Week : MkAt P w K mg base 3 "Week" cK (mkWeek K cK cW)) : FnOk P w K mg base (L2.CX P w) 6 f fd (["script"] : List Str) (spLaw K) := by
  refine F.okX sc_law (fun vs H Q E h => ?_) (fun cdv A outer s H vs Q E hr h => ?_)
  · obtain ⟨p, ns, rfl, _⟩ := h; rfl
  · have nd := sc_law.nd
    have hu := hr.units
    refine ⟨_, by exact (pss_cons (ps_st 1 nd (pe_fn C__law_pool (hr.mono (by first | decide | omega)) passL (pa_cons (pv 0) (pa_cons pe_int pa_nil))))
        (pss_cons (ps_st 2 nd (pe_op oa_add pe_int (pe_fn C__law_draw (hr.mono (by first | decide | omega)) passL (pa_cons (pv 1) (pa_cons pe_int pa_nil)))))
        (pss_cons (ps_ifJ (ps_if (pt_cmpR (oa_eq hu) (pe_fn C__law_draw (hr.mono (by first | decide | omega)) passL (pa_cons (pv 1) (pa_cons pe_int pa_nil))) pe_int (nomark _))
        (pss_one (ps_st 2 nd (pe_op oa_add pe_int (pe_fn C__law_draw (hr.mono (by first | decide | omega)) passL (pa_cons (pv 1) (pa_cons pe_int pa_nil))))))
        pss_nil))
        (pss_cons (ps_st 3 nd (pe_fn C__law_wants (hr.mono (by first | decide | omega)) passL (pa_cons (pv 1) (pa_cons (pv 2) (pa_cons pe_int pa_nil)))))
        (pss_cons (ps_st 4 nd (pe_fn C__law_draw (hr.mono (by first | decide | omega)) passL (pa_cons (pv 1) (pa_cons pe_int pa_nil))))
        (pss_cons (ps_st 5 nd (pe_fn C__law_draw (hr.mono (by first | decide | omega)) passL (pa_cons (pv 1) (pa_cons pe_int pa_nil))))
        (pss_cons (ps_ifJ (ps_if (pt_cmpR (oa_eq hu) (pe_fn C__law_draw (hr.mono (by first | decide | omega)) passL (pa_cons (pv 1) (pa_cons pe_int pa_nil))) pe_int (nomark _))
        (pss_one (ps_st 5 nd (pe_fn C__law_draw (hr.mono (by first | decide | omega)) passL (pa_cons (pv 1) (pa_cons (pe_op oa_add (pe_op oa_pow pe_int pe_int) pe_int) pa_nil)))))
        pss_nil))
        (pss_cons (ps_st 6 nd (pe_fn C__law_weeks (hr.mono (by first | decide | omega)) passL (pa_cons (pv 1) pa_nil)))
        (pss_cons (ps_st 7 nd (pe_fn C__law_weeks (hr.mono (by first | decide | omega)) passL (pa_cons (pv 1) pa_nil)))
        (pss_cons (ps_ifJ (ps_if (pt_cmpR (oa_eq hu) (pe_fn C__law_draw (hr.mono (by first | decide | omega)) passL (pa_cons (pv 1) (pa_cons pe_int pa_nil))) pe_int (nomark _))
        (pss_cons (ps_st 4 nd (pe_callB (ca_min rfl) (by rfl) B.min bt_min (pa_cons pe_int (pa_cons (pv 4) pa_nil))))
        (pss_one (ps_setLc (i := 3) (own := [("want", 8)]) (g := gName 8) (tt := tYes) rfl nd rfl rfl (sw_true rfl rfl rfl (by decide +kernel)) (pi_seq (pv 3)) (blkOk_by (N := (["script", "pool", "nights", "run", "gap", "people", "one", "two", "want", "week", "rounds", "asked", "told", "weeks", "more", "again"] : List Str)) (sc := defScope (topS 30)) (by decide +kernel)) (fun _ _ _ _ _ => (pg_n 8 nd)) (fun _ _ _ _ _ => pts_nil) (fun _ _ _ _ _ => (pe_callB (calK (K := K) (r := aMin) (ca_min rfl) rfl) (by rfl) B.min bt_min (pa_cons pe_int (pa_cons (pe_op (opK (K := K) (r := aAdd) oa_add rfl) (pe_op (opK (K := K) (r := aMul) oa_mul rfl) pe_int (pv 8)) (pe_fn C__law_draw (hr.mono (by first | decide | omega)) passL (pa_cons (pv 1) (pa_cons pe_int pa_nil)))) pa_nil)))))))
        pss_nil))
        (pss_cons (ps_st 9 nd (pe_mk M_Week (hr.mono (by first | decide | omega)) passL (pa_cons (pe_mk M_Wants (hr.mono (by first | decide | omega)) passL (pa_cons (pe_callTy ca_list (by rfl) B.list bt_list (pa_cons (pv 3) pa_nil)) pa_nil)) (pa_cons (pv 4) pa_nil))))
        (pss_cons (ps_st 10 nd (pe_fn C__law_rounds (hr.mono (by first | decide | omega)) passL (pa_cons (pv 3) (pa_cons (pv 4) (pa_cons (pv 5) pa_nil)))))
        (pss_cons (ps_st 11 nd (pe_lst (pa_cons (pv 6) (pa_cons (pv 7) (pa_cons pe_int pa_nil)))))
        (pss_cons (ps_ifJ (ps_if (pt_cmpR oa_le (pe_op oa_add (pv 6) (pv 7)) (pe_op oa_pow pe_int pe_int) (nomark _))
        (pss_one (ps_expr (pe_bm PySem.F.plainAttrs_list PySem.F.slot_list_append PySem.F.type_list_append mt_append (pv 11) (pa_cons (pe_op oa_add (pv 6) (pv 7)) pa_nil))))
        pss_nil))
        (pss_cons (ps_st 12 nd (pe_lst pa_nil))
        (pss_cons (ps_for (passes_of rfl) rfl (pi_seq (pv 11)) (pg_n 13 nd)
        (pss_cons (ps_expr (pe_bm PySem.F.plainAttrs_list PySem.F.slot_list_append PySem.F.type_list_append mt_append (pv 12) (pa_cons (pe_fn C_kept_after (hr.mono (by first | decide | omega)) passL (pa_cons (pv 9) (pa_cons (pv 5) (pa_cons (pv 13) pa_nil)))) pa_nil)))
        (pss_one (ps_if (PW.pt (pw_or (pt_not (pt_tr (pe_fn C__law_int (hr.mono (by first | decide | omega)) passL (pa_cons (pe_ix oa_ix (pv 12) (pe_un oa_neg pe_int) (fun _ _ => rfl)) pa_nil)))) (pw_or1 (pt_cmpR (oa_ne hu) (pe_ix oa_ix (pv 12) (pe_un oa_neg pe_int) (fun _ _ => rfl)) (pe_fn C__law_kept (hr.mono (by first | decide | omega)) passL (pa_cons (pv 10) (pa_cons (pv 13) pa_nil))) (nomark _)))))
        (pss_one (ps_ret pe_bl))
        pss_nil))))
        (pss_cons (ps_ifJ (ps_if (PW.pt (pw_and (pt_cmpR (oa_eq hu) (pe_callB ca_len (by rfl) B.len bt_len (pa_cons (pv 12) pa_nil)) pe_int (nomark _)) (pw_and1 (PW.pt (pw_or (pt_cmpR oa_gt (pe_ix oa_ix (pv 12) pe_int (fun _ _ => rfl)) (pe_op oa_add (pe_ix oa_ix (pv 12) pe_int (fun _ _ => rfl)) (pe_ix oa_ix (pv 12) pe_int (fun _ _ => rfl))) (nomark _)) (pw_or (pt_cmpR oa_lt (pe_ix oa_ix (pv 12) pe_int (fun _ _ => rfl)) (pe_ix oa_ix (pv 12) pe_int (fun _ _ => rfl)) (nomark _)) (pw_or1 (pt_cmpR oa_lt (pe_ix oa_ix (pv 12) pe_int (fun _ _ => rfl)) (pe_ix oa_ix (pv 12) pe_int (fun _ _ => rfl)) (nomark _)))))))))
        (pss_one (ps_ret pe_bl))
        pss_nil))
        (pss_cons (ps_ifJ (ps_if (pt_cmpR oa_lt (pv 5) (pe_op oa_pow pe_int pe_int) (nomark _))
        (pss_cons (ps_st 14 nd (pe_fn C_kept_after (hr.mono (by first | decide | omega)) passL (pa_cons (pv 9) (pa_cons (pe_op oa_add (pv 5) pe_int) (pa_cons (pv 6) pa_nil)))))
        (pss_one (ps_if (PW.pt (pw_or (pt_not (pt_tr (pe_fn C__law_int (hr.mono (by first | decide | omega)) passL (pa_cons (pv 14) pa_nil)))) (pw_or1 (pt_cmpR (oa_ne hu) (pv 14) (pe_fn C__law_kept (hr.mono (by first | decide | omega)) passL (pa_cons (pe_fn C__law_rounds (hr.mono (by first | decide | omega)) passL (pa_cons (pv 3) (pa_cons (pv 4) (pa_cons (pe_op oa_add (pv 5) pe_int) pa_nil)))) (pa_cons (pv 6) pa_nil))) (nomark _)))))
        (pss_one (ps_ret pe_bl))
        pss_nil)))
        pss_nil))
        (pss_cons (ps_st 15 nd (pe_fn C_kept_after (hr.mono (by first | decide | omega)) passL (pa_cons (pv 9) (pa_cons (pv 5) (pa_cons (pv 7) pa_nil)))))
        (pss_one (ps_ret (pe_and (pe_fn C__law_int (hr.mono (by first | decide | omega)) passL (pa_cons (pv 15) pa_nil)) (pe_one (pe_cmpR (oa_eq hu) (pv 15) (pe_ix oa_ix (pv 12) pe_int (fun _ _ => rfl)) (nomark _))))))))))))))))))))))))), ?_⟩
    obtain ⟨s', sc, rfl, hS, k⟩ := h
    show (tSeq _ _) _ [some (.ref s'), none, none, none, none, none, none, none, none, none, none, none, none, none, none, none] H
    walk_at "s"
    refine ⟨s', sc, 0, rfl, hS, fun p a b c hp hb => ?_⟩
    have w0 := (W.start (H := H)).new (o := poolO a b c) hp
    walk_at "s"
    refine w_draw w0 0 rfl hb (by omega) (by omega) fun d a b c H1 d0 d1 hb _ w1 => ?_
    walk_at "s"
    refine w_ifJ (fun σ H' => ∃ (n : Nat) (a b c : Int), σ = [some (.ref s'), some (.ref p), some (.int (n : Nat)), none, none, none, none, none, none, none, none, none, none, none, none, none] ∧ 1 ≤ n ∧ n ≤ 14 ∧ POk b ∧ W H [(p, poolO a b c)] H') ?_ (fun nx hnx => ?_)
    case refine_2 =>
      walk_at "s"
      refine w_draw w1 0 rfl hb (by omega) (by omega) fun e a b c H2 _ _ hb _ w2 => ?_
      walk_at "s"
      refine w_br (fun c1 => ?_) (fun c1 => ?_)
      · walk_at "s"
        refine w_draw w2 0 rfl hb (by omega) (by omega) fun e a b c H3 e0 e1 hb _ w3 => ?_
        walk_at "s"
        obtain ⟨n, hn⟩ := Int.eq_ofNat_of_zero_le (show 0 ≤ 7 + e by omega)
        rw [hn]
        exact hnx _ _ ⟨n, a, b, c, rfl, by omega, by omega, hb, w3⟩
      · walk_at "s"
        obtain ⟨n, hn⟩ := Int.eq_ofNat_of_zero_le (show 0 ≤ 1 + d by omega)
        rw [hn]
        exact hnx _ _ ⟨n, a, b, c, rfl, by omega, by omega, hb, w2⟩
    clear w0 w1 hb
    rintro σ H1 ⟨n, a, b, c, rfl, n0, n1, hb, w1⟩
    walk_at "s"
    refine ⟨p, n, 4, a, b, c, rfl, by omega, by omega, by omega, by omega, w1.get 0 rfl, hb, fun rA ns H2 hnl hns po hr hr2 => ?_⟩
    obtain ⟨bt, a, b, c, hp2, hb⟩ := po
    have w2 := (w1.mut 0 rfl bt hp2).add w1 hr hr2
    clear w1 bt hp2 hr hr2
    walk_at "s"
    refine w_draw w2 1 rfl hb (by omega) (by omega) fun gp a b c H3 g0 g1 hb _ w3 => ?_
    obtain ⟨g, rfl⟩ := Int.eq_ofNat_of_zero_le g0
    walk_at "s"
    refine w_draw w3 1 rfl hb (by omega) (by omega) fun pp a b c H4 p0 p1 hb _ w4 => ?_
    clear w2 w3
    walk_at "s"
    refine w_ifJ (fun σ H' => ∃ (pp a b c : Int), σ = [some (.ref s'), some (.ref p), some (.int (n : Nat)), some (.ref rA), some (.int (g : Nat)), some (.int pp), none, none, none, none, none, none, none, none, none, none] ∧ 0 ≤ pp ∧ pp ≤ 1000000 ∧ POk b ∧ W H [(rA, .lst (ns.map V.int)), (p, poolO a b c)] H') ?_ (fun nx hnx => ?_)
    case refine_2 =>
      walk_at "s"
      refine w_draw w4 1 rfl hb (by omega) (by omega) fun e a b c H5 _ _ hb _ w5 => ?_
      walk_at "s"
      refine w_br (fun c1 => ?_) (fun c1 => ?_)
      · walk_at "s"
        refine w_draw w5 1 rfl hb (by omega) (by omega) fun e a b c H6 e0 e1 hb _ w6 => ?_
        walk_at "s"
        exact hnx _ _ ⟨_, a, b, c, rfl, by omega, by omega, hb, w6⟩
      · walk_at "s"
        exact hnx _ _ ⟨_, a, b, c, rfl, by omega, by omega, hb, w5⟩
    clear w4 hb p0 p1
    rintro σ H5 ⟨pp, a, b, c, rfl, p0, p1, hb, w5⟩
    walk_at "s"
    refine ⟨p, a, b, c, rfl, w5.get 1 rfl, hb, fun one H6 h1 po => ?_⟩
    obtain ⟨bt, a, b, c, hp2, hb⟩ := po
    have w6 := w5.mut 1 rfl bt hp2
    clear w5 bt hp2
    walk_at "s"
    refine ⟨p, a, b, c, rfl, w6.get 1 rfl, hb, fun two H7 h2 po => ?_⟩
    obtain ⟨bt, a, b, c, hp2, hb⟩ := po
    have w7 := w6.mut 1 rfl bt hp2
    clear w6 bt hp2
    walk_at "s"
    refine w_ifJ (fun σ H' => ∃ (rA : Addr) (g m : Nat) (ns : List Int) (v8 : Option V), σ = [some (.ref s'), some (.ref p), some (.int (n : Nat)), some (.ref rA), some (.int (g : Nat)), some (.int pp), some (.int (one : Nat)), some (.int (two : Nat)), v8, none, none, none, none, none, none, none] ∧ 0 < ns.length ∧ ns.length ≤ 14 ∧ (∀ c ∈ ns, 0 ≤ c ∧ c ≤ (m : Int)) ∧ m ≤ 30 ∧ g ≤ 4 ∧ (m + 1) ^ g ≤ 699 ∧ SqL K H' rA (ns.map V.int)) ?_ (fun nx hnx => ?_)
    case refine_2 =>
      walk_at "s"
      refine w_draw w7 1 rfl hb (by omega) (by omega) fun e a b c H8 _ _ hb _ w8 => ?_
      walk_at "s"
      refine w_br (fun c1 => ?_) (fun c1 => ?_)
      · walk_at "s"
        obtain ⟨sF, w9⟩ := w8.frz
        have rE : (upd H rA (.lst (ns.map V.int))) rA = some (.lst (ns.map V.int)) := upd_same
        generalize upd H rA (.lst (ns.map V.int)) = F at rE w9
        clear sF
        refine w_sqL (w9.fr.seq (SqL.of rE)) ?_
        refine w_lcL (xs := ns.map V.int) (fun L i H' => ∃ (ms : List Int) (a b c : Int), W F [(L, .lst (ms.map V.int)), (p, poolO a b c)] H' ∧ POk b ∧ ms.length = i ∧ ∀ c ∈ ms, 0 ≤ c ∧ c ≤ 30) (fun L hL => ⟨[], a, b, c, w9.new hL, hb, rfl, (fun c hc => nomatch hc)⟩) (fun L i H' _ q => by obtain ⟨_, _, _, _, w, _⟩ := q; exact w.fr.seq (SqL.of rE)) ?_ ?_
        · rintro L i y H9 hy ⟨ms, a, b, c, w, hb, hl, hc⟩
          obtain ⟨hi, rfl⟩ := getD_map hy
          have hm : ns.getD i 0 ∈ ns := by rw [List.getD_eq_getElem?_getD, List.getElem?_eq_getElem hi]; exact List.getElem_mem hi
          obtain ⟨q0, q1⟩ := hns _ hm
          walk_at "s"
          refine ⟨rfl, ?_⟩
          walk_at "p"
          refine ⟨mulokL (by omega), ?_⟩
          walk_at "s"
          refine w_draw w 1 rfl hb (by omega) (by omega) fun x a b c H10 x0 x1 hb _ w10 => ?_
          walk_at "s"
          have w11 := w10.upd (o' := .lst ((ms ++ [min 30 (7 * ns.getD i 0 + x)]).map V.int)) 0 rfl
          exact ⟨_, w10.get 0 rfl, by rw [List.length_map]; exact small1000' (by omega), ms ++ [min 30 (7 * ns.getD i 0 + x)], a, b, c, by simpa using w11, hb, by simp; omega, mem_app1 hc ⟨by omega, by omega⟩⟩
        · rintro L H9 hL ⟨ms, a, b, c, w, hb, hl, hc⟩
          rw [List.length_map] at hl
          walk_at "s"
          obtain ⟨g2, hg2⟩ := Int.eq_ofNat_of_zero_le (show 0 ≤ min 1 (g : Int) by omega)
          rw [hg2]
          refine hnx _ _ ⟨L, g2, 30, ms, _, rfl, by omega, by omega, hc, by omega, by omega, ?_, SqL.of (w.get 0 rfl)⟩
          have : g2 = 0 ∨ g2 = 1 := by omega
          rcases this with rfl | rfl <;> decide
      · walk_at "s"
        refine hnx _ _ ⟨rA, g, 4, ns, _, rfl, by omega, by omega, hns, by omega, by omega, ?_, SqL.of (w8.get 0 rfl)⟩
        have : g = 0 ∨ g = 1 ∨ g = 2 ∨ g = 3 ∨ g = 4 := by omega
        rcases this with rfl | rfl | rfl | rfl | rfl <;> decide
    clear w7 hb
    rintro σ H9 ⟨rA, g, m, ns, v8, rfl, l0, l1, hc, hm, hg, hmg, hA⟩
    have hc30 : ∀ c ∈ ns, 0 ≤ c ∧ c ≤ 30 := fun c q => by have := hc c q; omega
    have m0 : (0 : Int) ≤ (m : Int) := by omega
    walk_at "s"
    refine w_list (.inl hA) fun l hl => ?_
    have sl : Same H9 (upd H9 l (.lst (ns.map V.int))) := (W.start.new hl).fr
    refine ⟨l, ns, rfl, .inl (SqL.of upd_same), ⟨by omega, hc30⟩, fun wx H10 s10 _ hW => ?_⟩
    refine ⟨wx, ns, g, rfl, hW, l0, l1, by omega, by omega, fun kx H11 s11 _ hK => ?_⟩
    have s1 := (sl.trans s10).trans s11
    clear hl hW
    walk_at "s"
    refine ⟨rA, pp, g, m, ns, rfl, s1.seq hA, hg, l1, hc, p0, hmg, fun r S i0 t H12 s12 hit ht hR er eS => ?_⟩
    have hA := (s1.trans s12).seq hA
    have hK := hK.mono s12
    clear sl s10 s11 s1 s12
    walk_at "s"
    intro q hq
    have wq := (W.start (H := H12)).new (o := .lst ([one, two, 0].map fun n : Nat => V.int (n : Nat))) hq
    refine w_ifJ (fun σ H' => ∃ (as : List Nat), σ = [some (.ref s'), some (.ref p), some (.int (n : Nat)), some (.ref rA), some (.int (g : Nat)), some (.int pp), some (.int (one : Nat)), some (.int (two : Nat)), v8, some (.ref kx), some (.ref r), some (.ref q), none, none, none, none] ∧ (as = [one, two, 0] ∨ as = [one, two, 0, one + two]) ∧ (∀ x ∈ as, x ≤ 1000000000000000000) ∧ W H12 [(q, .lst (as.map fun n : Nat => V.int (n : Nat)))] H') ?_ (fun nx hnx => ?_)
    case refine_2 =>
      walk_at "s"
      refine w_br (fun c1 => ?_) (fun c1 => ?_)
      · walk_at "s"
        refine w_app (wq.get 0 rfl) (by simp; exact small1000' (by omega)) ?_
        refine hnx _ _ ⟨[one, two, 0, one + two], rfl, .inr rfl, by simp; omega, ?_⟩
        have := wq.upd (o' := .lst ([one, two, 0, one + two].map fun n : Nat => V.int (n : Nat))) 0 rfl
        simpa using this
      · walk_at "s"
        exact hnx _ _ ⟨[one, two, 0], rfl, .inl rfl, by simp; omega, wq⟩
    clear wq hq
    rintro σ H13 ⟨as, rfl, has, hax, wq⟩
    have hA := wq.fr.seq hA
    have hK := hK.mono wq.fr
    have er := wq.fr _ _ er
    have eS := wq.fr.seq eS
    have eq := wq.get 0 rfl
    clear wq
    walk_at "s"
    intro tq htq
    have wt := (W.start (H := H13)).new (o := .lst (([] : List Nat).map fun n : Nat => V.int (ans g pp ns n))) htq
    refine w_sqL (wt.fr.seq (SqL.of eq)) ?_
    refine w_forL (xs := as.map fun n : Nat => V.int (n : Nat)) (fun i σ H' => ∃ v13, σ = [some (.ref s'), some (.ref p), some (.int (n : Nat)), some (.ref rA), some (.int (g : Nat)), some (.int pp), some (.int (one : Nat)), some (.int (two : Nat)), v8, some (.ref kx), some (.ref r), some (.ref q), some (.ref tq), v13, none, none] ∧ W H13 [(tq, .lst ((as.take i).map fun n : Nat => V.int (ans g pp ns n)))] H') ⟨_, rfl, wt⟩ (fun i σ H' _ q => by obtain ⟨_, _, w⟩ := q; exact w.fr.seq (SqL.of eq)) ?_ ?_
    · rintro i y σ H14 hy ⟨v13, rfl, w⟩
      obtain ⟨wk, hwk, rfl⟩ : ∃ x : Nat, as[i]? = some x ∧ y = .int (x : Nat) := by
        rw [List.getElem?_map] at hy
        cases h : as[i]? with
        | none => rw [h] at hy; cases hy
        | some x => rw [h] at hy; exact ⟨x, rfl, (Option.some.inj hy).symm⟩
      have hwx := hax wk (List.mem_of_getElem? hwk)
      walk_at "s"
      refine ⟨.inl ⟨rfl, _, SqL.of (w.get 0 rfl)⟩, ?_⟩
      refine ⟨kx, pp, ns, g, wk, rfl, hK.mono w.fr, hg, l1, hc30, p0, p1, hwx, fun H15 s15 => ?_⟩
      have w2 := w.grow s15
      refine ⟨tq, _, _, rfl, rfl, w2.get 0 rfl, by simp; exact small1000' (by rcases has with rfl | rfl <;> simp <;> omega), ?_⟩
      have w3 := w2.upd (o' := .lst ((as.take i).map (fun n : Nat => V.int (ans g pp ns n)) ++ [V.int (ans g pp ns wk)])) 0 rfl
      have et : (as.take i).map (fun n : Nat => V.int (ans g pp ns n)) ++ [V.int (ans g pp ns wk)] = (as.take (i + 1)).map fun n : Nat => V.int (ans g pp ns n) := by
        rw [List.take_succ, hwk, List.map_append]; rfl
      walk_at "s"
      refine w_ixL (SqL.of (w3.get 0 rfl)) at_last ?_
      walk_at "s"
      refine ⟨.int _, .int _, rfl, .int _, ?_⟩
      walk_at "s"
      refine w_ixL (SqL.of (w3.get 0 rfl)) at_last ?_
      walk_at "s"
      refine ⟨r, S, pp, g, i0, t, wk, ns, rfl, w3.fr _ _ er, w3.fr.seq eS, hit, ht, by omega, hR, ?_⟩
      walk_at "s"
      exact ⟨_, rfl, by rw [← et]; exact w3⟩
    · rintro σ H14 ⟨v13, rfl, w⟩
      rw [List.length_map, List.take_length] at w
      have hK := hK.mono w.fr
      have hA := w.fr.seq hA
      have hT := w.get 0 rfl
      clear w
      have t01 : (as.map fun n : Nat => V.int (ans g pp ns n))[1]? = some (.int (ans g pp ns two)) := by rcases has with rfl | rfl <;> rfl
      have sub := ans_sub (g := g) p0 m0 hc one two
      have mo1 := ans_mono (g := g) p0 m0 hc one two
      have mo2 := ans_mono (g := g) p0 m0 hc two one
      rw [Nat.add_comm two one] at mo2
      walk_at "s"
      refine w_ifJ (fun σ H' => σ = [some (.ref s'), some (.ref p), some (.int (n : Nat)), some (.ref rA), some (.int (g : Nat)), some (.int pp), some (.int (one : Nat)), some (.int (two : Nat)), v8, some (.ref kx), some (.ref r), some (.ref q), some (.ref tq), v13, none, none] ∧ H' = H14) ?_ (fun nx hnx => ?_)
      case refine_2 =>
        walk_at "s"
        refine w_lenL (SqL.of hT) ?_
        rw [List.length_map]
        walk_at "s"
        refine w_aB (fun c1 => ?_) (fun c1 => ?_)
        · rcases has with rfl | rfl
          · simp at c1
          · have hS4 : SqL K H14 tq [.int (ans g pp ns one), .int (ans g pp ns two), .int (ans g pp ns 0), .int (ans g pp ns (one + two))] := SqL.of hT
            walk_at "s"
            refine w_ixL hS4 (w := .int (ans g pp ns (one + two))) rfl ?_
            walk_at "s"
            refine w_ixL hS4 (w := .int (ans g pp ns one)) rfl ?_
            walk_at "s"
            refine w_ixL hS4 (w := .int (ans g pp ns two)) rfl ?_
            walk_at "s"
            refine w_oB (fun c2 => absurd c2 (by omega)) (fun c2 => ?_)
            walk_at "s"
            refine w_ixL hS4 (w := .int (ans g pp ns (one + two))) rfl ?_
            walk_at "s"
            refine w_ixL hS4 (w := .int (ans g pp ns one)) rfl ?_
            walk_at "s"
            refine w_oB (fun c2 => absurd c2 (by omega)) (fun c2 => ?_)
            walk_at "s"
            refine w_ixL hS4 (w := .int (ans g pp ns (one + two))) rfl ?_
            walk_at "s"
            refine w_ixL hS4 (w := .int (ans g pp ns two)) rfl ?_
            walk_at "s"
            refine w_br (fun c2 => absurd c2 (by omega)) (fun c2 => ?_)
            walk_at "s"
            exact hnx _ _ ⟨rfl, rfl⟩
        · walk_at "s"
          exact hnx _ _ ⟨rfl, rfl⟩
      rintro σ H15 ⟨rfl, rfl⟩
      walk_at "s"
      refine w_ifJ (fun σ H' => ∃ v14, σ = [some (.ref s'), some (.ref p), some (.int (n : Nat)), some (.ref rA), some (.int (g : Nat)), some (.int pp), some (.int (one : Nat)), some (.int (two : Nat)), v8, some (.ref kx), some (.ref r), some (.ref q), some (.ref tq), v13, v14, none] ∧ Same H15 H') ?_ (fun nx hnx => ?_)
      case refine_2 =>
        walk_at "s"
        refine w_br (fun c1 => ?_) (fun c1 => ?_)
        · walk_at "s"
          refine ⟨kx, pp + 1, ns, g, one, rfl, hK, hg, l1, hc30, by omega, by omega, h1, fun H16 s16 => ?_⟩
          walk_at "s"
          refine ⟨.int _, .int _, rfl, .int _, ?_⟩
          walk_at "s"
          refine ⟨rA, pp + 1, g, m, ns, rfl, s16.seq hA, hg, l1, hc, by omega, hmg, fun r2 S2 i2 t2 H17 s17 hit2 ht2 hR2 er2 eS2 => ?_⟩
          refine ⟨r2, S2, pp + 1, g, i2, t2, one, ns, rfl, er2, eS2, hit2, ht2, by omega, hR2, ?_⟩
          walk_at "s"
          exact hnx _ _ ⟨_, rfl, s16.trans s17⟩
        · walk_at "s"
          exact hnx _ _ ⟨_, rfl, Same.refl _⟩
      rintro σ H16 ⟨v14, rfl, s16⟩
      walk_at "s"
      refine ⟨kx, pp, ns, g, two, rfl, hK.mono s16, hg, l1, hc30, p0, p1, h2, fun H17 s17 => ?_⟩
      walk_at "s"
      refine ⟨.int _, .int _, rfl, .int _, ?_⟩
      walk_at "s"
      refine w_ixL ((s16.trans s17).seq (SqL.of hT)) (w := .int (ans g pp ns two)) (atI_nat (j := 1) t01) ?_
      walk_at "s"
      exact k _
end
end Nk
namespace Nk
open PySem PySem.Spec PyProof.Rows L2
open Mp
theorem all_mk {l : PySem.W.OpenLaw} {w : World} {K : PySem.W.Frag} {h : Heap} {mg : Str → Option Value} {fa : Addr} (hfile : ((l.prog.main.file : Str) == "/claim/cut.py") = true) (htop : (l.prog.main.scope.names.lookup ("super" : Str)).isSome = false) (X : K.In h) (G : h.Ns mainGlobals mg) (hfa : mg "law" = some (.ref fa))
    {cW : Addr}
    {kc_Wants_MOST : Tok}
    {kc_Wants_GREATEST : Tok}
    {f_Wants___init__ : Addr} {od_Wants___init__ an_Wants___init__ : Option Addr} {sl_Wants___init__ : Array (Option Value)} {oc_Wants___init__ kV_Wants___init__ dc_Wants___init__ pm_Wants___init__ cd_Wants___init__ ct_Wants___init__ : Value}
    {f_Wants___len__ : Addr} {od_Wants___len__ an_Wants___len__ : Option Addr} {sl_Wants___len__ : Array (Option Value)} {oc_Wants___len__ kV_Wants___len__ dc_Wants___len__ pm_Wants___len__ cd_Wants___len__ ct_Wants___len__ : Value}
    {f_Wants___iter__ : Addr} {od_Wants___iter__ an_Wants___iter__ : Option Addr} {sl_Wants___iter__ : Array (Option Value)} {oc_Wants___iter__ kV_Wants___iter__ dc_Wants___iter__ pm_Wants___iter__ cd_Wants___iter__ ct_Wants___iter__ : Value}
    {cK : Addr}
    {f_Week___init__ : Addr} {od_Week___init__ an_Week___init__ : Option Addr} {sl_Week___init__ : Array (Option Value)} {oc_Week___init__ kV_Week___init__ dc_Week___init__ pm_Week___init__ cd_Week___init__ ct_Week___init__ : Value}
    {k1 : Tok}
    {k2 : Tok}
    {k3 : Tok}
    {k4 : Tok}
    {k5 : Tok}
    {f_kept_after : Addr} {od_kept_after an_kept_after : Option Addr} {sl_kept_after : Array (Option Value)} {oc_kept_after kV_kept_after dc_kept_after pm_kept_after cd_kept_after ct_kept_after : Value}
    {f_week_table : Addr} {od_week_table an_week_table : Option Addr} {sl_week_table : Array (Option Value)} {oc_week_table kV_week_table dc_week_table pm_week_table cd_week_table ct_week_table : Value}
    {f_led_over : Addr} {od_led_over an_led_over : Option Addr} {sl_led_over : Array (Option Value)} {oc_led_over kV_led_over dc_led_over pm_led_over cd_led_over ct_led_over : Value}
    {f_joined_tables : Addr} {od_joined_tables an_joined_tables : Option Addr} {sl_joined_tables : Array (Option Value)} {oc_joined_tables kV_joined_tables dc_joined_tables pm_joined_tables cd_joined_tables ct_joined_tables : Value}
    {f__law_pool : Addr} {od__law_pool an__law_pool : Option Addr} {sl__law_pool : Array (Option Value)} {oc__law_pool kV__law_pool dc__law_pool pm__law_pool cd__law_pool ct__law_pool : Value}
    {f__law_draw : Addr} {od__law_draw an__law_draw : Option Addr} {sl__law_draw : Array (Option Value)} {oc__law_draw kV__law_draw dc__law_draw pm__law_draw cd__law_draw ct__law_draw : Value}
    {f__law_wants : Addr} {od__law_wants an__law_wants : Option Addr} {sl__law_wants : Array (Option Value)} {oc__law_wants kV__law_wants dc__law_wants pm__law_wants cd__law_wants ct__law_wants : Value}
    {f__law_int : Addr} {od__law_int an__law_int : Option Addr} {sl__law_int : Array (Option Value)} {oc__law_int kV__law_int dc__law_int pm__law_int cd__law_int ct__law_int : Value}
    {f__law_weeks : Addr} {od__law_weeks an__law_weeks : Option Addr} {sl__law_weeks : Array (Option Value)} {oc__law_weeks kV__law_weeks dc__law_weeks pm__law_weeks cd__law_weeks ct__law_weeks : Value}
    {f__law_one_week : Addr} {od__law_one_week an__law_one_week : Option Addr} {sl__law_one_week : Array (Option Value)} {oc__law_one_week kV__law_one_week dc__law_one_week pm__law_one_week cd__law_one_week ct__law_one_week : Value}
    {f__law_rounds : Addr} {od__law_rounds an__law_rounds : Option Addr} {sl__law_rounds : Array (Option Value)} {oc__law_rounds kV__law_rounds dc__law_rounds pm__law_rounds cd__law_rounds ct__law_rounds : Value}
    {f__law_kept : Addr} {od__law_kept an__law_kept : Option Addr} {sl__law_kept : Array (Option Value)} {oc__law_kept kV__law_kept dc__law_kept pm__law_kept cd__law_kept ct__law_kept : Value}
    {f_law : Addr} {od_law an_law : Option Addr} {sl_law : Array (Option Value)} {oc_law kV_law dc_law pm_law cd_law ct_law : Value}
    (z_len : PySem.W.nsIn K mainGlobals "len" = some none)
    (z_abs : PySem.W.nsIn K mainGlobals "abs" = some none)
    (z_max : PySem.W.nsIn K mainGlobals "max" = some none)
    (z_min : PySem.W.nsIn K mainGlobals "min" = some none)
    (z_sum : PySem.W.nsIn K mainGlobals "sum" = some none)
    (z_sorted : PySem.W.nsIn K mainGlobals "sorted" = some none)
    (z_isinstance : PySem.W.nsIn K mainGlobals "isinstance" = some none)
    (z_iter : PySem.W.nsIn K mainGlobals "iter" = some none)
    (z_ord : PySem.W.nsIn K mainGlobals "ord" = some none)
    (z_any : PySem.W.nsIn K mainGlobals "any" = some none)
    (z_all : PySem.W.nsIn K mainGlobals "all" = some none)
    (z_int : PySem.W.nsIn K mainGlobals "int" = some none)
    (z_bool : PySem.W.nsIn K mainGlobals "bool" = some none)
    (z_str : PySem.W.nsIn K mainGlobals "str" = some none)
    (z_list : PySem.W.nsIn K mainGlobals "list" = some none)
    (z_tuple : PySem.W.nsIn K mainGlobals "tuple" = some none)
    (z_dict : PySem.W.nsIn K mainGlobals "dict" = some none)
    (z_set : PySem.W.nsIn K mainGlobals "set" = some none)
    (z_range : PySem.W.nsIn K mainGlobals "range" = some none)
    (z_enumerate : PySem.W.nsIn K mainGlobals "enumerate" = some none)
    (z_zip : PySem.W.nsIn K mainGlobals "zip" = some none)
    (z_reversed : PySem.W.nsIn K mainGlobals "reversed" = some none)
    (z_super : PySem.W.nsIn K mainGlobals "super" = some none)
    (z_ValueError : PySem.W.nsIn K mainGlobals "ValueError" = some none)
    (e0_Wants : PySem.W.nsIn K mainGlobals "Wants" = some (some (.ref cW)))
    (e1_Wants : PySem.W.plainGet K cW Str.empty = true)
    (e2_Wants : PySem.W.hasDictIn K cW = true)
    (e3_Wants : PySem.W.plainOver K cW = true)
    (e4_Wants : PySem.W.findIn K (.ref cW) "__setattr__" = some (some (.builtin "object.__setattr__")))
    (n_Wants_numbers : PySem.W.findIn K (.ref cW) "numbers" = some none)
    (mm_Wants : PySem.W.makesIn K cW = true)
    (mp_Wants : PySem.W.keepIn K (.ref cW) = true)
    (r1_Wants : PySem.W.readsIn K cW (.type "type") = true)
    (r2_Wants : PySem.W.specialIn K (.ref cW) "__getattribute__" = some (some (.builtin "type.__getattribute__")))
    (v_Wants_MOST : PySem.W.findCls K (.ref cW) (.type "type") "MOST" = some (.val (.int 60 kc_Wants_MOST)))
    (v_Wants_GREATEST : PySem.W.findCls K (.ref cW) (.type "type") "GREATEST" = some (.val (.int 30 kc_Wants_GREATEST)))
    (a_Wants___init__ : PySem.W.findIn K (.ref cW) "__init__" = some (some (.ref f_Wants___init__)))
    (i_Wants___init__ : PySem.W.isFn K (.ref f_Wants___init__) = true)
    (l_Wants___init__ : K.lookup f_Wants___init__ = some ⟨oc_Wants___init__, od_Wants___init__, .func (PySem.W.fnOf "__init__" "Wants.__init__" (defArgs s_Wants___init__) (defBody s_Wants___init__) (defScope s_Wants___init__) .none kV_Wants___init__ dc_Wants___init__ pm_Wants___init__ an_Wants___init__ cd_Wants___init__ ct_Wants___init__), sl_Wants___init__⟩)
    (c_Wants___init__ : PySem.W.codeIn K cd_Wants___init__ "Wants.__init__" = true)
    (k_Wants___init__ : PySem.W.keepIn K (.ref f_Wants___init__) = true)
    (a_Wants___len__ : PySem.W.findIn K (.ref cW) "__len__" = some (some (.ref f_Wants___len__)))
    (i_Wants___len__ : PySem.W.isFn K (.ref f_Wants___len__) = true)
    (l_Wants___len__ : K.lookup f_Wants___len__ = some ⟨oc_Wants___len__, od_Wants___len__, .func (PySem.W.fnOf "__len__" "Wants.__len__" (defArgs s_Wants___len__) (defBody s_Wants___len__) (defScope s_Wants___len__) .none kV_Wants___len__ dc_Wants___len__ pm_Wants___len__ an_Wants___len__ cd_Wants___len__ ct_Wants___len__), sl_Wants___len__⟩)
    (c_Wants___len__ : PySem.W.codeIn K cd_Wants___len__ "Wants.__len__" = true)
    (k_Wants___len__ : PySem.W.keepIn K (.ref f_Wants___len__) = true)
    (a_Wants___iter__ : PySem.W.findIn K (.ref cW) "__iter__" = some (some (.ref f_Wants___iter__)))
    (i_Wants___iter__ : PySem.W.isFn K (.ref f_Wants___iter__) = true)
    (l_Wants___iter__ : K.lookup f_Wants___iter__ = some ⟨oc_Wants___iter__, od_Wants___iter__, .func (PySem.W.fnOf "__iter__" "Wants.__iter__" (defArgs s_Wants___iter__) (defBody s_Wants___iter__) (defScope s_Wants___iter__) .none kV_Wants___iter__ dc_Wants___iter__ pm_Wants___iter__ an_Wants___iter__ cd_Wants___iter__ ct_Wants___iter__), sl_Wants___iter__⟩)
    (c_Wants___iter__ : PySem.W.codeIn K cd_Wants___iter__ "Wants.__iter__" = true)
    (k_Wants___iter__ : PySem.W.keepIn K (.ref f_Wants___iter__) = true)
    (e0_Week : PySem.W.nsIn K mainGlobals "Week" = some (some (.ref cK)))
    (e1_Week : PySem.W.plainGet K cK Str.empty = true)
    (e2_Week : PySem.W.hasDictIn K cK = true)
    (e3_Week : PySem.W.plainOver K cK = true)
    (e4_Week : PySem.W.findIn K (.ref cK) "__setattr__" = some (some (.builtin "object.__setattr__")))
    (n_Week_run : PySem.W.findIn K (.ref cK) "run" = some none)
    (n_Week_rest : PySem.W.findIn K (.ref cK) "rest" = some none)
    (mm_Week : PySem.W.makesIn K cK = true)
    (mp_Week : PySem.W.keepIn K (.ref cK) = true)
    (a_Week___init__ : PySem.W.findIn K (.ref cK) "__init__" = some (some (.ref f_Week___init__)))
    (i_Week___init__ : PySem.W.isFn K (.ref f_Week___init__) = true)
    (l_Week___init__ : K.lookup f_Week___init__ = some ⟨oc_Week___init__, od_Week___init__, .func (PySem.W.fnOf "__init__" "Week.__init__" (defArgs s_Week___init__) (defBody s_Week___init__) (defScope s_Week___init__) .none kV_Week___init__ dc_Week___init__ pm_Week___init__ an_Week___init__ cd_Week___init__ ct_Week___init__), sl_Week___init__⟩)
    (c_Week___init__ : PySem.W.codeIn K cd_Week___init__ "Week.__init__" = true)
    (k_Week___init__ : PySem.W.keepIn K (.ref f_Week___init__) = true)
    (gi_MOST_NIGHTS : PySem.W.nsIn K mainGlobals "MOST_NIGHTS" = some (some (.int 14 k1)))
    (gi_MOST_REST : PySem.W.nsIn K mainGlobals "MOST_REST" = some (some (.int 4 k2)))
    (gi_MOST_PEOPLE : PySem.W.nsIn K mainGlobals "MOST_PEOPLE" = some (some (.int 1000000 k3)))
    (gi_MOST_WEEKS : PySem.W.nsIn K mainGlobals "MOST_WEEKS" = some (some (.int 1000000000000000000 k4)))
    (gi_FAR : PySem.W.nsIn K mainGlobals "FAR" = some (some (.int 10000000000000000000000000000000000000000 k5)))
    (a_kept_after : PySem.W.nsIn K mainGlobals "kept_after" = some (some (.ref f_kept_after)))
    (l_kept_after : K.lookup f_kept_after = some ⟨oc_kept_after, od_kept_after, .func (PySem.W.fnOf "kept_after" "kept_after" (defArgs s_kept_after) (defBody s_kept_after) (defScope s_kept_after) .none kV_kept_after dc_kept_after pm_kept_after an_kept_after cd_kept_after ct_kept_after), sl_kept_after⟩)
    (c_kept_after : PySem.W.codeIn K cd_kept_after "kept_after" = true)
    (k_kept_after : PySem.W.keepIn K (.ref f_kept_after) = true)
    (a_week_table : PySem.W.nsIn K mainGlobals "week_table" = some (some (.ref f_week_table)))
    (l_week_table : K.lookup f_week_table = some ⟨oc_week_table, od_week_table, .func (PySem.W.fnOf "week_table" "week_table" (defArgs s_week_table) (defBody s_week_table) (defScope s_week_table) .none kV_week_table dc_week_table pm_week_table an_week_table cd_week_table ct_week_table), sl_week_table⟩)
    (c_week_table : PySem.W.codeIn K cd_week_table "week_table" = true)
    (k_week_table : PySem.W.keepIn K (.ref f_week_table) = true)
    (a_led_over : PySem.W.nsIn K mainGlobals "led_over" = some (some (.ref f_led_over)))
    (l_led_over : K.lookup f_led_over = some ⟨oc_led_over, od_led_over, .func (PySem.W.fnOf "led_over" "led_over" (defArgs s_led_over) (defBody s_led_over) (defScope s_led_over) .none kV_led_over dc_led_over pm_led_over an_led_over cd_led_over ct_led_over), sl_led_over⟩)
    (c_led_over : PySem.W.codeIn K cd_led_over "led_over" = true)
    (k_led_over : PySem.W.keepIn K (.ref f_led_over) = true)
    (a_joined_tables : PySem.W.nsIn K mainGlobals "joined_tables" = some (some (.ref f_joined_tables)))
    (l_joined_tables : K.lookup f_joined_tables = some ⟨oc_joined_tables, od_joined_tables, .func (PySem.W.fnOf "joined_tables" "joined_tables" (defArgs s_joined_tables) (defBody s_joined_tables) (defScope s_joined_tables) .none kV_joined_tables dc_joined_tables pm_joined_tables an_joined_tables cd_joined_tables ct_joined_tables), sl_joined_tables⟩)
    (c_joined_tables : PySem.W.codeIn K cd_joined_tables "joined_tables" = true)
    (k_joined_tables : PySem.W.keepIn K (.ref f_joined_tables) = true)
    (a__law_pool : PySem.W.nsIn K mainGlobals "_law_pool" = some (some (.ref f__law_pool)))
    (l__law_pool : K.lookup f__law_pool = some ⟨oc__law_pool, od__law_pool, .func (PySem.W.fnOf "_law_pool" "_law_pool" (defArgs s__law_pool) (defBody s__law_pool) (defScope s__law_pool) .none kV__law_pool dc__law_pool pm__law_pool an__law_pool cd__law_pool ct__law_pool), sl__law_pool⟩)
    (c__law_pool : PySem.W.codeIn K cd__law_pool "_law_pool" = true)
    (k__law_pool : PySem.W.keepIn K (.ref f__law_pool) = true)
    (a__law_draw : PySem.W.nsIn K mainGlobals "_law_draw" = some (some (.ref f__law_draw)))
    (l__law_draw : K.lookup f__law_draw = some ⟨oc__law_draw, od__law_draw, .func (PySem.W.fnOf "_law_draw" "_law_draw" (defArgs s__law_draw) (defBody s__law_draw) (defScope s__law_draw) .none kV__law_draw dc__law_draw pm__law_draw an__law_draw cd__law_draw ct__law_draw), sl__law_draw⟩)
    (c__law_draw : PySem.W.codeIn K cd__law_draw "_law_draw" = true)
    (k__law_draw : PySem.W.keepIn K (.ref f__law_draw) = true)
    (a__law_wants : PySem.W.nsIn K mainGlobals "_law_wants" = some (some (.ref f__law_wants)))
    (l__law_wants : K.lookup f__law_wants = some ⟨oc__law_wants, od__law_wants, .func (PySem.W.fnOf "_law_wants" "_law_wants" (defArgs s__law_wants) (defBody s__law_wants) (defScope s__law_wants) .none kV__law_wants dc__law_wants pm__law_wants an__law_wants cd__law_wants ct__law_wants), sl__law_wants⟩)
    (c__law_wants : PySem.W.codeIn K cd__law_wants "_law_wants" = true)
    (k__law_wants : PySem.W.keepIn K (.ref f__law_wants) = true)
    (a__law_int : PySem.W.nsIn K mainGlobals "_law_int" = some (some (.ref f__law_int)))
    (l__law_int : K.lookup f__law_int = some ⟨oc__law_int, od__law_int, .func (PySem.W.fnOf "_law_int" "_law_int" (defArgs s__law_int) (defBody s__law_int) (defScope s__law_int) .none kV__law_int dc__law_int pm__law_int an__law_int cd__law_int ct__law_int), sl__law_int⟩)
    (c__law_int : PySem.W.codeIn K cd__law_int "_law_int" = true)
    (k__law_int : PySem.W.keepIn K (.ref f__law_int) = true)
    (a__law_weeks : PySem.W.nsIn K mainGlobals "_law_weeks" = some (some (.ref f__law_weeks)))
    (l__law_weeks : K.lookup f__law_weeks = some ⟨oc__law_weeks, od__law_weeks, .func (PySem.W.fnOf "_law_weeks" "_law_weeks" (defArgs s__law_weeks) (defBody s__law_weeks) (defScope s__law_weeks) .none kV__law_weeks dc__law_weeks pm__law_weeks an__law_weeks cd__law_weeks ct__law_weeks), sl__law_weeks⟩)
    (c__law_weeks : PySem.W.codeIn K cd__law_weeks "_law_weeks" = true)
    (k__law_weeks : PySem.W.keepIn K (.ref f__law_weeks) = true)
    (a__law_one_week : PySem.W.nsIn K mainGlobals "_law_one_week" = some (some (.ref f__law_one_week)))
    (l__law_one_week : K.lookup f__law_one_week = some ⟨oc__law_one_week, od__law_one_week, .func (PySem.W.fnOf "_law_one_week" "_law_one_week" (defArgs s__law_one_week) (defBody s__law_one_week) (defScope s__law_one_week) .none kV__law_one_week dc__law_one_week pm__law_one_week an__law_one_week cd__law_one_week ct__law_one_week), sl__law_one_week⟩)
    (c__law_one_week : PySem.W.codeIn K cd__law_one_week "_law_one_week" = true)
    (k__law_one_week : PySem.W.keepIn K (.ref f__law_one_week) = true)
    (a__law_rounds : PySem.W.nsIn K mainGlobals "_law_rounds" = some (some (.ref f__law_rounds)))
    (l__law_rounds : K.lookup f__law_rounds = some ⟨oc__law_rounds, od__law_rounds, .func (PySem.W.fnOf "_law_rounds" "_law_rounds" (defArgs s__law_rounds) (defBody s__law_rounds) (defScope s__law_rounds) .none kV__law_rounds dc__law_rounds pm__law_rounds an__law_rounds cd__law_rounds ct__law_rounds), sl__law_rounds⟩)
    (c__law_rounds : PySem.W.codeIn K cd__law_rounds "_law_rounds" = true)
    (k__law_rounds : PySem.W.keepIn K (.ref f__law_rounds) = true)
    (a__law_kept : PySem.W.nsIn K mainGlobals "_law_kept" = some (some (.ref f__law_kept)))
    (l__law_kept : K.lookup f__law_kept = some ⟨oc__law_kept, od__law_kept, .func (PySem.W.fnOf "_law_kept" "_law_kept" (defArgs s__law_kept) (defBody s__law_kept) (defScope s__law_kept) .none kV__law_kept dc__law_kept pm__law_kept an__law_kept cd__law_kept ct__law_kept), sl__law_kept⟩)
    (c__law_kept : PySem.W.codeIn K cd__law_kept "_law_kept" = true)
    (k__law_kept : PySem.W.keepIn K (.ref f__law_kept) = true)
    (a_law : PySem.W.nsIn K mainGlobals "law" = some (some (.ref f_law)))
    (l_law : K.lookup f_law = some ⟨oc_law, od_law, .func (PySem.W.fnOf "law" "law" (defArgs s_law) (defBody s_law) (defScope s_law) .none kV_law dc_law pm_law an_law cd_law ct_law), sl_law⟩)
    (c_law : PySem.W.codeIn K cd_law "law" = true)
    (k_law : PySem.W.keepIn K (.ref f_law) = true) :
    ∃ fd : FuncData, (∀ (s : Shared) (v : Value), BindsTo s fd ⟨[v], []⟩ [("script", v)]) ∧ ∀ base : Heap, K.In base → base.Ns mainGlobals mg → FnOk l.prog w K mg base (L2.CX l.prog w) 6 fa fd ["script"] (spLaw K) := by
  have e := hfa.symm.trans (PySem.W.mg_of X G a_law)
  cases e
  have B : Blt mg := Blt.of X G z_len z_abs z_max z_min z_sum z_sorted z_isinstance z_iter z_ord z_any z_all z_int z_bool z_str z_list z_tuple z_dict z_set z_range z_enumerate z_zip z_reversed z_super z_ValueError
  have cl_Wants : Cls K cW := ⟨e1_Wants, e2_Wants, e3_Wants, e4_Wants⟩
  have g_Wants : GNm mg "Wants" cW := ⟨PySem.W.mg_of X G e0_Wants⟩
  have F_Wants___init__ := fun_mk (st := s_Wants___init__) l_Wants___init__ c_Wants___init__ k_Wants___init__
  have b_Wants___init__ := F_Wants___init__.binds (ps := (["self", "numbers"] : List Str)) fun _ _ _ _ _ _ us hl => match us, hl with | [_, _], _ => rfl
  have F_Wants___len__ := fun_mk (st := s_Wants___len__) l_Wants___len__ c_Wants___len__ k_Wants___len__
  have b_Wants___len__ := F_Wants___len__.binds (ps := (["self"] : List Str)) fun _ _ _ _ _ _ us hl => match us, hl with | [_], _ => rfl
  have F_Wants___iter__ := fun_mk (st := s_Wants___iter__) l_Wants___iter__ c_Wants___iter__ k_Wants___iter__
  have b_Wants___iter__ := F_Wants___iter__.binds (ps := (["self"] : List Str)) fun _ _ _ _ _ _ us hl => match us, hl with | [_], _ => rfl
  have cl_Week : Cls K cK := ⟨e1_Week, e2_Week, e3_Week, e4_Week⟩
  have g_Week : GNm mg "Week" cK := ⟨PySem.W.mg_of X G e0_Week⟩
  have F_Week___init__ := fun_mk (st := s_Week___init__) l_Week___init__ c_Week___init__ k_Week___init__
  have b_Week___init__ := F_Week___init__.binds (ps := (["self", "run", "rest"] : List Str)) fun _ _ _ _ _ _ us hl => match us, hl with | [_, _, _], _ => rfl
  have F_kept_after := fun_mk (st := s_kept_after) l_kept_after c_kept_after k_kept_after
  have b_kept_after := F_kept_after.binds (ps := (["week", "people", "weeks"] : List Str)) fun _ _ _ _ _ _ us hl => match us, hl with | [_, _, _], _ => rfl
  have m_kept_after := PySem.W.mg_of X G a_kept_after
  have F_week_table := fun_mk (st := s_week_table) l_week_table c_week_table k_week_table
  have b_week_table := F_week_table.binds (ps := (["week", "people"] : List Str)) fun _ _ _ _ _ _ us hl => match us, hl with | [_, _], _ => rfl
  have m_week_table := PySem.W.mg_of X G a_week_table
  have F_led_over := fun_mk (st := s_led_over) l_led_over c_led_over k_led_over
  have b_led_over := F_led_over.binds (ps := (["table", "mosts"] : List Str)) fun _ _ _ _ _ _ us hl => match us, hl with | [_, _], _ => rfl
  have m_led_over := PySem.W.mg_of X G a_led_over
  have F_joined_tables := fun_mk (st := s_joined_tables) l_joined_tables c_joined_tables k_joined_tables
  have b_joined_tables := F_joined_tables.binds (ps := (["later", "earlier"] : List Str)) fun _ _ _ _ _ _ us hl => match us, hl with | [_, _], _ => rfl
  have m_joined_tables := PySem.W.mg_of X G a_joined_tables
  have F__law_pool := fun_mk (st := s__law_pool) l__law_pool c__law_pool k__law_pool
  have b__law_pool := F__law_pool.binds (ps := (["script", "at"] : List Str)) fun _ _ _ _ _ _ us hl => match us, hl with | [_, _], _ => rfl
  have m__law_pool := PySem.W.mg_of X G a__law_pool
  have F__law_draw := fun_mk (st := s__law_draw) l__law_draw c__law_draw k__law_draw
  have b__law_draw := F__law_draw.binds (ps := (["pool", "many"] : List Str)) fun _ _ _ _ _ _ us hl => match us, hl with | [_, _], _ => rfl
  have m__law_draw := PySem.W.mg_of X G a__law_draw
  have F__law_wants := fun_mk (st := s__law_wants) l__law_wants c__law_wants k__law_wants
  have b__law_wants := F__law_wants.binds (ps := (["pool", "nights", "most"] : List Str)) fun _ _ _ _ _ _ us hl => match us, hl with | [_, _, _], _ => rfl
  have m__law_wants := PySem.W.mg_of X G a__law_wants
  have F__law_int := fun_mk (st := s__law_int) l__law_int c__law_int k__law_int
  have b__law_int := F__law_int.binds (ps := (["x"] : List Str)) fun _ _ _ _ _ _ us hl => match us, hl with | [_], _ => rfl
  have m__law_int := PySem.W.mg_of X G a__law_int
  have F__law_weeks := fun_mk (st := s__law_weeks) l__law_weeks c__law_weeks k__law_weeks
  have b__law_weeks := F__law_weeks.binds (ps := (["pool"] : List Str)) fun _ _ _ _ _ _ us hl => match us, hl with | [_], _ => rfl
  have m__law_weeks := PySem.W.mg_of X G a__law_weeks
  have F__law_one_week := fun_mk (st := s__law_one_week) l__law_one_week c__law_one_week k__law_one_week
  have b__law_one_week := F__law_one_week.binds (ps := (["run", "recent", "people"] : List Str)) fun _ _ _ _ _ _ us hl => match us, hl with | [_, _, _], _ => rfl
  have m__law_one_week := PySem.W.mg_of X G a__law_one_week
  have F__law_rounds := fun_mk (st := s__law_rounds) l__law_rounds c__law_rounds k__law_rounds
  have b__law_rounds := F__law_rounds.binds (ps := (["run", "gap", "people"] : List Str)) fun _ _ _ _ _ _ us hl => match us, hl with | [_, _, _], _ => rfl
  have m__law_rounds := PySem.W.mg_of X G a__law_rounds
  have F__law_kept := fun_mk (st := s__law_kept) l__law_kept c__law_kept k__law_kept
  have b__law_kept := F__law_kept.binds (ps := (["rounds", "weeks"] : List Str)) fun _ _ _ _ _ _ us hl => match us, hl with | [_, _], _ => rfl
  have m__law_kept := PySem.W.mg_of X G a__law_kept
  have F_law := fun_mk (st := s_law) l_law c_law k_law
  have b_law := F_law.binds (ps := (["script"] : List Str)) fun _ _ _ _ _ _ us hl => match us, hl with | [_], _ => rfl
  have m_law := PySem.W.mg_of X G a_law
  have TW : TxW K mg cW := ⟨g_Wants, cl_Wants, n_Wants_numbers, _, _, _, ⟨r1_Wants, r2_Wants⟩, ⟨v_Wants_MOST, ⟨_, rfl⟩⟩, ⟨v_Wants_GREATEST, ⟨_, rfl⟩⟩⟩
  have T : TxK K mg cK k1 k2 k3 k4 k5 := ⟨g_Week, cl_Week, n_Week_run, n_Week_rest, PySem.W.mg_of X G gi_MOST_NIGHTS, PySem.W.mg_of X G gi_MOST_REST, PySem.W.mg_of X G gi_MOST_PEOPLE, PySem.W.mg_of X G gi_MOST_WEEKS, PySem.W.mg_of X G gi_FAR⟩
  refine ⟨PySem.W.fnOf "law" "law" (defArgs s_law) (defBody s_law) (defScope s_law) .none kV_law dc_law pm_law an_law cd_law ct_law, fun s v => .of_eq rfl, fun base _ _ => ?_⟩
  have O : OwnC l.prog w K mg base cW "numbers" _ _ _ _ (spWLen K cW) := ⟨cl_Wants, a_Wants___len__, i_Wants___len__, ok_Wants___len__ F_Wants___len__ B TW, b_Wants___len__, ⟨a_Wants___iter__, i_Wants___iter__⟩, okN_Wants___iter__ F_Wants___iter__ B TW, b_Wants___iter__⟩
  have M_Wants : MkAt l.prog w K mg base 1 "Wants" cW (mkWants K cW) := mk_Wants F_Wants___init__ B TW ⟨mm_Wants, a_Wants___init__, i_Wants___init__, mp_Wants⟩ b_Wants___init__
  have M_Week : MkAt l.prog w K mg base 3 "Week" cK (mkWeek K cK cW) := mk_Week F_Week___init__ B T O ⟨mm_Week, a_Week___init__, i_Week___init__, mp_Week⟩ b_Week___init__
  have C_week_table : FnAt l.prog w K mg base 3 "week_table" (["week", "people"] : List Str) (spWT K cK cW) := .of F_week_table m_week_table (ok_week_table F_week_table B T O) b_week_table
  have C_led_over : FnAt l.prog w K mg base 1 "led_over" (["table", "mosts"] : List Str) (spLed K) := .of F_led_over m_led_over (ok_led_over F_led_over B) b_led_over
  have C_joined_tables : FnAt l.prog w K mg base 1 "joined_tables" (["later", "earlier"] : List Str) (spJT K) := .of F_joined_tables m_joined_tables (ok_joined_tables F_joined_tables B) b_joined_tables
  have C_kept_after : FnAt l.prog w K mg base 4 "kept_after" (["week", "people", "weeks"] : List Str) (spKA K cK cW) := .of F_kept_after m_kept_after (ok_kept_after F_kept_after B T C_week_table C_led_over C_joined_tables) b_kept_after
  have C__law_pool : FnAt l.prog w K mg base 1 "_law_pool" (["script", "at"] : List Str) (spPool K) := .of F__law_pool m__law_pool (ok__law_pool F__law_pool B) b__law_pool
  have C__law_draw : FnAt l.prog w K mg base 1 "_law_draw" (["pool", "many"] : List Str) (spDraw) := .of F__law_draw m__law_draw (ok__law_draw F__law_draw B) b__law_draw
  have C__law_int : FnAt l.prog w K mg base 1 "_law_int" (["x"] : List Str) (spInt K) := .of F__law_int m__law_int (ok__law_int F__law_int B) b__law_int
  have C__law_wants : FnAt l.prog w K mg base 2 "_law_wants" (["pool", "nights", "most"] : List Str) (spWnt) := .of F__law_wants m__law_wants (ok__law_wants F__law_wants B C__law_draw) b__law_wants
  have C__law_weeks : FnAt l.prog w K mg base 2 "_law_weeks" (["pool"] : List Str) (spWks) := .of F__law_weeks m__law_weeks (ok__law_weeks F__law_weeks B C__law_draw) b__law_weeks
  have C__law_one_week : FnAt l.prog w K mg base 1 "_law_one_week" (["run", "recent", "people"] : List Str) (spOW K) := .of F__law_one_week m__law_one_week (ok__law_one_week F__law_one_week B) b__law_one_week
  have C__law_rounds : FnAt l.prog w K mg base 2 "_law_rounds" (["run", "gap", "people"] : List Str) (spRounds K) := .of F__law_rounds m__law_rounds (ok__law_rounds F__law_rounds B C__law_one_week) b__law_rounds
  have C__law_kept : FnAt l.prog w K mg base 1 "_law_kept" (["rounds", "weeks"] : List Str) (spKept K) := .of F__law_kept m__law_kept (ok__law_kept F__law_kept B) b__law_kept
  exact ok_law F_law B C__law_pool C__law_draw C__law_wants C__law_weeks C__law_int C__law_rounds C__law_kept C_kept_after M_Wants M_Week
theorem walk {l : PySem.W.OpenLaw} {q : Program} {loose : List Str} {XP : (Str → Option Value) → Heap → Prop} {YP : World → Heap → Prop} {d : DefRec} {K : Params → PySem.W.Frag} (hn : l.most = some 63) (hdf : d.params.defaults = [])
    (hY : ∀ (w : World) (h : Heap), YP w h → (K w.params).In h)
    (F : ∀ (w : World) (mg : Str → Option Value) (fa : Addr) (h : Heap), (K w.params).In h → h.Ns mainGlobals mg → mg d.name = some (.ref fa) →
      ∃ fd : FuncData, (∀ (s : Shared) (u : Value), BindsTo s fd ⟨[u], []⟩ [("script", u)]) ∧ ∀ base : Heap, (K w.params).In base → base.Ns mainGlobals mg → FnOk l.prog w (K w.params) mg base (L2.CX l.prog w) 6 fa fd ["script"] (spLaw (K w.params))) :
    PySem.W.WalkO q loose XP YP l.row.toRowW d [] (fun f vs => PySem.call f vs) :=
  L2.walk_of (n := 63) (k := 6) (x := "script") (CX := fun w => L2.CX l.prog w) (sp := fun w => spLaw (K w.params)) hn (by decide) hdf ⟨rfl, by decide, by decide⟩ hY F (fun _ _ a ns hl _ hS => ⟨a, ns, rfl, hS, fun _ => rfl⟩) fun _ _ _ _ _ ⟨_, _, _, _, _, _, _, _, _, _, _, _, z⟩ => z
end Nk
open PySem PySem.W PyProof.Rows
set_option maxRecDepth 100000 in
set_option maxHeartbeats 0 in
theorem PySem.Challenge.cw_nightsoff_k58_kept_after_whole_many_week_holds : PySem.Challenge.rw_nightsoff_k58_kept_after_whole_many_week.Holds := by
  w_on; o_law; k_head; (case hw => w_witness2)
  k_fill
  refine Nk.walk (l := PySem.Challenge.rw_nightsoff_k58_kept_after_whole_many_week) rfl rfl (fun w h Y => PySem.W.kIn_of Y) ?F
  case F =>
    intro w mg fa h KX G hmg
    refine' Nk.all_mk (by decide +kernel) (by decide +kernel) KX G hmg ?z_len ?z_abs ?z_max ?z_min ?z_sum ?z_sorted ?z_isinstance ?z_iter ?z_ord ?z_any ?z_all ?z_int ?z_bool ?z_str ?z_list ?z_tuple ?z_dict ?z_set ?z_range ?z_enumerate ?z_zip ?z_reversed ?z_super ?z_ValueError ?e0_Wants ?e1_Wants ?e2_Wants ?e3_Wants ?e4_Wants ?n_Wants_numbers ?mm_Wants ?mp_Wants ?r1_Wants ?r2_Wants ?v_Wants_MOST ?v_Wants_GREATEST ?a_Wants___init__ ?i_Wants___init__ ?l_Wants___init__ ?c_Wants___init__ ?k_Wants___init__ ?a_Wants___len__ ?i_Wants___len__ ?l_Wants___len__ ?c_Wants___len__ ?k_Wants___len__ ?a_Wants___iter__ ?i_Wants___iter__ ?l_Wants___iter__ ?c_Wants___iter__ ?k_Wants___iter__ ?e0_Week ?e1_Week ?e2_Week ?e3_Week ?e4_Week ?n_Week_run ?n_Week_rest ?mm_Week ?mp_Week ?a_Week___init__ ?i_Week___init__ ?l_Week___init__ ?c_Week___init__ ?k_Week___init__ ?gi_MOST_NIGHTS ?gi_MOST_REST ?gi_MOST_PEOPLE ?gi_MOST_WEEKS ?gi_FAR ?a_kept_after ?l_kept_after ?c_kept_after ?k_kept_after ?a_week_table ?l_week_table ?c_week_table ?k_week_table ?a_led_over ?l_led_over ?c_led_over ?k_led_over ?a_joined_tables ?l_joined_tables ?c_joined_tables ?k_joined_tables ?a__law_pool ?l__law_pool ?c__law_pool ?k__law_pool ?a__law_draw ?l__law_draw ?c__law_draw ?k__law_draw ?a__law_wants ?l__law_wants ?c__law_wants ?k__law_wants ?a__law_int ?l__law_int ?c__law_int ?k__law_int ?a__law_weeks ?l__law_weeks ?c__law_weeks ?k__law_weeks ?a__law_one_week ?l__law_one_week ?c__law_one_week ?k__law_one_week ?a__law_rounds ?l__law_rounds ?c__law_rounds ?k__law_rounds ?a__law_kept ?l__law_kept ?c__law_kept ?k__law_kept ?a_law ?l_law ?c_law ?k_law
    (case z_len => k_is)
    (case z_abs => k_is)
    (case z_max => k_is)
    (case z_min => k_is)
    (case z_sum => k_is)
    (case z_sorted => k_is)
    (case z_isinstance => k_is)
    (case z_iter => k_is)
    (case z_ord => k_is)
    (case z_any => k_is)
    (case z_all => k_is)
    (case z_int => k_is)
    (case z_bool => k_is)
    (case z_str => k_is)
    (case z_list => k_is)
    (case z_tuple => k_is)
    (case z_dict => k_is)
    (case z_set => k_is)
    (case z_range => k_is)
    (case z_enumerate => k_is)
    (case z_zip => k_is)
    (case z_reversed => k_is)
    (case z_super => k_is)
    (case z_ValueError => k_is)
    (case e0_Wants => k_is)
    (case e1_Wants => k_is)
    (case e2_Wants => k_is)
    (case e3_Wants => k_is)
    (case e4_Wants => k_is)
    (case n_Wants_numbers => k_is)
    (case mm_Wants => k_is)
    (case mp_Wants => k_is)
    (case r1_Wants => k_is)
    (case r2_Wants => k_is)
    (case v_Wants_MOST => k_is)
    (case v_Wants_GREATEST => k_is)
    (case a_Wants___init__ => k_is)
    (case i_Wants___init__ => k_is)
    (case l_Wants___init__ => k_is)
    (case c_Wants___init__ => k_is)
    (case k_Wants___init__ => k_is)
    (case a_Wants___len__ => k_is)
    (case i_Wants___len__ => k_is)
    (case l_Wants___len__ => k_is)
    (case c_Wants___len__ => k_is)
    (case k_Wants___len__ => k_is)
    (case a_Wants___iter__ => k_is)
    (case i_Wants___iter__ => k_is)
    (case l_Wants___iter__ => k_is)
    (case c_Wants___iter__ => k_is)
    (case k_Wants___iter__ => k_is)
    (case e0_Week => k_is)
    (case e1_Week => k_is)
    (case e2_Week => k_is)
    (case e3_Week => k_is)
    (case e4_Week => k_is)
    (case n_Week_run => k_is)
    (case n_Week_rest => k_is)
    (case mm_Week => k_is)
    (case mp_Week => k_is)
    (case a_Week___init__ => k_is)
    (case i_Week___init__ => k_is)
    (case l_Week___init__ => k_is)
    (case c_Week___init__ => k_is)
    (case k_Week___init__ => k_is)
    (case gi_MOST_NIGHTS => k_is)
    (case gi_MOST_REST => k_is)
    (case gi_MOST_PEOPLE => k_is)
    (case gi_MOST_WEEKS => k_is)
    (case gi_FAR => k_is)
    (case a_kept_after => k_is)
    (case l_kept_after => k_is)
    (case c_kept_after => k_is)
    (case k_kept_after => k_is)
    (case a_week_table => k_is)
    (case l_week_table => k_is)
    (case c_week_table => k_is)
    (case k_week_table => k_is)
    (case a_led_over => k_is)
    (case l_led_over => k_is)
    (case c_led_over => k_is)
    (case k_led_over => k_is)
    (case a_joined_tables => k_is)
    (case l_joined_tables => k_is)
    (case c_joined_tables => k_is)
    (case k_joined_tables => k_is)
    (case a__law_pool => k_is)
    (case l__law_pool => k_is)
    (case c__law_pool => k_is)
    (case k__law_pool => k_is)
    (case a__law_draw => k_is)
    (case l__law_draw => k_is)
    (case c__law_draw => k_is)
    (case k__law_draw => k_is)
    (case a__law_wants => k_is)
    (case l__law_wants => k_is)
    (case c__law_wants => k_is)
    (case k__law_wants => k_is)
    (case a__law_int => k_is)
    (case l__law_int => k_is)
    (case c__law_int => k_is)
    (case k__law_int => k_is)
    (case a__law_weeks => k_is)
    (case l__law_weeks => k_is)
    (case c__law_weeks => k_is)
    (case k__law_weeks => k_is)
    (case a__law_one_week => k_is)
    (case l__law_one_week => k_is)
    (case c__law_one_week => k_is)
    (case k__law_one_week => k_is)
    (case a__law_rounds => k_is)
    (case l__law_rounds => k_is)
    (case c__law_rounds => k_is)
    (case k__law_rounds => k_is)
    (case a__law_kept => k_is)
    (case l__law_kept => k_is)
    (case c__law_kept => k_is)
    (case k__law_kept => k_is)
    (case a_law => k_is)
    (case l_law => k_is)
    (case c_law => k_is)
    (case k_law => k_is)
