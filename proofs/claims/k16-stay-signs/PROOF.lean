import PyProof.Rows.All
import Wide.All
import OpenK.AllK
import Wide.FinOn
import KE.KExcSuper
import HandS.Exc
import HandS.ExcInit
import KE.KOpsOwn
import KE.KCallOwn
import KE.KExcIs
import HandS.ForExc
import HandS.ForMost
import HandS.HotCalls
import HandS.More
import HandS.SlotsOwn
import HandS.MakeKw
import HandS.IsInst
import HandS.ExcField
import HandS.Wide
import HandS.FStr
import HandS.EndBits
import HandS.Property
import PySem.Challenge.RW_fittingpasts_k16_stay_signs
set_option Elab.async false
set_option linter.all false
set_option maxRecDepth 100000
set_option maxHeartbeats 4000000
/-! An own error whose body of __init__ is super().__init__('..') and then self.f = f for each field f. -/
namespace PySem
namespace ErrX
open PySem.W PySem.Calls PyProof.Rows PySem.HandSPX
/-- self.f = f for each name -/
inductive Asgs : List Str → List Stmt → Prop
  | nil : Asgs [] []
  | cons {f : Str} {fs : List Str} {r : List Stmt} {q1 q2 q3 q4 : Pos} : (f == ("__debug__" : Str)) = false → Asgs fs r → Asgs (f :: fs) (.Assign [.Attribute (.Name "self" q1) f q2] (.Name f q3) q4 :: r)
/-- what the written part says of the error's class at C and of its __init__ at fI -/
structure ErrTxt (prog : Program) (K : Frag) (mg : Str → Option Value) (x : Str) (C fI : Addr) (fs : List Str) : Prop where
  gC : mg x = some (.ref C)
  gS : mg "super" = none
  cls : ∃ nm q N bs bm sn sub ab col dd k0 k1 k2 k3 k5, K.lookup C = some (excClassObj nm q C N bs bm true sn sub ab col dd k0 k1 k2 k3 k5 "ValueError.__new__") ∧ refsVE bm = true
  sa : findIn K (.ref C) "__setattr__" = some (some (.builtin "object.__setattr__"))
  no : ∀ f ∈ fs, findIn K (.ref C) f = some none
  iC : findIn K (.ref C) "__init__" = some (some (.ref fI))
  tC : typeIn K (.ref fI) = some (.type "function")
  kC : keepIn K (.ref C) = true
  exC : subIn K (.ref C) (.type "BaseException") = some true
  veC : subIn K (.ref C) (.type "ValueError") = some true
  tyC : typeIn K (.ref C) = some (.type "type")
  op : nsIn K cStatics "thirdparty.any" = some none
  al : ks_superIn K C C "__init__" = some (some (.builtin "ValueError.__init__"))
  slf : mroIn K C (.ref C) = some true
  fn : ∃ (oc : Value) (od : Option Addr) (qual : Str) (params : Arguments) (scope : Scope) (rest : List Stmt) (doc pm : Value) (an : Option Addr) (cda : Addr) (ct : Value) (cc : Addr) (osl : Array (Option Value)) (txt : Str) (j : Nat) (p0 p1 p2 p3 p4 p5 : Pos) (ar : Arg)
      (ccl : Value) (cdd : Option Addr) (vs : Array Value) (ccs : Array (Option Value)) (file : Str) (tf : Tok) (cl : Value) (cld : Option Addr) (csl : Array (Option Value)),
    K.lookup fI = some ⟨oc, od, .func (ksFn "__init__" qual params (.Expr (.Call (.Attribute (.Call (.Name "super" p0) [] [] p1) "__init__" p2) [.Constant (.str txt) j p3] [] p4) p5 :: rest) scope .none .none doc pm an (.ref cda) ct cc), osl⟩ ∧ codeIn K (.ref cda) qual = true ∧
    K.lookup cda = some ⟨ccl, cdd, .fields vs, ccs⟩ ∧ vs[2]? = some (.str file tf) ∧ ((prog.main.file : Str) == file) = true ∧ K.lookup cc = some ⟨cl, cld, .cell (some (.ref C)), csl⟩ ∧
    (∀ env : Env, eval (.Call (.Attribute (.Call (.Name "super" p0) [] [] p1) "__init__" p2) [.Constant (.str txt) j p3] [] p4) env = (do
      let ov ← attributeBase (.Call (.Name "super" p0) [] [] p1) "__init__" env (eval (.Call (.Name "super" p0) [] [] p1) env)
      standAt p2.atName
      let (f, first) ← holding [ov] (getMethod ov "__init__" (do return (← importBound (.Call (.Name "super" p0) [] [] p1) env).getD true))
      callWith p4 f first (backTo p4 (starEach [.Constant (.str txt) j p3] env)) [])) ∧
    (prog.main.scope.names.lookup ("super" : Str)).isSome = false ∧
    (params.posonlyargs ++ params.args).head? = some ar ∧ ar.arg = "self" ∧
    scope.kind = .function ∧ scope.isCoroutine = false ∧ scope.isGenerator = false ∧ (∀ x ∈ scope.names, x.2 ≠ .cell) ∧ scope.names.lookup ("super" : Str) = some .globalImplicit ∧ scope.names.lookup ("__class__" : Str) = some .free ∧
    scope.names.lookup ("self" : Str) = some .local ∧ (∀ f ∈ fs, scope.names.lookup f = some .local) ∧ (("self" : Str) :: fs).Nodup ∧
    Asgs fs rest ∧ ∀ us : List Value, us.length = fs.length + 1 → bindArgs (ksFn "__init__" qual params (.Expr (.Call (.Attribute (.Call (.Name "super" p0) [] [] p1) "__init__" p2) [.Constant (.str txt) j p3] [] p4) p5 :: rest) scope .none .none doc pm an (.ref cda) ct cc) ⟨us, []⟩ = pure (((("self" : Str) :: fs)).zip us)

theorem lookup_rev : ∀ {l : List (Str × Value)} {x : Str} {v : Value}, (l.map (·.1)).Nodup → l.lookup x = some v → l.reverse.lookup x = some v := by
  intro l x v nd h
  have key : ∀ (m : List (Str × Value)), (m.map (·.1)).Nodup → (x, v) ∈ m → m.lookup x = some v := by
    intro m
    induction m with
    | nil => intro _ h; cases h
    | cons p m ih =>
      intro nd h
      obtain ⟨y, u⟩ := p
      rw [List.map_cons, List.nodup_cons] at nd
      rcases List.mem_cons.mp h with e | e
      · cases e; simp [List.lookup]
      · have hne : (x == y) = false := by
          rw [beq_eq_false_iff_ne]
          rintro rfl
          exact nd.1 (List.mem_map_of_mem (f := (·.1)) e)
        simp [List.lookup, hne]
        exact ih nd.2 e
  refine key _ ?_ (List.mem_reverse.mpr (PySem.mem_of_lookup h))
  rw [List.map_reverse]
  exact List.pairwise_reverse.mpr (nd.imp Ne.symm)

/-- what stands at the exception behind the stores: the fields so far (the last one first) -/
def DictOf (x : Addr) (n : Nat) (h : Heap) (fl : List (Str × Value)) (dv : Option Addr) : Prop :=
  match fl with
  | [] => dv = none
  | _ => ∃ dx, dv = some dx ∧ n ≤ dx ∧ dx ≠ x ∧ ∃ mA, h.Ns1 dx mA ∧ (∀ y, mA y = fl.lookup y)
theorem dictOf_cons {x : Addr} {n : Nat} {h : Heap} {fl : List (Str × Value)} {dv : Option Addr} {f : Str} {v : Value} : DictOf x n h ((f, v) :: fl) dv = ∃ dx, dv = some dx ∧ n ≤ dx ∧ dx ≠ x ∧ ∃ mA, h.Ns1 dx mA ∧ (∀ y, mA y = ((f, v) :: fl).lookup y) := rfl
abbrev excD (C t : Addr) (d : Option Addr) : Obj := { cls := .ref C, dict := d, data := .fields #[.ref t, .none, .none, .none, .bool false, .none] }
theorem lookup_ite (f y : Str) (v : Value) (fl : List (Str × Value)) : ((f, v) :: fl).lookup y = if y = f then some v else fl.lookup y := by
  by_cases h : y = f
  · subst h; simp [List.lookup]
  · have e : (y == f) = false := by simpa using h
    rw [if_neg h]; simp [List.lookup, e]
section
variable {prog : Program} {w : World} {A : Around} {E : Value → Shared → Prop} {K : Frag} {mg : Str → Option Value} {C fI : Addr}
theorem run_asgs {env : Env} {x t0 : Addr} {n : Nat} {m : Str → Option Value} {cd : ClassData} (hcd : clsIn K C = some cd) (hmr : refsVE cd.mro = true) (hh : cd.hasDict = true) (sa : findIn K (.ref C) "__setattr__" = some (some (.builtin "object.__setattr__")))
    (hnx : K.lookup x = none) (hk : env.scope.kind = .function) (hself : env.kindOf "self" = some .local) (mself : m "self" = some (.ref x)) (hLx : env.locals ≠ x) (hLn : env.locals < n) {Q : Flow → Shared → Prop} :
    ∀ {fs : List Str} {rest : List Stmt} {vs : List Value} {fl : List (Str × Value)} {dv : Option Addr} {s : Shared}, Asgs fs rest → vs.length = fs.length → (∀ p ∈ fs.zip vs, m p.1 = some p.2 ∧ env.kindOf p.1 = some .local ∧ findIn K (.ref C) p.1 = some none) → fl.length + fs.length ≤ 900 →
    K.In s.heap → s.heap.Ns env.locals m → s.heap.get? x = some (excD C t0 dv) → n ≤ s.heap.objs.size → DictOf x n s.heap fl dv → (∀ dx, dv = some dx → K.lookup dx = none ∧ dx ≠ env.locals) →
    (∀ h' tk dv', (∀ b o, b ≠ x → some b ≠ dv → s.heap.get? b = some o → h'.get? b = some o) → h'.get? x = some (excD C t0 dv') → DictOf x n h' ((fs.zip vs).reverse ++ fl) dv' → Q .next { s with heap := h', toks := tk }) →
    wpAny (model prog w) A (execs rest env) Q E s := by
  intro fs
  induction fs with
  | nil =>
    intro rest vs fl dv s ha hl _ _ _ _ hx _ hd _ hq
    cases ha
    refine wpAny_execs_nil ?_
    have := hq s.heap s.toks dv (fun b o _ _ e => e) hx (by simpa using hd)
    exact this
  | cons f fs ih =>
    intro rest vs fl dv s ha hl hm hz X hn hx hsz hd hdv hq
    cases ha with
    | cons hdb ha' =>
    cases vs with
    | nil => cases hl
    | cons v vs =>
    have hl' : vs.length = fs.length := by simpa using hl
    obtain ⟨mv, kv, nov⟩ := hm (f, v) (by simp)
    have hm' : ∀ p ∈ fs.zip vs, m p.1 = some p.2 ∧ env.kindOf p.1 = some .local ∧ findIn K (.ref C) p.1 = some none := fun p hp => hm p (by simp [hp])
    have hz' : fl.length + (fs.length + 1) ≤ 900 := by simpa using hz
    refine wpAny_execs_cons (plainObj_wpAny_Assign_Attribute ?_ (by rfl))
    refine wpAny_Name (wpAny_loadName_local hk kv hn mv ?_) hdb
    refine wpAny_Name (wpAny_loadName_local hk hself hn mself ?_) (by decide)
    show wpAny _ _ (setAttr (.ref x) f v) _ _ _
    obtain ⟨hp, g, d, tk, os⟩ := s
    cases fl with
    | nil =>
      have e0 : dv = none := hd
      subst e0
      refine set_plain X (ox := excD C t0 none) (od := none) ⟨hx, rfl, rfl, trivial⟩ sa ?_
      refine exc_osa X hx hcd hmr hh nov (fun h' tk' dx k dn dne hx' hn' => ?_)
      have ndl : ∀ {b o}, hp.get? b = some o → b ≠ dx := fun {b o} q => Nat.ne_of_lt (Nat.lt_of_lt_of_le (Heap.lt_size q) dn)
      have hnL : h'.Ns env.locals m := by
        obtain ⟨o, es, ep, ho, r⟩ := hn
        exact ⟨o, es, ep, k _ o hLx ho, r⟩
      have hsz' : n ≤ h'.objs.size := by
        have := Heap.lt_size (show h'.get? x = some _ from hx')
        obtain ⟨o, es, ep, ho, r⟩ := hn'
        have z := Heap.lt_size ho
        exact Nat.le_of_lt (Nat.lt_of_le_of_lt (Nat.le_trans hsz dn) z)
      have X' : K.In h' := fun a o e => k a o (fun z => by rw [z, hnx] at e; cases e) (X a o e)
      refine ih (fl := [(f, v)]) (dv := some dx) (s := ⟨h', g, d, tk', os⟩) ha' hl' hm' (by simp; omega) X' hnL hx' hsz' ?_ ?_ ?_
      · refine ⟨dx, rfl, Nat.le_trans hsz dn, dne, _, hn', fun y => ?_⟩
        rw [lookup_ite]
        rfl
      · intro dx' e
        cases e
        refine ⟨?_, ?_⟩
        · cases q : K.lookup dx with
          | none => rfl
          | some o => exact absurd (Heap.lt_size (X _ _ q)) (Nat.not_lt.mpr dn)
        · exact Ne.symm (Nat.ne_of_lt (Nat.lt_of_lt_of_le hLn (Nat.le_trans hsz dn)))
      · intro h2 tk2 dv2 k2 hx2 hd2
        refine hq h2 tk2 dv2 (fun b o hb _ e => k2 b o hb (fun z => ndl e (Option.some.inj z)) (k b o hb e)) hx2 ?_
        simpa using hd2
    | cons p0 fl =>
      obtain ⟨dx, rfl, dn, dne, mA, hns, hmA⟩ := hd
      obtain ⟨nK, nL⟩ := hdv dx rfl
      have hw : Within mA ((p0 :: fl).map (·.1)) := fun y hy => by
        rw [hmA y] at hy
        cases q : (p0 :: fl).lookup y with
        | none => exact absurd q hy
        | some u => exact List.mem_map_of_mem (f := (·.1)) (PySem.mem_of_lookup q)
      obtain ⟨oD, _, _, hoD, _, _⟩ := hns.count hw
      refine set_plain X (ox := excD C t0 (some dx)) (od := some oD) ⟨hx, rfl, rfl, hoD⟩ sa ?_
      refine PySem.OEX.osa_old X hx hns hw (by rw [List.length_map]; simp at hz' ⊢; omega) hcd hmr hh nov (fun h' tk' k hn' => ?_)
      have hnL : h'.Ns env.locals m := by
        obtain ⟨o, es, ep, ho, r⟩ := hn
        exact ⟨o, es, ep, k _ o (Ne.symm nL) ho, r⟩
      have hx' : h'.get? x = some (excD C t0 (some dx)) := k _ _ (Ne.symm dne) hx
      have hsz' : n ≤ h'.objs.size := by
        obtain ⟨o, es, ep, ho, r⟩ := hn'
        have z := Heap.lt_size ho
        exact Nat.le_of_lt (Nat.lt_of_le_of_lt dn z)
      have X' : K.In h' := fun a o e => k a o (fun z => by rw [z, nK] at e; cases e) (X a o e)
      refine ih (fl := (f, v) :: p0 :: fl) (dv := some dx) (s := ⟨h', g, d, tk', os⟩) ha' hl' hm' (by simp at hz' ⊢; omega) X' hnL hx' hsz' ?_ hdv ?_
      · refine ⟨dx, rfl, dn, dne, _, hn', fun y => ?_⟩
        rw [lookup_ite, hmA y]
      · intro h2 tk2 dv2 k2 hx2 hd2
        refine hq h2 tk2 dv2 (fun b o hb hb2 e => k2 b o hb hb2 (k b o (fun z => hb2 (by rw [z])) e)) hx2 ?_
        simpa using hd2
end
end ErrX
end PySem

set_option Elab.async false
set_option linter.all false
set_option maxRecDepth 100000
set_option maxHeartbeats 4000000
namespace PySem
namespace ErrX
open PySem.W PySem.Calls PyProof.Rows PySem.HandSPX
section
variable {prog : Program} {w : World} {A : Around} {E : Value → Shared → Prop} {K : Frag} {mg : Str → Option Value} {C fI : Addr} {R : Result → Shared → Prop}
/-- the call of super().__init__ as a wrapper -/
theorem call_mw {h : Heap} {g : Array GenState} {d : Drawn} {t : Nat} {os : OsState} {nm q : Str} {N : Addr} {bs bm : List Value} {hdct : Bool} {sn : List Str} {sub : List Value} {ab : Bool} {col : Option Bool} {dd : Option Addr} {k0 k1 k2 k3 k5 : Option Value} {u e t0 : Addr} {rest : List Value} {Q : Value → Shared → Prop}
    (hC : h.get? C = some (excClassObj nm q C N bs bm hdct sn sub ab col dd k0 k1 k2 k3 k5 "ValueError.__new__")) (he : h.get? e = some (excO C t0)) (hu : h.get? u = some (kxs_mw "ValueError.__init__" e)) (hrest : rest.length ≤ sizeLine)
    (hq : ∀ h' t1, (∀ b o, b ≠ e → h.get? b = some o → h'.get? b = some o) → h'.get? e = some (excO C t1) → Q .none ⟨h', g, d, t, os⟩) :
    wpAny (model prog w) A (call (.ref u) rest) Q E ⟨h, g, d, t, os⟩ := by
  refine wpAny_call (codeAny_of_tree ?_)
  show wpAny _ A.in1 (callAny (.ref u) ⟨rest, []⟩) _ _ _
  simp only [callAny]
  refine wpAny_bind (wpAny_load hu ?_)
  simp only [kxs_mw, show (Value.type "method-wrapper" == Value.type "method" || Value.type "method-wrapper" == Value.type "builtin_function_or_method" || Value.type "method-wrapper" == Value.type "method-wrapper") = true by decide, if_true]
  refine KFB.if_so (by decide) ?_
  refine wpAny_bind (check_bound_init PySem.F.excBase_ValueError.toExcCallFacts hC he rfl ?_)
  refine wpAny_bind (wpAny_pure (wpAny_pure ?_))
  refine ⟨plainId_quiet PySem.F.excBase_ValueError.init.plain _, codeAny_builtin PySem.F.excBase_ValueError.initEntry ?_⟩
  exact exc_init_tree (cls := .ref C) (t0 := t0) (dv := none) (c2 := .none) (c3 := .none) (b4 := .bool false) he hrest fun h' k e' _ => hq h' _ k e'
theorem str_size (v : Value) : [v].length ≤ sizeLine := by
  rw [sizeLine_eq]
  exact (by decide : 1 ≤ 16777216)
theorem run_init {x0 : Str} {fs : List Str} (T : ErrTxt prog K mg x0 C fI fs) (hfs : fs.length ≤ 100) {s : Shared} {x t0 : Addr} {vs : List Value} (hl : vs.length = fs.length) (X : K.In s.heap) (hlim : s.heap.NoLimit) (hg : s.heap.Ns mainGlobals mg)
    (hb : ∃ mb, s.heap.Ns builtinsNs mb ∧ ∀ y : Str, y ≠ "__name__" → mb y = bootBuiltins y) (hx : s.heap.get? x = some (excO C t0)) (hnx : K.lookup x = none) (hroom : A.depth < recursionLimit)
    (hq : ∀ h' tk t1 dv, (∀ b o, b ≠ x → s.heap.get? b = some o → h'.get? b = some o) → h'.get? x = some (excD C t1 dv) → DictOf x s.heap.objs.size h' (fs.zip vs).reverse dv → R (.ok (.ret .none)) { s with heap := h', toks := tk }) :
    codeAny (model prog w) A (.call (.ref fI) ⟨.ref x :: vs, []⟩) R s := by
  obtain ⟨oc, od, qual, params, scope, rest, doc, pm, an, cda, ct, cc, osl, txt, j, p0, p1, p2, p3, p4, p5, ar, ccl, cdd, cvs, ccs, file, tf, cl, cld, csl, lf, hcd, lcd, hvs, hfile, lcc, heq, htop, hhd, hself, hk, hco, hgen, hcell, hks, hkc, hks1, hkf, nd, hasg, hbind⟩ := T.fn
  obtain ⟨nm, q, N, bs, bm, sn, sub, ab, col, dd, k0, k1, k2, k3, k5, hC, hbm⟩ := T.cls
  have hcl : clsIn K C = some { name := nm, bases := bs, mro := .ref C :: bm, ns := N, qualname := q, hasDict := true, slotNames := sn, subclasses := sub, abstract := ab, collection := col, hasDel := false } := by unfold clsIn; rw [hC] <;> rfl
  have hxn : s.heap.objs.size ≠ x := Nat.ne_of_gt (Heap.lt_size hx)
  have hal := T.al
  unfold ks_superIn at hal
  rw [hcl] at hal
  refine ks_codeAny_call_defAt (binds := ((("self" : Str) :: fs)).zip (.ref x :: vs)) hroom (X _ _ lf) rfl hlim (codeRec_of X hcd) rfl (BindsTo.of_eq (hbind _ (by simp [hl]))) hcell (fun y hy => ?_) (fun h1 hn1 k1' => ?_) hco hgen hk
  · have := (List.of_mem_zip (show (y.1, y.2) ∈ _ from hy)).1
    rcases List.mem_cons.mp this with e | e
    · rw [e]; exact hks1
    · exact hkf _ e
  obtain ⟨hp, g, d, tk, os⟩ := s
  dsimp only at *
  have X1 : K.In h1 := X.keeps k1'
  have hx1 := k1' _ _ hx
  have mself : (fun y => (((("self" : Str) :: fs)).zip (.ref x :: vs)).reverse.lookup y) "self" = some (Value.ref x) := by
    refine lookup_rev ?_ (by simp [List.zip_cons_cons, List.lookup])
    rw [List.map_fst_zip (by simp [hl])]
    exact nd
  have mfs : ∀ p ∈ fs.zip vs, (fun y => (((("self" : Str) :: fs)).zip (.ref x :: vs)).reverse.lookup y) p.1 = some p.2 ∧ (ksEnv qual scope hp.objs.size fI (.ref cda) cc).kindOf p.1 = some .local ∧ findIn K (.ref C) p.1 = some none := by
    intro p hp'
    have hpf := (List.of_mem_zip (show (p.1, p.2) ∈ _ from hp')).1
    refine ⟨lookup_rev ?_ ?_, hkf _ hpf, T.no _ hpf⟩
    · rw [List.map_fst_zip (by simp [hl])]
      exact nd
    · have key : ∀ (m : List (Str × Value)), (m.map (·.1)).Nodup → p ∈ m → m.lookup p.1 = some p.2 := by
        intro m
        induction m with
        | nil => intro _ h; cases h
        | cons r m ih =>
          intro nd h
          obtain ⟨y, u⟩ := r
          rw [List.map_cons, List.nodup_cons] at nd
          rcases List.mem_cons.mp h with e | e
          · rw [e]; simp [List.lookup]
          · have hne : (p.1 == y) = false := by
              rw [beq_eq_false_iff_ne]
              rintro rfl
              exact nd.1 (List.mem_map_of_mem (f := (·.1)) e)
            simp [List.lookup, hne]
            exact ih nd.2 e
      refine key _ ?_ (by rw [List.zip_cons_cons]; exact List.mem_cons_of_mem _ hp')
      rw [List.map_fst_zip (by simp [hl])]
      exact nd
  generalize hm : (fun y => (((("self" : Str) :: fs)).zip (.ref x :: vs)).reverse.lookup y) = m at hn1 mself mfs
  have J : InstAt h1 x (excO C t0) C none := ⟨hx1, rfl, rfl, trivial⟩
  obtain ⟨oD, hD1, hD2⟩ : ∃ oD, h1.get? C = some oD ∧ ∃ cd, oD.data = .cls cd := ⟨_, X1 _ _ hC, _, rfl⟩
  obtain ⟨cdD, hD2⟩ := hD2
  obtain ⟨mb, hb1, hb2⟩ := hb
  have hint : interactive (callEnv (ksFn "__init__" qual params (.Expr (.Call (.Attribute (.Call (.Name "super" p0) [] [] p1) "__init__" p2) [.Constant (.str txt) j p3] [] p4) p5 :: rest) scope .none .none doc pm an (.ref cda) ct cc) hp.objs.size fI) = false := by
    show (scope.kind == .module && _) = false
    rw [hk]
    rfl
  -- super().__init__('..')
  refine ks_wpAt_execs_cons (ks_wpAt_Expr_any (ks_wpAt_MethodCall ?_ (heq _)) hint)
  refine ks_wpAt_super_base (env := ksEnv qual scope hp.objs.size fI (.ref cda) cc) hks hkc (by decide) rfl (X1 _ _ lf) rfl hhd rfl (X1 _ _ lcd) rfl hvs hfile htop ?_
  refine ks_loadName_global hk hks (loadGlobal_builtin (env := ksEnv qual scope hp.objs.size fI (.ref cda) cc) (hg.keeps k1') T.gS (hb1.keeps k1') ((hb2 _ (by decide)).trans (by decide +kernel : bootBuiltins "super" = some (.type "super"))) ⟨rfl, ?_⟩)
  refine wpAny_loadName_free hk hkc rfl ⟨_, X1 _ _ lcc, rfl⟩ ?_
  rw [hself]
  refine wpAny_loadName_local hk hks1 hn1 mself ?_
  refine ks_wpAny_isType_cls hD1 hD2 ⟨rfl, ?_⟩
  refine ks_wpAny_call_super hD1 hD2 J.at_ J.cls (fun c e => ?_) (looks_mroIn X1 T.slf) (fun h2 hso k2 => ?_)
  · cases e
  have X2 : K.In h2 := X1.keeps k2
  have hx2 := k2 _ _ hx1
  have J2 : InstAt h2 x (excO C t0) C none := ⟨hx2, rfl, rfl, trivial⟩
  refine kxs_getMethod (l₀ := Value.ref C :: bm) kxs_ValueError hso (looks_opaque X2 T.op) ?_ rfl X2 hal (J2.type.andThen (looks_subIn X2 T.veC)) (fun z => by rw [z, hC] at hnx; cases hnx) (by decide) ?_
  · exact fun A Q E s k q => wpAny_bind ((looks_clsIn X2 hcl) A _ E s k (wpAny_pure q))
  have hmw : (h2.push (kxs_mw "ValueError.__init__" x)).get? h2.objs.size = some (kxs_mw "ValueError.__init__" x) := Heap.get?_push_at rfl rfl
  have k3' : ∀ b o, h2.get? b = some o → (h2.push (kxs_mw "ValueError.__init__" x)).get? b = some o := fun b o e => Heap.get?_push_of_some _ e
  refine kxs_callWith (i := "ValueError.__init__") (x := x) (by rfl) ?_
  refine evalArgs_plain (spliced_cons (Constant_str (k := j) (pos := p3) (spliced_nil ?_)))
  refine ⟨hmw, ?_⟩
  refine call_mw (k3' _ _ (X2 _ _ hC)) (k3' _ _ hx2) hmw (str_size _) fun h4 t4 k4 hx4 => ?_
  have kA : ∀ b o, b ≠ x → h1.get? b = some o → h4.get? b = some o := fun b o hb e => k4 b o hb (k3' b o (k2 b o e))
  have X4 : K.In h4 := fun a o e => kA a o (fun z => by rw [z, hnx] at e; cases e) (X1 a o e)
  have hnL : h4.Ns hp.objs.size m := by
    obtain ⟨o, es, ep, ho, r⟩ := hn1
    exact ⟨o, es, ep, kA _ o hxn ho, r⟩
  have hs4 : hp.objs.size < h4.objs.size := by
    obtain ⟨o, es, ep, ho, r⟩ := hnL
    exact Heap.lt_size ho
  refine wpAt_of_wpAny ?_
  refine run_asgs (env := ksEnv qual scope hp.objs.size fI (.ref cda) cc) (n := hp.objs.size + 1) (fl := []) (dv := none) (s := ⟨h4, g, d, _, os⟩) hcl (show refsVE (.ref C :: bm) = true from hbm) rfl T.sa hnx hk hks1 mself hxn (Nat.lt_succ_self _) hasg hl mfs (by simp; omega) X4 hnL hx4 hs4 rfl (fun dx e => nomatch e) ?_
  intro h' tk' dv' k' hx' hd'
  refine hq h' tk' t4 dv' (fun b o hb e => k' b o hb (fun z => nomatch z) (kA b o hb (k1' b o e))) hx' ?_
  rw [List.append_nil] at hd'
  cases hz : (fs.zip vs).reverse with
  | nil =>
    rw [hz] at hd'
    exact hd'
  | cons p r =>
    rw [hz] at hd'
    obtain ⟨dx, e, dn, r⟩ := hd'
    exact ⟨dx, e, Nat.le_of_succ_le dn, r⟩
/-- what is made by C(..) -/
structure Made (h h' : Heap) (e C : Addr) (dv : Option Addr) (fl : List (Str × Value)) : Prop where
  keep : ∀ b o, h.get? b = some o → h'.get? b = some o
  new : h.objs.size ≤ e
  obj : ∃ t1, h'.get? e = some (excD C t1 dv)
  dct : DictOf e h.objs.size h' fl dv
theorem run_made {x0 : Str} {fs : List Str} (T : ErrTxt prog K mg x0 C fI fs) (hfs : fs.length ≤ 100) {s : Shared} {vs : List Value} (hl : vs.length = fs.length) (X : K.In s.heap) (hlim : s.heap.NoLimit) (hg : s.heap.Ns mainGlobals mg)
    (hb : ∃ mb, s.heap.Ns builtinsNs mb ∧ ∀ y : Str, y ≠ "__name__" → mb y = bootBuiltins y) (hroom : A.depth + 1 < recursionLimit)
    (hq : ∀ h' tk e dv, Made s.heap h' e C dv (fs.zip vs).reverse → R (.ok (.ret (.ref e))) { s with heap := h', toks := tk }) :
    codeAny (model prog w) A (.call (.ref C) ⟨vs, []⟩) R s := by
  obtain ⟨nm, q, N, bs, bm, sn, sub, ab, col, dd, k0, k1, k2, k3, k5, hC, hbm⟩ := T.cls
  obtain ⟨hp, g, dr, tk, os⟩ := s
  have k : ∀ b o, hp.get? b = some o → ((hp.push (kdv_tup vs)).push (excO C hp.objs.size)).get? b = some o := fun b o e => Heap.get?_push_of_some _ (Heap.get?_push_of_some _ e)
  have hget : ((hp.push (kdv_tup vs)).push (excO C hp.objs.size)).get? (hp.objs.size + 1) = some (excO C hp.objs.size) := by heap_get
  have hnx : K.lookup (hp.objs.size + 1) = none := by
    cases e : K.lookup (hp.objs.size + 1) with
    | none => rfl
    | some o =>
      have z : hp.get? (hp.objs.size + 1) = some o := X _ _ e
      exact absurd (Nat.lt_of_succ_lt (Heap.lt_size z)) (Nat.lt_irrefl _)
  obtain ⟨mb, hb1, hb2⟩ := hb
  have hvl : vs.length ≤ sizeLine := by rw [hl, sizeLine_eq]; omega
  refine call_own PySem.F.excBase_ValueError (fun X => refsVE_contains X bm hbm) (X _ _ hC) (looks_findIn X T.iC) (fun self => bind_fn X self T.tC) hvl ?_
  refine run_init (s := ⟨(hp.push (kdv_tup vs)).push (excO C hp.objs.size), g, dr, tk, os⟩) T hfs hl (X.keeps k) (hlim.keeps k) (hg.keeps k) ⟨mb, hb1.keeps k, hb2⟩ hget hnx ?_ fun h' tk' t1 dv k' hx hd => ?_
  · show A.depth + 1 < recursionLimit
    exact hroom
  · have old : ∀ b o, hp.get? b = some o → h'.get? b = some o := fun b o e => k' b o (Nat.ne_of_lt (Nat.lt_succ_of_lt (Heap.lt_size e))) (k b o e)
    refine ⟨rfl, hq h' tk' (hp.objs.size + 1) dv ⟨old, Nat.le_succ _, ⟨_, hx⟩, ?_⟩⟩
    cases hz : (fs.zip vs).reverse with
    | nil =>
      rw [hz] at hd
      exact hd
    | cons p r =>
      rw [hz] at hd
      obtain ⟨dx, e, dn, r⟩ := hd
      refine ⟨dx, e, Nat.le_trans ?_ dn, r⟩
      simp only [Heap.size_push]
      exact Nat.le_trans (Nat.le_succ _) (Nat.le_succ _)
end
end ErrX
end PySem
namespace L2
open PySem PySem.Spec PyProof.Rows
theorem relO_zip {vs : List V} {us : List Value} (r : Vals vs us) : ∀ (fs : List Str), fs.length = vs.length → ∀ f, RelO ((fs.zip vs).lookup f) ((fs.zip us).lookup f) := by
  induction r with
  | nil => intro fs h f; simp; trivial
  | cons rv rr ih =>
    intro fs h f
    cases fs with
    | nil => cases h
    | cons g fs =>
      rw [List.zip_cons_cons, List.zip_cons_cons, lookup_put, PySem.ErrX.lookup_ite]
      by_cases e : f = g
      · rw [if_pos e, if_pos e]; exact rv
      · rw [if_neg e, if_neg e]; exact ih fs (by simpa using h) f
theorem vals_reverse {vs : List V} {us : List Value} (r : Vals vs us) : Vals vs.reverse us.reverse := by
  induction r with
  | nil => exact .nil
  | cons rv rr ih =>
    rw [List.reverse_cons, List.reverse_cons]
    exact Vals.append ih (.cons rv .nil)
section
variable {X : Cx} {C fI : Addr}
/-- C(e, ..), an own error with the fields fs -/
def errQ (C : Addr) (fs : List Str) (vs : List V) (H1 : Hp) (Q : XK) : Prop :=
  match fs with
  | [] => Q (.ref C) none H1
  | f :: r => ∀ d, H1 d = none → Q (.ref C) (some d) (upd H1 d (.xd ((f :: r).reverse.zip vs.reverse)))
def tMkErr (C : Addr) (fs : List Str) (ta : TA) : St → Hp → XK → Prop := fun σ H Q => ta σ H fun vs H1 => vs.length = fs.length ∧ errQ C fs vs H1 Q
theorem mk_err_end {x0 : Str} {fs : List Str} {pins : List (Addr × Obj)} {σ : St} {H1 : Hp} {Q : XK} {s1 : Shared} {us : List Value} {vs : List V} (T : PySem.ErrX.ErrTxt X.prog X.K X.mg x0 C fI fs) (hfs : fs.length ≤ 100) {k : Nat} (hr : Room k X.A)
    (I1 : Inv X pins σ H1 s1) (r1 : Vals vs us) (hl : vs.length = fs.length) (q : errQ C fs vs H1 Q) :
    wpAny (model X.prog X.w) X.A (call (.ref C) us) (MkP X pins σ Q) X.xe s1 := by
  have hlim := I1.nolimit
  obtain ⟨mb, hb1, hb2⟩ := I1.mod.blt
  have hul : us.length = fs.length := by rw [← r1.length]; exact hl
  obtain ⟨hp, g, dr, tk, os⟩ := s1
  refine wpAny_call (PySem.ErrX.run_made (A := X.A) T hfs hul I1.kIn hlim (I1.mod.glob.keeps I1.bk) ⟨mb, hb1.keeps I1.bk, hb2⟩ (by have := hr.dp; omega) fun h' tk' e dv M => ?_)
  show MkP X pins σ Q (.ref e) ⟨h', g, dr, tk', os⟩
  obtain ⟨t1, hoe⟩ := M.obj
  have hzip : (fs.zip us).reverse = fs.reverse.zip us.reverse := by
    have hz := List.reverse_zipWith (f := Prod.mk) (l := fs) (l' := us) (by rw [hul])
    simpa [List.zip] using hz
  have hd := M.dct
  rw [hzip] at hd
  cases fs with
  | nil =>
    have e0 : dv = none := by simpa [PySem.ErrX.DictOf] using hd
    subst e0
    obtain ⟨G', g1, g2⟩ := restrict h' fun b => decide (b ≠ e)
    have gk : ∀ b, b ≠ e → G'.get? b = h'.get? b := fun b hb => g1 b (decide_eq_true hb)
    have ge : G'.get? e = none := g2 e (by simp)
    have old : ∀ b o, hp.get? b = some o → G'.get? b = some o := fun b o q => (gk b (Nat.ne_of_lt (Nat.lt_of_lt_of_le (Heap.lt_size q) M.new))).trans (M.keep b o q)
    have J : Inv X pins σ H1 ⟨G', g, dr, tk', os⟩ := I1.kept (t' := tk') old
    refine ⟨e, _, _, ⟨G', g, dr, tk', os⟩, _, .ref C, none, rfl, J, fun b o q => ?_, ge, hoe, ⟨rfl, rfl⟩, rfl, rfl, I1.hok.fresh M.new, rfl, I1.bare, raises_own T.exC T.tyC, q⟩
    by_cases hb : b = e
    · have q' : G'.get? b = some o := q
      rw [hb, ge] at q'; cases q'
    · exact (gk b hb).symm.trans q
  | cons f fs =>
    have hne : ∃ p r, (f :: fs).reverse.zip us.reverse = p :: r := by
      cases hz : (f :: fs).reverse.zip us.reverse with
      | nil =>
        have := congrArg List.length hz
        rw [List.length_zip, List.length_reverse, List.length_reverse, hul] at this
        simp at this
      | cons p r => exact ⟨p, r, rfl⟩
    obtain ⟨p, r, hne⟩ := hne
    rw [hne] at hd
    obtain ⟨d, e0, dn, dne, mA, hns, hmA⟩ := hd
    subst e0
    rw [← hne] at hmA
    obtain ⟨G', g1, g2⟩ := restrict h' fun b => decide (b ≠ e)
    have gk : ∀ b, b ≠ e → G'.get? b = h'.get? b := fun b hb => g1 b (decide_eq_true hb)
    have ge : G'.get? e = none := g2 e (by simp)
    have old : ∀ b o, hp.get? b = some o → G'.get? b = some o := fun b o q => (gk b (Nat.ne_of_lt (Nat.lt_of_lt_of_le (Heap.lt_size q) M.new))).trans (M.keep b o q)
    have ob : ObjOk X.prog X.w (upd H1 d (.xd ((f :: fs).reverse.zip vs.reverse))) G' d (.xd ((f :: fs).reverse.zip vs.reverse)) :=
      ⟨mA, hns.at (fun o q => (gk d dne).trans q), fun y => by rw [hmA y]; exact relO_zip (vals_reverse r1) _ (by rw [List.length_reverse, List.length_reverse, hl]) y⟩
    have J : Inv X pins σ (upd H1 d (.xd ((f :: fs).reverse.zip vs.reverse))) ⟨G', g, dr, tk', os⟩ := I1.laid (t' := tk') old dn ob
    refine ⟨e, _, _, ⟨G', g, dr, tk', os⟩, _, .ref C, some d, rfl, J, fun b o q => ?_, ge, hoe, ⟨rfl, rfl⟩, rfl, rfl, ?_, rfl, I1.bare, raises_own T.exC T.tyC, q d (I1.hok.fresh dn)⟩
    · by_cases hb : b = e
      · have q' : G'.get? b = some o := q
        rw [hb, ge] at q'; cases q'
      · exact (gk b hb).symm.trans q
    · rw [upd_ne (Ne.symm dne)]
      exact I1.hok.fresh M.new
theorem pmk_err {x0 : Str} {fs : List Str} {a : Expr} {es : List Expr} {ta : TA} {p pos : Pos} {k : Nat} (T : PySem.ErrX.ErrTxt X.prog X.K X.mg x0 C fI fs) (hfs : fs.length ≤ 100) (hr : Room k X.A) (ha : PA X (a :: es) ta) (hg : Gl X x0 := by rfl) (hdb : (x0 == ("__debug__" : Str)) = false := by decide)
    (he : starEach (a :: es) X.env = (false, eval a X.env) :: starEach es X.env := by rfl) (hpl : (backTo pos (starEach es X.env)).any (·.1) = false := by rfl) :
    PMk X (.Call (.Name x0 p) (a :: es) [] pos) (tMkErr C fs ta) := by
  intro pins s σ H Q I h
  refine wpAny_Call_Name_kw (ld_glob I hg T.gC ?_ hdb)
  refine PySem.W.callWith_K (h₀ := X.base) I.ok.mod.kin T.kC (thn (ha.run pos pins s σ H _ I h) fun us s1 hh => ?_) he hpl
  obtain ⟨vs, H1, I1, r1, hl, q⟩ := hh
  exact ⟨I1.kIn, mk_err_end T hfs hr I1 r1 hl q⟩
theorem pmk_err0 {x0 : Str} {p pos : Pos} {k : Nat} (T : PySem.ErrX.ErrTxt X.prog X.K X.mg x0 C fI []) (hr : Room k X.A) (hg : Gl X x0 := by rfl) (hdb : (x0 == ("__debug__" : Str)) = false := by decide) :
    PMk X (.Call (.Name x0 p) [] [] pos) (tMkErr C [] tNil) := by
  intro pins s σ H Q I h
  obtain ⟨hl, q⟩ := h
  refine wpAny_Call_Name_kw (ld_glob I hg T.gC ?_ hdb)
  exact PySem.W.callWith_K0 I.kIn T.kC (mk_err_end (us := []) (vs := []) T (Nat.zero_le _) hr I .nil rfl q)
end
end L2

set_option Elab.async false
set_option linter.all false
set_option maxRecDepth 100000
set_option maxHeartbeats 4000000
/-! Calls, makings and operators by defs of one's own, each as one rule. -/
namespace MyL
open PySem PySem.Spec PyProof.Rows L2
/-- a def of the module by its name -/
structure Cal (P : Program) (w : World) (K : PySem.W.Frag) (mg : Str → Option Value) (base : Heap) (k : Nat) (x : Str) (sp : Sp) : Prop where
  ex : ∃ (f : Addr) (fd : FuncData) (ps : List Str), mg x = some (.ref f) ∧ PySem.W.keepIn K (.ref f) = true ∧ Binds K fd ps [] ∧ FnOk P w K mg base (L2.CX P w) k f fd ps sp
/-- a class of the module by its name, made by its __init__ -/
structure Mak (P : Program) (w : World) (K : PySem.W.Frag) (mg : Str → Option Value) (base : Heap) (k : Nat) (x : Str) (C : Addr) (sp : Sp) : Prop where
  ex : ∃ (f : Addr) (fd : FuncData) (ps : List Str), mg x = some (.ref C) ∧ Mk K C f ∧ Binds K fd ps [] ∧ FnOk P w K mg base (L2.CX P w) k f fd ps sp
/-- a method of the class at C -/
structure Met (P : Program) (w : World) (K : PySem.W.Frag) (mg : Str → Option Value) (base : Heap) (k : Nat) (C : Addr) (m : Str) (sp : Sp) : Prop where
  ex : ∃ (f : Addr) (fd : FuncData) (ps : List Str), Cls K C ∧ Meth K C m f ∧ Binds K fd ps [] ∧ FnOk P w K mg base (L2.CX P w) k f fd ps sp
section
variable {P : Program} {w : World} {K : PySem.W.Frag} {mg : Str → Option Value} {base : Heap} {k : Nat} {x m : Str} {C : Addr} {sp : Sp}
theorem raw0 {CX : CXT} {f : Addr} {fd : FuncData} {ps : List Str} (F : FnOk P w K mg base CX k f fd ps sp) (hb : Binds K fd ps []) : FnR P w K mg base CX k f sp := by
  have h := F.raw hb (dvs := []) .nil
  intro A outer s H us vs Q E hr e0 r hs
  exact h A outer s H us vs Q E hr e0 r (by show sp (vs ++ []) H Q E; rw [List.append_nil]; exact hs)
end
section
variable {X : Cx} {W : WX} {pins : List (Addr × Obj)} {σ : L2.St} {H : Hp} {s : Shared} {k : Nat} {f C : Addr} {sp : Sp} {Q : VK} {us : List Value} {vs : List V}
/-- the callee runs below the running body, what it raises goes to W -/
theorem run_S {A : Around} (F : FnR X.prog X.w X.K X.mg X.base (L2.CX X.prog X.w) k f sp) (tk : Takes X W) (hr : Room k A) (e0 : Env0 X.prog X.w X.K X.mg X.base A X.stack s H) (I : Inv X pins σ H s) (r : Vals vs us) (h : sp vs H Q (WE W σ)) :
    codeAny (model X.prog X.w) A (.call (.ref f) ⟨us, []⟩) (fun r s' => match r with | .ok (.ret v) => EP X pins σ Q v s' | .ok _ => False | .error e => X.xe e s') s := by
  refine codeAny_mono (F A X.stack s H us vs Q (WE W σ) hr e0 r h) fun r s' hq => ?_
  match r, hq with
  | .error e, hq => exact passAt tk σ pins H s e s' I hq
  | .ok (.ret u), hq => exact I.after hq
  | .ok .next, hq => exact hq.elim
  | .ok .brk, hq => exact hq.elim
  | .ok .cont, hq => exact hq.elim
/-- C(..) with what __init__ raises going to W -/
theorem make_S {fd : FuncData} {ps : List Str} (M : Mk X.K C f) (F : FnOk X.prog X.w X.K X.mg X.base (L2.CX X.prog X.w) k f fd ps sp) (tk : Takes X W) (hr : Room (k + 1) X.A) (hb : Binds X.K fd ps []) (I : Inv X pins σ H s) (r : Vals vs us)
    (h : ∀ x dx, H x = none → H dx = none → dx ≠ x → sp (.ref x :: vs) (upd (upd H dx (.own x)) x (.ins C dx [])) (fun v H2 => v = .non ∧ Q (.ref x) H2) (WE W σ)) :
    wpAny (model X.prog X.w) X.A (call (.ref C) us) (EP X pins σ Q) X.xe s := by
  have hq := h (s.heap.objs.size + 1) s.heap.objs.size (I.hok.fresh (Nat.le_succ _)) (I.hok.fresh (Nat.le_refl _)) (Nat.ne_of_lt (Nat.lt_succ_self _))
  have I2 := Inv.made (C := C) I
  have r2 : Vals (V.ref (s.heap.objs.size + 1) :: vs) (Value.ref (s.heap.objs.size + 1) :: us) := .cons rfl r
  have hl : (Value.ref (s.heap.objs.size + 1) :: us ++ []).length = ps.length := by
    rw [List.append_nil, ← r2.length]; exact F.len _ _ _ _ hq
  have hbd := hb _ (Value.ref (s.heap.objs.size + 1) :: us) I2.kIn hl
  rw [List.append_nil] at hbd
  refine wpAny_call (make_map (f := f) I.kIn M.makes M.init (beq_iff_eq.mp M.fn) (codeAny_mono (F.run _ X.stack _ _ ⟨Value.ref (s.heap.objs.size + 1) :: us, []⟩ _ _ _ (WE W σ) (hr.make C us [])
    (I2.env0.make C us []) hbd r2 hq) fun r s' hq' => ?_))
  match r, hq' with
  | .error e, hq' => exact passAt tk σ pins _ _ e s' I2 hq'
  | .ok (.ret u), hq' =>
    obtain ⟨v, H', I3, rv, ev, q3⟩ := I2.after hq'
    subst ev
    exact ⟨rv, ⟨V.ref (s.heap.objs.size + 1), H', I3, rfl, q3⟩⟩
  | .ok .next, hq' => exact hq'.elim
  | .ok .brk, hq' => exact hq'.elim
  | .ok .cont, hq' => exact hq'.elim
end
/-! ### the rules -/
def tMakeS (C : Addr) (sp : Sp) (W : WX) (t : TA) : TE := fun σ H Q => t σ H fun vs H1 => ∀ x dx, H1 x = none → H1 dx = none → dx ≠ x → sp (.ref x :: vs) (upd (upd H1 dx (.own x)) x (.ins C dx [])) (fun v H2 => v = .non ∧ Q (.ref x) H2) (WE W σ)
def tMethS (C : Addr) (m : Str) (sp : Sp) (W : WX) (ta : TE) (t : TA) : TE := fun σ H Q => ta σ H fun x H1 => ∃ a dx fs, x = .ref a ∧ H1 a = some (.ins C dx fs) ∧ fs.lookup m = none ∧ t σ H1 fun vs H2 => sp (.ref a :: vs) H2 Q (WE W σ)
section
variable {X : Cx} {W : WX} {k j : Nat} {C : Addr} {sp : Sp} {x m : Str} {p pos apos : Pos} {e o : Expr} {es : List Expr} {ta : TE} {t : TA}
theorem c_call (c : Cal X.prog X.w X.K X.mg X.base k x sp) (tk : Takes X W) (hr : Room j X.A) (hk : k ≤ j) (ha : PA X (e :: es) t) (hg : Gl X x := by rfl)
    (hdb : (x == ("__debug__" : Str)) = false := by decide) (he : starEach (e :: es) X.env = (false, eval e X.env) :: starEach es X.env := by rfl) (hpl : (backTo pos (starEach es X.env)).any (·.1) = false := by rfl) :
    PE X (.Call (.Name x p) (e :: es) [] pos) (tCallS sp (WE W) t) := by
  obtain ⟨f, fd, ps, hm, kp, b, F⟩ := c.ex
  exact pe_callS F (hr.mono hk) hg hm kp b (fun σ => passAt tk σ) ha hdb he hpl
theorem c_call0 (c : Cal X.prog X.w X.K X.mg X.base k x sp) (tk : Takes X W) (hr : Room j X.A) (hk : k ≤ j) (hg : Gl X x := by rfl)
    (hdb : (x == ("__debug__" : Str)) = false := by decide) : PE X (.Call (.Name x p) [] [] pos) (tCallS sp (WE W) tNil) := by
  obtain ⟨f, fd, ps, hm, kp, b, F⟩ := c.ex
  refine ⟨fun pins s σ H Q I h => ?_⟩
  exact wpAny_Call_Name_kw (ld_glob I hg hm (PySem.W.callWith_K0 I.kIn kp (run_fnS (E := WE W) (us := []) F (hr.mono hk) b (passAt tk σ) I .nil h)) hdb)
theorem c_make (c : Mak X.prog X.w X.K X.mg X.base k x C sp) (tk : Takes X W) (hr : Room j X.A) (hk : k + 1 ≤ j) (ha : PA X (e :: es) t) (hg : Gl X x := by rfl)
    (hdb : (x == ("__debug__" : Str)) = false := by decide) (he : starEach (e :: es) X.env = (false, eval e X.env) :: starEach es X.env := by rfl) (hpl : (backTo pos (starEach es X.env)).any (·.1) = false := by rfl) :
    PE X (.Call (.Name x p) (e :: es) [] pos) (tMakeS C sp W t) := by
  obtain ⟨f, fd, ps, hm, M, b, F⟩ := c.ex
  refine ⟨fun pins s σ H Q I h => ?_⟩
  refine wpAny_Call_Name_kw (ld_glob I hg hm ?_ hdb)
  refine PySem.W.callWith_K (h₀ := X.base) I.ok.mod.kin M.kp (thn (ha.run pos pins s σ H _ I h) fun us s1 hh => ?_) he hpl
  obtain ⟨vs, H1, I1, r, q⟩ := hh
  exact ⟨I1.kIn, make_S M F tk (hr.mono hk) b I1 r q⟩
theorem c_meth {pl : Sem Bool} (c : Met X.prog X.w X.K X.mg X.base k C m sp) (tk : Takes X W) (hr : Room j X.A) (hk : k ≤ j) (ho : PE X o ta) (ha : PA X (e :: es) t)
    (hst : starEach (e :: es) X.env = (false, eval e X.env) :: starEach es X.env := by rfl) (hpl : (backTo pos (starEach es X.env)).any (·.1) = false := by rfl)
    (ht : eval (.Call (.Attribute o m apos) (e :: es) [] pos) X.env = (do
      let ov ← eval o X.env
      standAt apos.atName
      let (f, first) ← holding [ov] (getMethod ov m pl)
      callWith pos f first (backTo pos (starEach (e :: es) X.env)) (backToKw pos (keywordEach [] X.env))) := by rfl) :
    PE X (.Call (.Attribute o m apos) (e :: es) [] pos) (tMethS C m sp W ta t) := by
  obtain ⟨f, fd, ps, cl, hm, b, F⟩ := c.ex
  refine ⟨fun pins s σ H Q I h => ?_⟩
  refine PySem.W.methodCall_KW (pl := pl) (thn (ho.run pins s σ H _ I h) fun u s1 hh => ?_) ht
  obtain ⟨x, H1, I1, rx, a, dx, fs, ex, ea, l, q⟩ := hh
  subst ex
  obtain rfl : u = Value.ref a := rx
  refine getmeth_ok I1 ea cl hm l ?_
  refine PySem.W.callWith_K (first := [.ref a]) (h₀ := X.base) I.ok.mod.kin hm.kp (thn (ha.run pos pins s1 σ H1 _ I1 q) fun us s2 hh => ?_) hst hpl
  obtain ⟨vs, H2, I2, r, q2⟩ := hh
  exact ⟨I2.kIn, run_fnS (E := WE W) (us := .ref a :: us) (vs := .ref a :: vs) F (hr.mono hk) b (passAt tk σ) I2 (.cons rfl r) q2⟩
theorem c_meth0 {pl : Sem Bool} (c : Met X.prog X.w X.K X.mg X.base k C m sp) (tk : Takes X W) (hr : Room j X.A) (hk : k ≤ j) (ho : PE X o ta)
    (ht : eval (.Call (.Attribute o m apos) [] [] pos) X.env = (do
      let ov ← eval o X.env
      standAt apos.atName
      let (f, first) ← holding [ov] (getMethod ov m pl)
      callWith pos f first (backTo pos (starEach [] X.env)) (backToKw pos (keywordEach [] X.env))) := by rfl) :
    PE X (.Call (.Attribute o m apos) [] [] pos) (tMethS C m sp W ta tNil) := by
  obtain ⟨f, fd, ps, cl, hm, b, F⟩ := c.ex
  refine ⟨fun pins s σ H Q I h => ?_⟩
  refine PySem.W.methodCall_KW (pl := pl) (thn (ho.run pins s σ H _ I h) fun u s1 hh => ?_) ht
  obtain ⟨x, H1, I1, rx, a, dx, fs, ex, ea, l, q⟩ := hh
  subst ex
  obtain rfl : u = Value.ref a := rx
  refine getmeth_ok I1 ea cl hm l ?_
  exact PySem.W.callWith_K0 (first := [.ref a]) I1.kIn hm.kp (run_fnS (E := WE W) (us := [.ref a]) (vs := [.ref a]) F (hr.mono hk) b (passAt tk σ) I1 (.cons rfl .nil) q)
end
/-! ### operators by own methods -/
/-- the class at C has the def for the special name at f -/
structure Spc (P : Program) (w : World) (K : PySem.W.Frag) (mg : Str → Option Value) (base : Heap) (k : Nat) (C : Addr) (m : Str) (sp : Sp) : Prop where
  ex : ∃ f : Addr, PySem.W.findIn K (.ref C) m = some (some (.ref f)) ∧ PySem.W.isFn K (.ref f) = true ∧ FnR P w K mg base (L2.CX P w) k f sp
/-- a + n and the like, n a whole number -/
structure NumC (K : PySem.W.Frag) (C : Addr) (op : Operator) : Prop where
  sf : PySem.W.selfFirst K C = true
  r : PySem.W.findIn K (.ref C) (dunderR op.info.2) = some none
  it : PySem.W.subIn K (.type "int") (.ref C) = some false
  i1 : ∃ fo, PySem.W.findIn K (.type "int") (PySem.dunder op.info.2) = some fo
  i2 : ∃ ro, PySem.W.findIn K (.type "int") (dunderR op.info.2) = some ro
def tOwnN (C : Addr) (sp : Sp) (W : WX) (ta tb : TE) : TE := fun σ H Q => ta σ H fun x H1 => tb σ H1 fun y H2 => ∃ a dx fs j, x = .ref a ∧ y = .int j ∧ H2 a = some (.ins C dx fs) ∧ sp [.ref a, .int j] H2 Q (WE W σ)
def tOwnO (C : Addr) (sp : Sp) (W : WX) (ta tb : TE) : TE := fun σ H Q => ta σ H fun x H1 => tb σ H1 fun y H2 => ∃ a dx fs b dy gs, x = .ref a ∧ y = .ref b ∧ H2 a = some (.ins C dx fs) ∧ H2 b = some (.ins C dy gs) ∧ sp [.ref a, .ref b] H2 Q (WE W σ)
def rOwnEq (C : Addr) (sp : Sp) : R2 := fun x y H Q => ∃ a dx fs b dy gs, x = .ref a ∧ y = .ref b ∧ H a = some (.ins C dx fs) ∧ H b = some (.ins C dy gs) ∧ sp [.ref a, .ref b] H (fun v H' => ∃ c, v = .bl c ∧ Q v H') (fun _ _ _ => False)
def rOwnIn (C : Addr) (sp : Sp) : R2 := fun y x H Q => ∃ a dx fs, x = .ref a ∧ H a = some (.ins C dx fs) ∧ sp [.ref a, y] H (fun v H' => ∃ c, v = .bl c ∧ Q v H') (fun _ _ _ => False)
def rOwnU (C : Addr) (sp : Sp) : V → Hp → VK → Prop := fun x H Q => ∃ a dx fs, x = .ref a ∧ H a = some (.ins C dx fs) ∧ sp [.ref a] H Q (fun _ _ _ => False)
def rOwnStr (C : Addr) (sp : Sp) : List V → Hp → VK → Prop := fun xs H Q => ∃ a dx fs, xs = [.ref a] ∧ H a = some (.ins C dx fs) ∧ sp [.ref a] H (fun v H' => ∃ z, v = .str z ∧ Q v H') (fun _ _ _ => False)
section
variable {X : Cx} {W : WX} {k j : Nat} {C : Addr} {sp : Sp} {a b : Expr} {ta tb : TE} {pos : Pos}
theorem c_opN {op : Operator} (c : Spc X.prog X.w X.K X.mg X.base k C (PySem.dunder op.info.2) sp) (n : NumC X.K C op) (tk : Takes X W) (hr : Room j X.A) (hk : k ≤ j) (ha : PE X a ta) (hb : PE X b tb) : PE X (.BinOp a op b pos) (tOwnN C sp W ta tb) := by
  obtain ⟨f, hs, hf, F⟩ := c.ex
  obtain ⟨fo, h1⟩ := n.i1
  obtain ⟨ro, h2⟩ := n.i2
  refine ⟨fun pins s σ H Q I h => wpAny_BinOp (binT ha hb I h fun v u s2 x y H2 I2 rx ry q => ?_)⟩
  obtain ⟨p, dx, fs, i, rfl, rfl, hp, hsp⟩ := q
  obtain rfl : v = Value.ref p := rx
  obtain ⟨t, rfl⟩ := ry
  obtain ⟨mA, J, _⟩ := ins_get I2.hok hp
  obtain ⟨od, J, _⟩ := J.look
  obtain ⟨m, hF⟩ := I2.fr
  refine PySem.W.ksp_binT (T := "int") (rc := none) hF I2.ok.mod.kin J rfl n.sf hs hf n.r (.inl rfl) h1 h2 n.it ?_
  refine wpAny_mono (wpAny_call (run_S (us := [.ref p, .int i t]) (vs := [.ref p, .int i]) F tk (hr.mono hk) I2.env0 I2 (.cons rfl (.cons ⟨t, rfl⟩ .nil)) hsp)) (fun w s' z => ?_) fun _ _ x => x
  obtain ⟨z', H', I', rz, qz⟩ := z
  exact SlX.cmpback rz ⟨z', H', I', rz, qz⟩
theorem c_opO {op : Operator} (c : Spc X.prog X.w X.K X.mg X.base k C (PySem.dunder op.info.2) sp) (sf : PySem.W.selfFirst X.K C = true) (tk : Takes X W) (hr : Room j X.A) (hk : k ≤ j) (ha : PE X a ta) (hb : PE X b tb) : PE X (.BinOp a op b pos) (tOwnO C sp W ta tb) := by
  obtain ⟨f, hs, hf, F⟩ := c.ex
  refine ⟨fun pins s σ H Q I h => wpAny_BinOp (binT ha hb I h fun v u s2 x y H2 I2 rx ry q => ?_)⟩
  obtain ⟨p, dx, fs, p2, dy, gs, rfl, rfl, hp, hp2, hsp⟩ := q
  obtain rfl : v = Value.ref p := rx
  obtain rfl : u = Value.ref p2 := ry
  obtain ⟨mA, J, _⟩ := ins_get I2.hok hp
  obtain ⟨od, J, _⟩ := J.look
  obtain ⟨mB, J', _⟩ := ins_get I2.hok hp2
  obtain ⟨od', J', _⟩ := J'.look
  obtain ⟨m, hF⟩ := I2.fr
  refine PySem.W.binop_K hF I2.ok.mod.kin J J'.type sf hs hf ?_
  refine wpAny_mono (wpAny_call (run_S (us := [.ref p, .ref p2]) (vs := [.ref p, .ref p2]) F tk (hr.mono hk) I2.env0 I2 (.cons rfl (.cons rfl .nil)) hsp)) (fun w s' z => ?_) fun _ _ x => x
  obtain ⟨z', H', I', rz, qz⟩ := z
  exact SlX.cmpback rz ⟨z', H', I', rz, qz⟩
theorem c_eq (c : Spc X.prog X.w X.K X.mg X.base k C "__eq__" sp) (hr : Room j X.A) (hk : k ≤ j) : OpR X (compareOp .Eq) (rOwnEq C sp) := by
  intro pins s σ H x y v u Q I rx ry h
  obtain ⟨f, hs, hf, F⟩ := c.ex
  obtain ⟨p, dx, fs, p2, dy, gs, rfl, rfl, hp, hp2, hsp⟩ := h
  obtain rfl : v = Value.ref p := rx
  obtain rfl : u = Value.ref p2 := ry
  obtain ⟨mA, J, _⟩ := ins_get I.hok hp
  obtain ⟨od, J, _⟩ := J.look
  obtain ⟨mB, J', _⟩ := ins_get I.hok hp2
  obtain ⟨od', J', _⟩ := J'.look
  obtain ⟨m, hF⟩ := I.fr
  show wpAny _ _ (richCompare .Eq (.ref p) (.ref p2)) _ _ _
  refine PySem.W.cmp_K (op := .Eq) (tb := .ref C) hr.units0 hF I.ok.mod.kin J J'.type (by simp [PySem.W.notFirst]) hs hf ?_
  refine wpAny_mono (wpAny_call (run_S (W := fun _ _ _ _ => False) (us := [.ref p, .ref p2]) (vs := [.ref p, .ref p2]) F takes0 (hr.mono hk) I.env0 I (.cons rfl (.cons rfl .nil)) hsp)) (fun w s' z => ?_) fun _ _ x => x
  obtain ⟨z', H', I', rz, c, ec, qz⟩ := z
  exact SlX.cmpback rz ⟨z', H', I', rz, qz⟩
theorem c_in (c : Spc X.prog X.w X.K X.mg X.base k C "__contains__" sp) (hr : Room j X.A) (hk : k ≤ j) : OpR X (compareOp .In) (rOwnIn C sp) := by
  intro pins s σ H y x u v Q I ry rx h
  obtain ⟨f, hs, hf, F⟩ := c.ex
  obtain ⟨p, dx, fs, rfl, hp, hsp⟩ := h
  obtain rfl : v = Value.ref p := rx
  obtain ⟨mA, J, _⟩ := ins_get I.hok hp
  obtain ⟨od, J, _⟩ := J.look
  obtain ⟨m, hF⟩ := I.fr
  refine PySem.W.in_K hF I.ok.mod.kin J hs hf ?_
  refine wpAny_mono (wpAny_call (run_S (W := fun _ _ _ _ => False) (us := [.ref p, u]) (vs := [.ref p, y]) F takes0 (hr.mono hk) I.env0 I (.cons rfl (.cons ry .nil)) hsp)) (fun w s' z => ?_) fun _ _ x => x
  obtain ⟨z', H', I', rz, c, ec, qz⟩ := z
  subst ec
  obtain rfl : w = Value.bool c := rz
  exact wpAny_truthy_bool ⟨.bl c, H', I', rfl, qz⟩
theorem c_neg (c : Spc X.prog X.w X.K X.mg X.base k C "__neg__" sp) (hr : Room j X.A) (hk : k ≤ j) : UnR X (unaryOp .USub) (rOwnU C sp) := by
  intro pins s σ H x v Q I rx h
  obtain ⟨f, hs, hf, F⟩ := c.ex
  obtain ⟨p, dx, fs, rfl, hp, hsp⟩ := h
  obtain rfl : v = Value.ref p := rx
  obtain ⟨mA, J, _⟩ := ins_get I.hok hp
  obtain ⟨od, J, _⟩ := J.look
  obtain ⟨m, hF⟩ := I.fr
  exact PySem.W.ksp_neg hF I.ok.mod.kin J hs hf (wpAny_call (run_S (W := fun _ _ _ _ => False) (us := [.ref p]) (vs := [.ref p]) F takes0 (hr.mono hk) I.env0 I (.cons rfl .nil) hsp))
theorem c_str (c : Spc X.prog X.w X.K X.mg X.base k C "__str__" sp) (hr : Room j X.A) (hk : k + 2 ≤ j) : CallR X (.type "str") (rOwnStr C sp) := by
  intro pins s σ H xs us Q I r h
  obtain ⟨f, hs, hf, F⟩ := c.ex
  obtain ⟨p, dx, fs, rfl, hp, hsp⟩ := h
  obtain ⟨u, rfl, ru⟩ := r.one
  obtain rfl : u = Value.ref p := ru
  obtain ⟨mA, J, _⟩ := ins_get I.hok hp
  obtain ⟨od, J, _⟩ := J.look
  have hr2 : Room k X.A.in1.in1 := (show Room (k + 1) X.A.in1 from Room.in1 (hr.mono hk)).in1
  refine PySem.W.kso_call hr2.units0 I.kIn J hs hf ?_
  refine wpAny_mono (wpAny_call (run_S (W := fun _ _ _ _ => False) (us := [.ref p]) (vs := [.ref p]) F takes0 hr2 I.env0.in1.in1 I (.cons rfl .nil) hsp)) (fun w s' z => ?_) fun _ _ x => x
  obtain ⟨z', H', I', rz, y, ey, qz⟩ := z
  subst ey
  obtain ⟨t, rfl⟩ := rz
  exact ⟨.str y, H', I', ⟨t, rfl⟩, qz⟩
end
end MyL

set_option Elab.async false
set_option linter.all false
set_option maxRecDepth 100000
set_option maxHeartbeats 4000000
/-! Defs that raise nothing and run whatever is handled; isinstance of a caught error. -/
namespace MyL
open PySem PySem.Spec PyProof.Rows L2
/-- a def that lets nothing out, wherever it is called -/
def FnQ (P : Program) (w : World) (K : PySem.W.Frag) (mg : Str → Option Value) (base : Heap) (k : Nat) (f : Addr) (sp : Sp) : Prop :=
  ∀ (A : Around) (outer : List Env) (s : Shared) (H : Hp) (us : List Value) (vs : List V) (Q : VK), L2H.RoomH k A → Env0 P w K mg base A outer s H → Vals vs us → sp vs H Q (fun _ _ _ => False) →
    codeAny (model P w) A (.call (.ref f) ⟨us, []⟩) (CR (fun _ _ _ _ _ _ => False) outer P w H s Q (fun _ _ _ => False)) s
structure CalQ (P : Program) (w : World) (K : PySem.W.Frag) (mg : Str → Option Value) (base : Heap) (k : Nat) (x : Str) (sp : Sp) : Prop where
  ex : ∃ f : Addr, mg x = some (.ref f) ∧ PySem.W.keepIn K (.ref f) = true ∧ FnQ P w K mg base k f sp
def cxQ (P : Program) (w : World) (K : PySem.W.Frag) (mg : Str → Option Value) (base : Heap) (N : List Str) (qual : Str) (scope : Scope) (f : Addr) (cd : Value) (A : Around) (outer : List Env) (s : Shared) (H : Hp) : Cx :=
  { cxOf (fun _ _ _ _ _ _ => False) P w K mg base N qual scope f cd A outer s H (fun _ _ _ => False) with calm := false, xe := fun _ _ => False }
theorem inv_startQ {P : Program} {w : World} {K : PySem.W.Frag} {mg : Str → Option Value} {base : Heap} {N ps : List Str} {qual : Str} {scope : Scope} {f : Addr} {cd : Value} {A : Around} {outer : List Env} {s s1 : Shared} {H : Hp} {us : List Value} {vs : List V}
    (S : FnScope N ps scope) (e0 : Env0 P w K mg base A outer s H) (hl : vs.length = ps.length) (r : Vals vs us)
    (x : InCallC s s.heap.objs.size (bindL (envOfC qual scope s.heap.objs.size f cd).kindOf (ps.zip us) fun _ => none) (cellsFrom (s.heap.objs.size + 1) scope.names []) (bindC (envOfC qual scope s.heap.objs.size f cd).kindOf (ps.zip us) fun _ => none) s1) :
    Inv (cxQ P w K mg base N qual scope f cd A outer s H) [] (start N vs) H s1 := by
  have I := inv_start (CX := fun _ _ _ _ _ _ => False) (E := fun _ _ _ => False) (A := { A with handled := none }) (N := N) S rfl ⟨e0.frames, e0.mod, e0.bs, e0.bsz, e0.funs, e0.frf, e0.hok, e0.bare⟩ hl r x
  exact ⟨⟨I.ok.mod, I.ok.kind, I.ok.glob, I.ok.blt, I.ok.above, I.ok.inj, I.ok.has, I.ok.cab, fun z => Bool.noConfusion (show false = true from z), Around.frames_deeper e0.frames, I.ok.stk, I.ok.exf, I.ok.bs, I.ok.bsz, I.ok.noex, I.ok.exfs, I.ok.funs, I.ok.frf⟩,
    I.os, I.bare, I.base, I.loc, I.cell, I.free, I.freeC, I.pin, I.hok, I.len⟩
section
variable {P : Program} {w : World} {K : PySem.W.Frag} {mg : Str → Option Value} {base : Heap}
theorem Fun.okQ {x qual : Str} {st : Stmt} {f : Addr} {fd : FuncData} {N ps : List Str} {k : Nat} {sp : Sp} (F : L2.Fun K x qual st f fd) (S : FnScope N ps (defScope st)) (hb : Binds K fd ps []) (len : ∀ vs H Q E, sp vs H Q E → vs.length = ps.length)
    (hbody : ∀ (cdv : Value) (A : Around) (outer : List Env) (s : Shared) (H : Hp) (vs : List V) (Q : VK), L2H.RoomH k (A.deeper (envOfC qual (defScope st) s.heap.objs.size f cdv)) → sp vs H Q (fun _ _ _ => False) →
      ∃ t, PSs (cxQ P w K mg base N qual (defScope st) f cdv A outer s H) (defBody st) t ∧ t { nx := fun _ H' => Q .non H', rt := Q } (start N vs) H) : FnQ P w K mg base (k + 1) f sp := by
  obtain ⟨oc, od, kV, doc, pm, an, cdv, ct, osl, rfl, lk, hcd⟩ := F.ex
  intro A outer s H us vs Q hr e0 r hsp
  have hl := len _ _ _ _ hsp
  have KX : K.In s.heap := e0.mod.kin.keeps fun b o e => (e0.bs b o e).1
  have lim : s.heap.NoLimit := e0.mod.nolimit.keeps fun b o e => (e0.bs b o e).1
  have hb' := hb s us KX (by rw [List.append_nil, ← r.length]; exact hl)
  rw [List.append_nil] at hb'
  refine codeAny_call_function hr.depth (KX _ _ lk) rfl S.co S.gen rfl (PySem.W.codeRec_of KX hcd) (hb' _ _ _ _ ?_)
  refine wpAny_newFunctionEnv_cells S.kind (fun y hy => ?_) fun env he s1 x => ?_
  · rcases S.par y.1 (List.of_mem_zip (show (y.1, y.2) ∈ _ from hy)).1 with q | q
    · exact .inl q
    · exact .inr ⟨q, PySem.W.cellsFrom_some _ _ _ (.inl q)⟩
  subst he
  refine ⟨lim.keeps x.toInCall.keep, codeAny_func ?_⟩
  obtain ⟨t, ht, hq⟩ := hbody cdv A outer s H vs Q (hr.deeper _) hsp
  have I : Inv (cxQ P w K mg base N qual (defScope st) f cdv A outer s H) [] (start N vs) H s1 := inv_startQ S e0 hl r x
  refine wpAny_mono (ht.run [] s1 (start N vs) H _ I hq) (fun fl s' hs => ?_) fun e s' hs => (show False from hs).elim
  match fl, hs with
  | .ret u, hs =>
    obtain ⟨v, σ', H', J, rv, q⟩ := hs
    exact ⟨v, H', J.os, J.bare, J.base, J.hok, rv, q⟩
  | .next, hs =>
    obtain ⟨σ', H', J, q⟩ := hs
    exact ⟨.non, H', J.os, J.bare, J.base, J.hok, rfl, q⟩
  | .brk, hs =>
    obtain ⟨_, _, _, q⟩ := hs
    exact q.elim
  | .cont, hs =>
    obtain ⟨_, _, _, q⟩ := hs
    exact q.elim
end
theorem roomQ {j : Nat} {A : Around} (r : Room j A) (h : Option Value) : L2H.RoomH j (A.mark h) := ⟨r.dp, r.un⟩
section
variable {X : Cx} {k j : Nat} {sp : Sp} {x : Str} {p pos : Pos} {e : Expr} {es : List Expr} {t : TA}
theorem q_call (c : CalQ X.prog X.w X.K X.mg X.base k x sp) (hr : L2H.RoomH j X.A) (hk : k ≤ j) (ha : PA X (e :: es) t) (hg : Gl X x := by rfl)
    (hdb : (x == ("__debug__" : Str)) = false := by decide) (he : starEach (e :: es) X.env = (false, eval e X.env) :: starEach es X.env := by rfl) (hpl : (backTo pos (starEach es X.env)).any (·.1) = false := by rfl) :
    PE X (.Call (.Name x p) (e :: es) [] pos) (tCallS sp (fun _ _ _ _ => False) t) := by
  obtain ⟨f, hm, kp, F⟩ := c.ex
  refine ⟨fun pins s σ H Q I h => ?_⟩
  refine wpAny_Call_Name_kw (ld_glob I hg hm ?_ hdb)
  refine PySem.W.callWith_K (h₀ := X.base) I.ok.mod.kin kp (thn (ha.run pos pins s σ H _ I h) fun us s1 hh => ?_) he hpl
  obtain ⟨vs, H1, I1, r, q⟩ := hh
  refine ⟨I1.kIn, wpAny_call (codeAny_mono (F X.A X.stack s1 H1 us vs Q (hr.mono hk) I1.env0 r q) fun r s' hq => ?_)⟩
  match r, hq with
  | .error e, hq => exact (show False from hq).elim
  | .ok (.ret u), hq => exact I1.after hq
  | .ok .next, hq => exact hq.elim
  | .ok .brk, hq => exact hq.elim
  | .ok .cont, hq => exact hq.elim
end
/-! ### isinstance of the caught error -/
structure ExcK (K : PySem.W.Frag) (D : Addr) : Prop where
  cl : (PySem.W.clsIn K D).isSome = true
  ga : PySem.W.findIn K (.ref D) "__getattribute__" = some (some (.builtin "BaseException.__getattribute__"))
  gg : PySem.W.findIn K (.ref D) "__getattr__" = some none
  sb : PySem.W.subIn K (.ref D) (.type "BaseException") = some true
  ca : PySem.W.findIn K (.ref D) "__class__" = some (some (.builtin "object.__class__"))
  cn : PySem.W.specialIn K (.builtin "object.__class__") "__get__" = some (some (.builtin "getset_descriptor.__get__"))
  ct : PySem.W.takesIn K (.builtin "object.__class__") = some true
  cm : PySem.W.mroIn K D (.type "object") = some true
def DOk (H : Hp) : Option Addr → Prop
  | none => True
  | some dd => ∃ fs, H dd = some (.xd fs)
def rIsX (K : PySem.W.Frag) (cls : Value) (d : Option Addr) (a : Addr) : List V → Hp → VK → Prop := fun xs H Q => ∃ (D : Addr) (c : V) (cv : Value) (b : Bool), cls = .ref D ∧ ExcK K D ∧ DOk H d ∧ xs = [.ref a, c] ∧ ClsV c cv ∧ PySem.W.kitOne K (.ref D) cv = some b ∧ Q (.bl b) H
def rIsXT (K : PySem.W.Frag) (cls : Value) (d : Option Addr) (a : Addr) : List V → Hp → VK → Prop := fun xs H Q => ∃ (D tp : Addr) (cs : List V) (us : List Value) (b : Bool), cls = .ref D ∧ ExcK K D ∧ DOk H d ∧ xs = [.ref a, .ref tp] ∧ H tp = some (.tup cs) ∧ Paired ClsV cs us ∧ PySem.W.kitAny K (.ref D) us = some b ∧ Q (.bl b) H
section
variable {X : Cx} {a D : Addr} {oe : Obj} {cls : Value} {d : Option Addr} {pn pins : List (Addr × Obj)} {σ : L2.St} {H : Hp} {s : Shared}
theorem exc_inst (hz : Zc (.ref D) d oe) (hf : ∃ vs, oe.data = .fields vs) (hd : DOk H d) (I : Inv (X.suite a ((a, oe) :: pn)) pins σ H s) : ∃ od, PySem.W.InstAt s.heap a oe D od := by
  obtain ⟨hget, _⟩ := I.pin (a, oe) (List.mem_append_left _ List.mem_cons_self)
  obtain ⟨vs, hv⟩ := hf
  have hnc : PySem.W.notCls oe = true := by
    unfold PySem.W.notCls
    rw [hv]
  cases d with
  | none =>
    refine ⟨none, hget, hz.1, hnc, ?_⟩
    rw [hz.2]
    trivial
  | some dd =>
    obtain ⟨fs, hx⟩ := hd
    have hx : ObjOk X.prog X.w H s.heap dd (.xd fs) := I.hok dd _ hx
    obtain ⟨mA, hns, _⟩ := hx
    obtain ⟨od, ho, _⟩ := lookIn_ns hns
    refine ⟨some od, hget, hz.1, hnc, ?_⟩
    rw [hz.2]
    exact ho
theorem call_isX (hz : Zc cls d oe) (hf : ∃ vs, oe.data = .fields vs) : CallR (X.suite a ((a, oe) :: pn)) (.builtin "isinstance") (rIsX X.K cls d a) := by
  intro pins s σ H xs us Q I r h
  obtain ⟨D, c, cv, b, rfl, C, hd, rfl, hc, e, q⟩ := h
  obtain ⟨od, J⟩ := exc_inst hz hf hd I
  match us, r with
  | [u1, u2], .cons r1 (.cons r2 .nil) =>
    obtain rfl : u1 = Value.ref a := r1
    have e2 := hc.eq r2
    subst e2
    exact PySem.W.kia_one (PySem.W.kitx_exc C.cl C.ga C.gg C.sb C.ca C.cn C.ct C.cm) I.kIn J e (fun z => nomatch z) fun tk => ⟨.bl b, H, I.tok tk, rfl, q⟩
theorem call_isXT (hz : Zc cls d oe) (hf : ∃ vs, oe.data = .fields vs) : CallR (X.suite a ((a, oe) :: pn)) (.builtin "isinstance") (rIsXT X.K cls d a) := by
  intro pins s σ H xs us Q I r h
  obtain ⟨D, tp, cs, ws, b, rfl, C, hd, rfl, hT, k, e, q⟩ := h
  obtain ⟨od, J⟩ := exc_inst hz hf hd I
  match us, r with
  | [u1, u2], .cons r1 (.cons r2 .nil) =>
    obtain rfl : u1 = Value.ref a := r1
    obtain rfl : u2 = Value.ref tp := r2
    obtain ⟨_, its, rv, o, h1, h2, n, h3⟩ := (show ObjOk X.prog X.w H s.heap tp (.tup cs) from I.hok tp _ hT)
    have e3 := ClsV.all k rv
    subst e3
    obtain ⟨oc, od', dt, sl⟩ := o
    simp only at h2 h3
    subst h2 h3
    exact PySem.W.kia_tup (PySem.W.kitx_exc C.cl C.ga C.gg C.sb C.ca C.cn C.ct C.cm) I.kIn J h1 e (fun z => nomatch z) fun tk => ⟨.bl b, H, I.tok tk, rfl, q⟩
end
end MyL

set_option Elab.async false
set_option linter.all false
set_option maxRecDepth 100000
set_option maxHeartbeats 4000000
/-! What is known of the heap, and readings taken apart step by step. -/
namespace MyL
open PySem L2
/-- behind B, of which only the objects at ms may have changed: H holds f (handed in) and l (made here) -/
structure Mem (B : Hp) (ms : List Addr) (H : Hp) (f l : List (Addr × HO)) : Prop where
  atF : ∀ p ∈ f, H p.1 = some p.2
  atL : ∀ p ∈ l, H p.1 = some p.2
  nd : ((l ++ f).map (·.1)).Nodup
  keep : ∀ a o, B a = some o → a ∉ ms → H a = some o
  tr : ∀ m ∈ ms, H m ≠ none
  new : ∀ p ∈ l, B p.1 = none
theorem Same.of_keep {B H : Hp} {f l : List (Addr × HO)} (M : Mem B [] H f l) : Same B H := fun a o h => M.keep a o h (by simp)
theorem mem_start {H : Hp} {ms : List Addr} {f : List (Addr × HO)} (h : ∀ p ∈ f, H p.1 = some p.2) (nd : (f.map (·.1)).Nodup) (tr : ∀ m ∈ ms, m ∈ f.map (·.1)) : Mem H ms H f [] :=
  ⟨h, (fun _ h => nomatch h), by simpa using nd, fun _ _ h _ => h, (fun m hm z => by
    obtain ⟨p, hp, e⟩ := List.mem_map.mp (tr m hm)
    have := h p hp
    rw [e, z] at this; cases this), (fun _ h => nomatch h)⟩
section
variable {B H H' : Hp} {ms : List Addr} {f l : List (Addr × HO)} {p a : Addr} {o o' : HO}
theorem Mem.fresh (M : Mem B ms H f l) (h : H p = none) : B p = none := by
  cases e : B p with
  | none => rfl
  | some u =>
    by_cases hm : p ∈ ms
    · exact absurd h (M.tr p hm)
    · rw [M.keep p u e hm] at h; cases h
theorem Mem.ne (M : Mem B ms H f l) (h : H p = none) : p ∉ (l ++ f).map (·.1) := fun hm => by
  obtain ⟨q, hq, e⟩ := List.mem_map.mp hm
  rcases List.mem_append.mp hq with z | z
  · have := M.atL q z; rw [e, h] at this; cases this
  · have := M.atF q z; rw [e, h] at this; cases this
theorem Mem.same (M : Mem B ms H f l) (s : Same H H') : Mem B ms H' f l :=
  ⟨fun p hp => s _ _ (M.atF p hp), fun p hp => s _ _ (M.atL p hp), M.nd, fun a o h hm => s _ _ (M.keep a o h hm), fun m hm => by
    cases e : H m with
    | none => exact absurd e (M.tr m hm)
    | some o => rw [s _ _ e]; exact (fun z => nomatch z), M.new⟩
theorem same_alloc (h : H p = none) : Same H (upd H p o) := fun a u e => by
  rw [upd_ne (ne_of_none e h)]; exact e
theorem Mem.sameNew (M : Mem B ms H f l) (s : Same H H') (h : H p = none) (h' : H' p = some o) : Mem B ms H' f ((p, o) :: l) :=
  let M' := M.same s
  ⟨M'.atF, fun q hq => by
    rcases List.mem_cons.mp hq with rfl | hq
    · exact h'
    · exact M'.atL q hq, by
      show (p :: ((l ++ f).map (·.1))).Nodup
      exact List.nodup_cons.mpr ⟨M.ne h, M.nd⟩, M'.keep, M'.tr, fun q hq => by
    rcases List.mem_cons.mp hq with rfl | hq
    · exact M.fresh h
    · exact M.new q hq⟩
theorem Mem.alloc (M : Mem B ms H f l) (h : H p = none) : Mem B ms (upd H p o) f ((p, o) :: l) := M.sameNew (same_alloc h) h upd_same
/-- something that stands in the heap is known of, too -/
theorem Mem.drop {q : Addr × HO} (M : Mem B ms H f (q :: l)) : Mem B ms H f l :=
  ⟨M.atF, fun p hp => M.atL p (List.mem_cons_of_mem _ hp), by
    have := M.nd
    rw [List.cons_append, List.map_cons, List.nodup_cons] at this
    exact this.2, M.keep, M.tr, fun p hp => M.new p (List.mem_cons_of_mem _ hp)⟩
theorem Mem.setL {l1 l2 : List (Addr × HO)} (M : Mem B ms H f (l1 ++ (a, o) :: l2)) : Mem B ms (upd H a o') f (l1 ++ (a, o') :: l2) := by
  have nd := M.nd
  have hne : ∀ q ∈ l1 ++ l2 ++ f, q.1 ≠ a := by
    have e : ((l1 ++ (a, o) :: l2 ++ f).map (·.1)) = l1.map (·.1) ++ a :: (l2 ++ f).map (·.1) := by simp
    rw [e, List.nodup_append] at nd
    obtain ⟨_, n2, n3⟩ := nd
    rw [List.nodup_cons] at n2
    intro q hq z
    rw [List.append_assoc] at hq
    rcases List.mem_append.mp hq with hq | hq
    · exact n3 _ (List.mem_map_of_mem hq) _ List.mem_cons_self z
    · exact n2.1 (by rw [← z]; exact List.mem_map_of_mem hq)
  have hB : B a = none := M.new (a, o) (by simp)
  refine ⟨fun q hq => ?_, fun q hq => ?_, by simpa using nd, fun b u h hm => ?_, fun m hm z => ?_, fun q hq => ?_⟩
  · rw [upd_ne (hne q (by simp [hq]))]; exact M.atF q hq
  · rcases List.mem_append.mp hq with h | h
    · rw [upd_ne (hne q (by simp [h]))]; exact M.atL q (by simp [h])
    · rcases List.mem_cons.mp h with rfl | h
      · exact upd_same
      · rw [upd_ne (hne q (by simp [h]))]; exact M.atL q (by simp [h])
  · rw [upd_ne (ne_of_none h hB)]; exact M.keep b u h hm
  · by_cases e : m = a
    · rw [e, upd_same] at z; cases z
    · rw [upd_ne e] at z; exact M.tr m hm z
  · rcases List.mem_append.mp hq with h | h
    · exact M.new q (by simp [h])
    · rcases List.mem_cons.mp h with rfl | h
      · exact hB
      · exact M.new q (by simp [h])
theorem Mem.setF {f1 f2 : List (Addr × HO)} (M : Mem B ms H (f1 ++ (a, o) :: f2) l) (ha : a ∈ ms) : Mem B ms (upd H a o') (f1 ++ (a, o') :: f2) l := by
  have nd := M.nd
  have hne : ∀ q ∈ l ++ f1 ++ f2, q.1 ≠ a := by
    have e : ((l ++ (f1 ++ (a, o) :: f2)).map (·.1)) = (l ++ f1).map (·.1) ++ a :: f2.map (·.1) := by simp
    rw [e, List.nodup_append] at nd
    obtain ⟨_, n2, n3⟩ := nd
    rw [List.nodup_cons] at n2
    intro q hq z
    rcases List.mem_append.mp hq with hq | hq
    · exact n3 _ (List.mem_map_of_mem hq) _ List.mem_cons_self z
    · exact n2.1 (by rw [← z]; exact List.mem_map_of_mem hq)
  refine ⟨fun q hq => ?_, fun q hq => ?_, by simpa using nd, fun b u h hm => ?_, fun m hm z => ?_, M.new⟩
  · rcases List.mem_append.mp hq with h | h
    · rw [upd_ne (hne q (by simp [h]))]; exact M.atF q (by simp [h])
    · rcases List.mem_cons.mp h with rfl | h
      · exact upd_same
      · rw [upd_ne (hne q (by simp [h]))]; exact M.atF q (by simp [h])
  · rw [upd_ne (hne q (by simp [hq]))]; exact M.atL q hq
  · rw [upd_ne (fun z => hm (by rw [z]; exact ha))]; exact M.keep b u h hm
  · by_cases e : m = a
    · rw [e, upd_same] at z; cases z
    · rw [upd_ne e] at z; exact M.tr m hm z
/-- all but the objects at ms is as it was -/
def Keep (ms : List Addr) (H H' : Hp) : Prop := (∀ a o, H a = some o → a ∉ ms → H' a = some o) ∧ ∀ m ∈ ms, H' m ≠ none
theorem Mem.keeps (M : Mem B ms H f l) : Keep ms B H := ⟨M.keep, M.tr⟩
theorem Mem.getF (M : Mem B ms H f l) (h : (a, o) ∈ f) : H a = some o := M.atF _ h
theorem Mem.getL (M : Mem B ms H f l) (h : (a, o) ∈ l) : H a = some o := M.atL _ h
/-- behind a call that may have changed the first of what was handed in -/
theorem Mem.call1 {f : List (Addr × HO)} (M : Mem B ms H ((a, o) :: f) l) (ha : a ∈ ms) (k : Keep [a] H H') (h' : H' a = some o') : Mem B ms H' ((a, o') :: f) l := by
  have nd := M.nd
  have hne : ∀ q ∈ l ++ f, q.1 ≠ a := by
    rw [List.map_append, List.map_cons, List.nodup_append] at nd
    obtain ⟨_, n2, n3⟩ := nd
    rw [List.nodup_cons] at n2
    intro q hq z
    rcases List.mem_append.mp hq with hq | hq
    · exact n3 _ (List.mem_map.mpr ⟨q, hq, rfl⟩) _ List.mem_cons_self z
    · exact n2.1 (List.mem_map.mpr ⟨q, hq, z⟩)
  refine ⟨fun q hq => ?_, fun q hq => ?_, by simpa using nd, fun b u h hm => ?_, fun m hm z => ?_, M.new⟩
  · rcases List.mem_cons.mp hq with rfl | h
    · exact h'
    · exact k.1 _ _ (M.atF q (by simp [h])) (by simpa using hne q (by simp [h]))
  · exact k.1 _ _ (M.atL q hq) (by simpa using hne q (by simp [hq]))
  · exact k.1 _ _ (M.keep b u h hm) (by intro z; rw [List.mem_singleton] at z; exact hm (by rw [z]; exact ha))
  · cases e : H m with
    | none => exact M.tr m hm e
    | some u =>
      by_cases hma : m = a
      · rw [hma, h'] at z; cases z
      · rw [k.1 _ _ e (by simpa using hma)] at z; cases z
end
/-! ### steps -/
section
variable {n : L2.St → Hp → Prop} {r : VK} {b c : L2.St → Hp → Prop} {σ : L2.St} {H : Hp} {t u : TS} {te ta tb : TE} {tt tu : TT} {Q : VK} {QB : Bool → Hp → Prop} {QA : List V → Hp → Prop} {v : V} {i : Nat} {tA : TA}
theorem k_seq (h : t ⟨u ⟨n, r, b, c⟩, r, b, c⟩ σ H) : tSeq t u ⟨n, r, b, c⟩ σ H := h
theorem k_next (h : n σ H) : tNext ⟨n, r, b, c⟩ σ H := h
theorem k_break (h : b σ H) : tBreak ⟨n, r, b, c⟩ σ H := h
theorem k_cont (h : c σ H) : tCont ⟨n, r, b, c⟩ σ H := h
theorem k_asg (h : te σ H fun v H1 => n (σ.set i (some v)) H1) : tAsg te (gName i) ⟨n, r, b, c⟩ σ H := h
theorem k_ret (h : te σ H r) : tRet te ⟨n, r, b, c⟩ σ H := h
theorem k_retN (h : r .non H) : tRetN ⟨n, r, b, c⟩ σ H := h
theorem k_drop (h : te σ H fun _ H1 => n σ H1) : tDrop te ⟨n, r, b, c⟩ σ H := h
theorem k_ifS (h : tt σ H fun k H1 => if k = true then t ⟨n, r, b, c⟩ σ H1 else u ⟨n, r, b, c⟩ σ H1) : tIfS tt t u ⟨n, r, b, c⟩ σ H := h
theorem k_var (h : σ[i]? = some (some v)) (q : Q v H) : tVar i σ H Q := ⟨v, h, q⟩
theorem k_c (q : Q v H) : tC v σ H Q := q
theorem k_op {rr : R2} (h : ta σ H fun x H1 => tb σ H1 fun y H2 => rr x y H2 Q) : tOp rr ta tb σ H Q := h
theorem k_un {ru : V → Hp → VK → Prop} (h : ta σ H fun x H1 => ru x H1 Q) : tUn ru ta σ H Q := h
theorem k_test (h : te σ H fun x H' => ∃ k, x = .bl k ∧ QB k H') : tTest te σ H QB := h
theorem k_B (h : te σ H fun x H' => ∃ k, x = .bl k ∧ QB k H') : tB te σ H QB := h
theorem k_bl {k : Bool} {PB : Bool → Prop} (h : PB k) : ∃ k', V.bl k = .bl k' ∧ PB k' := ⟨k, rfl, h⟩
theorem k_and (h : tt σ H fun k H1 => if k = true then tu σ H1 QB else QB false H1) : tAnd tt tu σ H QB := h
theorem k_or (h : tt σ H fun k H1 => if k = true then QB true H1 else tu σ H1 QB) : tOr tt tu σ H QB := h
theorem k_not (h : tt σ H fun k H1 => QB (!k) H1) : tNot tt σ H QB := h
theorem k_andV (h : ta σ H fun x H1 => ∃ k, x = .bl k ∧ if k = true then tb σ H1 Q else Q (.bl false) H1) : tAndV ta tb σ H Q := h
theorem k_orV (h : ta σ H fun x H1 => ∃ k, x = .bl k ∧ if k = true then Q (.bl true) H1 else tb σ H1 Q) : tOrV ta tb σ H Q := h
theorem k_notV (h : ta σ H fun x H1 => ∃ k, x = .bl k ∧ Q (.bl (!k)) H1) : tNotV ta σ H Q := h
theorem k_ifE (h : tt σ H fun k H1 => if k = true then ta σ H1 Q else tb σ H1 Q) : tIf tt ta tb σ H Q := h
theorem k_nil (h : QA [] H) : tNil σ H QA := h
theorem k_cons (h : te σ H fun x H1 => tA σ H1 fun xs H2 => QA (x :: xs) H2) : tCons te tA σ H QA := h
theorem k_cb {rc : List V → Hp → VK → Prop} (h : tA σ H fun vs H1 => rc vs H1 Q) : tCB rc tA σ H Q := h
theorem k_callS {sp : Sp} {E : L2.St → XK} (h : tA σ H fun vs H1 => sp vs H1 Q (E σ)) : tCallS sp E tA σ H Q := h
theorem k_I {C : Int → Int → Prop} {g : Int → Int → V} {x y : Int} (hc : C x y) (q : Q (g x y) H) : rI C g (.int x) (.int y) H Q := ⟨x, y, rfl, rfl, hc, q⟩
theorem k_I0 {g : Int → Int → V} {x y : Int} (q : Q (g x y) H) : rI0 g (.int x) (.int y) H Q := ⟨x, y, rfl, rfl, q⟩
theorem k_U {g : Int → V} {x : Int} (q : Q (g x) H) : rU g (.int x) H Q := ⟨x, rfl, q⟩
theorem k_eqI {x y : Int} (q : Q (.bl (decide (x = y))) H) : rEq (.int x) (.int y) H Q := ⟨rfl, by
  have e : decide (V.int x = V.int y) = decide (x = y) := by
    by_cases h : x = y
    · subst h; simp
    · rw [decide_eq_false h, decide_eq_false (fun z => h (V.int.inj z))]
  rw [e]; exact q⟩
theorem k_neI {x y : Int} (q : Q (.bl (!decide (x = y))) H) : rNe (.int x) (.int y) H Q := ⟨rfl, by
  have e : decide (V.int x = V.int y) = decide (x = y) := by
    by_cases h : x = y
    · subst h; simp
    · rw [decide_eq_false h, decide_eq_false (fun z => h (V.int.inj z))]
  rw [e]; exact q⟩
theorem k_eqB {x y : Bool} (q : Q (.bl (x == y)) H) : rEq (.bl x) (.bl y) H Q := ⟨rfl, by
  have e : decide (V.bl x = V.bl y) = (x == y) := by cases x <;> cases y <;> simp
  rw [e]; exact q⟩
theorem k_neB {x y : Bool} (q : Q (.bl (!(x == y))) H) : rNe (.bl x) (.bl y) H Q := ⟨rfl, by
  have e : decide (V.bl x = V.bl y) = (x == y) := by cases x <;> cases y <;> simp
  rw [e]; exact q⟩
theorem k_eqS {x y : Str} (q : Q (.bl (decide (x = y))) H) : rEq (.str x) (.str y) H Q := ⟨rfl, by
  have e : decide (V.str x = V.str y) = decide (x = y) := by
    by_cases h : x = y
    · subst h; simp
    · rw [decide_eq_false h, decide_eq_false (fun z => h (V.str.inj z))]
  rw [e]; exact q⟩
theorem k_neS {x y : Str} (q : Q (.bl (!decide (x = y))) H) : rNe (.str x) (.str y) H Q := ⟨rfl, by
  have e : decide (V.str x = V.str y) = decide (x = y) := by
    by_cases h : x = y
    · subst h; simp
    · rw [decide_eq_false h, decide_eq_false (fun z => h (V.str.inj z))]
  rw [e]; exact q⟩
theorem k_iteD {p : Prop} [Decidable p] {A Z : Prop} (h1 : p → A) (h2 : ¬ p → Z) : if decide p = true then A else Z := by
  by_cases h : p
  · rw [if_pos (decide_eq_true h)]; exact h1 h
  · rw [if_neg (by simpa using h)]; exact h2 h
theorem k_iteN {p : Prop} [Decidable p] {A Z : Prop} (h1 : ¬ p → A) (h2 : p → Z) : if (!decide p) = true then A else Z := by
  by_cases h : p
  · rw [if_neg (by simpa using h)]; exact h2 h
  · rw [if_pos (by simpa using h)]; exact h1 h
theorem k_iteB {k : Bool} {A Z : Prop} (h1 : k = true → A) (h2 : k = false → Z) : if k = true then A else Z := by
  cases k with
  | true => rw [if_pos rfl]; exact h1 rfl
  | false => rw [if_neg Bool.false_ne_true]; exact h2 rfl
/-- new things -/
def newL (xs : List V) (H : Hp) (Q : VK) : Prop := xs.length ≤ sizeLine ∧ ∀ p, H p = none → Q (.ref p) (upd H p (.lst xs))
def newT (xs : List V) (H : Hp) (Q : VK) : Prop := xs.length ≤ sizeLine ∧ ∀ p, H p = none → Q (.ref p) (upd H p (.tup xs))
theorem k_lst {B : Hp} {ms : List Addr} {f l : List (Addr × HO)} {xs : List V} (M : Mem B ms H f l) (hl : xs.length ≤ sizeLine) (k : ∀ p H', Mem B ms H' f ((p, .lst xs) :: l) → Q (.ref p) H') : newL xs H Q :=
  ⟨hl, fun p hp => k p _ (M.alloc hp)⟩
theorem k_tup {B : Hp} {ms : List Addr} {f l : List (Addr × HO)} {xs : List V} (M : Mem B ms H f l) (hl : xs.length ≤ sizeLine) (k : ∀ p H', Mem B ms H' f ((p, .tup xs) :: l) → Q (.ref p) H') : newT xs H Q :=
  ⟨hl, fun p hp => k p _ (M.alloc hp)⟩
theorem k_lst0 (h : tA σ H fun xs H1 => newL xs H1 Q) : tLst tA σ H Q := h
theorem k_tup0 (h : tA σ H fun xs H1 => newT xs H1 Q) : tTup tA σ H Q := h
/-- an attribute -/
theorem k_fld0 {K : PySem.W.Frag} {f : Str} (h : ta σ H fun x H1 => ∃ a C dx fs v, x = .ref a ∧ H1 a = some (.ins C dx fs) ∧ Cls K C ∧ NoAttr K C f ∧ fs.lookup f = some v ∧ Q v H1) : tFld K ta f σ H Q := h
theorem k_fld {K : PySem.W.Frag} {f : Str} {a C dx : Addr} {fs : List (Str × V)} {v : V} (h : H a = some (.ins C dx fs)) (hc : Cls K C) (hn : NoAttr K C f) (hl : fs.lookup f = some v) {PV : V → Prop} (q : PV v) :
    ∃ a' C' dx' fs' v', V.ref a = .ref a' ∧ H a' = some (.ins C' dx' fs') ∧ Cls K C' ∧ NoAttr K C' f ∧ fs'.lookup f = some v' ∧ PV v' := ⟨a, C, dx, fs, v, rfl, h, hc, hn, hl, q⟩
/-- an item -/
theorem k_ixL {K : PySem.W.Frag} {p : Addr} {xs : List V} {j : Int} {v : V} (h : H p = some (.lst xs)) (ha : atI xs j = some v) (q : Q v H) : rIxL K (.ref p) (.int j) H Q := ⟨p, xs, j, v, rfl, rfl, SqL.of h, ha, q⟩
theorem k_ixT {K : PySem.W.Frag} {p : Addr} {xs : List V} {j : Int} {v : V} (h : H p = some (.tup xs)) (ha : atI xs j = some v) (q : Q v H) : rIxT K (.ref p) (.int j) H Q := ⟨p, xs, j, v, rfl, rfl, SqT.of h, ha, q⟩
end
end MyL

set_option Elab.async false
set_option linter.all false
set_option maxRecDepth 100000
set_option maxHeartbeats 4000000
namespace MyL
open PySem PySem.Spec PyProof.Rows L2
section
variable {X : Cx} {e a b : Expr} {t t' ta tb : TE} {pos : Pos}
theorem pe_imp (h : PE X e t) (hi : ∀ σ H Q, t' σ H Q → t σ H Q) : PE X e t' := ⟨fun pins s σ H Q I q => h.run pins s σ H Q I (hi _ _ _ q)⟩
/-- a * b -/
def CMulU (i j : Int) : Prop := CMul i j ∨ CMulW i j
theorem op_mulU : OpR X (binaryOp .Mult) (rI CMulU fun i j => .int (i * j)) := by
  intro pins s σ H x y v u Q I rx ry h
  obtain ⟨i, j, ex, ey, hc, q⟩ := h
  rcases hc with hc | hc
  · exact op_mul pins s σ H x y v u Q I rx ry ⟨i, j, ex, ey, hc, q⟩
  · exact op_mulW pins s σ H x y v u Q I rx ry ⟨i, j, ex, ey, hc, q⟩
/-- a written power -/
theorem pe_powC {i j n : Int} {k1 k2 : Nat} {p1 p2 : Pos} (hc : CPow i j := by unfold CPow; decide) (hv : i ^ j.toNat = n := by decide +kernel) : PE X (.BinOp (.Constant (.int i) k1 p1) .Pow (.Constant (.int j) k2 p2) pos) (tC (.int n)) :=
  pe_imp (pe_op op_pow pe_int pe_int) fun σ H Q q => ⟨i, j, rfl, rfl, hc, by show Q (.int (i ^ j.toNat)) H; rw [hv]; exact q⟩
/-- a written number below zero -/
theorem pe_negC {i : Int} {k1 : Nat} {p1 : Pos} : PE X (.UnaryOp .USub (.Constant (.int i) k1 p1) pos) (tC (.int (-i))) :=
  pe_imp (pe_un un_neg pe_int) fun σ H Q q => ⟨i, rfl, q⟩
end
section
variable {P : Program} {w : World} {K : PySem.W.Frag} {mg : Str → Option Value} {base : Heap}
/-- a def that may raise, by its body; what leaves the frame is the caller's wish -/
theorem okT {x qual : Str} {st : Stmt} {f : Addr} {fd : FuncData} {N ps : List Str} {k : Nat} {sp : Sp} (F : L2.Fun K x qual st f fd) (S : FnScope N ps (defScope st)) (len : ∀ vs H Q E, sp vs H Q E → vs.length = ps.length)
    (hbody : ∀ (cdv : Value) (A : Around) (outer : List Env) (s : Shared) (H : Hp) (vs : List V) (Q : VK) (E : XK), Room k (A.deeper (envOfC qual (defScope st) s.heap.objs.size f cdv)) →
      Takes (cxOf (L2.CX P w) P w K mg base N qual (defScope st) f cdv A outer s H E) (fun c d _ H => E c d H) → sp vs H Q E →
      ∃ t, PSs (cxOf (L2.CX P w) P w K mg base N qual (defScope st) f cdv A outer s H E) (defBody st) t ∧ t ⟨fun _ H' => Q .non H', Q, fun _ _ => False, fun _ _ => False⟩ (start N vs) H) : FnOk P w K mg base (L2.CX P w) (k + 1) f fd ps sp :=
  F.okX S len fun cdv A outer s H vs Q E hr h => hbody cdv A outer s H vs Q E hr (takes_of rfl rfl rfl rfl) h
end
/-! ### built-ins of one argument -/
def rInt1 : List V → Hp → VK → Prop := fun xs H Q => ∃ i, xs = [.int i] ∧ Q (.int i) H
def rAbs1 : List V → Hp → VK → Prop := fun xs H Q => ∃ i : Int, xs = [.int i] ∧ Q (.int (if i < 0 then -i else i)) H
def rStrI : List V → Hp → VK → Prop := fun xs H Q => ∃ i : Int, xs = [.int i] ∧ i.natAbs.log2 < 1920 ∧ Q (.str (toString i)) H
def rLenQ (K : PySem.W.Frag) : List V → Hp → VK → Prop := fun xs H Q => ∃ p ys, xs = [.ref p] ∧ (SqL K H p ys ∨ SqT K H p ys) ∧ Q (.int ys.length) H
def rMin2 : List V → Hp → VK → Prop := fun xs H Q => ∃ i j : Int, xs = [.int i, .int j] ∧ Q (.int (if j < i then j else i)) H
def rMax2 : List V → Hp → VK → Prop := fun xs H Q => ∃ i j : Int, xs = [.int i, .int j] ∧ Q (.int (if j > i then j else i)) H
section
variable {X : Cx}
theorem b_int : CallR X (.type "int") rInt1 := fun pins s σ H xs us Q I r h => call_int1 pins s σ H xs us Q I r (.inl h)
theorem b_abs : CallR X (.builtin "abs") rAbs1 := call_abs
theorem b_strI : CallR X (.type "str") rStrI := call_str_int
theorem b_len : CallR X (.builtin "len") (rLenQ X.K) := call_len_seq
theorem b_min2 (hc : X.calm = true) : CallR X (.builtin "min") rMin2 := call_min2 hc
theorem b_max2 (hc : X.calm = true) : CallR X (.builtin "max") rMax2 := call_max2 hc
end
section
variable {H : Hp} {Q : VK} {i j : Int} {K : PySem.W.Frag}
theorem k_int1 (q : Q (.int i) H) : rInt1 [.int i] H Q := ⟨i, rfl, q⟩
theorem k_abs1 (q : Q (.int (if i < 0 then -i else i)) H) : rAbs1 [.int i] H Q := ⟨i, rfl, q⟩
theorem k_strI (h : i.natAbs.log2 < 1920) (q : Q (.str (toString i)) H) : rStrI [.int i] H Q := ⟨i, rfl, h, q⟩
theorem k_lenL {p : Addr} {ys : List V} (h : H p = some (.lst ys)) (q : Q (.int ys.length) H) : rLenQ K [.ref p] H Q := ⟨p, ys, rfl, .inl (SqL.of h), q⟩
theorem k_lenT {p : Addr} {ys : List V} (h : H p = some (.tup ys)) (q : Q (.int ys.length) H) : rLenQ K [.ref p] H Q := ⟨p, ys, rfl, .inr (SqT.of h), q⟩
theorem k_min2 (q : Q (.int (if j < i then j else i)) H) : rMin2 [.int i, .int j] H Q := ⟨i, j, rfl, q⟩
theorem k_max2 (q : Q (.int (if j > i then j else i)) H) : rMax2 [.int i, .int j] H Q := ⟨i, j, rfl, q⟩
/-- isinstance of numbers and truths -/
theorem k_isiI {c : String} {b : Bool} (e : PySem.W.kitOne K (.type "int") (.type c) = some b) (q : Q (.bl b) H) : rIsi K [.int i, .ty c] H Q := ⟨_, _, _, _, b, rfl, .ty c, .base (.int i), e, q⟩
/-- the rest of a division -/
theorem k_mod {x y : Int} {g : Int → Int → V} {C : Int → Int → Prop} (hc : C x y) (q : Q (g x y) H) : rI C g (.int x) (.int y) H Q := ⟨x, y, rfl, rfl, hc, q⟩
/-- xs[j] = v, xs made here or handed in to be changed -/
theorem k_sub0 {σ : L2.St} {n : L2.St → Hp → Prop} {r : VK} {b c : L2.St → Hp → Prop} {te to ti : TE} {ts : TSet} (h : te σ H fun v H1 => to σ H1 fun o H2 => ti σ H2 fun i H3 => ts o i v H3 fun H4 => n σ H4) : tAsg te (gSub to ti ts) ⟨n, r, b, c⟩ σ H := h
theorem k_setL {QH : Hp → Prop} {p : Addr} {xs : List V} {k : Int} {jn : Nat} {v : V} (h : H p = some (.lst xs)) (hi : ixN xs.length k = some jn) (q : QH (upd H p (.lst (xs.set jn v)))) : rSetL (.ref p) (.int k) v H QH := ⟨p, xs, k, jn, rfl, rfl, h, hi, q⟩
end
end MyL

set_option Elab.async false
set_option linter.all false
set_option maxRecDepth 100000
set_option maxHeartbeats 4000000
namespace MyL
open PySem L2
/-! ### the steps of a reading, as one word -/
theorem k_iteNT {A Z : Prop} (h : Z) : if (!true) = true then A else Z := h
theorem k_iteNF {A Z : Prop} (h : A) : if (!false) = true then A else Z := h
theorem divW {i j : Int} (h : 0 < j) (h2 : j < 2 ^ 64) : CDivW i j := ⟨h, by
  have e : j.natAbs < 2 ^ 64 := by omega
  exact Nat.lt_of_le_of_lt (Nat.log2_lt (by omega) |>.mpr e |> Nat.le_of_lt) (by decide)⟩
theorem cxK {CX : CXT} {P : Program} {w : World} {K : PySem.W.Frag} {mg : Str → Option Value} {base : Heap} {N : List Str} {qual : Str} {scope : Scope} {f : Addr} {cd : Value} {A : Around} {outer : List Env} {s : Shared} {H : Hp} {E : XK} : (cxOf CX P w K mg base N qual scope f cd A outer s H E).K = K := rfl
theorem cxQK {P : Program} {w : World} {K : PySem.W.Frag} {mg : Str → Option Value} {base : Heap} {N : List Str} {qual : Str} {scope : Scope} {f : Addr} {cd : Value} {A : Around} {outer : List Env} {s : Shared} {H : Hp} : (cxQ P w K mg base N qual scope f cd A outer s H).K = K := rfl
theorem mulL {i j : Int} (h : -(2 ^ 64) < i) (h2 : i < 2 ^ 64) : CMulU i j := .inl (.inl ⟨h, h2⟩)
theorem mulR {i j : Int} (h : -(2 ^ 64) < j) (h2 : j < 2 ^ 64) : CMulU i j := .inl (.inr ⟨h, h2⟩)
theorem atI_map {ns : List Int} {j : Int} (h0 : 0 ≤ j) (h1 : j < ns.length) : atI (ns.map V.int) j = some (.int (ns.getD j.toNat 0)) := by
  have hj : j.toNat < ns.length := by omega
  unfold atI ixN
  rw [List.length_map, if_pos h0, if_pos h1]
  simp [hj]
theorem k_lenM {K : PySem.W.Frag} {H : Hp} {Q : VK} {p : Addr} {ns : List Int} (h : H p = some (.lst (ns.map V.int))) (q : Q (.int ns.length) H) : rLenQ K [.ref p] H Q := ⟨p, _, rfl, .inl (SqL.of h), by rw [List.length_map]; exact q⟩
theorem sz {n : Nat} (h : n ≤ 100000) : n ≤ sizeLine := Nat.le_trans h (by decide)
section
variable {B H : Hp} {ms : List Addr} {f l : List (Addr × HO)} {QH : Hp → Prop} {p : Addr} {xs : List V} {k : Int} {jn : Nat} {v : V} {x0 x1 x2 x3 : Addr × HO}
theorem k_setF0 (M : Mem B ms H ((p, .lst xs) :: f) l) (hm : p ∈ ms) (hi : ixN xs.length k = some jn) (q : ∀ H', Mem B ms H' ((p, .lst (xs.set jn v)) :: f) l → QH H') : rSetL (.ref p) (.int k) v H QH :=
  ⟨p, xs, k, jn, rfl, rfl, M.getF List.mem_cons_self, hi, q _ (Mem.setF (f1 := []) M hm)⟩
theorem k_setL0 (M : Mem B ms H f ((p, .lst xs) :: l)) (hi : ixN xs.length k = some jn) (q : ∀ H', Mem B ms H' f ((p, .lst (xs.set jn v)) :: l) → QH H') : rSetL (.ref p) (.int k) v H QH :=
  ⟨p, xs, k, jn, rfl, rfl, M.getL List.mem_cons_self, hi, q _ (Mem.setL (l1 := []) M)⟩
theorem k_setL1 (M : Mem B ms H f (x0 :: (p, .lst xs) :: l)) (hi : ixN xs.length k = some jn) (q : ∀ H', Mem B ms H' f (x0 :: (p, .lst (xs.set jn v)) :: l) → QH H') : rSetL (.ref p) (.int k) v H QH :=
  ⟨p, xs, k, jn, rfl, rfl, M.getL (by simp), hi, q _ (Mem.setL (l1 := [x0]) M)⟩
theorem k_setL2 (M : Mem B ms H f (x0 :: x1 :: (p, .lst xs) :: l)) (hi : ixN xs.length k = some jn) (q : ∀ H', Mem B ms H' f (x0 :: x1 :: (p, .lst (xs.set jn v)) :: l) → QH H') : rSetL (.ref p) (.int k) v H QH :=
  ⟨p, xs, k, jn, rfl, rfl, M.getL (by simp), hi, q _ (Mem.setL (l1 := [x0, x1]) M)⟩
end

section
variable {B H H' : Hp} {ms : List Addr} {f l : List (Addr × HO)} {p a : Addr} {o o' u : HO}
theorem Mem.call1New {f : List (Addr × HO)} (M : Mem B ms H ((a, o) :: f) l) (ha : a ∈ ms) (k : Keep [a] H H') (h' : H' a = some o') (hn : H p = none) (hp : H' p = some u) : Mem B ms H' ((a, o') :: f) ((p, u) :: l) := by
  have M1 := M.call1 ha k h'
  have hpa : p ≠ a := fun z => by
    have := M.getF (a := a) (o := o) List.mem_cons_self
    rw [← z, hn] at this; cases this
  have hne : p ∉ (l ++ (a, o') :: f).map (·.1) := by
    have h := M.ne hn
    simpa using h
  refine ⟨M1.atF, fun q hq => ?_, ?_, M1.keep, M1.tr, fun q hq => ?_⟩
  · rcases List.mem_cons.mp hq with rfl | hq
    · exact hp
    · exact M1.atL q hq
  · show (p :: ((l ++ (a, o') :: f).map (·.1))).Nodup
    exact List.nodup_cons.mpr ⟨hne, M1.nd⟩
  · rcases List.mem_cons.mp hq with rfl | hq
    · exact M.fresh hn
    · exact M.new q hq
theorem Keep.of_same (h : Same H H') : Keep [] H H' := ⟨fun a o e _ => h a o e, fun _ h => nomatch h⟩
end
section
variable {K : PySem.W.Frag} {H : Hp} {Q : VK} {p : Addr} {j a b c d e g : Int}
theorem k_ix2 (h : H p = some (.lst [.int a, .int b])) (h0 : 0 ≤ j) (h1 : j < 2) (q : ∀ n, n = a ∨ n = b → Q (.int n) H) : rIxL K (.ref p) (.int j) H Q := by
  obtain rfl | rfl : j = 0 ∨ j = 1 := by omega
  · exact ⟨p, _, _, _, rfl, rfl, SqL.of h, rfl, q _ (by simp)⟩
  · exact ⟨p, _, _, _, rfl, rfl, SqL.of h, rfl, q _ (by simp)⟩
theorem k_ix3 (h : H p = some (.lst [.int a, .int b, .int c])) (h0 : 0 ≤ j) (h1 : j < 3) (q : ∀ n, n = a ∨ n = b ∨ n = c → Q (.int n) H) : rIxL K (.ref p) (.int j) H Q := by
  obtain rfl | rfl | rfl : j = 0 ∨ j = 1 ∨ j = 2 := by omega
  · exact ⟨p, _, _, _, rfl, rfl, SqL.of h, rfl, q _ (by simp)⟩
  · exact ⟨p, _, _, _, rfl, rfl, SqL.of h, rfl, q _ (by simp)⟩
  · exact ⟨p, _, _, _, rfl, rfl, SqL.of h, rfl, q _ (by simp)⟩
theorem k_ix4 (h : H p = some (.lst [.int a, .int b, .int c, .int d])) (h0 : 0 ≤ j) (h1 : j < 4) (q : ∀ n, n = a ∨ n = b ∨ n = c ∨ n = d → Q (.int n) H) : rIxL K (.ref p) (.int j) H Q := by
  obtain rfl | rfl | rfl | rfl : j = 0 ∨ j = 1 ∨ j = 2 ∨ j = 3 := by omega
  · exact ⟨p, _, _, _, rfl, rfl, SqL.of h, rfl, q _ (by simp)⟩
  · exact ⟨p, _, _, _, rfl, rfl, SqL.of h, rfl, q _ (by simp)⟩
  · exact ⟨p, _, _, _, rfl, rfl, SqL.of h, rfl, q _ (by simp)⟩
  · exact ⟨p, _, _, _, rfl, rfl, SqL.of h, rfl, q _ (by simp)⟩
end
end MyL

set_option Elab.async false
set_option linter.all false
set_option maxRecDepth 100000
set_option maxHeartbeats 4000000
namespace MyL
open PySem L2
section
variable {n : L2.St → Hp → Prop} {r : VK} {b c : L2.St → Hp → Prop} {σ : L2.St} {H : Hp} {te ta tb : TE} {Q : VK} {tA : TA} {K : PySem.W.Frag} {C : Addr} {sp : Sp} {W : WX}
/-- C(..), its values at hand -/
def newO (C : Addr) (sp : Sp) (vs : List V) (H : Hp) (Q : VK) (E : XK) : Prop := ∀ x dx, H x = none → H dx = none → dx ≠ x → sp (.ref x :: vs) (upd (upd H dx (.own x)) x (.ins C dx [])) (fun v H2 => v = .non ∧ Q (.ref x) H2) E
theorem k_make0 (h : tA σ H fun vs H1 => newO C sp vs H1 Q (WE W σ)) : tMakeS C sp W tA σ H Q := h
theorem k_meth0 {m : Str} (h : ta σ H fun x H1 => ∃ a dx fs, x = .ref a ∧ H1 a = some (.ins C dx fs) ∧ fs.lookup m = none ∧ tA σ H1 fun vs H2 => sp (.ref a :: vs) H2 Q (WE W σ)) : tMethS C m sp W ta tA σ H Q := h
theorem k_meth {m : Str} {a dx : Addr} {fs : List (Str × V)} {PQ : Addr → Prop} (h : H a = some (.ins C dx fs)) (hl : fs.lookup m = none) (q : PQ a) : ∃ a' dx' fs', V.ref a = .ref a' ∧ H a' = some (.ins C dx' fs') ∧ fs'.lookup m = none ∧ PQ a' := ⟨a, dx, fs, rfl, h, hl, q⟩
theorem k_ownN0 (h : ta σ H fun x H1 => tb σ H1 fun y H2 => ∃ a dx fs j, x = .ref a ∧ y = .int j ∧ H2 a = some (.ins C dx fs) ∧ sp [.ref a, .int j] H2 Q (WE W σ)) : tOwnN C sp W ta tb σ H Q := h
theorem k_ownO0 (h : ta σ H fun x H1 => tb σ H1 fun y H2 => ∃ a dx fs b dy gs, x = .ref a ∧ y = .ref b ∧ H2 a = some (.ins C dx fs) ∧ H2 b = some (.ins C dy gs) ∧ sp [.ref a, .ref b] H2 Q (WE W σ)) : tOwnO C sp W ta tb σ H Q := h
theorem k_ownN {a dx : Addr} {fs : List (Str × V)} {j : Int} {E : XK} (h : H a = some (.ins C dx fs)) (q : sp [.ref a, .int j] H Q E) : ∃ a' dx' fs' j', V.ref a = .ref a' ∧ V.int j = .int j' ∧ H a' = some (.ins C dx' fs') ∧ sp [.ref a', .int j'] H Q E := ⟨a, dx, fs, j, rfl, rfl, h, q⟩
theorem k_ownO {a dx b dy : Addr} {fs gs : List (Str × V)} {E : XK} (h : H a = some (.ins C dx fs)) (h2 : H b = some (.ins C dy gs)) (q : sp [.ref a, .ref b] H Q E) : ∃ a' dx' fs' b' dy' gs', V.ref a = .ref a' ∧ V.ref b = .ref b' ∧ H a' = some (.ins C dx' fs') ∧ H b' = some (.ins C dy' gs') ∧ sp [.ref a', .ref b'] H Q E := ⟨a, dx, fs, b, dy, gs, rfl, rfl, h, h2, q⟩
theorem k_ownEq {a dx b dy : Addr} {fs gs : List (Str × V)} (h : H a = some (.ins C dx fs)) (h2 : H b = some (.ins C dy gs)) (q : sp [.ref a, .ref b] H (fun v H' => ∃ c, v = .bl c ∧ Q v H') (fun _ _ _ => False)) : rOwnEq C sp (.ref a) (.ref b) H Q := ⟨a, dx, fs, b, dy, gs, rfl, rfl, h, h2, q⟩
theorem k_ownIn {a dx : Addr} {fs : List (Str × V)} {y : V} (h : H a = some (.ins C dx fs)) (q : sp [.ref a, y] H (fun v H' => ∃ c, v = .bl c ∧ Q v H') (fun _ _ _ => False)) : rOwnIn C sp y (.ref a) H Q := ⟨a, dx, fs, rfl, h, q⟩
theorem k_ownU {a dx : Addr} {fs : List (Str × V)} (h : H a = some (.ins C dx fs)) (q : sp [.ref a] H Q (fun _ _ _ => False)) : rOwnU C sp (.ref a) H Q := ⟨a, dx, fs, rfl, h, q⟩
theorem k_ownStr {a dx : Addr} {fs : List (Str × V)} (h : H a = some (.ins C dx fs)) (q : sp [.ref a] H (fun v H' => ∃ z, v = .str z ∧ Q v H') (fun _ _ _ => False)) : rOwnStr C sp [.ref a] H Q := ⟨a, dx, fs, rfl, h, q⟩
theorem k_st {z : Str} {PS : Str → Prop} (q : PS z) : ∃ z', V.str z = .str z' ∧ PS z' := ⟨z, rfl, q⟩
/-- isinstance of an instance and its own class -/
theorem k_isiO {a dx : Addr} {fs : List (Str × V)} (h : H a = some (.ins C dx fs)) (cl : Cls K C) (ha : PySem.W.findIn K (.ref C) "__class__" = some (some (.builtin "object.__class__"))) (hn : PySem.W.specialIn K (.builtin "object.__class__") "__get__" = some (some (.builtin "getset_descriptor.__get__")))
    (ht : PySem.W.takesIn K (.builtin "object.__class__") = some true) (hm : PySem.W.mroIn K C (.type "object") = some true) (q : Q (.bl true) H) : rIsi K [.ref a, .ref C] H Q :=
  ⟨_, _, _, _, true, rfl, .own C, .base (.ins h cl ha hn ht hm), by simp [PySem.W.kitOne], q⟩
/-- self.f = e -/
theorem k_sfld0 {f : Str} (h : te σ H fun y H1 => ta σ H1 fun x H2 => ∃ a C dx fs, x = .ref a ∧ H2 a = some (.ins C dx fs) ∧ Cls K C ∧ NoAttr K C f ∧ fs.length < 1000 ∧ n σ (upd H2 a (.ins C dx (putF f y fs)))) : sFld K ta te f ⟨n, r, b, c⟩ σ H := h
theorem k_sfld {f : Str} {a dx : Addr} {fs : List (Str × V)} {y : V} {PQ : Hp → Prop} (h : H a = some (.ins C dx fs)) (cl : Cls K C) (na : NoAttr K C f) (hl : fs.length < 1000) (q : PQ (upd H a (.ins C dx (putF f y fs)))) :
    ∃ a' C' dx' fs', V.ref a = .ref a' ∧ H a' = some (.ins C' dx' fs') ∧ Cls K C' ∧ NoAttr K C' f ∧ fs'.length < 1000 ∧ PQ (upd H a' (.ins C' dx' (putF f y fs'))) := ⟨a, C, dx, fs, rfl, h, cl, na, hl, q⟩
/-- f'..' -/
theorem k_jnil {acc : Str} {QS : Str → Hp → Prop} (q : QS acc H) : tJs [] acc σ H QS := q
theorem k_jcons {t : TE} {ts : List TE} {acc : Str} {QS : Str → Hp → Prop} (q : t σ H fun x H1 => ∃ y : Str, x = .str y ∧ (acc ++ y).length ≤ sizeLine ∧ tJs ts (acc ++ y) σ H1 QS) : tJs (t :: ts) acc σ H QS := q
theorem k_jst {acc y : Str} {PS : Str → Prop} (h : (acc ++ y).length ≤ sizeLine) (q : PS y) : ∃ y' : Str, V.str y = .str y' ∧ (acc ++ y').length ≤ sizeLine ∧ PS y' := ⟨y, rfl, h, q⟩
theorem k_fmt0 (q : te σ H fun x H1 => (∃ y : Str, x = .str y ∧ y.length ≤ sizeLine ∧ Q (.str y) H1) ∨ ∃ i : Int, x = .int i ∧ i.natAbs.log2 < 1920 ∧ Q (.str (toString i)) H1) : tFmt te σ H Q := q
theorem k_fmtI {i : Int} {P1 : Str → Prop} {P2 : Int → Prop} (h : i.natAbs.log2 < 1920) (q : P2 i) : (∃ y : Str, V.int i = .str y ∧ y.length ≤ sizeLine ∧ P1 y) ∨ ∃ i' : Int, V.int i = .int i' ∧ i'.natAbs.log2 < 1920 ∧ P2 i' := .inr ⟨i, rfl, h, q⟩
theorem k_fmtS {z : Str} {P1 : Str → Prop} {P2 : Int → Prop} (h : z.length ≤ sizeLine) (q : P1 z) : (∃ y : Str, V.str z = .str y ∧ y.length ≤ sizeLine ∧ P1 y) ∨ ∃ i' : Int, V.str z = .int i' ∧ i'.natAbs.log2 < 1920 ∧ P2 i' := .inl ⟨z, rfl, h, q⟩
theorem k_addS {x y : Str} {P2 : Str → Str → Prop} (h : x.length + y.length ≤ sizeLine) (q : P2 x y) : ∃ i j, V.str x = .str i ∧ V.str y = .str j ∧ i.length + j.length ≤ sizeLine ∧ P2 i j := ⟨x, y, rfl, rfl, h, q⟩
/-- xs + ys -/
theorem k_cat {B : Hp} {ms : List Addr} {f l : List (Addr × HO)} {p q : Addr} {xs ys : List V} (M : Mem B ms H f l) (h1 : H p = some (.lst xs)) (h2 : H q = some (.lst ys)) (hl : xs.length + ys.length ≤ sizeLine) (k : ∀ a H', Mem B ms H' f ((a, .lst (xs ++ ys)) :: l) → Q (.ref a) H') : rCat (.ref p) (.ref q) H Q :=
  ⟨p, q, xs, ys, rfl, rfl, h1, h2, hl, fun a ha => k a _ (M.alloc ha)⟩
/-- xs[a:b] -/
theorem k_sl0 {rr : V → Option Int → Option Int → Hp → VK → Prop} {tl th : TO} (h : te σ H fun x H1 => tl σ H1 fun l H2 => th σ H2 fun u H3 => rr x l u H3 Q) : tSl rr te tl th σ H Q := h
theorem k_slL {B : Hp} {ms : List Addr} {f l : List (Addr × HO)} {p : Addr} {xs : List V} {lo hi : Option Int} (M : Mem B ms H f l) (h1 : SqL K H p xs) (k : ∀ a H', Mem B ms H' f ((a, .lst (cutV xs lo hi)) :: l) → Q (.ref a) H') : rSlL K (.ref p) lo hi H Q :=
  ⟨p, xs, rfl, h1, fun a ha => k a _ (M.alloc ha)⟩
theorem k_nopart {QO : Option Int → Hp → Prop} (q : QO none H) : tNoPart σ H QO := q
theorem k_part {QO : Option Int → Hp → Prop} (q : te σ H fun x H1 => ∃ i, x = .int i ∧ QO (some i) H1) : tPart te σ H QO := q
theorem k_parti {i : Int} {PQ : Int → Prop} (q : PQ i) : ∃ i', V.int i = .int i' ∧ PQ i' := ⟨i, rfl, q⟩
end
section
variable {σ : L2.St} {H : Hp} {tA : TA} {C : Addr} {fs : List Str} {X : XK} {f g h : Str} {v u t : V}
theorem k_err0 (q : tA σ H fun vs H1 => vs.length = fs.length ∧ errQ C fs vs H1 X) : tMkErr C fs tA σ H X := q
theorem k_errQ0 (q : X (.ref C) none H) : ([] : List V).length = ([] : List Str).length ∧ errQ C [] [] H X := ⟨rfl, q⟩
theorem k_errQ1 (q : ∀ d, H d = none → X (.ref C) (some d) (upd H d (.xd [(f, v)]))) : [v].length = [f].length ∧ errQ C [f] [v] H X := ⟨rfl, q⟩
theorem k_errQ2 (q : ∀ d, H d = none → X (.ref C) (some d) (upd H d (.xd [(g, u), (f, v)]))) : [v, u].length = [f, g].length ∧ errQ C [f, g] [v, u] H X := ⟨rfl, q⟩
theorem k_errQ3 (q : ∀ d, H d = none → X (.ref C) (some d) (upd H d (.xd [(h, t), (g, u), (f, v)]))) : [v, u, t].length = [f, g, h].length ∧ errQ C [f, g, h] [v, u, t] H X := ⟨rfl, q⟩
end
/-- a class of the module, as a value -/
theorem g_ref {X : Cx} {x : Str} {C : Addr} {pos : Pos} (hm : X.mg x = some (.ref C)) (hg : Gl X x := by rfl) (hd : (x == ("__debug__" : Str)) = false := by decide) : PE X (.Name x pos) (tC (.ref C)) := pe_glob (v := .ref C) hg hm rfl hd
/-- a built-in class, as a value -/
theorem g_ty {X : Cx} {x : Str} {n : String} {pos : Pos} (hm : X.mg x = none) (hv : bootBuiltins x = some (.type n)) (hg : Gl X x := by rfl) (hn : x ≠ "__name__" := by decide) (hd : (x == ("__debug__" : Str)) = false := by decide) : PE X (.Name x pos) (tC (.ty n)) := pe_bltn (v := .ty n) hg hm hv rfl hn hd
theorem log2_64 {i : Int} (h : -(2 ^ 64) < i) (h2 : i < 2 ^ 64) : i.natAbs.log2 < 1920 := by
  by_cases e : i.natAbs = 0
  · rw [e]; decide
  · exact Nat.lt_of_lt_of_le ((Nat.log2_lt e).mpr (show i.natAbs < 2 ^ 64 by omega)) (by decide)
theorem strI_len {i : Int} (h : -(2 ^ 64) < i) (h2 : i < 2 ^ 64) : (Str.ofString (toString i)).length ≤ 31 := by
  rw [PySem.ofString_length]
  exact int_text_length_le10 (k := 30) (by decide) (by omega)
end MyL

set_option Elab.async false
set_option linter.all false
set_option maxRecDepth 100000
set_option maxHeartbeats 4000000
/-! Loops by a word between two turns. -/
namespace MyL
open PySem L2
/-- for k in a range that begins at lo and has n turns -/
def RngLoop (lo : Int) (n : Nat) (g : TG) (tb : TS) (nx : L2.St → Hp → Prop) (rt : VK) (σ : L2.St) (H : Hp) : Prop :=
  ∃ Pv : Nat → L2.St → Hp → Prop, Pv 0 σ H ∧ (∀ i σ' H', i < n → Pv i σ' H' → g (.int (lo + i)) σ' H' fun σ2 H2 => tb ⟨Pv (i + 1), rt, nx, Pv (i + 1)⟩ σ2 H2) ∧ ∀ σ' H', Pv n σ' H' → nx σ' H'
/-- for x in a list of xs -/
def LstLoop (K : PySem.W.Frag) (a : Addr) (xs : List V) (g : TG) (tb : TS) (nx : L2.St → Hp → Prop) (rt : VK) (σ : L2.St) (H : Hp) : Prop :=
  ∃ Pv : Nat → L2.St → Hp → Prop, Pv 0 σ H ∧ (∀ i σ' H', i ≤ xs.length → Pv i σ' H' → SqL K H' a xs) ∧ (∀ i x σ' H', xs[i]? = some x → Pv i σ' H' → g x σ' H' fun σ2 H2 => tb ⟨Pv (i + 1), rt, nx, Pv (i + 1)⟩ σ2 H2) ∧ ∀ σ' H', Pv xs.length σ' H' → nx σ' H'
def TupLoop (K : PySem.W.Frag) (a : Addr) (xs : List V) (g : TG) (tb : TS) (nx : L2.St → Hp → Prop) (rt : VK) (σ : L2.St) (H : Hp) : Prop :=
  ∃ Pv : Nat → L2.St → Hp → Prop, Pv 0 σ H ∧ (∀ i σ' H', i ≤ xs.length → Pv i σ' H' → SqT K H' a xs) ∧ (∀ i x σ' H', xs[i]? = some x → Pv i σ' H' → g x σ' H' fun σ2 H2 => tb ⟨Pv (i + 1), rt, nx, Pv (i + 1)⟩ σ2 H2) ∧ ∀ σ' H', Pv xs.length σ' H' → nx σ' H'
/-- a comprehension over a range, over a list -/
def LcR (lo : Int) (n : Nat) (g : TG) (tt : TT) (te : TE) (vs : List Nat) (σ : L2.St) (H : Hp) (Q : VK) : Prop :=
  ∀ D, H D = none → ∃ Pv : Nat → Hp → Prop, Pv 0 (upd H D (.lst [])) ∧ (∀ i H', i < n → Pv i H' → g (.int (lo + i)) (wipe σ vs) H' fun σ2 H2 => wipe σ2 vs = wipe σ vs ∧ tt σ2 H2 fun b H3 =>
    if b = true then te σ2 H3 fun y H4 => ∃ acc, H4 D = some (.lst acc) ∧ acc.length < sizeLine ∧ Pv (i + 1) (upd H4 D (.lst (acc ++ [y]))) else Pv (i + 1) H3) ∧ ∀ H', Pv n H' → Q (.ref D) H'
def LcL (K : PySem.W.Frag) (a : Addr) (xs : List V) (g : TG) (tt : TT) (te : TE) (vs : List Nat) (σ : L2.St) (H : Hp) (Q : VK) : Prop :=
  ∀ D, H D = none → ∃ Pv : Nat → Hp → Prop, Pv 0 (upd H D (.lst [])) ∧ (∀ i H', i ≤ xs.length → Pv i H' → SqL K H' a xs) ∧ (∀ i x H', xs[i]? = some x → Pv i H' → g x (wipe σ vs) H' fun σ2 H2 => wipe σ2 vs = wipe σ vs ∧ tt σ2 H2 fun b H3 =>
    if b = true then te σ2 H3 fun y H4 => ∃ acc, H4 D = some (.lst acc) ∧ acc.length < sizeLine ∧ Pv (i + 1) (upd H4 D (.lst (acc ++ [y]))) else Pv (i + 1) H3) ∧ ∀ H', Pv xs.length H' → Q (.ref D) H'
def iJ (J : It) : TI := fun _ H R => R J H
section
variable {nx : L2.St → Hp → Prop} {rt : VK} {bk ct : L2.St → Hp → Prop} {σ : L2.St} {H : Hp} {tb : TS} {g : TG} {te tl : TE} {tt : TT} {Q : VK} {tA : TA} {K : PySem.W.Frag} {D : Ends} {vs : List Nat}
theorem k_forR1 (h : tA σ H fun vs H1 => ∃ j : Int, vs = [.int j] ∧ -(2 ^ 62) ≤ j ∧ j < 2 ^ 62 ∧ tFor (iJ (Itr 0 j.toNat)) g tb D σ H1) : tFor (iRng1 tA) g tb D σ H := h
theorem k_forR2 (h : tA σ H fun vs H1 => ∃ i j : Int, vs = [.int i, .int j] ∧ (-(2 ^ 62) ≤ i ∧ i < 2 ^ 62 ∧ -(2 ^ 62) ≤ j ∧ j < 2 ^ 62) ∧ tFor (iJ (Itr i (j - i).toNat)) g tb D σ H1) : tFor (iRng2 tA) g tb D σ H := h
theorem k_forL (h : tl σ H fun x H1 => ∃ a, x = .ref a ∧ (∃ xs, SqL K H1 a xs) ∧ tFor (iJ (Itl K a)) g tb D σ H1) : tFor (iList K tl) g tb D σ H := h
theorem k_forT (h : tl σ H fun x H1 => ∃ a, x = .ref a ∧ (∃ xs, SqT K H1 a xs) ∧ tFor (iJ (Itt K a)) g tb D σ H1) : tFor (iTup K tl) g tb D σ H := h
theorem k_lcR1 (h : tA σ H fun zs H1 => ∃ j : Int, zs = [.int j] ∧ -(2 ^ 62) ≤ j ∧ j < 2 ^ 62 ∧ tLc (iJ (Itr 0 j.toNat)) g tt te vs σ H1 Q) : tLc (iRng1 tA) g tt te vs σ H Q := h
theorem k_lcR2 (h : tA σ H fun zs H1 => ∃ i j : Int, zs = [.int i, .int j] ∧ (-(2 ^ 62) ≤ i ∧ i < 2 ^ 62 ∧ -(2 ^ 62) ≤ j ∧ j < 2 ^ 62) ∧ tLc (iJ (Itr i (j - i).toNat)) g tt te vs σ H1 Q) : tLc (iRng2 tA) g tt te vs σ H Q := h
theorem k_lcL (h : tl σ H fun x H1 => ∃ a, x = .ref a ∧ (∃ xs, SqL K H1 a xs) ∧ tLc (iJ (Itl K a)) g tt te vs σ H1 Q) : tLc (iList K tl) g tt te vs σ H Q := h
theorem k_rng1 {n : Int} {PR : Int → Prop} (h1 : -(2 ^ 62) ≤ n) (h2 : n < 2 ^ 62) (q : PR n) : ∃ j : Int, [V.int n] = [.int j] ∧ -(2 ^ 62) ≤ j ∧ j < 2 ^ 62 ∧ PR j := ⟨n, rfl, h1, h2, q⟩
theorem k_rng2 {m n : Int} {PR : Int → Int → Prop} (h1 : -(2 ^ 62) ≤ m) (h2 : m < 2 ^ 62) (h3 : -(2 ^ 62) ≤ n) (h4 : n < 2 ^ 62) (q : PR m n) : ∃ i j : Int, [V.int m, V.int n] = [.int i, .int j] ∧ (-(2 ^ 62) ≤ i ∧ i < 2 ^ 62 ∧ -(2 ^ 62) ≤ j ∧ j < 2 ^ 62) ∧ PR i j := ⟨m, n, rfl, ⟨h1, h2, h3, h4⟩, q⟩
theorem k_lstAt {p : Addr} {xs : List V} {PR : Addr → Prop} (h : SqL K H p xs) (q : PR p) : ∃ a, V.ref p = .ref a ∧ (∃ xs, SqL K H a xs) ∧ PR a := ⟨p, rfl, ⟨xs, h⟩, q⟩
theorem k_tupAt {p : Addr} {xs : List V} {PR : Addr → Prop} (h : SqT K H p xs) (q : PR p) : ∃ a, V.ref p = .ref a ∧ (∃ xs, SqT K H a xs) ∧ PR a := ⟨p, rfl, ⟨xs, h⟩, q⟩
theorem rng_loop {lo : Int} {n : Nat} (h : RngLoop lo n g tb nx rt σ H) : tFor (iJ (Itr lo n)) g tb ⟨nx, rt, bk, ct⟩ σ H := by
  obtain ⟨Pv, h0, hs, hd⟩ := h
  exact for_range (D := ⟨nx, rt, bk, ct⟩) Pv h0 hs hd
theorem lst_loop {a : Addr} {xs : List V} (h : LstLoop K a xs g tb nx rt σ H) : tFor (iJ (Itl K a)) g tb ⟨nx, rt, bk, ct⟩ σ H := by
  obtain ⟨Pv, h0, hl, hs, hd⟩ := h
  exact for_list (D := ⟨nx, rt, bk, ct⟩) Pv h0 hl hs hd
theorem tup_loop {a : Addr} {xs : List V} (h : TupLoop K a xs g tb nx rt σ H) : tFor (iJ (Itt K a)) g tb ⟨nx, rt, bk, ct⟩ σ H := by
  obtain ⟨Pv, h0, hl, hs, hd⟩ := h
  exact for_tup (D := ⟨nx, rt, bk, ct⟩) Pv h0 hl hs hd
theorem lc_rng {lo : Int} {n : Nat} (h : LcR lo n g tt te vs σ H Q) : tLc (iJ (Itr lo n)) g tt te vs σ H Q := fun D hD => by
  obtain ⟨Pv, h0, hs, hd⟩ := h D hD
  exact lc_range Pv h0 hs hd
theorem lc_lst {a : Addr} {xs : List V} (h : LcL K a xs g tt te vs σ H Q) : tLc (iJ (Itl K a)) g tt te vs σ H Q := fun D hD => by
  obtain ⟨Pv, h0, hl, hs, hd⟩ := h D hD
  exact lc_list Pv h0 hl hs hd
theorem k_iteNE {x : Bool} {A Z : Prop} (h : Z) : if (!(x == x)) = true then A else Z := by
  rw [if_neg (by simp)]; exact h
theorem k_iteNS {z : Str} {A Z : Prop} (h : Z) : if (!decide (z = z)) = true then A else Z := by
  rw [if_neg (by simp)]; exact h
theorem k_gName {i : Nat} {v : V} {QG : L2.St → Hp → Prop} (q : QG (σ.set i (some v)) H) : gName i v σ H QG := q
theorem Mem.one {B : Hp} {ms : List Addr} {f l : List (Addr × HO)} {x : Addr × HO} (M : Mem B ms H f (x :: l)) : Mem B ms H f [x] := by
  refine ⟨M.atF, fun p hp => M.atL p (by simp at hp; simp [hp]), ?_, M.keep, M.tr, fun p hp => M.new p (by simp at hp; simp [hp])⟩
  have nd := M.nd
  simp only [List.cons_append, List.map_cons, List.nodup_cons, List.map_append, List.nil_append, List.nodup_append, List.mem_append, List.append_eq] at nd ⊢
  exact ⟨fun z => nd.1 (.inr z), nd.2.2.1⟩
theorem Mem.none {B : Hp} {ms : List Addr} {f l : List (Addr × HO)} (M : Mem B ms H f l) : Mem B ms H f [] := by
  refine ⟨M.atF, (fun p hp => nomatch hp), ?_, M.keep, M.tr, (fun p hp => nomatch hp)⟩
  have nd := M.nd
  rw [List.map_append, List.nodup_append] at nd
  simpa using nd.2.1
/-- a comprehension over a range without a test, whose element is reckoned and makes nothing -/
theorem lcR_pure {B : Hp} {ms : List Addr} {f l : List (Addr × HO)} {lo : Int} {n j : Nat} (M : Mem B ms H f l) (v : Nat → V) (hn : n ≤ 50000) (hw : ∀ x, wipe ((wipe σ vs).set j (some x)) vs = wipe σ vs)
    (he : ∀ (i : Nat) H' D (R : VK), i < n → Mem B ms H' f ((D, .lst ((List.range i).map v)) :: l) → (∀ H4, Mem B ms H4 f ((D, .lst ((List.range i).map v)) :: l) → R (v i) H4) → te ((wipe σ vs).set j (some (.int (lo + i)))) H' R)
    (k : ∀ D H', Mem B ms H' f ((D, .lst ((List.range n).map v)) :: l) → Q (.ref D) H') : tLc (iJ (Itr lo n)) (gName j) tYes te vs σ H Q := by
  refine lc_rng fun D hD => ⟨fun i H' => Mem B ms H' f ((D, .lst ((List.range i).map v)) :: l), M.alloc hD, fun i H' hi M' => ⟨hw _, ?_⟩, fun H' M' => k D H' M'⟩
  refine iteT (B := Mem B ms H' f ((D, .lst ((List.range (i + 1)).map v)) :: l)) (he i H' D _ hi M' fun H4 M4 => ⟨_, M4.getL List.mem_cons_self, ?_, ?_⟩)
  · rw [List.length_map, List.length_range]; exact Nat.lt_of_lt_of_le hi (Nat.le_trans hn (by decide))
  · dsimp only; rw [List.range_succ, List.map_append]; exact Mem.setL (l1 := []) M4
/-- .. over a list -/
theorem lcL_pure {B : Hp} {ms : List Addr} {f l : List (Addr × HO)} {a : Addr} {xs : List V} {j : Nat} (M : Mem B ms H f l) (hx : ∀ H', Mem B ms H' f l → SqL K H' a xs) (v : Nat → V) (hn : xs.length ≤ 50000) (hw : ∀ x, wipe ((wipe σ vs).set j (some x)) vs = wipe σ vs)
    (he : ∀ (i : Nat) x H' D (R : VK), xs[i]? = some x → Mem B ms H' f ((D, .lst ((List.range i).map v)) :: l) → (∀ H4, Mem B ms H4 f ((D, .lst ((List.range i).map v)) :: l) → R (v i) H4) → te ((wipe σ vs).set j (some x)) H' R)
    (k : ∀ D H', Mem B ms H' f ((D, .lst ((List.range xs.length).map v)) :: l) → Q (.ref D) H') : tLc (iJ (Itl K a)) (gName j) tYes te vs σ H Q := by
  refine lc_lst (xs := xs) fun D hD => ⟨fun i H' => Mem B ms H' f ((D, .lst ((List.range i).map v)) :: l), M.alloc hD, fun i H' _ M' => hx H' M'.drop, fun i x H' hi M' => ⟨hw _, ?_⟩, fun H' M' => k D H' M'⟩
  refine iteT (B := Mem B ms H' f ((D, .lst ((List.range (i + 1)).map v)) :: l)) (he i x H' D _ hi M' fun H4 M4 => ⟨_, M4.getL List.mem_cons_self, ?_, ?_⟩)
  · rw [List.length_map, List.length_range]; exact Nat.lt_of_lt_of_le (List.getElem?_eq_some_iff.mp hi).1 (Nat.le_trans hn (by decide))
  · dsimp only; rw [List.range_succ, List.map_append]; exact Mem.setL (l1 := []) M4
end
end MyL

set_option Elab.async false
set_option linter.all false
set_option maxRecDepth 100000
set_option maxHeartbeats 4000000
/-! What is asked of a caught error, step by step. -/
namespace MyL
open PySem L2
section
variable {K : PySem.W.Frag} {H : Hp} {Q : VK} {D a dd C1 C2 C3 : Addr} {fs : List (Str × V)} {b : Bool} {σ : L2.St} {te : TE} {f : Str} {v : V}
theorem k_isXo (hD : ExcK K D) (hd : H dd = some (.xd fs)) (e : PySem.W.kitOne K (.ref D) (.ref C1) = some b) (q : Q (.bl b) H) : rIsX K (.ref D) (some dd) a [.ref a, .ref C1] H Q := ⟨D, _, _, b, rfl, hD, ⟨fs, hd⟩, rfl, .own C1, e, q⟩
theorem k_isXs (hD : ExcK K D) (hd : H dd = some (.xd fs)) (q : Q (.bl true) H) : rIsX K (.ref D) (some dd) a [.ref a, .ref D] H Q := k_isXo hD hd (by simp [PySem.W.kitOne]) q
theorem k_isXt {n : String} (hD : ExcK K D) (hd : H dd = some (.xd fs)) (e : PySem.W.kitOne K (.ref D) (.type n) = some b) (q : Q (.bl b) H) : rIsX K (.ref D) (some dd) a [.ref a, .ty n] H Q := ⟨D, _, _, b, rfl, hD, ⟨fs, hd⟩, rfl, .ty n, e, q⟩
theorem k_isX3 {tp : Addr} (hD : ExcK K D) (hd : H dd = some (.xd fs)) (ht : H tp = some (.tup [.ref C1, .ref C2, .ref C3])) (e : PySem.W.kitAny K (.ref D) [.ref C1, .ref C2, .ref C3] = some b) (q : Q (.bl b) H) : rIsXT K (.ref D) (some dd) a [.ref a, .ref tp] H Q :=
  ⟨D, tp, _, _, b, rfl, hD, ⟨fs, hd⟩, rfl, ht, .cons (.own C1) (.cons (.own C2) (.cons (.own C3) .nil)), e, q⟩
theorem k_isX2 {tp : Addr} (hD : ExcK K D) (hd : H dd = some (.xd fs)) (ht : H tp = some (.tup [.ref C1, .ref C2])) (e : PySem.W.kitAny K (.ref D) [.ref C1, .ref C2] = some b) (q : Q (.bl b) H) : rIsXT K (.ref D) (some dd) a [.ref a, .ref tp] H Q :=
  ⟨D, tp, _, _, b, rfl, hD, ⟨fs, hd⟩, rfl, ht, .cons (.own C1) (.cons (.own C2) .nil), e, q⟩
theorem k_xf0 {cls : Value} {d : Option Addr} (h : te σ H fun x H1 => x = .ref a ∧ cls = .ref D ∧ ∃ (dd : Addr) (fs : List (Str × V)) (v : V), d = some dd ∧ H1 dd = some (.xd fs) ∧ fs.lookup f = some v ∧ Q v H1) : tXf a cls d D f te σ H Q := h
theorem k_xf {PV : V → Prop} (hd : H dd = some (.xd fs)) (hl : fs.lookup f = some v) (q : PV v) : V.ref a = .ref a ∧ Value.ref D = .ref D ∧ ∃ (dd' : Addr) (fs' : List (Str × V)) (v' : V), some dd = some dd' ∧ H dd' = some (.xd fs') ∧ fs'.lookup f = some v' ∧ PV v' := ⟨rfl, rfl, dd, fs, v, rfl, hd, hl, q⟩
theorem xd1 {g : Str} {v : V} : List.lookup g [(g, v)] = some v := by simp [List.lookup]
theorem xd2 {g h : Str} {v u : V} (n : ¬ g = h) : List.lookup g [(h, u), (g, v)] = some v := by
  rw [lookup_put, if_neg n, lookup_put, if_pos rfl]
/-- the clause takes the error -/
theorem k_caught {K : PySem.W.Frag} {c : Value} {i : Nat} {ts : Addr → Value → Option Addr → TS} {Wout : WX} {nx : L2.St → Hp → Prop} {rt : VK} {bk ct : L2.St → Hp → Prop} {cls : Value} {d : Option Addr} (h : PySem.W.exmOne K cls c = some true)
    (q : ∀ a, H a = none → ts a cls d ⟨fun σ' H' => nx (σ'.set i none) H', rt, fun σ' H' => bk (σ'.set i none) H', fun σ' H' => ct (σ'.set i none) H'⟩ (σ.set i (some (.ref a))) H) : wAs K c i ts Wout ⟨nx, rt, bk, ct⟩ cls d σ H :=
  ⟨true, h, fun _ => q, fun z => nomatch z⟩
/-- the script's list -/
theorem k_lenS {p : Addr} {ns : List Int} (h : SqL K H p (ns.map V.int)) (q : Q (.int ns.length) H) : rLenQ K [.ref p] H Q := ⟨p, _, rfl, .inl h, by rw [List.length_map]; exact q⟩
theorem k_ixS {p : Addr} {xs : List V} {j : Int} {v : V} (h : SqL K H p xs) (ha : atI xs j = some v) (q : Q v H) : rIxL K (.ref p) (.int j) H Q := ⟨p, xs, j, v, rfl, rfl, h, ha, q⟩
theorem cut_all {xs : List V} {n : Int} (h : (xs.length : Int) ≤ n) : cutV xs none (some n) = xs := by
  unfold cutV
  have h0 : HT.sIx xs.length 0 none = 0 := rfl
  have h1 : HT.sIx xs.length xs.length (some n) = xs.length := by
    show (if n < 0 then (n + (xs.length : Int)).toNat else min n.toNat xs.length) = xs.length
    rw [if_neg (by omega)]
    omega
  rw [h0, h1]
  simp
end
end MyL

set_option Elab.async false
set_option linter.all false
set_option maxRecDepth 100000
set_option maxHeartbeats 4000000
/-! A class of one's own made by keywords alone. -/
namespace MyL
open PySem PySem.Spec PyProof.Rows L2
structure MakK (P : Program) (w : World) (K : PySem.W.Frag) (mg : Str → Option Value) (base : Heap) (k : Nat) (x : Str) (C : Addr) (ks : List Str) (pm : {α : Type} → List α → List α) (sp : Sp) : Prop where
  ex : ∃ (f : Addr) (fd : FuncData) (ps : List Str), mg x = some (.ref C) ∧ Mk K C f ∧ (∀ (s : Shared) (u : Value) (ws : List Value), K.In s.heap → ws.length = ks.length → BindsTo s fd ⟨[u], ks.zip ws⟩ (ps.zip (u :: pm ws))) ∧
    (∀ (zs : List V) (ws : List Value), Vals zs ws → zs.length = ks.length → Vals (pm zs) (pm ws)) ∧ FnOk P w K mg base (L2.CX P w) k f fd ps sp
def tMakeK (C : Addr) (sp : Sp) (pm : List V → List V) (n : Nat) (W : WX) (tk : TA) : TE := fun σ H Q => tk σ H fun zs H1 => zs.length = n ∧ newO C sp (pm zs) H1 Q (WE W σ)
section
variable {X : Cx} {W : WX} {k j : Nat} {C : Addr} {sp : Sp} {x : Str} {p pos : Pos} {kws : List Keyword} {ks : List Str} {t : TA} {pm : {α : Type} → List α → List α}
theorem c_makeK (c : MakK X.prog X.w X.K X.mg X.base k x C ks pm sp) (tk : Takes X W) (hr : Room j X.A) (hk : k + 1 ≤ j) (hkw : PK X kws t) (hg : Gl X x := by rfl) (hall : (backToKw pos (keywordEach kws X.env)).all (·.1.isSome) = true := by rfl) (hks : (backToKw pos (keywordEach kws X.env)).filterMap (·.1) = ks := by rfl)
    (hdb : (x == ("__debug__" : Str)) = false := by decide) (hpl : ((backTo pos (starEach [] X.env)).any (·.1) || (backToKw pos (keywordEach kws X.env)).any (·.1.isNone)) = false := by rfl) :
    PE X (.Call (.Name x p) [] kws pos) (tMakeK C sp pm ks.length W t) := by
  obtain ⟨f, fd, ps, hm, M, hb, hrel, F⟩ := c.ex
  refine ⟨fun pins s σ H Q I h => ?_⟩
  refine wpAny_Call_Name_kw (ld_glob I hg hm ?_ hdb)
  refine PySem.W.callWith_KW0 (first := []) (h₀ := X.base) I.ok.mod.kin M.kp hall (thn (hkw.run pos pins s σ H _ I h) fun ws s1 hh => ?_) hpl
  obtain ⟨zs, H1, I1, rz, hl, q⟩ := hh
  refine ⟨I1.kIn, ?_⟩
  rw [hks]
  have hwl : ws.length = ks.length := by rw [← rz.length]; exact hl
  have hq := q (s1.heap.objs.size + 1) s1.heap.objs.size (I1.hok.fresh (Nat.le_succ _)) (I1.hok.fresh (Nat.le_refl _)) (Nat.ne_of_lt (Nat.lt_succ_self _))
  have I2 := Inv.made (C := C) I1
  have r2 : Vals (V.ref (s1.heap.objs.size + 1) :: pm zs) (Value.ref (s1.heap.objs.size + 1) :: pm ws) := .cons rfl (hrel zs ws rz hl)
  have hr2 : Room (k + 1) X.A := hr.mono hk
  show wpAny _ _ (call (.ref C) [] (ks.zip ws)) _ _ _
  refine wpAny_call (make_map (f := f) I1.kIn M.makes M.init (beq_iff_eq.mp M.fn) (codeAny_mono (F.run _ X.stack _ _ ⟨[Value.ref (s1.heap.objs.size + 1)], ks.zip ws⟩ (Value.ref (s1.heap.objs.size + 1) :: pm ws) _ _ (WE W σ) (hr2.make C [] (ks.zip ws))
    (I2.env0.make C [] (ks.zip ws)) (hb _ _ ws I2.kIn hwl) r2 hq) fun r s' hq' => ?_))
  match r, hq' with
  | .error e, hq' => exact passAt tk σ pins _ _ e s' I2 hq'
  | .ok (.ret u), hq' =>
    obtain ⟨v, H', I3, rv, ev, q3⟩ := I2.after hq'
    subst ev
    exact ⟨rv, ⟨V.ref (s1.heap.objs.size + 1), H', I3, rfl, q3⟩⟩
  | .ok .next, hq' => exact hq'.elim
  | .ok .brk, hq' => exact hq'.elim
  | .ok .cont, hq' => exact hq'.elim
theorem k_makeK0 {σ : L2.St} {H : Hp} {Q : VK} {pm : List V → List V} {n : Nat} (h : t σ H fun zs H1 => zs.length = n ∧ newO C sp (pm zs) H1 Q (WE W σ)) : tMakeK C sp pm n W t σ H Q := h
end
/-- two turned about -/
def swap2 {α : Type} : List α → List α
  | [a, b] => [b, a]
  | l => l
theorem k_swap2 {H : Hp} {Q : VK} {E : XK} {C : Addr} {sp : Sp} {u v : V} (q : newO C sp [v, u] H Q E) : [u, v].length = 2 ∧ newO C sp (swap2 [u, v]) H Q E := ⟨rfl, q⟩
end MyL

set_option Elab.async false
set_option linter.all false
set_option maxRecDepth 100000
set_option maxHeartbeats 4000000
/-! A comprehension whose element makes an object at every turn. -/
namespace MyL
open PySem L2
section
variable {σ : L2.St} {H : Hp} {te : TE} {Q : VK} {K : PySem.W.Frag} {vs : List Nat} {B : Hp} {ms : List Addr} {f l : List (Addr × HO)}
theorem Mem.swap {x y : Addr × HO} (M : Mem B ms H f (x :: y :: l)) : Mem B ms H f (y :: x :: l) := by
  refine ⟨M.atF, fun p hp => M.atL p ?_, ?_, M.keep, M.tr, fun p hp => M.new p ?_⟩
  · simp at hp ⊢; rcases hp with h | h | h <;> simp [h]
  · have nd := M.nd
    simp only [List.cons_append, List.map_cons, List.nodup_cons, List.mem_cons, not_or] at nd ⊢
    exact ⟨⟨fun z => nd.1.1 z.symm, nd.2.1⟩, nd.1.2, nd.2.2⟩
  · simp at hp ⊢; rcases hp with h | h | h <;> simp [h]
theorem lcL_new {O : V → HO → Prop} {a : Addr} {xs : List V} {j : Nat} (M : Mem B ms H f l) (hx : ∀ H' l', Mem B ms H' f l' → SqL K H' a xs) (hn : xs.length ≤ 50000) (hw : ∀ x, wipe ((wipe σ vs).set j (some x)) vs = wipe σ vs)
    (he : ∀ x H' l' (R : VK), x ∈ xs → Mem B ms H' f l' → (∀ y o H4, O x o → Mem B ms H4 f ((y, o) :: l') → R (.ref y) H4) → te ((wipe σ vs).set j (some x)) H' R)
    (k : ∀ (D : Addr) (zs : List (Addr × HO)) (H' : Hp), zs.length = xs.length → (∀ (n : Nat) (x : V) (z : Addr × HO), xs[n]? = some x → zs[n]? = some z → O x z.2) → Mem B ms H' f ((D, .lst (zs.map fun z => V.ref z.1)) :: (zs.reverse ++ l)) → Q (.ref D) H') : tLc (iJ (Itl K a)) (gName j) tYes te vs σ H Q := by
  refine lc_lst (xs := xs) fun D hD => ⟨fun i H' => ∃ zs : List (Addr × HO), zs.length = i ∧ (∀ (n : Nat) (x : V) (z : Addr × HO), xs[n]? = some x → zs[n]? = some z → O x z.2) ∧ Mem B ms H' f ((D, .lst (zs.map fun z => V.ref z.1)) :: (zs.reverse ++ l)), ?_, ?_, ?_, ?_⟩
  · exact ⟨[], rfl, (fun n x z _ h => by simp at h), M.alloc hD⟩
  · rintro i H' _ ⟨zs, _, _, M'⟩
    exact hx H' _ M'
  · rintro i x H' hi ⟨zs, hz, hO, M'⟩
    refine ⟨hw _, ?_⟩
    refine iteT (B := ∃ zs : List (Addr × HO), zs.length = i + 1 ∧ (∀ (n : Nat) (x : V) (z : Addr × HO), xs[n]? = some x → zs[n]? = some z → O x z.2) ∧ Mem B ms H' f ((D, .lst (zs.map fun z => V.ref z.1)) :: (zs.reverse ++ l))) (he x H' _ _ (List.mem_of_getElem? hi) M' fun y o H4 ho M4 => ?_)
    have hil : i < xs.length := by
      have := List.getElem?_eq_some_iff.1 hi
      exact this.1
    refine ⟨_, M4.getL (List.mem_cons_of_mem _ List.mem_cons_self), ?_, zs ++ [(y, o)], ?_, ?_, ?_⟩
    · rw [List.length_map, hz]; exact Nat.lt_of_lt_of_le hil (Nat.le_trans hn (by decide))
    · simp [hz]
    · intro n x' z hx' hz'
      by_cases hlt : n < i
      · rw [List.getElem?_append_left (by omega)] at hz'
        exact hO n x' z hx' hz'
      · have hni : n = i := by
          have := (List.getElem?_eq_some_iff.1 hz').1
          simp at this
          omega
        subst hni
        rw [List.getElem?_append_right (by omega), hz, Nat.sub_self] at hz'
        rw [hi] at hx'
        simp at hx' hz'
        subst hx' hz'
        exact ho
    · have := (Mem.setL (l1 := [(y, o)]) (o' := .lst (List.map (fun z : Addr × HO => V.ref z.1) (zs ++ [(y, o)]))) M4).swap
      simpa using this
  · rintro H' ⟨zs, hz, hO, M'⟩
    exact k D zs H' hz hO M'
theorem k_swapK {E : XK} {C : Addr} {sp : Sp} {u v : V} {s t : Str} (q : newO C sp [v, u] H Q E) : [u, v].length = [s, t].length ∧ newO C sp (swap2 [u, v]) H Q E := ⟨rfl, q⟩
theorem k_iteNEq {x y : Bool} {A Z : Prop} (e : x = y) (h : Z) : if (!(x == y)) = true then A else Z := by
  subst e; rw [if_neg (by simp)]; exact h
end
end MyL

set_option Elab.async false
set_option linter.all false
set_option maxRecDepth 100000
set_option maxHeartbeats 4000000
/-! The end: what the top has written, def by def, and the law's own head. -/
namespace MyL
open PySem PySem.Spec PyProof.Rows L2
def DefAt (K : PySem.W.Frag) (mg : Str → Option Value) (x qual : Str) (st : Stmt) : Prop := ∃ (f : Addr) (fd : FuncData), mg x = some (.ref f) ∧ Fun K x qual st f fd
def MethAt (K : PySem.W.Frag) (C : Addr) (m qual : Str) (st : Stmt) : Prop := ∃ (f : Addr) (fd : FuncData), PySem.W.findIn K (.ref C) m = some (some (.ref f)) ∧ PySem.W.isFn K (.ref f) = true ∧ Fun K m qual st f fd
section
variable {P : Program} {w : World} {K : PySem.W.Frag} {mg : Str → Option Value} {base h : Heap} {k : Nat} {C f : Addr} {x m qual : Str} {sp : Sp} {st : Stmt} {fd : FuncData} {ps : List Str} {oc : Value} {od an : Option Addr} {osl : Array (Option Value)} {kV doc pm cdv ct : Value}
theorem gdef (X : K.In h) (G : h.Ns mainGlobals mg) (a : PySem.W.nsIn K mainGlobals x = some (some (.ref f))) (l : K.lookup f = some ⟨oc, od, .func (PySem.W.fnOf x qual (defArgs st) (defBody st) (defScope st) .none kV doc pm an cdv ct), osl⟩)
    (c : PySem.W.codeIn K cdv qual = true) (kp : PySem.W.keepIn K (.ref f) = true) : DefAt K mg x qual st := ⟨f, _, PySem.W.mg_of X G a, fun_mk l c kp⟩
theorem gmeth (a : PySem.W.findIn K (.ref C) m = some (some (.ref f))) (i : PySem.W.isFn K (.ref f) = true) (l : K.lookup f = some ⟨oc, od, .func (PySem.W.fnOf m qual (defArgs st) (defBody st) (defScope st) .none kV doc pm an cdv ct), osl⟩)
    (c : PySem.W.codeIn K cdv qual = true) (kp : PySem.W.keepIn K (.ref f) = true) : MethAt K C m qual st := ⟨f, _, a, i, fun_mk l c kp⟩
/-- the arguments of a def of the text bind by place -/
def BindsSt (x qual : Str) (st : Stmt) (ps : List Str) : Prop := ∀ (kV doc pm : Value) (an : Option Addr) (cdv ct : Value) (us : List Value), us.length = ps.length → bindArgs (PySem.W.fnOf x qual (defArgs st) (defBody st) (defScope st) .none kV doc pm an cdv ct) ⟨us, []⟩ = pure (ps.zip us)
theorem cal_of (D : DefAt K mg x qual st) (hb : BindsSt x qual st ps) (ok : ∀ {f : Addr} {fd : FuncData}, Fun K x qual st f fd → FnOk P w K mg base (L2.CX P w) k f fd ps sp) : Cal P w K mg base k x sp := by
  obtain ⟨f, fd, a, F⟩ := D
  exact ⟨f, fd, ps, a, F.kp, F.binds hb, ok F⟩
theorem calQ_of (D : DefAt K mg x qual st) (hb : BindsSt x qual st ps) (ok : ∀ {f : Addr} {fd : FuncData}, Fun K x qual st f fd → Binds K fd ps [] → FnQ P w K mg base k f sp) : CalQ P w K mg base k x sp := by
  obtain ⟨f, fd, a, F⟩ := D
  exact ⟨f, a, F.kp, ok F (F.binds hb)⟩
theorem spc_of (D : MethAt K C m qual st) (hb : BindsSt m qual st ps) (ok : ∀ {f : Addr} {fd : FuncData}, Fun K m qual st f fd → FnOk P w K mg base (L2.CX P w) k f fd ps sp) : Spc P w K mg base k C m sp := by
  obtain ⟨f, fd, a, i, F⟩ := D
  exact ⟨f, a, i, raw0 (ok F) (F.binds hb)⟩
theorem met_of (D : MethAt K C m qual st) (cl : Cls K C) (hb : BindsSt m qual st ps) (ok : ∀ {f : Addr} {fd : FuncData}, Fun K m qual st f fd → FnOk P w K mg base (L2.CX P w) k f fd ps sp) : Met P w K mg base k C m sp := by
  obtain ⟨f, fd, a, i, F⟩ := D
  exact ⟨f, fd, ps, cl, ⟨a, i, F.kp⟩, F.binds hb, ok F⟩
theorem mak_of (D : MethAt K C "__init__" qual st) (gC : mg x = some (.ref C)) (mk : PySem.W.makesIn K C = true) (kc : PySem.W.keepIn K (.ref C) = true) (hb : BindsSt "__init__" qual st ps) (ok : ∀ {f : Addr} {fd : FuncData}, Fun K "__init__" qual st f fd → FnOk P w K mg base (L2.CX P w) k f fd ps sp) : Mak P w K mg base k x C sp := by
  obtain ⟨f, fd, a, i, F⟩ := D
  exact ⟨f, fd, ps, gC, ⟨mk, a, i, kc⟩, F.binds hb, ok F⟩
def KwSt (x qual : Str) (st : Stmt) (ps ks : List Str) (pm : {α : Type} → List α → List α) : Prop := ∀ (kV doc pm' : Value) (an : Option Addr) (cdv ct : Value) (u : Value) (ws : List Value), ws.length = ks.length → bindArgs (PySem.W.fnOf x qual (defArgs st) (defBody st) (defScope st) .none kV doc pm' an cdv ct) ⟨[u], ks.zip ws⟩ = pure (ps.zip (u :: pm ws))
theorem swap2_vals {zs : List V} {ws : List Value} (r : Vals zs ws) : Vals (swap2 zs) (swap2 ws) := by
  cases r with
  | nil => exact .nil
  | cons h1 r1 =>
    cases r1 with
    | nil => exact .cons h1 .nil
    | cons h2 r2 =>
      cases r2 with
      | nil => exact .cons h2 (.cons h1 .nil)
      | cons h3 r3 => exact .cons h1 (.cons h2 (.cons h3 r3))
theorem makK_of {ks : List Str} (D : MethAt K C "__init__" qual st) (gC : mg x = some (.ref C)) (mk : PySem.W.makesIn K C = true) (kc : PySem.W.keepIn K (.ref C) = true) (hb : KwSt "__init__" qual st ps ks swap2) (ok : ∀ {f : Addr} {fd : FuncData}, Fun K "__init__" qual st f fd → FnOk P w K mg base (L2.CX P w) k f fd ps sp) : MakK P w K mg base k x C ks swap2 sp := by
  obtain ⟨f, fd, a, i, F⟩ := D
  obtain ⟨oc, od, kV, doc, pm', an, cdv, ct, osl, rfl, lk, hcd⟩ := id F.ex
  exact ⟨f, _, ps, gC, ⟨mk, a, i, kc⟩, fun s u ws _ hl => .of_eq (hb kV doc pm' an cdv ct u ws hl), fun zs ws r _ => swap2_vals r, ok F⟩
def spLaw (K : PySem.W.Frag) : Sp := fun vs H Q _ => ∃ (a : Addr) (ns : List Int), vs = [.ref a] ∧ SqL K H a (ns.map V.int) ∧ ns.length ≤ 63 ∧ ∀ H', Q (.bl true) H'
end
theorem law_walk {l : PySem.W.OpenLaw} {k : Nat} {q : Program} {loose : List Str} {XP : (Str → Option Value) → Heap → Prop} {YP : World → Heap → Prop} {d : DefRec} {K : Params → PySem.W.Frag} {st : Stmt} {x : Str} (hn : l.most = some 63) (hdf : d.params.defaults = []) (hr : Room k callerA)
    (hY : ∀ (w : World) (h : Heap), YP w h → (K w.params).In h)
    (hb : ∀ (kV doc pm : Value) (an : Option Addr) (cdv ct : Value) (s : Shared) (u : Value), BindsTo s (PySem.W.fnOf d.name d.name (defArgs st) (defBody st) (defScope st) .none kV doc pm an cdv ct) ⟨[u], []⟩ [(x, u)])
    (F : ∀ (w : World) (mg : Str → Option Value) (h : Heap), (K w.params).In h → h.Ns mainGlobals mg → DefAt (K w.params) mg d.name d.name st ∧ ∀ {f : Addr} {fd : FuncData}, Fun (K w.params) d.name d.name st f fd → ∀ base : Heap, FnOk l.prog w (K w.params) mg base (L2.CX l.prog w) k f fd [x] (spLaw (K w.params))) :
    PySem.W.WalkO q loose XP YP l.row.toRowW d [] (fun f vs => PySem.call f vs) := by
  refine L2.walk_of (n := 63) (k := k) (x := x) (CX := fun w => L2.CX l.prog w) (sp := fun w => spLaw (K w.params)) hn (by decide) hdf hr hY (fun w mg fa h KX G hmg => ?_) (fun _ _ a ns hl _ hS => ⟨a, ns, rfl, hS, hl, fun _ => rfl⟩) fun _ _ _ _ _ ⟨_, _, _, _, _, _, _, _, _, _, _, _, z⟩ => z
  obtain ⟨⟨f, fd, a, Fn⟩, ok⟩ := F w mg h KX G
  have e := hmg.symm.trans a
  cases e
  obtain ⟨oc, od, kV, doc, pm, an, cdv, ct, osl, rfl, lk, hcd⟩ := id Fn.ex
  exact ⟨_, fun s u => hb kV doc pm an cdv ct s u, fun base _ _ => ok Fn base⟩
end MyL

set_option Elab.async false
set_option linter.all false
set_option maxRecDepth 100000
set_option maxHeartbeats 4000000
/-! The end, for error classes of one's own. -/
namespace PySem.ErrX
open PySem PySem.W PySem.Spec PyProof.Rows L2 PySem.ErrX HandSPX
/-- what the text of an error's __init__ says -/
def ErrSt (prog : Program) (qual : Str) (st : Stmt) (fs : List Str) : Prop :=
  ∃ (rest : List Stmt) (txt : Str) (j : Nat) (p0 p1 p2 p3 p4 p5 : Pos) (ar : Arg),
    defBody st = .Expr (.Call (.Attribute (.Call (.Name "super" p0) [] [] p1) "__init__" p2) [.Constant (.str txt) j p3] [] p4) p5 :: rest ∧
    (∀ env : Env, eval (.Call (.Attribute (.Call (.Name "super" p0) [] [] p1) "__init__" p2) [.Constant (.str txt) j p3] [] p4) env = (do
      let ov ← attributeBase (.Call (.Name "super" p0) [] [] p1) "__init__" env (eval (.Call (.Name "super" p0) [] [] p1) env)
      standAt p2.atName
      let (f, first) ← holding [ov] (getMethod ov "__init__" (do return (← importBound (.Call (.Name "super" p0) [] [] p1) env).getD true))
      callWith p4 f first (backTo p4 (starEach [.Constant (.str txt) j p3] env)) [])) ∧
    (prog.main.scope.names.lookup ("super" : Str)).isSome = false ∧
    ((defArgs st).posonlyargs ++ (defArgs st).args).head? = some ar ∧ ar.arg = "self" ∧
    (defScope st).kind = .function ∧ (defScope st).isCoroutine = false ∧ (defScope st).isGenerator = false ∧ (∀ x ∈ (defScope st).names, x.2 ≠ .cell) ∧ (defScope st).names.lookup ("super" : Str) = some .globalImplicit ∧ (defScope st).names.lookup ("__class__" : Str) = some .free ∧
    (defScope st).names.lookup ("self" : Str) = some .local ∧ (∀ f ∈ fs, (defScope st).names.lookup f = some .local) ∧ (("self" : Str) :: fs).Nodup ∧
    Asgs fs rest ∧ ∀ (doc pm : Value) (an : Option Addr) (cda : Addr) (ct : Value) (cc : Addr) (us : List Value), us.length = fs.length + 1 → bindArgs (ksFn "__init__" qual (defArgs st) (defBody st) (defScope st) .none .none doc pm an (.ref cda) ct cc) ⟨us, []⟩ = pure (((("self" : Str) :: fs)).zip us)
theorem fn_mk {prog : Program} {K : Frag} {C fI : Addr} {fs : List Str} {st : Stmt} {qual : Str} {oc : Value} {od : Option Addr} {doc pm : Value} {an : Option Addr} {cda : Addr} {ct : Value} {cc : Addr} {osl : Array (Option Value)} {ccl : Value} {cdd : Option Addr} {vs : Array Value} {ccs : Array (Option Value)} {file : Str} {tf : Tok} {cl : Value} {cld : Option Addr} {csl : Array (Option Value)}
    (S : ErrSt prog qual st fs) (l : K.lookup fI = some ⟨oc, od, .func (ksFn "__init__" qual (defArgs st) (defBody st) (defScope st) .none .none doc pm an (.ref cda) ct cc), osl⟩) (hc : codeIn K (.ref cda) qual = true) (l2 : K.lookup cda = some ⟨ccl, cdd, .fields vs, ccs⟩) (hv : vs[2]? = some (.str file tf)) (hf : ((prog.main.file : Str) == file) = true)
    (l3 : K.lookup cc = some ⟨cl, cld, .cell (some (.ref C)), csl⟩) :
    ∃ (oc : Value) (od : Option Addr) (qual : Str) (params : Arguments) (scope : Scope) (rest : List Stmt) (doc pm : Value) (an : Option Addr) (cda : Addr) (ct : Value) (cc : Addr) (osl : Array (Option Value)) (txt : Str) (j : Nat) (p0 p1 p2 p3 p4 p5 : Pos) (ar : Arg)
      (ccl : Value) (cdd : Option Addr) (vs : Array Value) (ccs : Array (Option Value)) (file : Str) (tf : Tok) (cl : Value) (cld : Option Addr) (csl : Array (Option Value)),
    K.lookup fI = some ⟨oc, od, .func (ksFn "__init__" qual params (.Expr (.Call (.Attribute (.Call (.Name "super" p0) [] [] p1) "__init__" p2) [.Constant (.str txt) j p3] [] p4) p5 :: rest) scope .none .none doc pm an (.ref cda) ct cc), osl⟩ ∧ codeIn K (.ref cda) qual = true ∧
    K.lookup cda = some ⟨ccl, cdd, .fields vs, ccs⟩ ∧ vs[2]? = some (.str file tf) ∧ ((prog.main.file : Str) == file) = true ∧ K.lookup cc = some ⟨cl, cld, .cell (some (.ref C)), csl⟩ ∧
    (∀ env : Env, eval (.Call (.Attribute (.Call (.Name "super" p0) [] [] p1) "__init__" p2) [.Constant (.str txt) j p3] [] p4) env = (do
      let ov ← attributeBase (.Call (.Name "super" p0) [] [] p1) "__init__" env (eval (.Call (.Name "super" p0) [] [] p1) env)
      standAt p2.atName
      let (f, first) ← holding [ov] (getMethod ov "__init__" (do return (← importBound (.Call (.Name "super" p0) [] [] p1) env).getD true))
      callWith p4 f first (backTo p4 (starEach [.Constant (.str txt) j p3] env)) [])) ∧
    (prog.main.scope.names.lookup ("super" : Str)).isSome = false ∧
    (params.posonlyargs ++ params.args).head? = some ar ∧ ar.arg = "self" ∧
    scope.kind = .function ∧ scope.isCoroutine = false ∧ scope.isGenerator = false ∧ (∀ x ∈ scope.names, x.2 ≠ .cell) ∧ scope.names.lookup ("super" : Str) = some .globalImplicit ∧ scope.names.lookup ("__class__" : Str) = some .free ∧
    scope.names.lookup ("self" : Str) = some .local ∧ (∀ f ∈ fs, scope.names.lookup f = some .local) ∧ (("self" : Str) :: fs).Nodup ∧
    Asgs fs rest ∧ ∀ us : List Value, us.length = fs.length + 1 → bindArgs (ksFn "__init__" qual params (.Expr (.Call (.Attribute (.Call (.Name "super" p0) [] [] p1) "__init__" p2) [.Constant (.str txt) j p3] [] p4) p5 :: rest) scope .none .none doc pm an (.ref cda) ct cc) ⟨us, []⟩ = pure (((("self" : Str) :: fs)).zip us) := by
  obtain ⟨rest, txt, j, p0, p1, p2, p3, p4, p5, ar, e, h1, h2, h3, h4, h5, h6, h7, h8, h9, h10, h11, h12, h13, h14, h15⟩ := S
  have h15' := h15 doc pm an cda ct cc
  rw [e] at l h15'
  exact ⟨oc, od, qual, defArgs st, defScope st, rest, doc, pm, an, cda, ct, cc, osl, txt, j, p0, p1, p2, p3, p4, p5, ar, ccl, cdd, vs, ccs, file, tf, cl, cld, csl, l, hc, l2, hv, hf, l3, h1, h2, h3, h4, h5, h6, h7, h8, h9, h10, h11, h12, h13, h14, h15'⟩
theorem err_mk {prog : Program} {K : Frag} {h : Heap} {mg : Str → Option Value} {x : Str} {C fI : Addr} {fs : List Str} {st : Stmt} {qual : Str} {oc : Value} {od : Option Addr} {doc pm : Value} {an : Option Addr} {cda : Addr} {ct : Value} {cc : Addr} {osl : Array (Option Value)} {ccl : Value} {cdd : Option Addr} {vs : Array Value} {ccs : Array (Option Value)} {file : Str} {tf : Tok} {cl : Value} {cld : Option Addr} {csl : Array (Option Value)}
    {nm q N bs bm sn sub ab col dd k0 k1 k2 k3 k5}
    (X : K.In h) (G : h.Ns mainGlobals mg) (S : ErrSt prog qual st fs) (gC : nsIn K mainGlobals x = some (some (.ref C))) (gS : nsIn K mainGlobals "super" = some none)
    (xL : K.lookup C = some (excClassObj nm q C N bs bm true sn sub ab col dd k0 k1 k2 k3 k5 "ValueError.__new__")) (xM : refsVE bm = true)
    (sa : findIn K (.ref C) "__setattr__" = some (some (.builtin "object.__setattr__"))) (no : ∀ f ∈ fs, findIn K (.ref C) f = some none) (iC : findIn K (.ref C) "__init__" = some (some (.ref fI))) (tC : typeIn K (.ref fI) = some (.type "function")) (kC : keepIn K (.ref C) = true)
    (exC : subIn K (.ref C) (.type "BaseException") = some true) (veC : subIn K (.ref C) (.type "ValueError") = some true) (tyC : typeIn K (.ref C) = some (.type "type")) (op : nsIn K cStatics "thirdparty.any" = some none) (al : ks_superIn K C C "__init__" = some (some (.builtin "ValueError.__init__"))) (slf : mroIn K C (.ref C) = some true)
    (l : K.lookup fI = some ⟨oc, od, .func (ksFn "__init__" qual (defArgs st) (defBody st) (defScope st) .none .none doc pm an (.ref cda) ct cc), osl⟩) (hc : codeIn K (.ref cda) qual = true) (l2 : K.lookup cda = some ⟨ccl, cdd, .fields vs, ccs⟩) (hv : vs[2]? = some (.str file tf)) (hf : ((prog.main.file : Str) == file) = true)
    (l3 : K.lookup cc = some ⟨cl, cld, .cell (some (.ref C)), csl⟩) : ErrTxt prog K mg x C fI fs :=
  ⟨mg_of X G gC, mg_none_of X G gS, ⟨nm, q, N, bs, bm, sn, sub, ab, col, dd, k0, k1, k2, k3, k5, xL, xM⟩, sa, no, iC, tC, kC, exC, veC, tyC, op, al, slf, fn_mk S l hc l2 hv hf l3⟩
theorem exck_mk {K : Frag} {D : Addr} (cl : (clsIn K D).isSome = true) (ga : findIn K (.ref D) "__getattribute__" = some (some (.builtin "BaseException.__getattribute__"))) (gg : findIn K (.ref D) "__getattr__" = some none) (sb : subIn K (.ref D) (.type "BaseException") = some true)
  (ca : findIn K (.ref D) "__class__" = some (some (.builtin "object.__class__"))) (cn : specialIn K (.builtin "object.__class__") "__get__" = some (some (.builtin "getset_descriptor.__get__"))) (ct : takesIn K (.builtin "object.__class__") = some true) (cm : mroIn K D (.type "object") = some true) : MyL.ExcK K D := ⟨cl, ga, gg, sb, ca, cn, ct, cm⟩
theorem int_has {K : Frag} {x : Str} (h : (fastLookup "int" x).isSome = true) : ∃ fo, findIn K (.type "int") x = some fo := Option.isSome_iff_exists.mp h
theorem num_mk {K : Frag} {C : Addr} {op : Operator} (sf : selfFirst K C = true) (r : findIn K (.ref C) (dunderR op.info.2) = some none) (it : subIn K (.type "int") (.ref C) = some false) (h1 : (fastLookup "int" (PySem.dunder op.info.2)).isSome = true) (h2 : (fastLookup "int" (dunderR op.info.2)).isSome = true) : MyL.NumC K C op := ⟨sf, r, it, int_has h1, int_has h2⟩
end PySem.ErrX

set_option Elab.async false
set_option linter.all false
set_option maxRecDepth 100000
set_option maxHeartbeats 4000000
/-! != by an own __eq__; properties. -/
namespace MyL
open PySem PySem.Spec PyProof.Rows L2
section
variable {prog : Program} {w : World} {A : Around} {E : Value → Shared → Prop} {s : Shared} {K : PySem.W.Frag} {x C L f : Addr} {h₀ : Heap} {m : Str → Option Value} {ox : Obj} {od : Option Obj} {name : Str} {b tb : Value}
theorem ifBound_B {M : Model} {args : List Value} {id : String} {Q : Option Value → Shared → Prop} (X : K.In s.heap) (I : PySem.W.InstAt s.heap x ox C od) (hs : PySem.W.findIn K (.ref C) name = some (some (.builtin id))) (hb : ∀ self, bindSpecial (.builtin id) self = pure (.builtin id, [self]))
    (h : wpAny M A (call (.builtin id) (.ref x :: args)) (fun v => Q (some v)) E s) : wpAny M A (callSpecialIfBound? (.ref x) name args) Q E s := by
  simp only [callSpecialIfBound?, bindSpecialIfBound?]
  refine wpAny_holding (wpAny_bind (wpAny_bind (wpAny_bind (I.type.here ((PySem.W.looks_findIn X hs).here ?_)))))
  simp only [hb]
  refine wpAny_bind (wpAny_askSetting (wpAny_ite ?_))
  have fin : wpAny M A (call (.builtin id) ([.ref x] ++ args) >>= fun v => pure (some v)) Q E s := wpAny_bind (wpAny_mono h (fun v s' h' => wpAny_pure h') fun _ _ h' => h')
  split
  · exact wpAny_bind (wpAny_pure (wpAny_pure fin))
  · exact wpAny_tryCatch (wpAny_bind (wpAny_pure (wpAny_pure fin)))
theorem objNe_own {Q : Fin → Shared → Prop} (hu : A.units < cLine) (X : K.In s.heap) (I : PySem.W.InstAt s.heap x ox C od) (hs : PySem.W.findIn K (.ref C) "__eq__" = some (some (.ref f))) (hf : PySem.W.isFn K (.ref f) = true)
    (hcall : wpAny (model prog w) A (call (.ref f) [.ref x, b]) (fun v s' => ∃ c, v = .bool c ∧ Q (.done (.ret (.bool (!c)))) s') E s) :
    wpAny (model prog w) A (Builtin.«object.__ne__» ⟨[.ref x, b], []⟩) Q E s := by
  unfold Builtin.«object.__ne__»
  repeat (first
    | with_reducible refine wpAny_cRoomFor hu ?_
    | (refine wpAny_bind (m := callSpecialIfBound? (.ref x) (Str.ofString "__eq__") [b])
        (PySem.W.ifBound_K X I hs hf (wpAny_mono hcall (fun r s' hr => by
          obtain ⟨c, rfl, hq⟩ := hr
          repeat (first | exact hq | exact wpAny_pure hq | exact wpAny_truthy_bool hq | (refine wpAny_bind (m := truthy (.bool _)) (wpAny_truthy_bool ?_)) | wp_step)) fun _ _ e => e)))
    | wp_step)
theorem ne_own {Q : Value → Shared → Prop} (hu : A.units + 1 < cLine) (X : K.In s.heap) (I : PySem.W.InstAt s.heap x ox C od) (hb : PySem.W.Looks (model prog w) s.heap (typeOf b) (.ref C)) (hn : PySem.W.findIn K (.ref C) "__ne__" = some (some (.builtin "object.__ne__"))) (hm : PySem.W.mroIn K C (.type "object") = some true)
    (hs : PySem.W.findIn K (.ref C) "__eq__" = some (some (.ref f))) (hf : PySem.W.isFn K (.ref f) = true)
    (hcall : wpAny (model prog w) A.in1 (call (.ref f) [.ref x, b]) (fun v s' => ∃ c, v = .bool c ∧ Q (.bool (!c)) s') E s) : wpAny (model prog w) A (richCompare .NotEq (.ref x) b) Q E s := by
  have one : wpAny (model prog w) A (tryCompare (.ref x) "__ne__" b) (fun r s' => ∃ v, r = some v ∧ Q v s') E s := by
    unfold tryCompare
    refine wpAny_bind (ifBound_B X I hn F.cmp_object.ne.bind (wpAny_call (codeAny_call_builtin F.cmp_object.ne.plain F.cmpEntry_ne (@PySem.W.check_slot (model prog w) _ _ s "object.__ne__" "object" "__ne__" (.ref x) [b] [] _ F.cmpKind_ne F.cmpSplit_ne (I.type.andThen (PySem.W.looks_mroIn X hm)) (F.cmpArgs_ne _ _)
      (objNe_own (A := A.in1) hu X I hs hf (wpAny_mono hcall (fun v s' hv => ?_) fun _ _ e => e))))))
    obtain ⟨c, rfl, hq⟩ := hv
    exact ⟨c, rfl, wpAny_pure ⟨_, rfl, hq⟩⟩
  unfold richCompare
  simp only [oneThing_ref]
  refine wpAny_holding (wpAny_bind (wpAny_cRoomFor (Nat.lt_of_succ_lt hu) ?_))
  rw [cmpInfo_NotEq]
  dsimp only
  refine wpAny_bind (I.type.here (wpAny_bind (hb.here ?_)))
  rw [show (Value.ref C != Value.ref C) = false from by simp]
  simp only [Bool.false_eq_true, if_false]
  refine wpAny_bind (wpAny_pure ?_)
  simp only [Bool.false_eq_true, if_false]
  refine wpAny_bind (wpAny_mono one (fun r s' z => ?_) fun _ _ e => e)
  obtain ⟨v, rfl, hq⟩ := z
  exact wpAny_pure hq
end
def rOwnNe (C : Addr) (sp : Sp) : R2 := fun x y H Q => ∃ a dx fs b dy gs, x = .ref a ∧ y = .ref b ∧ H a = some (.ins C dx fs) ∧ H b = some (.ins C dy gs) ∧ sp [.ref a, .ref b] H (fun v H' => ∃ c, v = .bl c ∧ Q (.bl (!c)) H') (fun _ _ _ => False)
structure NeC (K : PySem.W.Frag) (C : Addr) : Prop where
  ne : PySem.W.findIn K (.ref C) "__ne__" = some (some (.builtin "object.__ne__"))
  mro : PySem.W.mroIn K C (.type "object") = some true
section
variable {X : Cx} {W : WX} {k j : Nat} {C : Addr} {sp : Sp}
theorem c_ne (c : Spc X.prog X.w X.K X.mg X.base k C "__eq__" sp) (n : NeC X.K C) (hr : Room j X.A) (hk : k + 1 ≤ j) : OpR X (compareOp .NotEq) (rOwnNe C sp) := by
  intro pins s σ H x y v u Q I rx ry h
  obtain ⟨f, hs, hf, F⟩ := c.ex
  obtain ⟨p, dx, fs, p2, dy, gs, rfl, rfl, hp, hp2, hsp⟩ := h
  obtain rfl : v = Value.ref p := rx
  obtain rfl : u = Value.ref p2 := ry
  obtain ⟨mA, J, _⟩ := ins_get I.hok hp
  obtain ⟨od, J, _⟩ := J.look
  obtain ⟨mB, J', _⟩ := ins_get I.hok hp2
  obtain ⟨od', J', _⟩ := J'.look
  show wpAny _ _ (richCompare .NotEq (.ref p) (.ref p2)) _ _ _
  refine ne_own (Nat.lt_of_le_of_lt (Nat.add_le_add_left (by decide : 1 ≤ 64) _) hr.units) I.kIn J J'.type n.ne n.mro hs hf ?_
  have z := run_S (A := X.A.in1) (W := fun _ _ _ _ => False) (us := [.ref p, .ref p2]) (vs := [.ref p, .ref p2]) F takes0 (hr.mono hk).in1 I.env0.in1 I (.cons rfl (.cons rfl .nil)) hsp
  refine wpAny_mono (wpAny_call z) (fun w s' z => ?_) fun _ _ x => x
  obtain ⟨z', H', I', rz, c, ec, qz⟩ := z
  subst ec
  exact ⟨c, rz, .bl (!c), H', I', rfl, qz⟩
end
end MyL
namespace MyL
open PySem PySem.Spec PyProof.Rows L2
/-- a property of the class at C -/
structure Prp (P : Program) (w : World) (K : PySem.W.Frag) (mg : Str → Option Value) (base : Heap) (k : Nat) (C : Addr) (f : Str) (sp : Sp) : Prop where
  ex : ∃ (p g : Addr) (fd : FuncData) (ps : List Str), Cls K C ∧ PropOf K C f p g ∧ Binds K fd ps [] ∧ FnOk P w K mg base (L2.CX P w) k g fd ps sp
section
variable {X : Cx} {k j : Nat} {C : Addr} {sp : Sp} {f : Str} {e : Expr} {ta : TE} {pos : Pos}
theorem c_prop (c : Prp X.prog X.w X.K X.mg X.base k C f sp) (hr : Room j X.A) (hk : k + 1 ≤ j) (he : PE X e ta) (hab : attributeBase e f X.env (eval e X.env) = eval e X.env := by rfl) : PE X (.Attribute e f pos) (tProp C sp [] (fun _ _ _ => False) ta) := by
  obtain ⟨p, g, fd, ps, cl, hp, hb, F⟩ := c.ex
  exact pe_prop he cl hp F (hr.mono hk) hb .nil (fun _ _ _ _ _ _ _ ⟨_, _, _, _, _, _, _, _, _, _, _, _, z⟩ => z.elim) hab
end
section
variable {σ : L2.St} {H : Hp} {Q : VK} {C : Addr} {sp : Sp} {ta : TE} {K : PySem.W.Frag} {E : XK}
theorem k_prop0 (h : ta σ H fun x H1 => ∃ a dx fs, x = .ref a ∧ H1 a = some (.ins C dx fs) ∧ sp [.ref a] H1 Q E) : tProp C sp [] E ta σ H Q := h
theorem k_prop {a dx : Addr} {fs : List (Str × V)} (h : H a = some (.ins C dx fs)) (q : sp [.ref a] H Q E) : ∃ a' dx' fs', V.ref a = .ref a' ∧ H a' = some (.ins C dx' fs') ∧ sp [.ref a'] H Q E := ⟨a, dx, fs, rfl, h, q⟩
theorem k_ownNe {a dx b dy : Addr} {fs gs : List (Str × V)} (h1 : H a = some (.ins C dx fs)) (h2 : H b = some (.ins C dy gs)) (q : sp [.ref a, .ref b] H (fun v H' => ∃ c, v = .bl c ∧ Q (.bl (!c)) H') (fun _ _ _ => False)) : rOwnNe C sp (.ref a) (.ref b) H Q := ⟨a, dx, fs, b, dy, gs, rfl, rfl, h1, h2, q⟩
theorem k_neBack {PB : Bool → Prop} {c : Bool} (q : PB c) : ∃ c', V.bl c = .bl c' ∧ PB c' := ⟨c, rfl, q⟩
theorem beq_dec {i k : Int} : (i == k) = decide (i = k) := rfl
theorem k_eqP {a b : Addr} {i j k l : Int} (h1 : H a = some (.tup [.int i, .int j])) (h2 : H b = some (.tup [.int k, .int l])) (q : Q (.bl (decide (i = k) && decide (j = l))) H) : rEqD K (.ref a) (.ref b) H Q := by
  refine ⟨.tuple [.int i, .int j], .tuple [.int k, .int l], .tup (SqT.of h1) (.cons (.int _) (.cons (.int _) .nil)), .tup (SqT.of h2) (.cons (.int _) (.cons (.int _) .nil)), rfl, rfl, ?_⟩
  have : PyData.eqv (.tuple [.int i, .int j]) (.tuple [.int k, .int l]) = (decide (i = k) && decide (j = l)) := by
    simp only [PyData.eqv, PyData.eqvAll, Bool.and_true]
    rfl
  rw [this]; exact q
theorem k_neP {a b : Addr} {i j k l : Int} (h1 : H a = some (.tup [.int i, .int j])) (h2 : H b = some (.tup [.int k, .int l])) (q : Q (.bl (!(decide (i = k) && decide (j = l)))) H) : rNeD K (.ref a) (.ref b) H Q := by
  refine ⟨.tuple [.int i, .int j], .tuple [.int k, .int l], .tup (SqT.of h1) (.cons (.int _) (.cons (.int _) .nil)), .tup (SqT.of h2) (.cons (.int _) (.cons (.int _) .nil)), rfl, rfl, ?_⟩
  have : PyData.eqv (.tuple [.int i, .int j]) (.tuple [.int k, .int l]) = (decide (i = k) && decide (j = l)) := by
    simp only [PyData.eqv, PyData.eqvAll, Bool.and_true]
    rfl
  rw [this]; exact q
end
end MyL

set_option Elab.async false
set_option linter.all false
set_option maxRecDepth 100000
set_option maxHeartbeats 4000000
namespace MyL
open PySem PySem.Spec PyProof.Rows L2
def PropAt (K : PySem.W.Frag) (C : Addr) (m qual : Str) (st : Stmt) : Prop := ∃ (p g : Addr) (fd : FuncData), PropOf K C m p g ∧ Fun K m qual st g fd
section
variable {P : Program} {w : World} {K : PySem.W.Frag} {mg : Str → Option Value} {base h : Heap} {k : Nat} {C f p : Addr} {x m qual : Str} {sp : Sp} {st : Stmt} {fd : FuncData} {ps : List Str} {oc : Value} {od an : Option Addr} {osl : Array (Option Value)} {kV doc pm cdv ct : Value} {rest : List Value}
theorem gprop (a : PySem.W.findIn K (.ref C) m = some (some (.ref p))) (g : PySem.W.specialIn K (.ref p) "__get__" = some (some (.builtin "property.__get__"))) (t : PySem.W.takesIn K (.ref p) = some true) (r : PySem.W.recIn K p "property" = some (.ref f :: rest))
    (l : K.lookup f = some ⟨oc, od, .func (PySem.W.fnOf m qual (defArgs st) (defBody st) (defScope st) .none kV doc pm an cdv ct), osl⟩)
    (c : PySem.W.codeIn K cdv qual = true) (kp : PySem.W.keepIn K (.ref f) = true) : PropAt K C m qual st := ⟨p, f, _, ⟨a, g, t, rest, r⟩, fun_mk l c kp⟩
theorem prp_of (D : PropAt K C m qual st) (cl : Cls K C) (hb : BindsSt m qual st ps) (ok : ∀ {f : Addr} {fd : FuncData}, Fun K m qual st f fd → FnOk P w K mg base (L2.CX P w) k f fd ps sp) : Prp P w K mg base k C m sp := by
  obtain ⟨p, f, fd, a, F⟩ := D
  exact ⟨p, f, fd, ps, cl, a, F.binds hb, ok F⟩
end
section
variable {σ : L2.St} {H : Hp} {Q : VK} {K : PySem.W.Frag} {p : Addr} {xs : List V}
theorem k_chain {r r' : R2} {ta tb tc : TE} (h : ta σ H fun x H1 => tb σ H1 fun y H2 => r x y H2 fun z H3 => ∃ k, z = .bl k ∧ (if k = true then tc σ H3 fun w' H4 => r' y w' H4 Q else Q (.bl false) H3)) : tChain r r' ta tb tc σ H Q := h
/-- an item of a list of whole numbers, each within R -/
theorem k_ixAll {R : Int → Prop} {j : Int} (h : H p = some (.lst xs)) (h0 : 0 ≤ j) (h1 : j < xs.length) (hR : ∀ x ∈ xs, ∃ n : Int, x = .int n ∧ R n) (q : ∀ n, R n → Q (.int n) H) : rIxL K (.ref p) (.int j) H Q := by
  obtain ⟨i, rfl⟩ := Int.eq_ofNat_of_zero_le h0
  have hi : i < xs.length := by omega
  obtain ⟨n, e, hn⟩ := hR _ (List.getElem_mem hi)
  exact ⟨p, xs, (i : Int), .int n, rfl, rfl, SqL.of h, atI_nat (by rw [List.getElem?_eq_getElem hi, e]), q n hn⟩
theorem k_ixAllT {R : Int → Prop} {j : Int} (h : H p = some (.tup xs)) (h0 : 0 ≤ j) (h1 : j < xs.length) (hR : ∀ x ∈ xs, ∃ n : Int, x = .int n ∧ R n) (q : ∀ n, R n → Q (.int n) H) : rIxT K (.ref p) (.int j) H Q := by
  obtain ⟨i, rfl⟩ := Int.eq_ofNat_of_zero_le h0
  have hi : i < xs.length := by omega
  obtain ⟨n, e, hn⟩ := hR _ (List.getElem_mem hi)
  exact ⟨p, xs, (i : Int), .int n, rfl, rfl, SqT.of h, atI_nat (by rw [List.getElem?_eq_getElem hi, e]), q n hn⟩
end
end MyL

set_option Elab.async false
set_option linter.all false
set_option maxRecDepth 100000
set_option maxHeartbeats 4000000
namespace MyL
open PySem PySem.Spec PyProof.Rows L2
section
variable {K : PySem.W.Frag} {D dd a C1 C2 C3 C4 : Addr} {H : Hp} {Q : VK} {fs : List (Str × V)} {b : Bool}
theorem k_isX4 {tp : Addr} (hD : ExcK K D) (hd : H dd = some (.xd fs)) (ht : H tp = some (.tup [.ref C1, .ref C2, .ref C3, .ref C4])) (e : PySem.W.kitAny K (.ref D) [.ref C1, .ref C2, .ref C3, .ref C4] = some b) (q : Q (.bl b) H) : rIsXT K (.ref D) (some dd) a [.ref a, .ref tp] H Q :=
  ⟨D, tp, _, _, b, rfl, hD, ⟨fs, hd⟩, rfl, ht, .cons (.own C1) (.cons (.own C2) (.cons (.own C3) (.cons (.own C4) .nil))), e, q⟩
theorem k_ixT2 {p : Addr} {i j n : Int} (h : H p = some (.tup [.int i, .int j])) (h0 : 0 ≤ n) (h1 : n < 2) (q : ∀ m, m = i ∨ m = j → Q (.int m) H) : rIxT K (.ref p) (.int n) H Q :=
  k_ixAllT (R := fun m => m = i ∨ m = j) h h0 (by simpa using h1) (fun x hx => by simp at hx; rcases hx with rfl | rfl <;> exact ⟨_, rfl, by simp⟩) q
theorem Mem.atB {B : Hp} {f l : List (Addr × HO)} {o : HO} (M : Mem B [] H f l) (h : B a = some o) : H a = some o := Same.of_keep M a o h
theorem xdH {g : Str} {v : V} {l : List (Str × V)} : List.lookup g ((g, v) :: l) = some v := by simp [List.lookup]
end
end MyL

set_option Elab.async false
set_option linter.all false
set_option maxRecDepth 100000
set_option maxHeartbeats 8000000
namespace K16
open PySem L2 MyL
def top (i : Nat) : Stmt := PySem.Challenge.pw_fittingpasts_k16_stay_signs.main.body.getD i (.Pass ⟨0, 0, 0, 0⟩)
abbrev s_Stay_init : Stmt := inClass (top 9) 0
abbrev N_Stay_init : List Str := ["self", "come", "go"]
theorem sc_Stay_init : FnScope N_Stay_init ["self", "come", "go"] (defScope s_Stay_init) := ⟨rfl, rfl, rfl, by decide +kernel, rfl, by decide +kernel, by decide +kernel⟩
theorem st_Stay_init (a0 a1 a2 : V) : start N_Stay_init [a0, a1, a2] = [some a0, some a1, some a2] := rfl
abbrev s_Stay_width : Stmt := inClass (top 9) 2
abbrev N_Stay_width : List Str := ["self"]
theorem sc_Stay_width : FnScope N_Stay_width ["self"] (defScope s_Stay_width) := ⟨rfl, rfl, rfl, by decide +kernel, rfl, by decide +kernel, by decide +kernel⟩
theorem st_Stay_width (a0 : V) : start N_Stay_width [a0] = [some a0] := rfl
abbrev s_Stay_eq : Stmt := inClass (top 9) 3
abbrev N_Stay_eq : List Str := ["self", "other"]
theorem sc_Stay_eq : FnScope N_Stay_eq ["self", "other"] (defScope s_Stay_eq) := ⟨rfl, rfl, rfl, by decide +kernel, rfl, by decide +kernel, by decide +kernel⟩
theorem st_Stay_eq (a0 a1 : V) : start N_Stay_eq [a0, a1] = [some a0, some a1] := rfl
abbrev s_Stay_contains : Stmt := inClass (top 9) 4
abbrev N_Stay_contains : List Str := ["self", "day"]
theorem sc_Stay_contains : FnScope N_Stay_contains ["self", "day"] (defScope s_Stay_contains) := ⟨rfl, rfl, rfl, by decide +kernel, rfl, by decide +kernel, by decide +kernel⟩
theorem st_Stay_contains (a0 a1 : V) : start N_Stay_contains [a0, a1] = [some a0, some a1] := rfl
abbrev s_Stay_add : Stmt := inClass (top 9) 5
abbrev N_Stay_add : List Str := ["self", "many"]
theorem sc_Stay_add : FnScope N_Stay_add ["self", "many"] (defScope s_Stay_add) := ⟨rfl, rfl, rfl, by decide +kernel, rfl, by decide +kernel, by decide +kernel⟩
theorem st_Stay_add (a0 a1 : V) : start N_Stay_add [a0, a1] = [some a0, some a1] := rfl
abbrev s_Stay_sub : Stmt := inClass (top 9) 6
abbrev N_Stay_sub : List Str := ["self", "many"]
theorem sc_Stay_sub : FnScope N_Stay_sub ["self", "many"] (defScope s_Stay_sub) := ⟨rfl, rfl, rfl, by decide +kernel, rfl, by decide +kernel, by decide +kernel⟩
theorem st_Stay_sub (a0 a1 : V) : start N_Stay_sub [a0, a1] = [some a0, some a1] := rfl
abbrev s_Stay_and : Stmt := inClass (top 9) 7
abbrev N_Stay_and : List Str := ["self", "other", "come", "go"]
theorem sc_Stay_and : FnScope N_Stay_and ["self", "other"] (defScope s_Stay_and) := ⟨rfl, rfl, rfl, by decide +kernel, rfl, by decide +kernel, by decide +kernel⟩
theorem st_Stay_and (a0 a1 : V) : start N_Stay_and [a0, a1] = [some a0, some a1, none, none] := rfl
abbrev s_Stay_or : Stmt := inClass (top 9) 8
abbrev N_Stay_or : List Str := ["self", "other"]
theorem sc_Stay_or : FnScope N_Stay_or ["self", "other"] (defScope s_Stay_or) := ⟨rfl, rfl, rfl, by decide +kernel, rfl, by decide +kernel, by decide +kernel⟩
theorem st_Stay_or (a0 a1 : V) : start N_Stay_or [a0, a1] = [some a0, some a1] := rfl
abbrev s_Stay_str : Stmt := inClass (top 9) 9
abbrev N_Stay_str : List Str := ["self"]
theorem sc_Stay_str : FnScope N_Stay_str ["self"] (defScope s_Stay_str) := ⟨rfl, rfl, rfl, by decide +kernel, rfl, by decide +kernel, by decide +kernel⟩
theorem st_Stay_str (a0 : V) : start N_Stay_str [a0] = [some a0] := rfl
abbrev s__law_draws : Stmt := top 11
abbrev N__law_draws : List Str := ["_law_script", "_law_cells", "_law_state", "_law_cell"]
theorem sc__law_draws : FnScope N__law_draws ["_law_script"] (defScope s__law_draws) := ⟨rfl, rfl, rfl, by decide +kernel, rfl, by decide +kernel, by decide +kernel⟩
theorem st__law_draws (a0 : V) : start N__law_draws [a0] = [some a0, none, none, none] := rfl
abbrev s__law_take : Stmt := top 12
abbrev N__law_take : List Str := ["_law_box", "_law_limit", "_law_cell", "_law_digit", "_law_twice"]
theorem sc__law_take : FnScope N__law_take ["_law_box", "_law_limit"] (defScope s__law_take) := ⟨rfl, rfl, rfl, by decide +kernel, rfl, by decide +kernel, by decide +kernel⟩
theorem st__law_take (a0 a1 : V) : start N__law_take [a0, a1] = [some a0, some a1, none, none, none] := rfl
abbrev s__law_far : Stmt := top 13
abbrev N__law_far : List Str := ["_law_box", "_law_high", "_law_middle"]
theorem sc__law_far : FnScope N__law_far ["_law_box"] (defScope s__law_far) := ⟨rfl, rfl, rfl, by decide +kernel, rfl, by decide +kernel, by decide +kernel⟩
theorem st__law_far (a0 : V) : start N__law_far [a0] = [some a0, none, none] := rfl
abbrev s__law_number : Stmt := top 14
abbrev N__law_number : List Str := ["_law_actual", "_law_due"]
theorem sc__law_number : FnScope N__law_number ["_law_actual", "_law_due"] (defScope s__law_number) := ⟨rfl, rfl, rfl, by decide +kernel, rfl, by decide +kernel, by decide +kernel⟩
theorem st__law_number (a0 a1 : V) : start N__law_number [a0, a1] = [some a0, some a1] := rfl
abbrev s__law_first : Stmt := top 15
abbrev N__law_first : List Str := ["_law_box", "_law_come", "_law_scale", "_law_more"]
theorem sc__law_first : FnScope N__law_first ["_law_box"] (defScope s__law_first) := ⟨rfl, rfl, rfl, by decide +kernel, rfl, by decide +kernel, by decide +kernel⟩
theorem st__law_first (a0 : V) : start N__law_first [a0] = [some a0, none, none, none] := rfl
abbrev s__law_near : Stmt := top 16
abbrev N__law_near : List Str := ["_law_box", "_law_first_here", "_law_come", "_law_go", "_law_days", "_law_one", "_law_other"]
theorem sc__law_near : FnScope N__law_near ["_law_box", "_law_first_here"] (defScope s__law_near) := ⟨rfl, rfl, rfl, by decide +kernel, rfl, by decide +kernel, by decide +kernel⟩
theorem st__law_near (a0 a1 : V) : start N__law_near [a0, a1] = [some a0, some a1, none, none, none, none, none] := rfl
abbrev s__law_many : Stmt := top 17
abbrev N__law_many : List Str := ["_law_box", "_law_near_here", "_law_far_here"]
theorem sc__law_many : FnScope N__law_many ["_law_box"] (defScope s__law_many) := ⟨rfl, rfl, rfl, by decide +kernel, rfl, by decide +kernel, by decide +kernel⟩
theorem st__law_many (a0 : V) : start N__law_many [a0] = [some a0, none, none] := rfl
abbrev s__law_is : Stmt := top 18
abbrev N__law_is : List Str := ["_law_stay", "_law_days", "_law_text"]
theorem sc__law_is : FnScope N__law_is ["_law_stay", "_law_days"] (defScope s__law_is) := ⟨rfl, rfl, rfl, by decide +kernel, rfl, by decide +kernel, by decide +kernel⟩
theorem st__law_is (a0 a1 : V) : start N__law_is [a0, a1] = [some a0, some a1, none] := rfl
abbrev s__law_has : Stmt := top 19
abbrev N__law_has : List Str := ["_law_stay", "_law_days", "_law_other", "_law_asked", "_law_day"]
theorem sc__law_has : FnScope N__law_has ["_law_stay", "_law_days", "_law_other"] (defScope s__law_has) := ⟨rfl, rfl, rfl, by decide +kernel, rfl, by decide +kernel, by decide +kernel⟩
theorem st__law_has (a0 a1 a2 : V) : start N__law_has [a0, a1, a2] = [some a0, some a1, some a2, none, none] := rfl
abbrev s__law_moved : Stmt := top 20
abbrev N__law_moved : List Str := ["_law_stay", "_law_days", "_law_many_here", "_law_later", "_law_earlier"]
theorem sc__law_moved : FnScope N__law_moved ["_law_stay", "_law_days", "_law_many_here"] (defScope s__law_moved) := ⟨rfl, rfl, rfl, by decide +kernel, rfl, by decide +kernel, by decide +kernel⟩
theorem st__law_moved (a0 a1 a2 : V) : start N__law_moved [a0, a1, a2] = [some a0, some a1, some a2, none, none] := rfl
abbrev s__law_apart : Stmt := top 21
abbrev N__law_apart : List Str := ["_law_one", "_law_two", "_law_gap", "_law_common", "e"]
theorem sc__law_apart : FnScope N__law_apart ["_law_one", "_law_two", "_law_gap"] (defScope s__law_apart) := ⟨rfl, rfl, rfl, by decide +kernel, rfl, by decide +kernel, by decide +kernel⟩
theorem st__law_apart (a0 a1 a2 : V) : start N__law_apart [a0, a1, a2] = [some a0, some a1, some a2, none, none] := rfl
abbrev s__law_joined : Stmt := top 22
abbrev N__law_joined : List Str := ["_law_one", "_law_two", "_law_first_here", "_law_second", "_law_low", "_law_high"]
theorem sc__law_joined : FnScope N__law_joined ["_law_one", "_law_two", "_law_first_here", "_law_second"] (defScope s__law_joined) := ⟨rfl, rfl, rfl, by decide +kernel, rfl, by decide +kernel, by decide +kernel⟩
theorem st__law_joined (a0 a1 a2 a3 : V) : start N__law_joined [a0, a1, a2, a3] = [some a0, some a1, some a2, some a3, none, none] := rfl
abbrev s__law_alike : Stmt := top 23
abbrev N__law_alike : List Str := ["_law_one", "_law_two", "_law_first_here", "_law_second", "_law_again"]
theorem sc__law_alike : FnScope N__law_alike ["_law_one", "_law_two", "_law_first_here", "_law_second"] (defScope s__law_alike) := ⟨rfl, rfl, rfl, by decide +kernel, rfl, by decide +kernel, by decide +kernel⟩
theorem st__law_alike (a0 a1 a2 a3 : V) : start N__law_alike [a0, a1, a2, a3] = [some a0, some a1, some a2, some a3, none] := rfl
abbrev s__law_empty : Stmt := top 24
abbrev N__law_empty : List Str := ["_law_come", "_law_go", "e"]
theorem sc__law_empty : FnScope N__law_empty ["_law_come", "_law_go"] (defScope s__law_empty) := ⟨rfl, rfl, rfl, by decide +kernel, rfl, by decide +kernel, by decide +kernel⟩
theorem st__law_empty (a0 a1 : V) : start N__law_empty [a0, a1] = [some a0, some a1, none] := rfl
abbrev s__law_caught : Stmt := top 25
abbrev N__law_caught : List Str := ["_law_come", "_law_go", "e"]
theorem sc__law_caught : FnScope N__law_caught ["_law_come", "_law_go"] (defScope s__law_caught) := ⟨rfl, rfl, rfl, by decide +kernel, rfl, by decide +kernel, by decide +kernel⟩
theorem st__law_caught (a0 a1 : V) : start N__law_caught [a0, a1] = [some a0, some a1, none] := rfl
abbrev s_law : Stmt := top 26
abbrev N_law : List Str := ["_law_script", "_law_box", "_law_first_here", "_law_second", "_law_many_here", "_law_one", "_law_two", "_law_day", "_law_less"]
theorem sc_law : FnScope N_law ["_law_script"] (defScope s_law) := ⟨rfl, rfl, rfl, by decide +kernel, rfl, by decide +kernel, by decide +kernel⟩
theorem st_law (a0 : V) : start N_law [a0] = [some a0, none, none, none, none, none, none, none, none] := rfl
local macro_rules | `(tactic| walk_at "mem") => `(tactic| first | exact List.mem_cons_self | (refine List.mem_cons_of_mem _ ?_; walk_at "mem"))
local macro_rules | `(tactic| walk_at "hp") => `(tactic| first | assumption | (refine' Mem.getL ?k1 ?k2; (case k1 => assumption); (case k2 => walk_at "mem")) | (refine' Mem.getF ?k1 ?k2; (case k1 => assumption); (case k2 => walk_at "mem")))
local macro_rules | `(tactic| walk_at "cond") => `(tactic| first | omega | assumption | exact mulR (by omega) (by omega) | exact mulL (by omega) (by omega) | exact divW (by omega) (by omega) | decide)
local macro_rules | `(tactic| walk_at "look") => `(tactic| first | with_unfolding_all rfl | exact atI_map (by omega) (by omega))
local macro_rules | `(tactic| walk_at "go1") => `(tactic| with_reducible first
  | refine k_seq ?_ | refine k_gName ?_ | refine k_asg ?_ | refine k_ret ?_ | refine k_ifS ?_ | refine k_drop ?_ | refine k_next ?_ | refine k_break ?_ | refine k_cont ?_ | refine k_retN ?_
  | (refine' k_var ?k1 ?_; (case k1 => with_unfolding_all rfl)) | refine k_c ?_ | refine k_op ?_ | refine k_un ?_ | refine k_test ?_ | refine k_B ?_ | refine k_bl ?_ | refine k_and ?_ | refine k_or ?_ | refine k_not ?_
  | refine k_andV ?_ | refine k_orV ?_ | refine k_notV ?_ | refine k_ifE ?_ | refine k_nil ?_ | refine k_cons ?_ | refine k_cb ?_ | refine k_callS ?_ | refine k_lst0 ?_ | refine k_tup0 ?_ | refine k_fld0 ?_ | refine k_sub0 ?_ | refine k_make0 ?_ | refine k_prop0 ?_ | refine k_chain ?_ | refine k_makeK0 ?_ | refine k_swapK ?_ | refine k_meth0 ?_ | refine k_ownN0 ?_ | refine k_ownO0 ?_ | refine k_sfld0 ?_ | refine k_jnil ?_ | refine k_jcons ?_ | refine k_fmt0 ?_ | refine k_sl0 ?_ | refine k_nopart ?_ | refine k_part ?_ | refine k_forR1 ?_ | refine k_forR2 ?_ | refine k_forL ?_ | refine k_forT ?_ | refine k_lcR1 ?_ | refine k_lcR2 ?_ | refine k_lcL ?_ | refine k_err0 ?_ | refine k_xf0 ?_ | refine k_errQ1 ?_ | refine k_errQ0 ?_ | refine k_errQ2 ?_ | refine k_errQ3 ?_
  | refine k_I0 ?_ | (refine k_I ?k1 ?_; (case k1 => walk_at "cond")) | refine k_U ?_ | refine k_eqI ?_ | refine k_neI ?_ | refine k_eqB ?_ | refine k_neB ?_ | refine k_eqS ?_ | refine k_neS ?_
  | refine k_int1 ?_ | refine k_abs1 ?_ | refine k_min2 ?_ | refine k_max2 ?_
  | (refine' k_lenM ?k1 ?_; (case k1 => walk_at "hp")) | (refine' k_lenL ?k1 ?_; (case k1 => walk_at "hp")) | (refine' k_lenT ?k1 ?_; (case k1 => walk_at "hp"))
  | (refine' k_lenS ?k1 ?_; (case k1 => assumption)) | (refine' k_ixS ?k1 ?k2 ?_; (case k1 => assumption); (case k2 => walk_at "look"))
  | (refine' k_ixL ?k1 ?k2 ?_; (case k1 => walk_at "hp"); (case k2 => walk_at "look")) | (refine' k_ixT ?k1 ?k2 ?_; (case k1 => walk_at "hp"); (case k2 => walk_at "look"))
  | (refine' k_ix4 ?k1 ?k2 ?k3 ?_; (case k1 => walk_at "hp"); (case k2 => omega); (case k3 => omega); intro n' hn')
  | (refine' k_ix3 ?k1 ?k2 ?k3 ?_; (case k1 => walk_at "hp"); (case k2 => omega); (case k3 => omega); intro n' hn')
  | (refine' k_ix2 ?k1 ?k2 ?k3 ?_; (case k1 => walk_at "hp"); (case k2 => omega); (case k3 => omega); intro n' hn')
  | (refine' k_fld ?k1 ?k2 ?k3 ?k4 ?_; (case k1 => walk_at "hp"); (case k2 => assumption); (case k3 => assumption); (case k4 => walk_at "fld"))
  | (refine' k_lst ?k1 ?k2 ?_; (case k1 => assumption); (case k2 => exact sz (by simp)); intro p' H' M')
  | (refine' k_tup ?k1 ?k2 ?_; (case k1 => assumption); (case k2 => exact sz (by simp)); intro p' H' M')
  | (refine' k_setF0 ?k1 ?k2 ?k3 ?_; (case k1 => assumption); (case k2 => simp); (case k3 => with_unfolding_all rfl); intro H' M'; try simp only [Int.reduceToNat, List.set_cons_succ, List.set_cons_zero] at M')
  | (refine' k_setL0 ?k1 ?k2 ?_; (case k1 => assumption); (case k2 => with_unfolding_all rfl); intro H' M'; try simp only [Int.reduceToNat, List.set_cons_succ, List.set_cons_zero] at M')
  | (refine' k_setL1 ?k1 ?k2 ?_; (case k1 => assumption); (case k2 => with_unfolding_all rfl); intro H' M'; try simp only [Int.reduceToNat, List.set_cons_succ, List.set_cons_zero] at M')
  | (refine' k_setL2 ?k1 ?k2 ?_; (case k1 => assumption); (case k2 => with_unfolding_all rfl); intro H' M'; try simp only [Int.reduceToNat, List.set_cons_succ, List.set_cons_zero] at M')
  | refine iteT ?_ | refine iteF ?_ | refine k_iteNE ?_ | refine k_iteNS ?_ | refine k_iteNT ?_ | refine k_iteNF ?_
  | (refine k_iteD ?_ ?_ <;> intro hc <;> first | (exfalso; omega) | skip)
  | (refine k_iteN ?_ ?_ <;> intro hc <;> first | (exfalso; omega) | skip)
  | (refine' k_ownN ?k1 ?_; (case k1 => walk_at "hp")) | (refine' k_ownO ?k1 ?k2 ?_; (case k1 => walk_at "hp"); (case k2 => walk_at "hp")) | (refine' k_ownEq ?k1 ?k2 ?_; (case k1 => walk_at "hp"); (case k2 => walk_at "hp"))
  | (refine' k_ownIn ?k1 ?_; (case k1 => walk_at "hp")) | (refine' k_ownU ?k1 ?_; (case k1 => walk_at "hp")) | (refine' k_ownStr ?k1 ?_; (case k1 => walk_at "hp"))
  | (refine' k_prop ?k1 ?_; (case k1 => walk_at "hp")) | (refine' k_ownNe ?k1 ?k2 ?_; (case k1 => walk_at "hp"); (case k2 => walk_at "hp")) | (refine' k_eqP ?k1 ?k2 ?_; (case k1 => walk_at "hp"); (case k2 => walk_at "hp")) | (refine' k_neP ?k1 ?k2 ?_; (case k1 => walk_at "hp"); (case k2 => walk_at "hp"))
  | (refine' k_isiO ?k1 ?k2 ?k3 ?k4 ?k5 ?k6 ?_; (case k1 => walk_at "hp"); (case k2 => assumption); (case k3 => assumption); (case k4 => assumption); (case k5 => assumption); (case k6 => assumption))
  | (refine' k_isiI ?k1 ?_; (case k1 => assumption))
  | (refine' k_jst ?k1 ?_; (case k1 => walk_at "size")) | (refine' k_fmtI ?k1 ?_; (case k1 => exact log2_64 (by omega) (by omega))) | (refine' k_strI ?k1 ?_; (case k1 => exact log2_64 (by omega) (by omega)))
  | (refine k_addS ?k1 ?_; (case k1 => walk_at "size")) | refine k_st ?_ | refine k_parti ?_
  | (refine' k_cat ?k1 ?k2 ?k3 ?k4 ?_; (case k1 => assumption); (case k2 => walk_at "hp"); (case k3 => walk_at "hp"); (case k4 => walk_at "size"); intro p' H' M')
  | (refine' k_slL ?k1 ?k2 ?_; (case k1 => assumption); (case k2 => first | assumption | exact SqL.of (by walk_at "hp")); intro p' H' M')
  | (refine k_rng1 ?k1 ?k2 ?_; (case k1 => omega); (case k2 => omega)) | (refine k_rng2 ?k1 ?k2 ?k3 ?k4 ?_; (case k1 => omega); (case k2 => omega); (case k3 => omega); (case k4 => omega))
  | (refine' k_lstAt ?k1 ?_; (case k1 => first | assumption | exact SqL.of (by walk_at "hp"))) | (refine' k_tupAt ?k1 ?_; (case k1 => first | assumption | exact SqT.of (by walk_at "hp")))
  | (refine' k_isXs ?k1 ?k2 ?_; (case k1 => assumption); (case k2 => walk_at "hp")) | (refine' k_isXo ?k1 ?k2 ?k3 ?_; (case k1 => assumption); (case k2 => walk_at "hp"); (case k3 => assumption)) | (refine' k_isXt ?k1 ?k2 ?k3 ?_; (case k1 => assumption); (case k2 => walk_at "hp"); (case k3 => assumption))
  | (refine' k_isX3 ?k1 ?k2 ?k3 ?k4 ?_; (case k1 => assumption); (case k2 => walk_at "hp"); (case k3 => walk_at "hp"); (case k4 => assumption)) | (refine' k_isX2 ?k1 ?k2 ?k3 ?k4 ?_; (case k1 => assumption); (case k2 => walk_at "hp"); (case k3 => walk_at "hp"); (case k4 => assumption))
  | (refine' k_xf ?k1 ?k2 ?_; (case k1 => walk_at "hp"); (case k2 => first | exact xd1 | exact xd2 (by decide +kernel)))
  | (refine' k_caught ?k1 ?_; (case k1 => assumption); intro a' ha')
  | walk_at "use")
local macro_rules | `(tactic| walk_at "go") => `(tactic| repeat' (walk_at "go1"))

/-! ### stays -/
def stF (c g : Int) : List (Str × V) := [("come", .int c), ("go", .int g)]
theorem ne_cg : ¬ (("go" : Str) = "come") := by decide +kernel
theorem ne_gc : ¬ (("come" : Str) = "go") := by decide +kernel
theorem stF_come (p l : Int) : (stF p l).lookup ("come" : Str) = some (.int p) := by
  unfold stF; rw [lookup_put, if_pos rfl]
theorem stF_go (p l : Int) : (stF p l).lookup ("go" : Str) = some (.int l) := by
  unfold stF; rw [lookup_put, if_neg ne_cg, lookup_put, if_pos rfl]
theorem stF_put (p l : Int) : putF "go" (.int l) (putF "come" (.int p) []) = stF p l := by
  show (if ("come" : Str) = "go" then _ else (("come" : Str), V.int p) :: [(("go" : Str), V.int l)]) = _
  rw [if_neg ne_gc]; rfl
local macro_rules | `(tactic| walk_at "fld") => `(tactic| first | exact stF_come _ _ | exact stF_go _ _)
local macro_rules | `(tactic| walk_at "size") => `(tactic| (simp only [Str.length_append, Str.empty_append]; exact sz (by omega)))
structure Txt (prog : Program) (K : PySem.W.Frag) (mg : Str → Option Value) (C CE fE CN fN CA CU CT CI : Addr) : Prop where
  cl : Cls K C
  nC : NoAttr K C "come"
  nG : NoAttr K C "go"
  ca : PySem.W.findIn K (.ref C) "__class__" = some (some (.builtin "object.__class__"))
  cn : PySem.W.specialIn K (.builtin "object.__class__") "__get__" = some (some (.builtin "getset_descriptor.__get__"))
  ct : PySem.W.takesIn K (.builtin "object.__class__") = some true
  cm : PySem.W.mroIn K C (.type "object") = some true
  b_isinstance : mg "isinstance" = none
  b_int : mg "int" = none
  b_bool : mg "bool" = none
  b_len : mg "len" = none
  b_min : mg "min" = none
  b_max : mg "max" = none
  b_str : mg "str" = none
  b_ValueError : mg "ValueError" = none
  g_Stay : mg "Stay" = some (.ref C)
  e_EmptyStay : PySem.ErrX.ErrTxt prog K mg "EmptyStay" CE fE ["come", "go"]
  e_NoCommonDay : PySem.ErrX.ErrTxt prog K mg "NoCommonDay" CN fN ["gap"]
  g_EmptyStay : mg "EmptyStay" = some (.ref CE)
  g_NoCommonDay : mg "NoCommonDay" = some (.ref CN)
  g_ArchiveError : mg "ArchiveError" = some (.ref CA)
  g_UnknownError : mg "UnknownError" = some (.ref CU)
  g_TextError : mg "TextError" = some (.ref CT)
  g_ImpossibleError : mg "ImpossibleError" = some (.ref CI)
  i1 : PySem.W.kitOne K (.type "int") (.type "int") = some true
  i2 : PySem.W.kitOne K (.type "int") (.type "bool") = some false
  n_Stay_add : NumC K C .Add
  n_Stay_sub : NumC K C .Sub
  sf_Stay : PySem.W.selfFirst K C = true
  ne_Stay : NeC K C
  ekE : ExcK K CE
  ekN : ExcK K CN
  xf_EmptyStay : XfC K CE
  xf_NoCommonDay : XfC K CN
  nx_EmptyStay_come : PySem.W.findIn K (.ref CE) "come" = some none
  nx_EmptyStay_go : PySem.W.findIn K (.ref CE) "go" = some none
  nx_NoCommonDay_gap : PySem.W.findIn K (.ref CN) "gap" = some none
  exmE : PySem.W.exmOne K (.ref CE) (.ref CE) = some true
  exmN : PySem.W.exmOne K (.ref CN) (.ref CN) = some true
  exmA : PySem.W.exmOne K (.ref CE) (.ref CA) = some true
  kE1 : PySem.W.kitOne K (.ref CE) (.type "ValueError") = some true
  kE2 : PySem.W.kitOne K (.ref CE) (.ref CA) = some true
  kE3 : PySem.W.kitAny K (.ref CE) [.ref CU, .ref CT, .ref CI, .ref CN] = some false
  kN1 : PySem.W.kitOne K (.ref CN) (.type "ValueError") = some true
  kN2 : PySem.W.kitOne K (.ref CN) (.ref CA) = some true
  kN3 : PySem.W.kitAny K (.ref CN) [.ref CU, .ref CT, .ref CI, .ref CE] = some false
section
variable {P : Program} {w : World} {K : PySem.W.Frag} {mg : Str → Option Value} {base : Heap} {C CE fE CN fN CA CU CT CI : Addr}
def sp_init (C CE : Addr) : Sp := fun vs H Q E => ∃ (x dx : Addr) (c g : Int), vs = [.ref x, .int c, .int g] ∧ H x = some (.ins C dx []) ∧
  (c ≤ g → ∀ H', H' x = some (.ins C dx (stF c g)) → (∀ b o, H b = some o → b ≠ x → H' b = some o) → Q .non H') ∧
  (g < c → ∀ d, H d = none → E (.ref CE) (some d) (upd H d (.xd [("go", .int g), ("come", .int c)])))
theorem ok_init {f : Addr} {fd : FuncData} (F : Fun K "__init__" "Stay.__init__" s_Stay_init f fd) (T : Txt P K mg C CE fE CN fN CA CU CT CI)  :
    FnOk P w K mg base (L2.CX P w) (0 + 1) f fd ["self", "come", "go"] (sp_init C CE) := by
  refine okT F sc_Stay_init (fun vs H Q E h => ?_) (fun cdv A outer s H vs Q E hr tk h => ?_)
  · obtain ⟨x, dx, c, g, rfl, _⟩ := h
    rfl
  obtain ⟨x, dx, c, g, rfl, h1, k1, k2⟩ := h
  have f1 := T.cl; have f2 := T.nC; have f3 := T.nG; have f4 := T.ca; have f5 := T.cn; have f6 := T.ct; have f7 := T.cm
  refine ⟨_, (pss_cons (ps_if (pt_cmpR op_lt (pv 2) (pv 1) (nomark _)) (pss_one (ps_raise rfl tk (pmk_err T.e_EmptyStay (by decide) hr (pa_cons (pv 1) (pa_cons (pv 2) pa_nil))))) pss_nil)
      (pss_cons (ps_fld (pv 0) (pv 1) rfl)
      (pss_one (ps_fld (pv 0) (pv 2) rfl)))), ?_⟩
  simp only [cxK, st_Stay_init]
  walk_at "go"
  · exact fun d hd => k2 (by omega) d hd
  · refine ⟨x, C, dx, _, rfl, h1, f1, f2, (by decide), ?_⟩
    walk_at "go"
    refine ⟨x, C, dx, _, rfl, upd_same, f1, f3, (by show 1 < 1000; decide), ?_⟩
    walk_at "go"
    refine k1 (by omega) _ ?_ ?_
    · rw [upd_same, stF_put]
    · intro b o hb hne
      rw [upd_ne hne, upd_ne hne]; exact hb
/-- a stay is made -/
theorem use_make {B H : Hp} {ms : List Addr} {f l : List (Addr × HO)} {Q : VK} {E : XK} {c g : Int} (M : Mem B ms H f l) (h : c ≤ g) (k : ∀ x dx H', Mem B ms H' f ((x, .ins C dx (stF c g)) :: l) → Q (.ref x) H') :
    newO C (sp_init C CE) [.int c, .int g] H Q E := by
  intro x dx hx hdx hne
  refine ⟨x, dx, c, g, rfl, upd_same, fun _ H' hx' hk => ⟨rfl, k x dx H' (M.sameNew (fun a o e => ?_) hx hx')⟩, fun h' => absurd h (by omega)⟩
  have hax : a ≠ x := ne_of_none e hx
  exact hk a o (by rw [upd_ne hax, upd_ne (ne_of_none e hdx)]; exact e) hax
theorem use_makeE {B H : Hp} {ms : List Addr} {f l : List (Addr × HO)} {Q : VK} {E : XK} {c g : Int} (M : Mem B ms H f l) (h : g < c) (k : ∀ d H', Mem B ms H' f ((d, .xd [("go", .int g), ("come", .int c)]) :: l) → E (.ref CE) (some d) H') : newO C (sp_init C CE) [.int c, .int g] H Q E := by
  intro x dx hx hdx hne
  refine ⟨x, dx, c, g, rfl, upd_same, fun h' => absurd h' (by omega), fun _ d hd => k d _ ?_⟩
  have s1 : Same H (upd (upd H dx (.own x)) x (.ins C dx [])) := fun a o e => by
    rw [upd_ne (ne_of_none e hx), upd_ne (ne_of_none e hdx)]; exact e
  exact M.sameNew (s1.trans (same_alloc hd)) (s1.free hd) upd_same
def sp_width (C : Addr) : Sp := fun vs H Q _ => ∃ (a dx : Addr) (c g : Int), vs = [.ref a] ∧ H a = some (.ins C dx (stF c g)) ∧ Q (.int (g - c + 1)) H
theorem ok_width {f : Addr} {fd : FuncData} (F : Fun K "width" "Stay.width" s_Stay_width f fd) (T : Txt P K mg C CE fE CN fN CA CU CT CI)  :
    FnOk P w K mg base (L2.CX P w) (0 + 1) f fd ["self"] (sp_width C) := by
  refine okT F sc_Stay_width (fun vs H Q E h => ?_) (fun cdv A outer s H vs Q E hr tk h => ?_)
  · obtain ⟨a, dx, c, g, rfl, _⟩ := h
    rfl
  obtain ⟨a, dx, c, g, rfl, h1, k⟩ := h
  have f1 := T.cl; have f2 := T.nC; have f3 := T.nG; have f4 := T.ca; have f5 := T.cn; have f6 := T.ct; have f7 := T.cm
  refine ⟨_, (pss_one (ps_ret (pe_op op_add (pe_op op_sub (pe_fld (pv 0) rfl) (pe_fld (pv 0) rfl)) pe_int))), ?_⟩
  simp only [cxK, st_Stay_width]
  walk_at "go"
  exact k
theorem use_width {H : Hp} {Q : VK} {E : XK} {a dx : Addr} {c g : Int} (h1 : H a = some (.ins C dx (stF c g))) (q : Q (.int (g - c + 1)) H) : sp_width C [.ref a] H Q E := ⟨a, dx, c, g, rfl, h1, q⟩
def sp_eq (C : Addr) : Sp := fun vs H Q _ => ∃ (a dx b dy : Addr) (p l p2 l2 : Int), vs = [.ref a, .ref b] ∧ H a = some (.ins C dx (stF p l)) ∧ H b = some (.ins C dy (stF p2 l2)) ∧ Q (.bl (decide (p = p2) && decide (l = l2))) H
theorem ok_eq {f : Addr} {fd : FuncData} (F : Fun K "__eq__" "Stay.__eq__" s_Stay_eq f fd) (T : Txt P K mg C CE fE CN fN CA CU CT CI)  :
    FnOk P w K mg base (L2.CX P w) (0 + 1) f fd ["self", "other"] (sp_eq C) := by
  refine okT F sc_Stay_eq (fun vs H Q E h => ?_) (fun cdv A outer s H vs Q E hr tk h => ?_)
  · obtain ⟨a, dx, b, dy, p, l, p2, l2, rfl, _⟩ := h
    rfl
  obtain ⟨a, dx, b, dy, p, l, p2, l2, rfl, h1, h2, k⟩ := h
  have f1 := T.cl; have f2 := T.nC; have f3 := T.nG; have f4 := T.ca; have f5 := T.cn; have f6 := T.ct; have f7 := T.cm
  refine ⟨_, (pss_one (ps_ret (pe_and (pe_callB call_isi (by rfl) T.b_isinstance (by decide +kernel) (pa_cons (pv 1) (pa_cons (g_ref T.g_Stay) pa_nil))) (pe_and (pe_cmpR op_eq (pe_fld (pv 0) rfl) (pe_fld (pv 1) rfl) (nomark _)) (pe_one (pe_cmpR op_eq (pe_fld (pv 0) rfl) (pe_fld (pv 1) rfl) (nomark _))))))), ?_⟩
  simp only [cxK, st_Stay_eq]
  walk_at "go"
  · rw [decide_eq_true (by assumption), Bool.true_and] at k; exact k
  · rw [decide_eq_false (by assumption), Bool.false_and] at k; exact k
theorem use_eq {H : Hp} {Q : VK} {E : XK} {a dx b dy : Addr} {p l p2 l2 : Int} (h1 : H a = some (.ins C dx (stF p l))) (h2 : H b = some (.ins C dy (stF p2 l2))) (q : Q (.bl (decide (p = p2) && decide (l = l2))) H) : sp_eq C [.ref a, .ref b] H Q E := ⟨a, dx, b, dy, p, l, p2, l2, rfl, h1, h2, q⟩
theorem use_eqT {H : Hp} {Q : VK} {E : XK} {a dx b dy : Addr} {p l p2 l2 : Int} (h1 : H a = some (.ins C dx (stF p l))) (h2 : H b = some (.ins C dy (stF p2 l2))) (e1 : p = p2) (e2 : l = l2) (q : Q (.bl true) H) : sp_eq C [.ref a, .ref b] H Q E := use_eq h1 h2 (by rw [decide_eq_true e1, decide_eq_true e2]; exact q)
theorem use_eqF {H : Hp} {Q : VK} {E : XK} {a dx b dy : Addr} {p l p2 l2 : Int} (h1 : H a = some (.ins C dx (stF p l))) (h2 : H b = some (.ins C dy (stF p2 l2))) (e : ¬ (p = p2 ∧ l = l2)) (q : Q (.bl false) H) : sp_eq C [.ref a, .ref b] H Q E := use_eq h1 h2 (by
  have z : (decide (p = p2) && decide (l = l2)) = false := by
    cases h : (decide (p = p2) && decide (l = l2)) with
    | false => rfl
    | true => rw [Bool.and_eq_true, decide_eq_true_eq, decide_eq_true_eq] at h; exact absurd h e
  rw [z]; exact q)
def sp_contains (C : Addr) : Sp := fun vs H Q _ => ∃ (a dx : Addr) (c g d : Int), vs = [.ref a, .int d] ∧ H a = some (.ins C dx (stF c g)) ∧ Q (.bl (decide (c ≤ d ∧ d ≤ g))) H
theorem ok_contains {f : Addr} {fd : FuncData} (F : Fun K "__contains__" "Stay.__contains__" s_Stay_contains f fd) (T : Txt P K mg C CE fE CN fN CA CU CT CI)  :
    FnOk P w K mg base (L2.CX P w) (0 + 1) f fd ["self", "day"] (sp_contains C) := by
  refine okT F sc_Stay_contains (fun vs H Q E h => ?_) (fun cdv A outer s H vs Q E hr tk h => ?_)
  · obtain ⟨a, dx, c, g, d, rfl, _⟩ := h
    rfl
  obtain ⟨a, dx, c, g, d, rfl, h1, k⟩ := h
  have f1 := T.cl; have f2 := T.nC; have f3 := T.nG; have f4 := T.ca; have f5 := T.cn; have f6 := T.ct; have f7 := T.cm
  refine ⟨_, (pss_one (ps_ret (pe_chain op_le op_le (pe_fld (pv 0) rfl) (pv 1) (pe_fld (pv 0) rfl)))), ?_⟩
  simp only [cxK, st_Stay_contains]
  walk_at "go"
  · rename_i hc
    have e : decide (c ≤ d ∧ d ≤ g) = decide (d ≤ g) := by rw [decide_eq_decide]; omega
    rw [e] at k; exact k
  · rename_i hc
    have e : decide (c ≤ d ∧ d ≤ g) = false := by rw [decide_eq_false_iff_not]; omega
    rw [e] at k; exact k
theorem use_contains {H : Hp} {Q : VK} {E : XK} {a dx : Addr} {c g d : Int} (h1 : H a = some (.ins C dx (stF c g))) (q : Q (.bl (decide (c ≤ d ∧ d ≤ g))) H) : sp_contains C [.ref a, .int d] H Q E := ⟨a, dx, c, g, d, rfl, h1, q⟩
def sp_move (C : Addr) (op : Int → Int → Int) : Sp := fun vs H Q _ => ∃ (a dx : Addr) (c g m : Int), vs = [.ref a, .int m] ∧ H a = some (.ins C dx (stF c g)) ∧ c ≤ g ∧ ∀ x dy H', H x = none → Same H H' → H' x = some (.ins C dy (stF (op c m) (op g m))) → Q (.ref x) H'
theorem use_move {op : Int → Int → Int} {B H : Hp} {ms : List Addr} {f l : List (Addr × HO)} {Q : VK} {E : XK} {a dx : Addr} {c g m : Int} (M : Mem B ms H f l) (h : H a = some (.ins C dx (stF c g))) (hn : c ≤ g)
    (k : ∀ x dy H', Mem B ms H' f ((x, .ins C dy (stF (op c m) (op g m))) :: l) → Q (.ref x) H') : sp_move C op [.ref a, .int m] H Q E :=
  ⟨a, dx, c, g, m, rfl, h, hn, fun x dy H' h1 h2 h3 => k x dy H' (M.sameNew h2 h1 h3)⟩
local macro_rules | `(tactic| walk_at "use") => `(tactic| (refine' use_make ?k1 ?k2 ?_; (case k1 => assumption); (case k2 => omega); intro x' dx' H' M'))
theorem ok_add {f : Addr} {fd : FuncData} (F : Fun K "__add__" "Stay.__add__" s_Stay_add f fd) (T : Txt P K mg C CE fE CN fN CA CU CT CI) (c_Stay : Mak P w K mg base 1 "Stay" C (sp_init C CE)) :
    FnOk P w K mg base (L2.CX P w) (2 + 1) f fd ["self", "many"] (sp_move C (· + ·)) := by
  refine okT F sc_Stay_add (fun vs H Q E h => ?_) (fun cdv A outer s H vs Q E hr tk h => ?_)
  · obtain ⟨a, dx, c, g, m, rfl, _⟩ := h
    rfl
  obtain ⟨a, dx, c, g, m, rfl, h1, hl, k⟩ := h
  have f1 := T.cl; have f2 := T.nC; have f3 := T.nG; have f4 := T.ca; have f5 := T.cn; have f6 := T.ct; have f7 := T.cm
  refine ⟨_, (pss_one (ps_ret (c_make c_Stay tk hr (by decide) (pa_cons (pe_op op_add (pe_fld (pv 0) rfl) (pv 1)) (pa_cons (pe_op op_add (pe_fld (pv 0) rfl) (pv 1)) pa_nil))))), ?_⟩
  simp only [cxK, st_Stay_add]
  have M : Mem H [] H [(a, .ins C dx (stF c g))] [] := mem_start (by simp [h1]) (by simp) (by simp)
  walk_at "go"
  rename_i x' dx' H' M'
  exact k x' dx' H' (M'.new _ List.mem_cons_self) (Same.of_keep M') (M'.getL List.mem_cons_self)
theorem ok_sub {f : Addr} {fd : FuncData} (F : Fun K "__sub__" "Stay.__sub__" s_Stay_sub f fd) (T : Txt P K mg C CE fE CN fN CA CU CT CI) (c_Stay : Mak P w K mg base 1 "Stay" C (sp_init C CE)) :
    FnOk P w K mg base (L2.CX P w) (2 + 1) f fd ["self", "many"] (sp_move C (· - ·)) := by
  refine okT F sc_Stay_sub (fun vs H Q E h => ?_) (fun cdv A outer s H vs Q E hr tk h => ?_)
  · obtain ⟨a, dx, c, g, m, rfl, _⟩ := h
    rfl
  obtain ⟨a, dx, c, g, m, rfl, h1, hl, k⟩ := h
  have f1 := T.cl; have f2 := T.nC; have f3 := T.nG; have f4 := T.ca; have f5 := T.cn; have f6 := T.ct; have f7 := T.cm
  refine ⟨_, (pss_one (ps_ret (c_make c_Stay tk hr (by decide) (pa_cons (pe_op op_sub (pe_fld (pv 0) rfl) (pv 1)) (pa_cons (pe_op op_sub (pe_fld (pv 0) rfl) (pv 1)) pa_nil))))), ?_⟩
  simp only [cxK, st_Stay_sub]
  have M : Mem H [] H [(a, .ins C dx (stF c g))] [] := mem_start (by simp [h1]) (by simp) (by simp)
  walk_at "go"
  rename_i x' dx' H' M'
  exact k x' dx' H' (M'.new _ List.mem_cons_self) (Same.of_keep M') (M'.getL List.mem_cons_self)
/-- the smaller and the greater of two -/
abbrev mn (a b : Int) : Int := if b < a then b else a
abbrev mx (a b : Int) : Int := if b > a then b else a
def sp_or (C : Addr) : Sp := fun vs H Q _ => ∃ (a dx b dy : Addr) (c g c2 g2 : Int), vs = [.ref a, .ref b] ∧ H a = some (.ins C dx (stF c g)) ∧ H b = some (.ins C dy (stF c2 g2)) ∧ c ≤ g ∧ c2 ≤ g2 ∧ ∀ x dy H', H x = none → Same H H' → H' x = some (.ins C dy (stF (mn c c2) (mx g g2))) → Q (.ref x) H'
def sp_and (C CN : Addr) : Sp := fun vs H Q E => ∃ (a dx b dy : Addr) (c g c2 g2 : Int), vs = [.ref a, .ref b] ∧ H a = some (.ins C dx (stF c g)) ∧ H b = some (.ins C dy (stF c2 g2)) ∧
  (mx c c2 ≤ mn g g2 → ∀ x dy H', H x = none → Same H H' → H' x = some (.ins C dy (stF (mx c c2) (mn g g2))) → Q (.ref x) H') ∧
  (mn g g2 < mx c c2 → ∀ d, H d = none → E (.ref CN) (some d) (upd H d (.xd [("gap", .int (mx c c2 - mn g g2))])))
theorem ok_or {f : Addr} {fd : FuncData} (F : Fun K "__or__" "Stay.__or__" s_Stay_or f fd) (T : Txt P K mg C CE fE CN fN CA CU CT CI) (c_Stay : Mak P w K mg base 1 "Stay" C (sp_init C CE)) :
    FnOk P w K mg base (L2.CX P w) (2 + 1) f fd ["self", "other"] (sp_or C) := by
  refine okT F sc_Stay_or (fun vs H Q E h => ?_) (fun cdv A outer s H vs Q E hr tk h => ?_)
  · obtain ⟨a, dx, b, dy, c, g, c2, g2, rfl, _⟩ := h
    rfl
  obtain ⟨a, dx, b, dy, c, g, c2, g2, rfl, h1, h2, hl, hl2, k⟩ := h
  have f1 := T.cl; have f2 := T.nC; have f3 := T.nG; have f4 := T.ca; have f5 := T.cn; have f6 := T.ct; have f7 := T.cm
  refine ⟨_, (pss_one (ps_ret (c_make c_Stay tk hr (by decide) (pa_cons (pe_callB (b_min2 rfl) (by rfl) T.b_min (by decide +kernel) (pa_cons (pe_fld (pv 0) rfl) (pa_cons (pe_fld (pv 1) rfl) pa_nil))) (pa_cons (pe_callB (b_max2 rfl) (by rfl) T.b_max (by decide +kernel) (pa_cons (pe_fld (pv 0) rfl) (pa_cons (pe_fld (pv 1) rfl) pa_nil))) pa_nil))))), ?_⟩
  simp only [cxK, st_Stay_or]
  have M : Mem H [] H [] [] := mem_start (by simp) (by simp) (by simp)
  have h3 : mn c c2 ≤ mx g g2 := by unfold mn mx; split <;> split <;> omega
  walk_at "go"
  rename_i x' dx' H' M'
  exact k x' dx' H' (M'.new _ List.mem_cons_self) (Same.of_keep M') (M'.getL List.mem_cons_self)
theorem use_or {B H : Hp} {ms : List Addr} {f l : List (Addr × HO)} {Q : VK} {E : XK} {a dx b dy : Addr} {c g c2 g2 : Int} (M : Mem B ms H f l) (h1 : H a = some (.ins C dx (stF c g))) (h2 : H b = some (.ins C dy (stF c2 g2))) (hn : c ≤ g) (hn2 : c2 ≤ g2)
    (k : ∀ x dy H', Mem B ms H' f ((x, .ins C dy (stF (mn c c2) (mx g g2))) :: l) → Q (.ref x) H') : sp_or C [.ref a, .ref b] H Q E :=
  ⟨a, dx, b, dy, c, g, c2, g2, rfl, h1, h2, hn, hn2, fun x dy H' h1 h2 h3 => k x dy H' (M.sameNew h2 h1 h3)⟩
theorem ok_and {f : Addr} {fd : FuncData} (F : Fun K "__and__" "Stay.__and__" s_Stay_and f fd) (T : Txt P K mg C CE fE CN fN CA CU CT CI) (c_Stay : Mak P w K mg base 1 "Stay" C (sp_init C CE)) :
    FnOk P w K mg base (L2.CX P w) (2 + 1) f fd ["self", "other"] (sp_and C CN) := by
  refine okT F sc_Stay_and (fun vs H Q E h => ?_) (fun cdv A outer s H vs Q E hr tk h => ?_)
  · obtain ⟨a, dx, b, dy, c, g, c2, g2, rfl, _⟩ := h
    rfl
  obtain ⟨a, dx, b, dy, c, g, c2, g2, rfl, h1, h2, k1, k2⟩ := h
  have f1 := T.cl; have f2 := T.nC; have f3 := T.nG; have f4 := T.ca; have f5 := T.cn; have f6 := T.ct; have f7 := T.cm
  refine ⟨_, (pss_cons (ps_set (i := 2) sc_Stay_and.nd rfl (Or.inl rfl) (pe_callB (b_max2 rfl) (by rfl) T.b_max (by decide +kernel) (pa_cons (pe_fld (pv 0) rfl) (pa_cons (pe_fld (pv 1) rfl) pa_nil))))
      (pss_cons (ps_set (i := 3) sc_Stay_and.nd rfl (Or.inl rfl) (pe_callB (b_min2 rfl) (by rfl) T.b_min (by decide +kernel) (pa_cons (pe_fld (pv 0) rfl) (pa_cons (pe_fld (pv 1) rfl) pa_nil))))
      (pss_cons (ps_if (pt_cmpR op_lt (pv 3) (pv 2) (nomark _)) (pss_one (ps_raise rfl tk (pmk_err T.e_NoCommonDay (by decide) hr (pa_cons (pe_op op_sub (pv 2) (pv 3)) pa_nil)))) pss_nil)
      (pss_one (ps_ret (c_make c_Stay tk hr (by decide) (pa_cons (pv 2) (pa_cons (pv 3) pa_nil)))))))), ?_⟩
  simp only [cxK, st_Stay_and]
  have M : Mem H [] H [] [] := mem_start (by simp) (by simp) (by simp)
  walk_at "go"
  · exact fun d hd => k2 (by assumption) d hd
  · rename_i x' dx' H' M'
    exact k1 (Int.not_lt.mp (by assumption)) x' dx' H' (M'.new _ List.mem_cons_self) (Same.of_keep M') (M'.getL List.mem_cons_self)
theorem use_and {B H : Hp} {ms : List Addr} {f l : List (Addr × HO)} {Q : VK} {E : XK} {a dx b dy : Addr} {c g c2 g2 : Int} (M : Mem B ms H f l) (h1 : H a = some (.ins C dx (stF c g))) (h2 : H b = some (.ins C dy (stF c2 g2))) (hn : mx c c2 ≤ mn g g2)
    (k : ∀ x dy H', Mem B ms H' f ((x, .ins C dy (stF (mx c c2) (mn g g2))) :: l) → Q (.ref x) H') : sp_and C CN [.ref a, .ref b] H Q E :=
  ⟨a, dx, b, dy, c, g, c2, g2, rfl, h1, h2, fun _ x dy H' h1 h2 h3 => k x dy H' (M.sameNew h2 h1 h3), fun h' => absurd hn (by omega)⟩
theorem use_andE {B H : Hp} {ms : List Addr} {f l : List (Addr × HO)} {Q : VK} {E : XK} {a dx b dy : Addr} {c g c2 g2 : Int} (M : Mem B ms H f l) (h1 : H a = some (.ins C dx (stF c g))) (h2 : H b = some (.ins C dy (stF c2 g2))) (hn : mn g g2 < mx c c2)
    (k : ∀ d H', Mem B ms H' f ((d, .xd [("gap", .int (mx c c2 - mn g g2))]) :: l) → E (.ref CN) (some d) H') : sp_and C CN [.ref a, .ref b] H Q E :=
  ⟨a, dx, b, dy, c, g, c2, g2, rfl, h1, h2, fun h' => absurd hn (by omega), fun _ d hd => k d _ (M.alloc hd)⟩
def strS (c g : Int) : Str := Str.ofString (toString c) ++ ".." ++ Str.ofString (toString g)
def sp_str (C : Addr) : Sp := fun vs H Q _ => ∃ (a dx : Addr) (p l : Int), vs = [.ref a] ∧ H a = some (.ins C dx (stF p l)) ∧ (-(2 ^ 64) < p ∧ p < 2 ^ 64) ∧ (-(2 ^ 64) < l ∧ l < 2 ^ 64) ∧ Q (.str (strS p l)) H
theorem len_dots : (Str.length "..") = 2 := by decide +kernel
theorem ok_str {f : Addr} {fd : FuncData} (F : Fun K "__str__" "Stay.__str__" s_Stay_str f fd) (T : Txt P K mg C CE fE CN fN CA CU CT CI)  :
    FnOk P w K mg base (L2.CX P w) (0 + 1) f fd ["self"] (sp_str C) := by
  refine okT F sc_Stay_str (fun vs H Q E h => ?_) (fun cdv A outer s H vs Q E hr tk h => ?_)
  · obtain ⟨a, dx, p, l, rfl, _⟩ := h
    rfl
  obtain ⟨a, dx, p, l, rfl, h1, ⟨hp1, hp2⟩, ⟨hl1, hl2⟩, k⟩ := h
  have f1 := T.cl; have f2 := T.nC; have f3 := T.nG; have f4 := T.ca; have f5 := T.cn; have f6 := T.ct; have f7 := T.cm
  refine ⟨_, (pss_one (ps_ret (pe_joined (PJ.cons (pe_fmt (pe_fld (pv 0) rfl)) (PJ.cons pe_str (PJ.cons (pe_fmt (pe_fld (pv 0) rfl)) PJ.nil)))))), ?_⟩
  simp only [cxK, st_Stay_str]
  have e1 := strI_len hp1 hp2
  have e2 := strI_len hl1 hl2
  have e3 := len_dots
  walk_at "go"
  rw [Str.empty_append]
  exact k
theorem use_str {H : Hp} {Q : VK} {E : XK} {a dx : Addr} {p l : Int} (h1 : H a = some (.ins C dx (stF p l))) (a1 : -(2 ^ 64) < p) (a2 : p < 2 ^ 64) (a3 : -(2 ^ 64) < l) (a4 : l < 2 ^ 64) (q : Q (.str (strS p l)) H) : sp_str C [.ref a] H Q E := ⟨a, dx, p, l, rfl, h1, ⟨a1, a2⟩, ⟨a3, a4⟩, q⟩
end
end K16

set_option Elab.async false
set_option linter.all false
set_option maxRecDepth 100000
set_option maxHeartbeats 8000000
namespace K16
open PySem L2 MyL
local macro_rules | `(tactic| walk_at "mem") => `(tactic| first | exact List.mem_cons_self | (refine List.mem_cons_of_mem _ ?_; walk_at "mem"))
local macro_rules | `(tactic| walk_at "hp") => `(tactic| first | assumption | (refine' Mem.getL ?k1 ?k2; (case k1 => assumption); (case k2 => walk_at "mem")) | (refine' Mem.getF ?k1 ?k2; (case k1 => assumption); (case k2 => walk_at "mem")))
local macro_rules | `(tactic| walk_at "cond") => `(tactic| first | omega | assumption | exact mulR (by omega) (by omega) | exact mulL (by omega) (by omega) | exact divW (by omega) (by omega) | decide)
local macro_rules | `(tactic| walk_at "look") => `(tactic| first | with_unfolding_all rfl | exact atI_map (by omega) (by omega))
local macro_rules | `(tactic| walk_at "go1") => `(tactic| with_reducible first
  | refine k_seq ?_ | refine k_gName ?_ | refine k_asg ?_ | refine k_ret ?_ | refine k_ifS ?_ | refine k_drop ?_ | refine k_next ?_ | refine k_break ?_ | refine k_cont ?_ | refine k_retN ?_
  | (refine' k_var ?k1 ?_; (case k1 => with_unfolding_all rfl)) | refine k_c ?_ | refine k_op ?_ | refine k_un ?_ | refine k_test ?_ | refine k_B ?_ | refine k_bl ?_ | refine k_and ?_ | refine k_or ?_ | refine k_not ?_
  | refine k_andV ?_ | refine k_orV ?_ | refine k_notV ?_ | refine k_ifE ?_ | refine k_nil ?_ | refine k_cons ?_ | refine k_cb ?_ | refine k_callS ?_ | refine k_lst0 ?_ | refine k_tup0 ?_ | refine k_fld0 ?_ | refine k_sub0 ?_ | refine k_make0 ?_ | refine k_prop0 ?_ | refine k_chain ?_ | refine k_makeK0 ?_ | refine k_swapK ?_ | refine k_meth0 ?_ | refine k_ownN0 ?_ | refine k_ownO0 ?_ | refine k_sfld0 ?_ | refine k_jnil ?_ | refine k_jcons ?_ | refine k_fmt0 ?_ | refine k_sl0 ?_ | refine k_nopart ?_ | refine k_part ?_ | refine k_forR1 ?_ | refine k_forR2 ?_ | refine k_forL ?_ | refine k_forT ?_ | refine k_lcR1 ?_ | refine k_lcR2 ?_ | refine k_lcL ?_ | refine k_err0 ?_ | refine k_xf0 ?_ | refine k_errQ1 ?_ | refine k_errQ0 ?_ | refine k_errQ2 ?_ | refine k_errQ3 ?_
  | refine k_I0 ?_ | (refine k_I ?k1 ?_; (case k1 => walk_at "cond")) | refine k_U ?_ | refine k_eqI ?_ | refine k_neI ?_ | refine k_eqB ?_ | refine k_neB ?_ | refine k_eqS ?_ | refine k_neS ?_
  | refine k_int1 ?_ | refine k_abs1 ?_ | refine k_min2 ?_ | refine k_max2 ?_
  | (refine' k_lenM ?k1 ?_; (case k1 => walk_at "hp")) | (refine' k_lenL ?k1 ?_; (case k1 => walk_at "hp")) | (refine' k_lenT ?k1 ?_; (case k1 => walk_at "hp"))
  | (refine' k_lenS ?k1 ?_; (case k1 => assumption)) | (refine' k_ixS ?k1 ?k2 ?_; (case k1 => assumption); (case k2 => walk_at "look"))
  | (refine' k_ixL ?k1 ?k2 ?_; (case k1 => walk_at "hp"); (case k2 => walk_at "look")) | (refine' k_ixT ?k1 ?k2 ?_; (case k1 => walk_at "hp"); (case k2 => walk_at "look"))
  | (refine' k_ix4 ?k1 ?k2 ?k3 ?_; (case k1 => walk_at "hp"); (case k2 => omega); (case k3 => omega); intro n' hn')
  | (refine' k_ix3 ?k1 ?k2 ?k3 ?_; (case k1 => walk_at "hp"); (case k2 => omega); (case k3 => omega); intro n' hn')
  | (refine' k_ix2 ?k1 ?k2 ?k3 ?_; (case k1 => walk_at "hp"); (case k2 => omega); (case k3 => omega); intro n' hn')
  | (refine' k_fld ?k1 ?k2 ?k3 ?k4 ?_; (case k1 => walk_at "hp"); (case k2 => assumption); (case k3 => assumption); (case k4 => walk_at "fld"))
  | (refine' k_lst ?k1 ?k2 ?_; (case k1 => assumption); (case k2 => exact sz (by simp)); intro p' H' M')
  | (refine' k_tup ?k1 ?k2 ?_; (case k1 => assumption); (case k2 => exact sz (by simp)); intro p' H' M')
  | (refine' k_setF0 ?k1 ?k2 ?k3 ?_; (case k1 => assumption); (case k2 => simp); (case k3 => with_unfolding_all rfl); intro H' M'; try simp only [Int.reduceToNat, List.set_cons_succ, List.set_cons_zero] at M')
  | (refine' k_setL0 ?k1 ?k2 ?_; (case k1 => assumption); (case k2 => with_unfolding_all rfl); intro H' M'; try simp only [Int.reduceToNat, List.set_cons_succ, List.set_cons_zero] at M')
  | (refine' k_setL1 ?k1 ?k2 ?_; (case k1 => assumption); (case k2 => with_unfolding_all rfl); intro H' M'; try simp only [Int.reduceToNat, List.set_cons_succ, List.set_cons_zero] at M')
  | (refine' k_setL2 ?k1 ?k2 ?_; (case k1 => assumption); (case k2 => with_unfolding_all rfl); intro H' M'; try simp only [Int.reduceToNat, List.set_cons_succ, List.set_cons_zero] at M')
  | refine iteT ?_ | refine iteF ?_ | refine k_iteNE ?_ | refine k_iteNS ?_ | refine k_iteNT ?_ | refine k_iteNF ?_
  | (refine k_iteD ?_ ?_ <;> intro hc <;> first | (exfalso; omega) | skip)
  | (refine k_iteN ?_ ?_ <;> intro hc <;> first | (exfalso; omega) | skip)
  | (refine' k_ownN ?k1 ?_; (case k1 => walk_at "hp")) | (refine' k_ownO ?k1 ?k2 ?_; (case k1 => walk_at "hp"); (case k2 => walk_at "hp")) | (refine' k_ownEq ?k1 ?k2 ?_; (case k1 => walk_at "hp"); (case k2 => walk_at "hp"))
  | (refine' k_ownIn ?k1 ?_; (case k1 => walk_at "hp")) | (refine' k_ownU ?k1 ?_; (case k1 => walk_at "hp")) | (refine' k_ownStr ?k1 ?_; (case k1 => walk_at "hp"))
  | (refine' k_prop ?k1 ?_; (case k1 => walk_at "hp")) | (refine' k_ownNe ?k1 ?k2 ?_; (case k1 => walk_at "hp"); (case k2 => walk_at "hp")) | (refine' k_eqP ?k1 ?k2 ?_; (case k1 => walk_at "hp"); (case k2 => walk_at "hp")) | (refine' k_neP ?k1 ?k2 ?_; (case k1 => walk_at "hp"); (case k2 => walk_at "hp"))
  | (refine' k_isiO ?k1 ?k2 ?k3 ?k4 ?k5 ?k6 ?_; (case k1 => walk_at "hp"); (case k2 => assumption); (case k3 => assumption); (case k4 => assumption); (case k5 => assumption); (case k6 => assumption))
  | (refine' k_isiI ?k1 ?_; (case k1 => assumption))
  | (refine' k_jst ?k1 ?_; (case k1 => walk_at "size")) | (refine' k_fmtI ?k1 ?_; (case k1 => exact log2_64 (by omega) (by omega))) | (refine' k_strI ?k1 ?_; (case k1 => exact log2_64 (by omega) (by omega)))
  | (refine k_addS ?k1 ?_; (case k1 => walk_at "size")) | refine k_st ?_ | refine k_parti ?_
  | (refine' k_cat ?k1 ?k2 ?k3 ?k4 ?_; (case k1 => assumption); (case k2 => walk_at "hp"); (case k3 => walk_at "hp"); (case k4 => walk_at "size"); intro p' H' M')
  | (refine' k_slL ?k1 ?k2 ?_; (case k1 => assumption); (case k2 => first | assumption | exact SqL.of (by walk_at "hp")); intro p' H' M')
  | (refine k_rng1 ?k1 ?k2 ?_; (case k1 => omega); (case k2 => omega)) | (refine k_rng2 ?k1 ?k2 ?k3 ?k4 ?_; (case k1 => omega); (case k2 => omega); (case k3 => omega); (case k4 => omega))
  | (refine' k_lstAt ?k1 ?_; (case k1 => first | assumption | exact SqL.of (by walk_at "hp"))) | (refine' k_tupAt ?k1 ?_; (case k1 => first | assumption | exact SqT.of (by walk_at "hp")))
  | (refine' k_isXs ?k1 ?k2 ?_; (case k1 => assumption); (case k2 => walk_at "hp")) | (refine' k_isXo ?k1 ?k2 ?k3 ?_; (case k1 => assumption); (case k2 => walk_at "hp"); (case k3 => assumption)) | (refine' k_isXt ?k1 ?k2 ?k3 ?_; (case k1 => assumption); (case k2 => walk_at "hp"); (case k3 => assumption))
  | (refine' k_isX3 ?k1 ?k2 ?k3 ?k4 ?_; (case k1 => assumption); (case k2 => walk_at "hp"); (case k3 => walk_at "hp"); (case k4 => assumption)) | (refine' k_isX2 ?k1 ?k2 ?k3 ?k4 ?_; (case k1 => assumption); (case k2 => walk_at "hp"); (case k3 => walk_at "hp"); (case k4 => assumption))
  | (refine' k_xf ?k1 ?k2 ?_; (case k1 => walk_at "hp"); (case k2 => first | exact xd1 | exact xd2 (by decide +kernel)))
  | (refine' k_caught ?k1 ?_; (case k1 => assumption); intro a' ha')
  | walk_at "use")
local macro_rules | `(tactic| walk_at "go") => `(tactic| repeat' (walk_at "go1"))

local macro_rules | `(tactic| walk_at "fld") => `(tactic| first | exact stF_come _ _ | exact stF_go _ _)
local macro_rules | `(tactic| walk_at "size") => `(tactic| first | exact sz (by first | omega | (simp only [List.length_map, List.length_range, List.length_append, List.length_cons, List.length_nil, Int.reduceSub, Int.reduceToNat, Int.reduceNeg]; omega)) | (simp only [Str.length_append, Str.empty_append]; exact sz (by omega)))
section
variable {P : Program} {w : World} {K : PySem.W.Frag} {mg : Str → Option Value} {base : Heap} {C CE fE CN fN CA CU CT CI : Addr}
/-- the box: the cells' list at sc, the place, the digits left, the state -/
abbrev boxO (sc : Addr) (pos big st : Int) : HO := .lst [.ref sc, .int pos, .int big, .int st]
def sp_draws (K : PySem.W.Frag) : Sp := fun vs H Q _ => ∃ (a : Addr) (ns : List Int), vs = [.ref a] ∧ SqL K H a (ns.map V.int) ∧ ns.length ≤ 63 ∧ ∀ (bx sc : Addr) (cs : List Int) (st : Int) H', bx ≠ sc → H' bx = some (boxO sc 0 0 st) → H' sc = some (.lst (cs.map V.int)) → Q (.ref bx) H'
theorem ok_draws {f : Addr} {fd : FuncData} (F : Fun K "_law_draws" "_law_draws" s__law_draws f fd) (T : Txt P K mg C CE fE CN fN CA CU CT CI)  :
    FnOk P w K mg base (L2.CX P w) (0 + 1) f fd ["_law_script"] (sp_draws K) := by
  refine okT F sc__law_draws (fun vs H Q E h => ?_) (fun cdv A outer s H vs Q E hr tk h => ?_)
  · obtain ⟨a, ns, rfl, _⟩ := h
    rfl
  obtain ⟨a, ns, rfl, hS, hlen, k⟩ := h
  have f1 := T.cl; have f2 := T.nC; have f3 := T.nG; have f4 := T.ca; have f5 := T.cn; have f6 := T.ct; have f7 := T.cm; have f8 := T.i1; have f9 := T.i2
  refine ⟨_, (pss_cons (ps_setLc (i := 1) (own := [("_law_cell", 3)]) (g := gName 3) (tt := tYes) rfl sc__law_draws.nd rfl rfl (sw_true rfl rfl rfl (by decide +kernel)) (pi_list (pe_slice sl_list (pv 0) po_none (po_some pe_int))) (blkOk_by (own := [("_law_cell", 3)]) (N := N__law_draws) (sc := defScope s__law_draws) (by decide +kernel)) (fun _ _ _ _ _ => pg_name (i := 3) sc__law_draws.nd rfl (Or.inl rfl)) (fun _ _ _ _ _ => pts_nil) (fun _ _ _ _ _ => (pe_callTy b_int (by rfl) T.b_int (by decide +kernel) (pa_cons (pv 3) pa_nil))))
      (pss_cons (ps_set (i := 2) sc__law_draws.nd rfl (Or.inl rfl) pe_int)
      (pss_cons (ps_for (passes_of rfl) rfl (pi_list (pv 1)) (pg_name (i := 3) sc__law_draws.nd rfl (Or.inl rfl)) (pss_one (ps_set (i := 2) sc__law_draws.nd rfl (Or.inl rfl) (pe_op op_mod (pe_callTy b_int (by rfl) T.b_int (by decide +kernel) (pa_cons (pe_op op_add (pe_op op_add (pe_op op_mulU (pv 2) pe_int) (pe_op op_mulU (pv 3) pe_int)) pe_int) pa_nil)) pe_int))))
      (pss_one (ps_ret (pe_lst (pa_cons (pv 1) (pa_cons pe_int (pa_cons pe_int (pa_cons (pv 2) pa_nil)))))))))), ?_⟩
  simp only [cxK, st__law_draws]
  have M : Mem H [] H [] [] := mem_start (by simp []) (by simp) (by simp)
  walk_at "go"
  rename_i sl H1 M1
  rw [cut_all (by simp; omega)] at M1
  refine lcL_pure (xs := ns.map V.int) M1 (fun H' M' => SqL.of (M'.getL (by simp))) (fun i => .int (ns.getD i 0)) (by simp; omega) (fun x => rfl) (fun i x H' D R hi M' hR => ?_) (fun D H' M' => ?_)
  · have hx : x = .int (ns.getD i 0) := by
      rw [List.getElem?_map] at hi
      cases e : ns[i]? with
      | none => rw [e] at hi; cases hi
      | some z => rw [e] at hi; simp [e] at hi; simp [List.getD, e, hi]
    subst hx
    walk_at "go"
    exact hR _ M'
  obtain ⟨cs, hcs⟩ : ∃ cs : List Int, (List.range (ns.map V.int).length).map (fun i => V.int (ns.getD i 0)) = cs.map V.int := ⟨(List.range (ns.map V.int).length).map (fun i => ns.getD i 0), by rw [List.map_map]; rfl⟩
  rw [hcs] at M'
  walk_at "go"
  refine lst_loop (xs := cs.map V.int) ⟨fun i σ' H2 => ∃ (sd : Int) (v : Option V), σ' = [some (.ref a), some (.ref D), some (.int sd), v] ∧ H2 = H', ⟨_, _, rfl, rfl⟩, ?_, ?_, ?_⟩
  · rintro i σ' H2 _ ⟨sd, v, rfl, rfl⟩
    exact SqL.of (M'.getL (by simp))
  · rintro i x σ' H2 hx ⟨sd, v, rfl, rfl⟩
    obtain ⟨z, rfl⟩ : ∃ z, x = V.int z := by
      have := List.mem_of_getElem? hx
      simp at this
      obtain ⟨z, _, h⟩ := this
      exact ⟨z, h.symm⟩
    walk_at "go"
    exact ⟨_, _, rfl, rfl⟩
  · rintro σ' H2 ⟨sd, v, rfl, rfl⟩
    walk_at "go"
    rename_i bx H3 M3
    refine k bx D cs sd H3 ?_ (M3.getL (by simp)) (M3.getL (by simp))
    have nd := M3.nd
    simp at nd
    exact nd.1.1
theorem use_draws {H : Hp} {Q : VK} {E : XK} {a : Addr} {ns : List Int} (hS : SqL K H a (ns.map V.int)) (hl : ns.length ≤ 63)
    (k : ∀ (bx sc : Addr) (cs : List Int) (st : Int) H', Mem H' [bx] H' [(bx, boxO sc 0 0 st), (sc, .lst (cs.map V.int))] [] → Q (.ref bx) H') : sp_draws K [.ref a] H Q E :=
  ⟨a, ns, rfl, hS, hl, fun bx sc cs st H' hne h1 h2 => k bx sc cs st H' (mem_start (by simp [h1, h2]) (by simp [hne]) (by simp))⟩
/-- what calls on the box promise: a number by R -/
def sp_num (R : Int → Prop) : Sp := fun vs H Q _ => ∃ (bx sc : Addr) (ns : List Int) (pos big st : Int), vs = [.ref bx] ∧ H bx = some (boxO sc pos big st) ∧ H sc = some (.lst (ns.map V.int)) ∧ bx ≠ sc ∧ 0 ≤ pos ∧ 0 ≤ big ∧
  ∀ (d pos' big' st' : Int) H', R d → 0 ≤ pos' → 0 ≤ big' → Keep [bx] H H' → H' bx = some (boxO sc pos' big' st') → Q (.int d) H'
def sp_take : Sp := fun vs H Q E => ∃ (bx : V) (size : Int), vs = [bx, .int size] ∧ 1 ≤ size ∧ size < 2 ^ 64 ∧ sp_num (fun d => 0 ≤ d ∧ d < size) [bx] H Q E
theorem ok_take {f : Addr} {fd : FuncData} (F : Fun K "_law_take" "_law_take" s__law_take f fd) (T : Txt P K mg C CE fE CN fN CA CU CT CI)  :
    FnOk P w K mg base (L2.CX P w) (0 + 1) f fd ["_law_box", "_law_limit"] sp_take := by
  refine okT F sc__law_take (fun vs H Q E h => ?_) (fun cdv A outer s H vs Q E hr tk h => ?_)
  · obtain ⟨bx, size, rfl, _⟩ := h
    rfl
  obtain ⟨_, size, rfl, hs1, hs2, bx, sc, ns, pos, big, st, e, h1, h2, hne, hpos, hbig, k⟩ := h
  have f1 := T.cl; have f2 := T.nC; have f3 := T.nG; have f4 := T.ca; have f5 := T.cn; have f6 := T.ct; have f7 := T.cm; have f8 := T.i1; have f9 := T.i2
  refine ⟨_, (pss_cons (ps_set (i := 2) sc__law_take.nd rfl (Or.inl rfl) pe_int)
      (pss_cons (ps_if (PW.pt (pw_and (pt_cmpR op_eq (pe_ix ix_list (pv 0) pe_int (fun _ _ => rfl)) pe_int (nomark _)) (pw_and1 (pt_cmpR op_lt (pe_ix ix_list (pv 0) pe_int (fun _ _ => rfl)) (pe_callB b_len (by rfl) T.b_len (by decide +kernel) (pa_cons (pe_ix ix_list (pv 0) pe_int (fun _ _ => rfl)) pa_nil)) (nomark _))))) (pss_cons (ps_set (i := 2) sc__law_take.nd rfl (Or.inl rfl) (pe_ix ix_list (pe_ix ix_list (pv 0) pe_int (fun _ _ => rfl)) (pe_ix ix_list (pv 0) pe_int (fun _ _ => rfl)) (fun _ _ => rfl)))
      (pss_one (ps_asg (pe_op op_add (pe_ix ix_list (pv 0) pe_int (fun _ _ => rfl)) pe_int) (pg_sub (pv 0) pe_int set_list)))) pss_nil)
      (pss_cons (ps_if (PW.pt (pw_and (pt_cmpR op_eq (pe_ix ix_list (pv 0) pe_int (fun _ _ => rfl)) pe_int (nomark _)) (pw_and1 (pt_cmpR op_ge (pv 2) (pe_powC (n := 1000000000000000000)) (nomark _))))) (pss_one (ps_asg (pv 2) (pg_sub (pv 0) pe_int set_list))) pss_nil)
      (pss_cons (ps_if (pt_cmpR op_gt (pe_ix ix_list (pv 0) pe_int (fun _ _ => rfl)) pe_int (nomark _)) (pss_cons (ps_set (i := 3) sc__law_take.nd rfl (Or.inl rfl) (pe_op op_mod (pe_callTy b_int (by rfl) T.b_int (by decide +kernel) (pa_cons (pe_ix ix_list (pv 0) pe_int (fun _ _ => rfl)) pa_nil)) (pv 1)))
      (pss_cons (ps_asg (pe_op op_fdivW (pe_ix ix_list (pv 0) pe_int (fun _ _ => rfl)) (pv 1)) (pg_sub (pv 0) pe_int set_list))
      (pss_one (ps_ret (pv 3))))) pss_nil)
      (pss_cons (ps_asg (pe_op op_mod (pe_callTy b_int (by rfl) T.b_int (by decide +kernel) (pa_cons (pe_op op_add (pe_op op_mulU (pe_ix ix_list (pv 0) pe_int (fun _ _ => rfl)) pe_int) (pe_op op_mulU (pv 2) pe_int)) pa_nil)) pe_int) (pg_sub (pv 0) pe_int set_list))
      (pss_cons (ps_set (i := 4) sc__law_take.nd rfl (Or.inl rfl) (pe_op op_mod (pe_callTy b_int (by rfl) T.b_int (by decide +kernel) (pa_cons (pe_op op_add (pe_op op_mulU (pe_ix ix_list (pv 0) pe_int (fun _ _ => rfl)) (pe_ix ix_list (pv 0) pe_int (fun _ _ => rfl))) (pe_op op_mulU (pe_ix ix_list (pv 0) pe_int (fun _ _ => rfl)) pe_int)) pa_nil)) pe_int))
      (pss_one (ps_ret (pe_op op_mod (pe_op op_fdivW (pv 4) pe_int) (pv 1)))))))))), ?_⟩
  simp only [cxK, st__law_take]
  cases e
  have M : Mem H [bx] H [(bx, boxO sc pos big st), (sc, .lst (ns.map V.int))] [] := mem_start (by simp [h1, h2]) (by simp [hne]) (by simp)
  walk_at "go"
  all_goals first
    | (refine k _ _ _ _ _ ⟨Int.emod_nonneg _ (by omega), Int.emod_lt_of_pos _ (by omega)⟩ ?_ ?_ (Mem.keeps (by assumption)) (Mem.getF (by assumption) (by walk_at "mem")) <;> first | omega | exact Int.ediv_nonneg (by omega) (by omega))
theorem use_take {B H : Hp} {ms : List Addr} {f l : List (Addr × HO)} {Q : VK} {E : XK} {bx sc : Addr} {ns : List Int} {pos big st size : Int} (M : Mem B ms H ((bx, boxO sc pos big st) :: (sc, .lst (ns.map V.int)) :: f) l) (hm : bx ∈ ms) (h0 : 0 ≤ pos) (h1 : 0 ≤ big) (h2 : 1 ≤ size) (h3 : size < 2 ^ 64)
    (k : ∀ (d pos' big' st' : Int) H', 0 ≤ d → d < size → 0 ≤ pos' → 0 ≤ big' → Mem B ms H' ((bx, boxO sc pos' big' st') :: (sc, .lst (ns.map V.int)) :: f) l → Q (.int d) H') : sp_take [.ref bx, .int size] H Q E := by
  have nd := M.nd
  refine ⟨_, size, rfl, h2, h3, bx, sc, ns, pos, big, st, rfl, M.getF List.mem_cons_self, M.getF (by simp), ?_, h0, h1, fun d pos' big' st' H' a1 a3 a4 kp hb => k d pos' big' st' H' a1.1 a1.2 a3 a4 (M.call1 hm kp hb)⟩
  rw [List.map_append, List.nodup_append] at nd
  have := nd.2.1
  simp at this
  exact this.1.1
theorem use_num {R : Int → Prop} {B H : Hp} {ms : List Addr} {f l : List (Addr × HO)} {Q : VK} {E : XK} {bx sc : Addr} {ns : List Int} {pos big st : Int} (M : Mem B ms H ((bx, boxO sc pos big st) :: (sc, .lst (ns.map V.int)) :: f) l) (hm : bx ∈ ms) (h0 : 0 ≤ pos) (h1 : 0 ≤ big)
    (k : ∀ (d pos' big' st' : Int) H', R d → 0 ≤ pos' → 0 ≤ big' → Mem B ms H' ((bx, boxO sc pos' big' st') :: (sc, .lst (ns.map V.int)) :: f) l → Q (.int d) H') : sp_num R [.ref bx] H Q E := by
  have nd := M.nd
  refine ⟨bx, sc, ns, pos, big, st, rfl, M.getF List.mem_cons_self, M.getF (by simp), ?_, h0, h1, fun d pos' big' st' H' a1 a3 a4 kp hb => k d pos' big' st' H' a1 a3 a4 (M.call1 hm kp hb)⟩
  rw [List.map_append, List.nodup_append] at nd
  have := nd.2.1
  simp at this
  exact this.1.1
abbrev RFar (n : Int) : Prop := 0 ≤ n ∧ n < 400000000000000000
abbrev RMany (n : Int) : Prop := -100000000000000001 < n ∧ n < 100000000000000001
local macro_rules | `(tactic| walk_at "use") => `(tactic| with_reducible first
  | (refine' use_take ?k1 ?k2 ?k3 ?k4 ?k5 ?k6 ?_; (case k1 => assumption); (case k2 => simp); (case k3 => omega); (case k4 => omega); (case k5 => omega); (case k6 => omega); intro d' pos' big' st' H' a1' a2' a3' a4' M')
  | (refine' use_num ?k1 ?k2 ?k3 ?k4 ?_; (case k1 => assumption); (case k2 => simp); (case k3 => omega); (case k4 => omega); rintro d' pos' big' st' H' ⟨a1', a2'⟩ a3' a4' M'))
theorem ok_far {f : Addr} {fd : FuncData} (F : Fun K "_law_far" "_law_far" s__law_far f fd) (T : Txt P K mg C CE fE CN fN CA CU CT CI) (c__law_take : Cal P w K mg base 1 "_law_take" sp_take) :
    FnOk P w K mg base (L2.CX P w) (1 + 1) f fd ["_law_box"] (sp_num RFar) := by
  refine okT F sc__law_far (fun vs H Q E h => ?_) (fun cdv A outer s H vs Q E hr tk h => ?_)
  · obtain ⟨bx, sc, ns, pos, big, st, rfl, _⟩ := h
    rfl
  obtain ⟨bx, sc, ns, pos, big, st, rfl, h1, h2, hne, hpos, hbig, k⟩ := h
  have f1 := T.cl; have f2 := T.nC; have f3 := T.nG; have f4 := T.ca; have f5 := T.cn; have f6 := T.ct; have f7 := T.cm; have f8 := T.i1; have f9 := T.i2
  refine ⟨_, (pss_cons (ps_set (i := 1) sc__law_far.nd rfl (Or.inl rfl) (pe_op op_mulU (c_call c__law_take tk hr (by decide) (pa_cons (pv 0) (pa_cons (pe_op op_mulU pe_int (pe_powC (n := 10000000))) pa_nil))) (pe_powC (n := 10000000000))))
      (pss_cons (ps_set (i := 2) sc__law_far.nd rfl (Or.inl rfl) (pe_op op_mulU (c_call c__law_take tk hr (by decide) (pa_cons (pv 0) (pa_cons (pe_powC (n := 100000)) pa_nil))) (pe_powC (n := 100000))))
      (pss_one (ps_ret (pe_op op_add (pe_op op_add (pv 1) (pv 2)) (c_call c__law_take tk hr (by decide) (pa_cons (pv 0) (pa_cons (pe_powC (n := 100000)) pa_nil)))))))), ?_⟩
  simp only [cxK, st__law_far]
  have M : Mem H [bx] H [(bx, boxO sc pos big st), (sc, .lst (ns.map V.int))] [] := mem_start (by simp [h1, h2]) (by simp [hne]) (by simp)
  walk_at "go"
  all_goals (refine k _ _ _ _ _ ⟨by omega, by omega⟩ ?_ ?_ (Mem.keeps (by assumption)) (Mem.getF (by assumption) (by walk_at "mem")) <;> assumption)
theorem ok_many {f : Addr} {fd : FuncData} (F : Fun K "_law_many" "_law_many" s__law_many f fd) (T : Txt P K mg C CE fE CN fN CA CU CT CI) (c__law_take : Cal P w K mg base 1 "_law_take" sp_take) (c__law_far : Cal P w K mg base 2 "_law_far" (sp_num RFar)) :
    FnOk P w K mg base (L2.CX P w) (2 + 1) f fd ["_law_box"] (sp_num RMany) := by
  refine okT F sc__law_many (fun vs H Q E h => ?_) (fun cdv A outer s H vs Q E hr tk h => ?_)
  · obtain ⟨bx, sc, ns, pos, big, st, rfl, _⟩ := h
    rfl
  obtain ⟨bx, sc, ns, pos, big, st, rfl, h1, h2, hne, hpos, hbig, k⟩ := h
  have f1 := T.cl; have f2 := T.nC; have f3 := T.nG; have f4 := T.ca; have f5 := T.cn; have f6 := T.ct; have f7 := T.cm; have f8 := T.i1; have f9 := T.i2
  refine ⟨_, (pss_cons (ps_set (i := 1) sc__law_many.nd rfl (Or.inl rfl) (pe_op op_sub (c_call c__law_take tk hr (by decide) (pa_cons (pv 0) (pa_cons pe_int pa_nil))) pe_int))
      (pss_cons (ps_set (i := 2) sc__law_many.nd rfl (Or.inl rfl) (pe_op op_fdivW (c_call c__law_far tk hr (by decide) (pa_cons (pv 0) pa_nil)) pe_int))
      (pss_cons (ps_if (pt_cmpR op_eq (c_call c__law_take tk hr (by decide) (pa_cons (pv 0) (pa_cons pe_int pa_nil))) pe_int (nomark _)) (pss_one (ps_set (i := 2) sc__law_many.nd rfl (Or.inl rfl) (pe_un un_neg (pv 2)))) pss_nil)
      (pss_one (ps_ret (pe_ix ix_list (pe_lst (pa_cons pe_int (pa_cons pe_int (pa_cons pe_negC (pa_cons (pv 1) (pa_cons (pv 2) pa_nil)))))) (c_call c__law_take tk hr (by decide) (pa_cons (pv 0) (pa_cons pe_int pa_nil))) (fun _ _ => rfl))))))), ?_⟩
  simp only [cxK, st__law_many]
  have M : Mem H [bx] H [(bx, boxO sc pos big st), (sc, .lst (ns.map V.int))] [] := mem_start (by simp [h1, h2]) (by simp [hne]) (by simp)
  walk_at "go"
  all_goals
    refine' k_ixAll (R := RMany) ?k1 ?k2 ?k3 ?k4 ?_
    case k1 => walk_at "hp"
    case k2 => omega
    case k3 => simp; omega
    case k4 =>
      intro x hx
      simp only [List.mem_cons, List.not_mem_nil, or_false] at hx
      rcases hx with rfl | rfl | rfl | rfl | rfl <;> exact ⟨_, rfl, by omega, by omega⟩
    rintro n ⟨a1, a2⟩
    refine k _ _ _ _ _ ⟨by omega, by omega⟩ ?_ ?_ (Mem.keeps (by assumption)) (Mem.getF (by assumption) (by walk_at "mem")) <;> assumption
/-- a pair of days, the second one not ahead of the first one, within b -/
def sp_pair (b : Int) : Sp := fun vs H Q _ => ∃ (bx sc : Addr) (ns : List Int) (pos big st : Int), vs = [.ref bx] ∧ H bx = some (boxO sc pos big st) ∧ H sc = some (.lst (ns.map V.int)) ∧ bx ≠ sc ∧ 0 ≤ pos ∧ 0 ≤ big ∧
  ∀ (p : Addr) (c g pos' big' st' : Int) H', -b ≤ c → c ≤ g → g ≤ b → 0 ≤ pos' → 0 ≤ big' → Keep [bx] H H' → H' bx = some (boxO sc pos' big' st') → H p = none → H' p = some (.tup [.int c, .int g]) → Q (.ref p) H'
theorem ok_first {f : Addr} {fd : FuncData} (F : Fun K "_law_first" "_law_first" s__law_first f fd) (T : Txt P K mg C CE fE CN fN CA CU CT CI) (c__law_take : Cal P w K mg base 1 "_law_take" sp_take) (c__law_far : Cal P w K mg base 2 "_law_far" (sp_num RFar)) :
    FnOk P w K mg base (L2.CX P w) (2 + 1) f fd ["_law_box"] (sp_pair 800000000000000020) := by
  refine okT F sc__law_first (fun vs H Q E h => ?_) (fun cdv A outer s H vs Q E hr tk h => ?_)
  · obtain ⟨bx, sc, ns, pos, big, st, rfl, _⟩ := h
    rfl
  obtain ⟨bx, sc, ns, pos, big, st, rfl, h1, h2, hne, hpos, hbig, k⟩ := h
  have f1 := T.cl; have f2 := T.nC; have f3 := T.nG; have f4 := T.ca; have f5 := T.cn; have f6 := T.ct; have f7 := T.cm; have f8 := T.i1; have f9 := T.i2
  refine ⟨_, (pss_cons (ps_set (i := 1) sc__law_first.nd rfl (Or.inl rfl) (pe_op op_sub (c_call c__law_take tk hr (by decide) (pa_cons (pv 0) (pa_cons pe_int pa_nil))) pe_int))
      (pss_cons (ps_set (i := 2) sc__law_first.nd rfl (Or.inl rfl) (c_call c__law_take tk hr (by decide) (pa_cons (pv 0) (pa_cons pe_int pa_nil))))
      (pss_cons (ps_if (pt_cmpR op_eq (pv 2) pe_int (nomark _)) (pss_cons (ps_set (i := 1) sc__law_first.nd rfl (Or.inl rfl) (c_call c__law_far tk hr (by decide) (pa_cons (pv 0) pa_nil)))
      (pss_one (ps_if (pt_cmpR op_eq (c_call c__law_take tk hr (by decide) (pa_cons (pv 0) (pa_cons pe_int pa_nil))) pe_int (nomark _)) (pss_one (ps_set (i := 1) sc__law_first.nd rfl (Or.inl rfl) (pe_un un_neg (pv 1)))) pss_nil))) pss_nil)
      (pss_cons (ps_set (i := 3) sc__law_first.nd rfl (Or.inl rfl) (c_call c__law_take tk hr (by decide) (pa_cons (pv 0) (pa_cons pe_int pa_nil))))
      (pss_cons (ps_set (i := 2) sc__law_first.nd rfl (Or.inl rfl) (c_call c__law_take tk hr (by decide) (pa_cons (pv 0) (pa_cons pe_int pa_nil))))
      (pss_cons (ps_if (pt_cmpR op_eq (pv 2) pe_int (nomark _)) (pss_one (ps_set (i := 3) sc__law_first.nd rfl (Or.inl rfl) (c_call c__law_far tk hr (by decide) (pa_cons (pv 0) pa_nil)))) pss_nil)
      (pss_one (ps_ret (pe_tup (pa_cons (pv 1) (pa_cons (pe_op op_add (pv 1) (pv 3)) pa_nil))))))))))), ?_⟩
  simp only [cxK, st__law_first]
  have M : Mem H [bx] H [(bx, boxO sc pos big st), (sc, .lst (ns.map V.int))] [] := mem_start (by simp [h1, h2]) (by simp [hne]) (by simp)
  walk_at "go"
  all_goals
    rename_i M'
    refine k _ _ _ _ _ _ _ (by omega) (by omega) (by omega) ?_ ?_ (Mem.keeps M') (M'.getF List.mem_cons_self) (M'.new _ List.mem_cons_self) (M'.getL List.mem_cons_self) <;> assumption
theorem use_pair {b : Int} {B H : Hp} {ms : List Addr} {f l : List (Addr × HO)} {Q : VK} {E : XK} {bx sc : Addr} {ns : List Int} {pos big st : Int} (M : Mem B ms H ((bx, boxO sc pos big st) :: (sc, .lst (ns.map V.int)) :: f) l) (hm : bx ∈ ms) (h0 : 0 ≤ pos) (h1 : 0 ≤ big)
    (k : ∀ (p : Addr) (c g pos' big' st' : Int) H', -b ≤ c → c ≤ g → g ≤ b → 0 ≤ pos' → 0 ≤ big' → Mem B ms H' ((bx, boxO sc pos' big' st') :: (sc, .lst (ns.map V.int)) :: f) ((p, .tup [.int c, .int g]) :: l) → Q (.ref p) H') : sp_pair b [.ref bx] H Q E := by
  have nd := M.nd
  refine ⟨bx, sc, ns, pos, big, st, rfl, M.getF List.mem_cons_self, M.getF (by simp), ?_, h0, h1, fun p c g pos' big' st' H' a0 a1 a2 a3 a4 kp hb hn hp => k p c g pos' big' st' H' a0 a1 a2 a3 a4 (M.call1New hm kp hb hn hp)⟩
  rw [List.map_append, List.nodup_append] at nd
  have := nd.2.1
  simp at this
  exact this.1.1
def sp_near : Sp := fun vs H Q E => ∃ (bx : V) (p : Addr) (c g : Int), vs = [bx, .ref p] ∧ H p = some (.tup [.int c, .int g]) ∧ -800000000000000020 ≤ c ∧ c ≤ g ∧ g ≤ 800000000000000020 ∧ sp_pair 900000000000000020 [bx] H Q E
theorem ok_near {f : Addr} {fd : FuncData} (F : Fun K "_law_near" "_law_near" s__law_near f fd) (T : Txt P K mg C CE fE CN fN CA CU CT CI) (c__law_take : Cal P w K mg base 1 "_law_take" sp_take) :
    FnOk P w K mg base (L2.CX P w) (1 + 1) f fd ["_law_box", "_law_first_here"] sp_near := by
  refine okT F sc__law_near (fun vs H Q E h => ?_) (fun cdv A outer s H vs Q E hr tk h => ?_)
  · obtain ⟨bx, p, c, g, rfl, _⟩ := h
    rfl
  obtain ⟨_, p, c, g, rfl, hp, hc1, hc2, hc3, bx, sc, ns, pos, big, st, e, h1, h2, hne, hpos, hbig, k⟩ := h
  have f1 := T.cl; have f2 := T.nC; have f3 := T.nG; have f4 := T.ca; have f5 := T.cn; have f6 := T.ct; have f7 := T.cm; have f8 := T.i1; have f9 := T.i2
  refine ⟨_, (pss_cons (ps_set (i := 2) sc__law_near.nd rfl (Or.inl rfl) (pe_ix ix_tup (pv 1) pe_int (fun _ _ => rfl)))
      (pss_cons (ps_set (i := 3) sc__law_near.nd rfl (Or.inl rfl) (pe_ix ix_tup (pv 1) pe_int (fun _ _ => rfl)))
      (pss_cons (ps_set (i := 4) sc__law_near.nd rfl (Or.inl rfl) (pe_lst (pa_cons (pe_op op_sub (pv 2) (pe_powC (n := 100000000000000000))) (pa_cons (pe_op op_sub (pv 2) pe_int) (pa_cons (pe_op op_sub (pv 2) pe_int) (pa_cons (pv 2) (pa_cons (pe_op op_add (pv 2) pe_int) (pa_cons (pe_op op_fdivW (pe_op op_add (pv 2) (pv 3)) pe_int) pa_nil))))))))
      (pss_cons (ps_set (i := 4) sc__law_near.nd rfl (Or.inl rfl) (pe_op op_cat (pv 4) (pe_lst (pa_cons (pe_op op_sub (pv 3) pe_int) (pa_cons (pv 3) (pa_cons (pe_op op_add (pv 3) pe_int) (pa_cons (pe_op op_add (pv 3) pe_int) (pa_cons (pe_op op_add (pv 3) (pe_powC (n := 100000000000000000))) pa_nil))))))))
      (pss_cons (ps_set (i := 5) sc__law_near.nd rfl (Or.inl rfl) (pe_ix ix_list (pv 4) (c_call c__law_take tk hr (by decide) (pa_cons (pv 0) (pa_cons pe_int pa_nil))) (fun _ _ => rfl)))
      (pss_cons (ps_set (i := 6) sc__law_near.nd rfl (Or.inl rfl) (pe_ix ix_list (pv 4) (c_call c__law_take tk hr (by decide) (pa_cons (pv 0) (pa_cons pe_int pa_nil))) (fun _ _ => rfl)))
      (pss_one (ps_ret (pe_tup (pa_cons (pe_callB (b_min2 rfl) (by rfl) T.b_min (by decide +kernel) (pa_cons (pv 5) (pa_cons (pv 6) pa_nil))) (pa_cons (pe_callB (b_max2 rfl) (by rfl) T.b_max (by decide +kernel) (pa_cons (pv 5) (pa_cons (pv 6) pa_nil))) pa_nil))))))))))), ?_⟩
  simp only [cxK, st__law_near]
  cases e
  have hpb : bx ≠ p := ne_of h1 hp (by intro z; cases z)
  have hps : sc ≠ p := ne_of h2 hp (by intro z; cases z)
  have M : Mem H [bx] H [(bx, boxO sc pos big st), (sc, .lst (ns.map V.int)), (p, .tup [.int c, .int g])] [] := mem_start (by simp [h1, h2, hp]) (by simp [hne, hpb, hps]) (by simp)
  walk_at "go"
  rename_i M0 _ _ _ _ _ _ _ _ _
  refine' k_ixAll (R := fun n => -900000000000000020 ≤ n ∧ n ≤ 900000000000000020) ?k1 ?k2 ?k3 ?k4 ?_
  case k1 => walk_at "hp"
  case k2 => omega
  case k3 => simp; omega
  case k4 =>
    intro x hx
    simp only [List.mem_append, List.mem_cons, List.not_mem_nil, or_false, false_or] at hx
    rcases hx with (rfl | rfl | rfl | rfl | rfl | rfl) | (rfl | rfl | rfl | rfl | rfl) <;> exact ⟨_, rfl, by omega, by omega⟩
  rintro n1 ⟨a1, a2⟩
  walk_at "go"
  refine' k_ixAll (R := fun n => -900000000000000020 ≤ n ∧ n ≤ 900000000000000020) ?k1 ?k2 ?k3 ?k4 ?_
  case k1 => walk_at "hp"
  case k2 => omega
  case k3 => simp; omega
  case k4 =>
    intro x hx
    simp only [List.mem_append, List.mem_cons, List.not_mem_nil, or_false, false_or] at hx
    rcases hx with (rfl | rfl | rfl | rfl | rfl | rfl) | (rfl | rfl | rfl | rfl | rfl) <;> exact ⟨_, rfl, by omega, by omega⟩
  rintro n2 ⟨b1, b2⟩
  walk_at "go"
  rename_i M'
  refine k _ _ _ _ _ _ _ (by split <;> omega) (by split <;> split <;> omega) (by split <;> omega) ?_ ?_ (Mem.keeps M') (M'.getF List.mem_cons_self) (M'.new _ List.mem_cons_self) (M'.getL List.mem_cons_self) <;> assumption
theorem use_near {B H : Hp} {ms : List Addr} {f l : List (Addr × HO)} {Q : VK} {E : XK} {bx sc p : Addr} {ns : List Int} {pos big st c g : Int} (M : Mem B ms H ((bx, boxO sc pos big st) :: (sc, .lst (ns.map V.int)) :: f) l) (hp : H p = some (.tup [.int c, .int g])) (e0 : -800000000000000020 ≤ c) (e1 : c ≤ g) (e2 : g ≤ 800000000000000020) (hm : bx ∈ ms) (h0 : 0 ≤ pos) (h1 : 0 ≤ big)
    (k : ∀ (p : Addr) (c g pos' big' st' : Int) H', -900000000000000020 ≤ c → c ≤ g → g ≤ 900000000000000020 → 0 ≤ pos' → 0 ≤ big' → Mem B ms H' ((bx, boxO sc pos' big' st') :: (sc, .lst (ns.map V.int)) :: f) ((p, .tup [.int c, .int g]) :: l) → Q (.ref p) H') : sp_near [.ref bx, .ref p] H Q E :=
  ⟨_, p, c, g, rfl, hp, e0, e1, e2, use_pair M hm h0 h1 k⟩
end
end K16

set_option Elab.async false
set_option linter.all false
set_option maxRecDepth 100000
set_option maxHeartbeats 8000000
namespace K16
open PySem L2 MyL
local macro_rules | `(tactic| walk_at "mem") => `(tactic| first | exact List.mem_cons_self | (refine List.mem_cons_of_mem _ ?_; walk_at "mem"))
local macro_rules | `(tactic| walk_at "hp") => `(tactic| first | assumption | (refine' Mem.getL ?k1 ?k2; (case k1 => assumption); (case k2 => walk_at "mem")) | (refine' Mem.getF ?k1 ?k2; (case k1 => assumption); (case k2 => walk_at "mem")) | (refine' Mem.atB ?k1 ?k2; (case k1 => assumption); (case k2 => assumption)))
local macro_rules | `(tactic| walk_at "cond") => `(tactic| first | omega | assumption | exact mulR (by omega) (by omega) | exact mulL (by omega) (by omega) | exact divW (by omega) (by omega) | decide)
local macro_rules | `(tactic| walk_at "look") => `(tactic| first | with_unfolding_all rfl | exact atI_map (by omega) (by omega))
local macro_rules | `(tactic| walk_at "go1") => `(tactic| with_reducible first
  | refine k_seq ?_ | refine k_gName ?_ | refine k_asg ?_ | refine k_ret ?_ | refine k_ifS ?_ | refine k_drop ?_ | refine k_next ?_ | refine k_break ?_ | refine k_cont ?_ | refine k_retN ?_
  | (refine' k_var ?k1 ?_; (case k1 => with_unfolding_all rfl)) | refine k_c ?_ | refine k_op ?_ | refine k_un ?_ | refine k_test ?_ | refine k_B ?_ | refine k_bl ?_ | refine k_and ?_ | refine k_or ?_ | refine k_not ?_
  | refine k_andV ?_ | refine k_orV ?_ | refine k_notV ?_ | refine k_ifE ?_ | refine k_nil ?_ | refine k_cons ?_ | refine k_cb ?_ | refine k_callS ?_ | refine k_lst0 ?_ | refine k_tup0 ?_ | refine k_fld0 ?_ | refine k_sub0 ?_ | refine k_make0 ?_ | refine k_prop0 ?_ | refine k_chain ?_ | refine k_makeK0 ?_ | refine k_swapK ?_ | refine k_meth0 ?_ | refine k_ownN0 ?_ | refine k_ownO0 ?_ | refine k_sfld0 ?_ | refine k_jnil ?_ | refine k_jcons ?_ | refine k_fmt0 ?_ | refine k_sl0 ?_ | refine k_nopart ?_ | refine k_part ?_ | refine k_forR1 ?_ | refine k_forR2 ?_ | refine k_forL ?_ | refine k_forT ?_ | refine k_lcR1 ?_ | refine k_lcR2 ?_ | refine k_lcL ?_ | refine k_err0 ?_ | refine k_xf0 ?_ | refine k_errQ1 ?_ | refine k_errQ0 ?_ | refine k_errQ2 ?_ | refine k_errQ3 ?_
  | refine k_I0 ?_ | (refine k_I ?k1 ?_; (case k1 => walk_at "cond")) | refine k_U ?_ | refine k_eqI ?_ | refine k_neI ?_ | refine k_eqB ?_ | refine k_neB ?_ | refine k_eqS ?_ | refine k_neS ?_
  | refine k_int1 ?_ | refine k_abs1 ?_ | refine k_min2 ?_ | refine k_max2 ?_
  | (refine' k_lenM ?k1 ?_; (case k1 => walk_at "hp")) | (refine' k_lenL ?k1 ?_; (case k1 => walk_at "hp")) | (refine' k_lenT ?k1 ?_; (case k1 => walk_at "hp"))
  | (refine' k_lenS ?k1 ?_; (case k1 => assumption)) | (refine' k_ixS ?k1 ?k2 ?_; (case k1 => assumption); (case k2 => walk_at "look"))
  | (refine' k_ixL ?k1 ?k2 ?_; (case k1 => walk_at "hp"); (case k2 => walk_at "look")) | (refine' k_ixT ?k1 ?k2 ?_; (case k1 => walk_at "hp"); (case k2 => walk_at "look"))
  | (refine' k_ix4 ?k1 ?k2 ?k3 ?_; (case k1 => walk_at "hp"); (case k2 => omega); (case k3 => omega); intro n' hn')
  | (refine' k_ix3 ?k1 ?k2 ?k3 ?_; (case k1 => walk_at "hp"); (case k2 => omega); (case k3 => omega); intro n' hn')
  | (refine' k_ix2 ?k1 ?k2 ?k3 ?_; (case k1 => walk_at "hp"); (case k2 => omega); (case k3 => omega); intro n' hn')
  | (refine' k_fld ?k1 ?k2 ?k3 ?k4 ?_; (case k1 => walk_at "hp"); (case k2 => assumption); (case k3 => assumption); (case k4 => walk_at "fld"))
  | (refine' k_lst ?k1 ?k2 ?_; (case k1 => assumption); (case k2 => exact sz (by simp)); intro p' H' M')
  | (refine' k_tup ?k1 ?k2 ?_; (case k1 => assumption); (case k2 => exact sz (by simp)); intro p' H' M')
  | (refine' k_setF0 ?k1 ?k2 ?k3 ?_; (case k1 => assumption); (case k2 => simp); (case k3 => with_unfolding_all rfl); intro H' M'; try simp only [Int.reduceToNat, List.set_cons_succ, List.set_cons_zero] at M')
  | (refine' k_setL0 ?k1 ?k2 ?_; (case k1 => assumption); (case k2 => with_unfolding_all rfl); intro H' M'; try simp only [Int.reduceToNat, List.set_cons_succ, List.set_cons_zero] at M')
  | (refine' k_setL1 ?k1 ?k2 ?_; (case k1 => assumption); (case k2 => with_unfolding_all rfl); intro H' M'; try simp only [Int.reduceToNat, List.set_cons_succ, List.set_cons_zero] at M')
  | (refine' k_setL2 ?k1 ?k2 ?_; (case k1 => assumption); (case k2 => with_unfolding_all rfl); intro H' M'; try simp only [Int.reduceToNat, List.set_cons_succ, List.set_cons_zero] at M')
  | refine iteT ?_ | refine iteF ?_ | refine k_iteNE ?_ | refine k_iteNS ?_ | refine k_iteNT ?_ | refine k_iteNF ?_
  | (refine k_iteD ?_ ?_ <;> intro hc <;> first | (exfalso; omega) | skip)
  | (refine k_iteN ?_ ?_ <;> intro hc <;> first | (exfalso; omega) | skip)
  | (refine' k_ownN ?k1 ?_; (case k1 => walk_at "hp")) | (refine' k_ownO ?k1 ?k2 ?_; (case k1 => walk_at "hp"); (case k2 => walk_at "hp")) | (refine' k_ownEq ?k1 ?k2 ?_; (case k1 => walk_at "hp"); (case k2 => walk_at "hp"))
  | (refine' k_ownIn ?k1 ?_; (case k1 => walk_at "hp")) | (refine' k_ownU ?k1 ?_; (case k1 => walk_at "hp")) | (refine' k_ownStr ?k1 ?_; (case k1 => walk_at "hp"))
  | (refine' k_prop ?k1 ?_; (case k1 => walk_at "hp")) | (refine' k_ownNe ?k1 ?k2 ?_; (case k1 => walk_at "hp"); (case k2 => walk_at "hp")) | (refine' k_eqP ?k1 ?k2 ?_; (case k1 => walk_at "hp"); (case k2 => walk_at "hp")) | (refine' k_neP ?k1 ?k2 ?_; (case k1 => walk_at "hp"); (case k2 => walk_at "hp"))
  | (refine' k_isiO ?k1 ?k2 ?k3 ?k4 ?k5 ?k6 ?_; (case k1 => walk_at "hp"); (case k2 => assumption); (case k3 => assumption); (case k4 => assumption); (case k5 => assumption); (case k6 => assumption))
  | (refine' k_isiI ?k1 ?_; (case k1 => assumption))
  | (refine' k_jst ?k1 ?_; (case k1 => walk_at "size")) | (refine' k_fmtI ?k1 ?_; (case k1 => exact log2_64 (by omega) (by omega))) | (refine' k_strI ?k1 ?_; (case k1 => exact log2_64 (by omega) (by omega)))
  | (refine k_addS ?k1 ?_; (case k1 => walk_at "size")) | refine k_st ?_ | refine k_parti ?_
  | (refine' k_cat ?k1 ?k2 ?k3 ?k4 ?_; (case k1 => assumption); (case k2 => walk_at "hp"); (case k3 => walk_at "hp"); (case k4 => walk_at "size"); intro p' H' M')
  | (refine' k_slL ?k1 ?k2 ?_; (case k1 => assumption); (case k2 => first | assumption | exact SqL.of (by walk_at "hp")); intro p' H' M')
  | (refine k_rng1 ?k1 ?k2 ?_; (case k1 => omega); (case k2 => omega)) | (refine k_rng2 ?k1 ?k2 ?k3 ?k4 ?_; (case k1 => omega); (case k2 => omega); (case k3 => omega); (case k4 => omega))
  | (refine' k_lstAt ?k1 ?_; (case k1 => first | assumption | exact SqL.of (by walk_at "hp"))) | (refine' k_tupAt ?k1 ?_; (case k1 => first | assumption | exact SqT.of (by walk_at "hp")))
  | (refine' k_isXs ?k1 ?k2 ?_; (case k1 => assumption); (case k2 => walk_at "hp")) | (refine' k_isXo ?k1 ?k2 ?k3 ?_; (case k1 => assumption); (case k2 => walk_at "hp"); (case k3 => assumption)) | (refine' k_isXt ?k1 ?k2 ?k3 ?_; (case k1 => assumption); (case k2 => walk_at "hp"); (case k3 => assumption))
  | (refine' k_isX3 ?k1 ?k2 ?k3 ?k4 ?_; (case k1 => assumption); (case k2 => walk_at "hp"); (case k3 => walk_at "hp"); (case k4 => assumption)) | (refine' k_isX2 ?k1 ?k2 ?k3 ?k4 ?_; (case k1 => assumption); (case k2 => walk_at "hp"); (case k3 => walk_at "hp"); (case k4 => assumption))
  | (refine' k_isX4 ?k1 ?k2 ?k3 ?k4 ?_; (case k1 => assumption); (case k2 => walk_at "hp"); (case k3 => walk_at "hp"); (case k4 => assumption)) | (refine' k_ixT2 ?k1 ?k2 ?k3 ?_; (case k1 => walk_at "hp"); (case k2 => omega); (case k3 => omega); intro n' hn')
  | (refine k_iteNEq ?k1 ?_; (case k1 => (rw [Bool.eq_iff_iff]; first | (simp; done) | (simp; omega))))
  | (refine' k_xf ?k1 ?k2 ?_; (case k1 => walk_at "hp"); (case k2 => first | exact xd1 | exact xdH | exact xd2 (by decide +kernel)))
  | (refine' k_caught ?k1 ?_; (case k1 => assumption); intro a' ha')
  | walk_at "use")
local macro_rules | `(tactic| walk_at "go") => `(tactic| repeat' (walk_at "go1"))

local macro_rules | `(tactic| walk_at "fld") => `(tactic| first | exact stF_come _ _ | exact stF_go _ _)
local macro_rules | `(tactic| walk_at "eq") => `(tactic| first | rfl | assumption | omega)
local macro_rules | `(tactic| walk_at "size") => `(tactic| first | exact sz (by first | omega | (simp only [List.length_map, List.length_range, List.length_append, List.length_cons, List.length_nil, Int.reduceSub, Int.reduceToNat, Int.reduceNeg]; omega)) | (simp only [Str.length_append, Str.empty_append]; exact sz (by omega)))
section
variable {P : Program} {w : World} {K : PySem.W.Frag} {mg : Str → Option Value} {base : Heap} {C CE fE CN fN CA CU CT CI : Addr}
def sp_number : Sp := fun vs H Q _ => ∃ a d : Int, vs = [.int a, .int d] ∧ Q (.bl (decide (a = d))) H
theorem ok_number {f : Addr} {fd : FuncData} (F : Fun K "_law_number" "_law_number" s__law_number f fd) (hb : Binds K fd ["_law_actual", "_law_due"] []) (T : Txt P K mg C CE fE CN fN CA CU CT CI)  :
    FnQ P w K mg base (0 + 1) f sp_number := by
  refine Fun.okQ F sc__law_number hb (fun vs H Q E h => ?_) (fun cdv A outer s H vs Q hr h => ?_)
  · obtain ⟨a, d, rfl, _⟩ := h
    rfl
  obtain ⟨a, d, rfl, k⟩ := h
  have f1 := T.cl; have f2 := T.nC; have f3 := T.nG; have f4 := T.ca; have f5 := T.cn; have f6 := T.ct; have f7 := T.cm; have f8 := T.i1; have f9 := T.i2
  refine ⟨_, (pss_one (ps_ret (pe_and (pe_callB call_isi (by rfl) T.b_isinstance (by decide +kernel) (pa_cons (pv 0) (pa_cons (g_ty (n := "int") T.b_int (by decide +kernel)) pa_nil))) (pe_and (pe_not (pe_callB call_isi (by rfl) T.b_isinstance (by decide +kernel) (pa_cons (pv 0) (pa_cons (g_ty (n := "bool") T.b_bool (by decide +kernel)) pa_nil)))) (pe_one (pe_cmpR op_eq (pv 0) (pv 1) (nomark _))))))), ?_⟩
  simp only [cxQK, st__law_number]
  walk_at "go"
  exact k
theorem use_number {H : Hp} {Q : VK} {E : XK} {a d : Int} (e : a = d) (q : Q (.bl true) H) : sp_number [.int a, .int d] H Q E := ⟨a, d, rfl, by rw [decide_eq_true e]; exact q⟩
local macro_rules | `(tactic| walk_at "use") => `(tactic| with_reducible first
  | (refine' use_number ?k1 ?_; (case k1 => walk_at "eq"))
  | (refine' use_width ?k1 ?_; (case k1 => walk_at "hp"))
  | (refine' use_str ?k1 ?k2 ?k3 ?k4 ?k5 ?_; (case k1 => walk_at "hp"); (case k2 => omega); (case k3 => omega); (case k4 => omega); (case k5 => omega)))
abbrev Sm (n : Int) : Prop := -4000000000000000000 ≤ n ∧ n ≤ 4000000000000000000
def sp_is (C : Addr) : Sp := fun vs H Q _ => ∃ (a dx p : Addr) (c g : Int), vs = [.ref a, .ref p] ∧ H a = some (.ins C dx (stF c g)) ∧ H p = some (.tup [.int c, .int g]) ∧ Sm c ∧ Sm g ∧ Q (.bl true) H
theorem ok_is {f : Addr} {fd : FuncData} (F : Fun K "_law_is" "_law_is" s__law_is f fd) (T : Txt P K mg C CE fE CN fN CA CU CT CI) (q__law_number : CalQ P w K mg base 1 "_law_number" sp_number) (c_Stay_width : Prp P w K mg base 1 C "width" (sp_width C)) (c_Stay_str : Spc P w K mg base 1 C "__str__" (sp_str C)) :
    FnOk P w K mg base (L2.CX P w) (3 + 1) f fd ["_law_stay", "_law_days"] (sp_is C) := by
  refine okT F sc__law_is (fun vs H Q E h => ?_) (fun cdv A outer s H vs Q E hr tk h => ?_)
  · obtain ⟨a, dx, p, c, g, rfl, _⟩ := h
    rfl
  obtain ⟨a, dx, p, c, g, rfl, h1, h2, ⟨hc1, hc2⟩, ⟨hg1, hg2⟩, k⟩ := h
  have f1 := T.cl; have f2 := T.nC; have f3 := T.nG; have f4 := T.ca; have f5 := T.cn; have f6 := T.ct; have f7 := T.cm; have f8 := T.i1; have f9 := T.i2
  refine ⟨_, (pss_cons (ps_if (pt_not (pt_val (pe_callB call_isi (by rfl) T.b_isinstance (by decide +kernel) (pa_cons (pv 0) (pa_cons (g_ref T.g_Stay) pa_nil))))) (pss_one (ps_ret pe_bl)) pss_nil)
      (pss_cons (ps_if (PW.pt (pw_or (pt_not (pt_val (q_call q__law_number (L2H.roomH_of hr) (by decide) (pa_cons (pe_fld (pv 0) rfl) (pa_cons (pe_ix ix_tup (pv 1) pe_int (fun _ _ => rfl)) pa_nil))))) (pw_or1 (pt_not (pt_val (q_call q__law_number (L2H.roomH_of hr) (by decide) (pa_cons (pe_fld (pv 0) rfl) (pa_cons (pe_ix ix_tup (pv 1) pe_int (fun _ _ => rfl)) pa_nil)))))))) (pss_one (ps_ret pe_bl)) pss_nil)
      (pss_cons (ps_set (i := 2) sc__law_is.nd rfl (Or.inl rfl) (pe_op op_add_str (pe_op op_add_str (pe_callTy b_strI (by rfl) T.b_str (by decide +kernel) (pa_cons (pe_ix ix_tup (pv 1) pe_int (fun _ _ => rfl)) pa_nil)) pe_str) (pe_callTy b_strI (by rfl) T.b_str (by decide +kernel) (pa_cons (pe_ix ix_tup (pv 1) pe_int (fun _ _ => rfl)) pa_nil))))
      (pss_one (ps_ret (pe_and (q_call q__law_number (L2H.roomH_of hr) (by decide) (pa_cons (c_prop c_Stay_width hr (by decide) (pv 0)) (pa_cons (pe_op op_add (pe_op op_sub (pe_ix ix_tup (pv 1) pe_int (fun _ _ => rfl)) (pe_ix ix_tup (pv 1) pe_int (fun _ _ => rfl))) pe_int) pa_nil))) (pe_one (pe_cmpR op_eq (pe_callTy (c_str c_Stay_str hr (by decide)) (by rfl) T.b_str (by decide +kernel) (pa_cons (pv 0) pa_nil)) (pv 2) (nomark _))))))))), ?_⟩
  simp only [cxK, st__law_is]
  have e1 := strI_len (i := c) (by omega) (by omega)
  have e2 := strI_len (i := g) (by omega) (by omega)
  have e3 := len_dots
  walk_at "go"
  have z : strS c g = Str.ofString (toString c) ++ Str.ofString ".." ++ Str.ofString (toString g) := rfl
  rw [decide_eq_true z]
  exact k
theorem use_is {H : Hp} {Q : VK} {E : XK} {a dx p : Addr} {c g c2 g2 : Int} (h1 : H a = some (.ins C dx (stF c g))) (h2 : H p = some (.tup [.int c2, .int g2])) (e1 : c = c2) (e2 : g = g2) (s1 : Sm c) (s2 : Sm g) (q : Q (.bl true) H) : sp_is C [.ref a, .ref p] H Q E := by
  subst e1 e2; exact ⟨a, dx, p, c, g, rfl, h1, h2, s1, s2, q⟩
def sp_has (C : Addr) : Sp := fun vs H Q _ => ∃ (a dx p q : Addr) (c g c2 g2 : Int), vs = [.ref a, .ref p, .ref q] ∧ H a = some (.ins C dx (stF c g)) ∧ H p = some (.tup [.int c, .int g]) ∧ H q = some (.tup [.int c2, .int g2]) ∧ ∀ H', Same H H' → Q (.bl true) H'
local macro_rules | `(tactic| walk_at "use") => `(tactic| with_reducible first
  | (refine' use_contains ?k1 ?_; (case k1 => walk_at "hp")))
theorem ok_has {f : Addr} {fd : FuncData} (F : Fun K "_law_has" "_law_has" s__law_has f fd) (T : Txt P K mg C CE fE CN fN CA CU CT CI) (c_Stay_contains : Spc P w K mg base 1 C "__contains__" (sp_contains C)) :
    FnOk P w K mg base (L2.CX P w) (1 + 1) f fd ["_law_stay", "_law_days", "_law_other"] (sp_has C) := by
  refine okT F sc__law_has (fun vs H Q E h => ?_) (fun cdv A outer s H vs Q E hr tk h => ?_)
  · obtain ⟨a, dx, p, q, c, g, c2, g2, rfl, _⟩ := h
    rfl
  obtain ⟨a, dx, p, q, c, g, c2, g2, rfl, h1, h2, h3, k⟩ := h
  have f1 := T.cl; have f2 := T.nC; have f3 := T.nG; have f4 := T.ca; have f5 := T.cn; have f6 := T.ct; have f7 := T.cm; have f8 := T.i1; have f9 := T.i2
  refine ⟨_, (pss_cons (ps_set (i := 3) sc__law_has.nd rfl (Or.inl rfl) (pe_lst (pa_cons (pe_op op_sub (pe_ix ix_tup (pv 1) pe_int (fun _ _ => rfl)) pe_int) (pa_cons (pe_ix ix_tup (pv 1) pe_int (fun _ _ => rfl)) (pa_cons (pe_op op_add (pe_ix ix_tup (pv 1) pe_int (fun _ _ => rfl)) pe_int) (pa_cons (pe_op op_fdivW (pe_op op_add (pe_ix ix_tup (pv 1) pe_int (fun _ _ => rfl)) (pe_ix ix_tup (pv 1) pe_int (fun _ _ => rfl))) pe_int) (pa_cons (pe_op op_sub (pe_ix ix_tup (pv 1) pe_int (fun _ _ => rfl)) pe_int) (pa_cons (pe_ix ix_tup (pv 1) pe_int (fun _ _ => rfl)) (pa_cons (pe_op op_add (pe_ix ix_tup (pv 1) pe_int (fun _ _ => rfl)) pe_int) pa_nil)))))))))
      (pss_cons (ps_set (i := 3) sc__law_has.nd rfl (Or.inl rfl) (pe_op op_cat (pv 3) (pe_lst (pa_cons (pe_ix ix_tup (pv 2) pe_int (fun _ _ => rfl)) (pa_cons (pe_ix ix_tup (pv 2) pe_int (fun _ _ => rfl)) (pa_cons (pe_op op_sub (pe_ix ix_tup (pv 2) pe_int (fun _ _ => rfl)) pe_int) (pa_cons (pe_op op_add (pe_ix ix_tup (pv 2) pe_int (fun _ _ => rfl)) pe_int) pa_nil)))))))
      (pss_cons (ps_for (passes_of rfl) rfl (pi_list (pv 3)) (pg_name (i := 4) sc__law_has.nd rfl (Or.inl rfl)) (pss_one (ps_if (pt_cmpR op_ne (pe_cmpR (c_in c_Stay_contains hr (by decide)) (pv 4) (pv 0) rfl) (pe_and (pe_cmpR op_le (pe_ix ix_tup (pv 1) pe_int (fun _ _ => rfl)) (pv 4) (nomark _)) (pe_one (pe_cmpR op_le (pv 4) (pe_ix ix_tup (pv 1) pe_int (fun _ _ => rfl)) (nomark _)))) (nomark _)) (pss_one (ps_ret pe_bl)) pss_nil)))
      (pss_one (ps_ret pe_bl))))), ?_⟩
  simp only [cxK, st__law_has]
  have M : Mem H [] H [] [] := mem_start (by simp []) (by simp) (by simp)
  walk_at "go"
  rename_i lp HL ML
  obtain ⟨xs, hxs, M3⟩ : ∃ xs : List V, (∀ x ∈ xs, ∃ d, x = V.int d) ∧ Mem H [] HL [] [(lp, .lst xs)] := by
    refine ⟨_, ?_, ML.one⟩
    intro x hm
    simp only [List.mem_append, List.mem_cons, List.not_mem_nil, or_false] at hm
    rcases hm with (h | h | h | h | h | h | h) | (h | h | h | h) <;> exact ⟨_, h⟩
  refine lst_loop (xs := xs) ⟨fun i σ' H' => ∃ v, σ' = [some (.ref a), some (.ref p), some (.ref q), some (.ref lp), v] ∧ Mem H [] H' [] [(lp, .lst xs)], ?_, ?_, ?_, ?_⟩
  · exact ⟨_, rfl, M3⟩
  · rintro i σ' H' _ ⟨v, rfl, M'⟩
    exact SqL.of (M'.getL List.mem_cons_self)
  · rintro i x σ' H' hx ⟨v, rfl, M'⟩
    obtain ⟨d, rfl⟩ := hxs x (List.mem_of_getElem? hx)
    walk_at "go"
    all_goals exact ⟨_, rfl, M'⟩
  · rintro σ' H' ⟨v, rfl, M'⟩
    walk_at "go"
    exact k _ (Same.of_keep M')
theorem use_has {B H : Hp} {ms : List Addr} {f l : List (Addr × HO)} {Q : VK} {E : XK} {a dx p q : Addr} {c g c1 g1 c2 g2 : Int} (M : Mem B ms H f l) (h1 : H a = some (.ins C dx (stF c g))) (h2 : H p = some (.tup [.int c1, .int g1])) (h3 : H q = some (.tup [.int c2, .int g2])) (e1 : c = c1) (e2 : g = g1) (k : ∀ H', Mem B ms H' f l → Q (.bl true) H') : sp_has C [.ref a, .ref p, .ref q] H Q E := by
  subst e1 e2; exact ⟨a, dx, p, q, c, g, c2, g2, rfl, h1, h2, h3, fun H' s => k H' (M.same s)⟩
local macro_rules | `(tactic| walk_at "use") => `(tactic| with_reducible first
  | (refine' use_is ?k1 ?k2 ?k3 ?k4 ?k5 ?k6 ?_; (case k1 => walk_at "hp"); (case k2 => walk_at "hp"); (case k3 => walk_at "eq"); (case k4 => walk_at "eq"); (case k5 => exact ⟨by omega, by omega⟩); (case k6 => exact ⟨by omega, by omega⟩))
  | (refine' use_make ?k1 ?k2 ?_; (case k1 => assumption); (case k2 => omega); intro x' dx' H' M')
  | (refine' use_move ?k1 ?k2 ?k3 ?_; (case k1 => assumption); (case k2 => walk_at "hp"); (case k3 => omega); intro x' dx' H' M')
  | (refine' use_eqT ?k1 ?k2 ?k3 ?k4 ?_; (case k1 => walk_at "hp"); (case k2 => walk_at "hp"); (case k3 => walk_at "eq"); (case k4 => walk_at "eq"))
  | (refine' use_eqF ?k1 ?k2 ?k3 ?_; (case k1 => walk_at "hp"); (case k2 => walk_at "hp"); (case k3 => first | assumption | omega))
  | (refine' use_eq ?k1 ?k2 ?_; (case k1 => walk_at "hp"); (case k2 => walk_at "hp")))
abbrev Md (n : Int) : Prop := -1000000000000000000 ≤ n ∧ n ≤ 1000000000000000000
def sp_moved (C : Addr) : Sp := fun vs H Q _ => ∃ (a dx p : Addr) (c g m : Int), vs = [.ref a, .ref p, .int m] ∧ H a = some (.ins C dx (stF c g)) ∧ H p = some (.tup [.int c, .int g]) ∧ c ≤ g ∧ Md c ∧ Md g ∧ Md m ∧ ∀ H', Same H H' → Q (.bl true) H'
theorem ok_moved {f : Addr} {fd : FuncData} (F : Fun K "_law_moved" "_law_moved" s__law_moved f fd) (T : Txt P K mg C CE fE CN fN CA CU CT CI) (c_Stay_add : Spc P w K mg base 3 C "__add__" (sp_move C (· + ·))) (c_Stay_sub : Spc P w K mg base 3 C "__sub__" (sp_move C (· - ·))) (c_Stay_eq : Spc P w K mg base 1 C "__eq__" (sp_eq C)) (c__law_is : Cal P w K mg base 4 "_law_is" (sp_is C)) :
    FnOk P w K mg base (L2.CX P w) (4 + 1) f fd ["_law_stay", "_law_days", "_law_many_here"] (sp_moved C) := by
  refine okT F sc__law_moved (fun vs H Q E h => ?_) (fun cdv A outer s H vs Q E hr tk h => ?_)
  · obtain ⟨a, dx, p, c, g, m, rfl, _⟩ := h
    rfl
  obtain ⟨a, dx, p, c, g, m, rfl, h1, h2, hcg, ⟨c1, c2⟩, ⟨g1, g2⟩, ⟨m1, m2⟩, k⟩ := h
  have f1 := T.cl; have f2 := T.nC; have f3 := T.nG; have f4 := T.ca; have f5 := T.cn; have f6 := T.ct; have f7 := T.cm; have f8 := T.i1; have f9 := T.i2
  refine ⟨_, (pss_cons (ps_set (i := 3) sc__law_moved.nd rfl (Or.inl rfl) (c_opN c_Stay_add T.n_Stay_add tk hr (by decide) (pv 0) (pv 2)))
      (pss_cons (ps_set (i := 4) sc__law_moved.nd rfl (Or.inl rfl) (c_opN c_Stay_sub T.n_Stay_sub tk hr (by decide) (pv 0) (pv 2)))
      (pss_cons (ps_if (pt_not (pt_val (c_call c__law_is tk hr (by decide) (pa_cons (pv 3) (pa_cons (pe_tup (pa_cons (pe_op op_add (pe_ix ix_tup (pv 1) pe_int (fun _ _ => rfl)) (pv 2)) (pa_cons (pe_op op_add (pe_ix ix_tup (pv 1) pe_int (fun _ _ => rfl)) (pv 2)) pa_nil))) pa_nil))))) (pss_one (ps_ret pe_bl)) pss_nil)
      (pss_cons (ps_if (pt_not (pt_val (c_call c__law_is tk hr (by decide) (pa_cons (pv 4) (pa_cons (pe_tup (pa_cons (pe_op op_sub (pe_ix ix_tup (pv 1) pe_int (fun _ _ => rfl)) (pv 2)) (pa_cons (pe_op op_sub (pe_ix ix_tup (pv 1) pe_int (fun _ _ => rfl)) (pv 2)) pa_nil))) pa_nil))))) (pss_one (ps_ret pe_bl)) pss_nil)
      (pss_one (ps_ret (pe_and (c_call c__law_is tk hr (by decide) (pa_cons (c_opN c_Stay_sub T.n_Stay_sub tk hr (by decide) (pv 3) (pv 2)) (pa_cons (pv 1) pa_nil))) (pe_and (pe_cmpR (c_eq c_Stay_eq hr (by decide)) (c_opN c_Stay_sub T.n_Stay_sub tk hr (by decide) (pv 3) (pv 2)) (pv 0) (nomark _)) (pe_one (pe_cmpR (c_eq c_Stay_eq hr (by decide)) (c_opN c_Stay_add T.n_Stay_add tk hr (by decide) (pv 4) (pv 2)) (pv 0) (nomark _))))))))))), ?_⟩
  simp only [cxK, st__law_moved]
  have M : Mem H [] H [] [] := mem_start (by simp []) (by simp) (by simp)
  walk_at "go"
  exact k _ (Same.of_keep (by assumption))
theorem use_moved {B H : Hp} {ms : List Addr} {f l : List (Addr × HO)} {Q : VK} {E : XK} {a dx p : Addr} {c g c1 g1 m : Int} (M : Mem B ms H f l) (h1 : H a = some (.ins C dx (stF c g))) (h2 : H p = some (.tup [.int c1, .int g1])) (e1 : c = c1) (e2 : g = g1) (a1 : c ≤ g) (a2 : Md c) (a3 : Md g) (a4 : Md m) (k : ∀ H', Mem B ms H' f l → Q (.bl true) H') : sp_moved C [.ref a, .ref p, .int m] H Q E := by
  subst e1 e2; exact ⟨a, dx, p, c, g, m, rfl, h1, h2, a1, a2, a3, a4, fun H' s => k H' (M.same s)⟩
def sp_apart (C : Addr) : Sp := fun vs H Q _ => ∃ (a dx b dy : Addr) (c g c2 g2 : Int), vs = [.ref a, .ref b, .int (mx c c2 - mn g g2)] ∧ H a = some (.ins C dx (stF c g)) ∧ H b = some (.ins C dy (stF c2 g2)) ∧ mn g g2 < mx c c2 ∧ ∀ H', Same H H' → Q (.bl true) H'
local macro_rules | `(tactic| walk_at "use") => `(tactic| with_reducible first
  | (refine' use_or ?k1 ?k2 ?k3 ?k4 ?k5 ?_; (case k1 => assumption); (case k2 => walk_at "hp"); (case k3 => walk_at "hp"); (case k4 => omega); (case k5 => omega); intro x' dx' H' M')
  | (refine' use_and ?k1 ?k2 ?k3 ?k4 ?_; (case k1 => assumption); (case k2 => walk_at "hp"); (case k3 => walk_at "hp"); (case k4 => assumption); intro x' dx' H' M')
  | (refine' use_andE ?k1 ?k2 ?k3 ?k4 ?_; (case k1 => assumption); (case k2 => walk_at "hp"); (case k3 => walk_at "hp"); (case k4 => assumption); intro d' H' M')
  | (refine' use_makeE ?k1 ?k2 ?_; (case k1 => assumption); (case k2 => omega); intro d' H' M'))
theorem ok_apart {f : Addr} {fd : FuncData} (F : Fun K "_law_apart" "_law_apart" s__law_apart f fd) (T : Txt P K mg C CE fE CN fN CA CU CT CI) (c_Stay_and : Spc P w K mg base 3 C "__and__" (sp_and C CN)) (q__law_number : CalQ P w K mg base 1 "_law_number" sp_number) :
    FnOk P w K mg base (L2.CX P w) (3 + 1) f fd ["_law_one", "_law_two", "_law_gap"] (sp_apart C) := by
  refine okT F sc__law_apart (fun vs H Q E h => ?_) (fun cdv A outer s H vs Q E hr tk h => ?_)
  · obtain ⟨a, dx, b, dy, c, g, c2, g2, rfl, _⟩ := h
    rfl
  obtain ⟨a, dx, b, dy, c, g, c2, g2, rfl, h1, h2, hlt, k⟩ := h
  have f1 := T.cl; have f2 := T.nC; have f3 := T.nG; have f4 := T.ca; have f5 := T.cn; have f6 := T.ct; have f7 := T.cm; have f8 := T.i1; have f9 := T.i2
  have g1 := T.ekE; have g2 := T.ekN; have g3 := T.exmE; have g4 := T.exmN; have g5 := T.exmA; have g6 := T.kE1; have g7 := T.kE2; have g8 := T.kE3; have g9 := T.kN1; have g10 := T.kN2; have g11 := T.kN3
  refine ⟨_, (pss_cons (ps_try_as (i := 4) rfl rfl sc__law_apart.nd rfl rfl ⟨rfl, by decide, Or.inl T.g_NoCommonDay⟩ tk
        (fun W1 pn1 xe1 tk1 own1 => (pss_one (ps_set (i := 3) sc__law_apart.nd rfl (Or.inl rfl) (c_opO c_Stay_and T.sf_Stay tk1 hr (by decide) (pv 0) (pv 1)))))
        (fun a0 oe0 cls0 d0 pn0 hz hf => (pss_cons (ps_if (pt_val (pe_callB (call_isXT hz hf) (by rfl) T.b_isinstance (by decide +kernel) (pa_cons (pv 4) (pa_cons (pe_tup (pa_cons (g_ref T.g_UnknownError) (pa_cons (g_ref T.g_TextError) (pa_cons (g_ref T.g_ImpossibleError) (pa_cons (g_ref T.g_EmptyStay) pa_nil))))) pa_nil)))) (pss_one (ps_ret pe_bl)) pss_nil)
      (pss_one (ps_ret (pe_and (pe_callB (call_isX hz hf) (by rfl) T.b_isinstance (by decide +kernel) (pa_cons (pv 4) (pa_cons (g_ref T.g_ArchiveError) pa_nil))) (pe_and (pe_callB (call_isX hz hf) (by rfl) T.b_isinstance (by decide +kernel) (pa_cons (pv 4) (pa_cons (g_ty (n := "ValueError") T.b_ValueError (by decide +kernel)) pa_nil))) (pe_one (q_call q__law_number (roomQ hr _) (by decide) (pa_cons (pe_xf T.xf_NoCommonDay T.nx_NoCommonDay_gap hz hf (pv 4)) (pa_cons (pv 2) pa_nil)))))))))))
      (pss_one (ps_ret pe_bl))), ?_⟩
  simp only [cxK, st__law_apart]
  have M : Mem H [] H [] [] := mem_start (by simp []) (by simp) (by simp)
  walk_at "go"
  exact k _ (Same.of_keep (by assumption))
def sp_refuse : Sp := fun vs H Q _ => ∃ (c g : Int), vs = [.int c, .int g] ∧ g < c ∧ ∀ H', Same H H' → Q (.bl true) H'
theorem ok_empty {f : Addr} {fd : FuncData} (F : Fun K "_law_empty" "_law_empty" s__law_empty f fd) (T : Txt P K mg C CE fE CN fN CA CU CT CI) (c_Stay : Mak P w K mg base 1 "Stay" C (sp_init C CE)) (q__law_number : CalQ P w K mg base 1 "_law_number" sp_number) :
    FnOk P w K mg base (L2.CX P w) (2 + 1) f fd ["_law_come", "_law_go"] sp_refuse := by
  refine okT F sc__law_empty (fun vs H Q E h => ?_) (fun cdv A outer s H vs Q E hr tk h => ?_)
  · obtain ⟨c, g, rfl, _⟩ := h
    rfl
  obtain ⟨c, g, rfl, hlt, k⟩ := h
  have f1 := T.cl; have f2 := T.nC; have f3 := T.nG; have f4 := T.ca; have f5 := T.cn; have f6 := T.ct; have f7 := T.cm; have f8 := T.i1; have f9 := T.i2
  have g1 := T.ekE; have g2 := T.ekN; have g3 := T.exmE; have g4 := T.exmN; have g5 := T.exmA; have g6 := T.kE1; have g7 := T.kE2; have g8 := T.kE3; have g9 := T.kN1; have g10 := T.kN2; have g11 := T.kN3
  refine ⟨_, (pss_cons (ps_try_as (i := 2) rfl rfl sc__law_empty.nd rfl rfl ⟨rfl, by decide, Or.inl T.g_EmptyStay⟩ tk
        (fun W1 pn1 xe1 tk1 own1 => (pss_one (ps_expr (c_make c_Stay tk1 hr (by decide) (pa_cons (pv 0) (pa_cons (pv 1) pa_nil))))))
        (fun a0 oe0 cls0 d0 pn0 hz hf => (pss_cons (ps_if (pt_val (pe_callB (call_isXT hz hf) (by rfl) T.b_isinstance (by decide +kernel) (pa_cons (pv 2) (pa_cons (pe_tup (pa_cons (g_ref T.g_UnknownError) (pa_cons (g_ref T.g_TextError) (pa_cons (g_ref T.g_ImpossibleError) (pa_cons (g_ref T.g_NoCommonDay) pa_nil))))) pa_nil)))) (pss_one (ps_ret pe_bl)) pss_nil)
      (pss_cons (ps_if (PW.pt (pw_or (pt_not (pt_val (pe_callB (call_isX hz hf) (by rfl) T.b_isinstance (by decide +kernel) (pa_cons (pv 2) (pa_cons (g_ref T.g_ArchiveError) pa_nil))))) (pw_or1 (pt_not (pt_val (pe_callB (call_isX hz hf) (by rfl) T.b_isinstance (by decide +kernel) (pa_cons (pv 2) (pa_cons (g_ty (n := "ValueError") T.b_ValueError (by decide +kernel)) pa_nil)))))))) (pss_one (ps_ret pe_bl)) pss_nil)
      (pss_one (ps_ret (pe_and (q_call q__law_number (roomQ hr _) (by decide) (pa_cons (pe_xf T.xf_EmptyStay T.nx_EmptyStay_come hz hf (pv 2)) (pa_cons (pv 0) pa_nil))) (pe_one (q_call q__law_number (roomQ hr _) (by decide) (pa_cons (pe_xf T.xf_EmptyStay T.nx_EmptyStay_go hz hf (pv 2)) (pa_cons (pv 1) pa_nil)))))))))))
      (pss_one (ps_ret pe_bl))), ?_⟩
  simp only [cxK, st__law_empty]
  have M : Mem H [] H [] [] := mem_start (by simp []) (by simp) (by simp)
  walk_at "go"
  exact k _ (Same.of_keep (by assumption))
theorem ok_caught {f : Addr} {fd : FuncData} (F : Fun K "_law_caught" "_law_caught" s__law_caught f fd) (T : Txt P K mg C CE fE CN fN CA CU CT CI) (c_Stay : Mak P w K mg base 1 "Stay" C (sp_init C CE)) :
    FnOk P w K mg base (L2.CX P w) (2 + 1) f fd ["_law_come", "_law_go"] sp_refuse := by
  refine okT F sc__law_caught (fun vs H Q E h => ?_) (fun cdv A outer s H vs Q E hr tk h => ?_)
  · obtain ⟨c, g, rfl, _⟩ := h
    rfl
  obtain ⟨c, g, rfl, hlt, k⟩ := h
  have f1 := T.cl; have f2 := T.nC; have f3 := T.nG; have f4 := T.ca; have f5 := T.cn; have f6 := T.ct; have f7 := T.cm; have f8 := T.i1; have f9 := T.i2
  have g1 := T.ekE; have g2 := T.ekN; have g3 := T.exmE; have g4 := T.exmN; have g5 := T.exmA; have g6 := T.kE1; have g7 := T.kE2; have g8 := T.kE3; have g9 := T.kN1; have g10 := T.kN2; have g11 := T.kN3
  refine ⟨_, (pss_cons (ps_try_as (i := 2) rfl rfl sc__law_caught.nd rfl rfl ⟨rfl, by decide, Or.inl T.g_ArchiveError⟩ tk
        (fun W1 pn1 xe1 tk1 own1 => (pss_one (ps_expr (c_make c_Stay tk1 hr (by decide) (pa_cons (pv 0) (pa_cons (pv 1) pa_nil))))))
        (fun a0 oe0 cls0 d0 pn0 hz hf => (pss_one (ps_ret (pe_callB (call_isX hz hf) (by rfl) T.b_isinstance (by decide +kernel) (pa_cons (pv 2) (pa_cons (g_ref T.g_EmptyStay) pa_nil)))))))
      (pss_one (ps_ret pe_bl))), ?_⟩
  simp only [cxK, st__law_caught]
  have M : Mem H [] H [] [] := mem_start (by simp []) (by simp) (by simp)
  walk_at "go"
  exact k _ (Same.of_keep (by assumption))
theorem use_refuse {B H : Hp} {ms : List Addr} {f l : List (Addr × HO)} {Q : VK} {E : XK} {c g : Int} (M : Mem B ms H f l) (h : g < c) (k : ∀ H', Mem B ms H' f l → Q (.bl true) H') : sp_refuse [.int c, .int g] H Q E := ⟨c, g, rfl, h, fun H' s => k H' (M.same s)⟩
end
end K16

set_option Elab.async false
set_option linter.all false
set_option maxRecDepth 100000
set_option maxHeartbeats 8000000
namespace K16
open PySem L2 MyL
local macro_rules | `(tactic| walk_at "mem") => `(tactic| first | exact List.mem_cons_self | (refine List.mem_cons_of_mem _ ?_; walk_at "mem"))
local macro_rules | `(tactic| walk_at "hp") => `(tactic| first | assumption | (refine' Mem.getL ?k1 ?k2; (case k1 => assumption); (case k2 => walk_at "mem")) | (refine' Mem.getF ?k1 ?k2; (case k1 => assumption); (case k2 => walk_at "mem")) | (refine' Mem.atB ?k1 ?k2; (case k1 => assumption); (case k2 => assumption)))
local macro_rules | `(tactic| walk_at "cond") => `(tactic| first | omega | assumption | exact mulR (by omega) (by omega) | exact mulL (by omega) (by omega) | exact divW (by omega) (by omega) | decide)
local macro_rules | `(tactic| walk_at "look") => `(tactic| first | with_unfolding_all rfl | exact atI_map (by omega) (by omega))
local macro_rules | `(tactic| walk_at "go1") => `(tactic| with_reducible first
  | refine k_seq ?_ | refine k_gName ?_ | refine k_asg ?_ | refine k_ret ?_ | refine k_ifS ?_ | refine k_drop ?_ | refine k_next ?_ | refine k_break ?_ | refine k_cont ?_ | refine k_retN ?_
  | (refine' k_var ?k1 ?_; (case k1 => with_unfolding_all rfl)) | refine k_c ?_ | refine k_op ?_ | refine k_un ?_ | refine k_test ?_ | refine k_B ?_ | refine k_bl ?_ | refine k_and ?_ | refine k_or ?_ | refine k_not ?_
  | refine k_andV ?_ | refine k_orV ?_ | refine k_notV ?_ | refine k_ifE ?_ | refine k_nil ?_ | refine k_cons ?_ | refine k_cb ?_ | refine k_callS ?_ | refine k_lst0 ?_ | refine k_tup0 ?_ | refine k_fld0 ?_ | refine k_sub0 ?_ | refine k_make0 ?_ | refine k_prop0 ?_ | refine k_chain ?_ | refine k_makeK0 ?_ | refine k_swapK ?_ | refine k_meth0 ?_ | refine k_ownN0 ?_ | refine k_ownO0 ?_ | refine k_sfld0 ?_ | refine k_jnil ?_ | refine k_jcons ?_ | refine k_fmt0 ?_ | refine k_sl0 ?_ | refine k_nopart ?_ | refine k_part ?_ | refine k_forR1 ?_ | refine k_forR2 ?_ | refine k_forL ?_ | refine k_forT ?_ | refine k_lcR1 ?_ | refine k_lcR2 ?_ | refine k_lcL ?_ | refine k_err0 ?_ | refine k_xf0 ?_ | refine k_errQ1 ?_ | refine k_errQ0 ?_ | refine k_errQ2 ?_ | refine k_errQ3 ?_
  | refine k_I0 ?_ | (refine k_I ?k1 ?_; (case k1 => walk_at "cond")) | refine k_U ?_ | refine k_eqI ?_ | refine k_neI ?_ | refine k_eqB ?_ | refine k_neB ?_ | refine k_eqS ?_ | refine k_neS ?_
  | refine k_int1 ?_ | refine k_abs1 ?_ | refine k_min2 ?_ | refine k_max2 ?_
  | (refine' k_lenM ?k1 ?_; (case k1 => walk_at "hp")) | (refine' k_lenL ?k1 ?_; (case k1 => walk_at "hp")) | (refine' k_lenT ?k1 ?_; (case k1 => walk_at "hp"))
  | (refine' k_lenS ?k1 ?_; (case k1 => assumption)) | (refine' k_ixS ?k1 ?k2 ?_; (case k1 => assumption); (case k2 => walk_at "look"))
  | (refine' k_ixL ?k1 ?k2 ?_; (case k1 => walk_at "hp"); (case k2 => walk_at "look")) | (refine' k_ixT ?k1 ?k2 ?_; (case k1 => walk_at "hp"); (case k2 => walk_at "look"))
  | (refine' k_ix4 ?k1 ?k2 ?k3 ?_; (case k1 => walk_at "hp"); (case k2 => omega); (case k3 => omega); intro n' hn')
  | (refine' k_ix3 ?k1 ?k2 ?k3 ?_; (case k1 => walk_at "hp"); (case k2 => omega); (case k3 => omega); intro n' hn')
  | (refine' k_ix2 ?k1 ?k2 ?k3 ?_; (case k1 => walk_at "hp"); (case k2 => omega); (case k3 => omega); intro n' hn')
  | (refine' k_fld ?k1 ?k2 ?k3 ?k4 ?_; (case k1 => walk_at "hp"); (case k2 => assumption); (case k3 => assumption); (case k4 => walk_at "fld"))
  | (refine' k_lst ?k1 ?k2 ?_; (case k1 => assumption); (case k2 => exact sz (by simp)); intro p' H' M')
  | (refine' k_tup ?k1 ?k2 ?_; (case k1 => assumption); (case k2 => exact sz (by simp)); intro p' H' M')
  | (refine' k_setF0 ?k1 ?k2 ?k3 ?_; (case k1 => assumption); (case k2 => simp); (case k3 => with_unfolding_all rfl); intro H' M'; try simp only [Int.reduceToNat, List.set_cons_succ, List.set_cons_zero] at M')
  | (refine' k_setL0 ?k1 ?k2 ?_; (case k1 => assumption); (case k2 => with_unfolding_all rfl); intro H' M'; try simp only [Int.reduceToNat, List.set_cons_succ, List.set_cons_zero] at M')
  | (refine' k_setL1 ?k1 ?k2 ?_; (case k1 => assumption); (case k2 => with_unfolding_all rfl); intro H' M'; try simp only [Int.reduceToNat, List.set_cons_succ, List.set_cons_zero] at M')
  | (refine' k_setL2 ?k1 ?k2 ?_; (case k1 => assumption); (case k2 => with_unfolding_all rfl); intro H' M'; try simp only [Int.reduceToNat, List.set_cons_succ, List.set_cons_zero] at M')
  | refine iteT ?_ | refine iteF ?_ | refine k_iteNE ?_ | refine k_iteNS ?_ | refine k_iteNT ?_ | refine k_iteNF ?_
  | (refine k_iteD ?_ ?_ <;> intro hc <;> first | (exfalso; omega) | skip)
  | (refine k_iteN ?_ ?_ <;> intro hc <;> first | (exfalso; omega) | skip)
  | (refine' k_ownN ?k1 ?_; (case k1 => walk_at "hp")) | (refine' k_ownO ?k1 ?k2 ?_; (case k1 => walk_at "hp"); (case k2 => walk_at "hp")) | (refine' k_ownEq ?k1 ?k2 ?_; (case k1 => walk_at "hp"); (case k2 => walk_at "hp"))
  | (refine' k_ownIn ?k1 ?_; (case k1 => walk_at "hp")) | (refine' k_ownU ?k1 ?_; (case k1 => walk_at "hp")) | (refine' k_ownStr ?k1 ?_; (case k1 => walk_at "hp"))
  | (refine' k_prop ?k1 ?_; (case k1 => walk_at "hp")) | (refine' k_ownNe ?k1 ?k2 ?_; (case k1 => walk_at "hp"); (case k2 => walk_at "hp")) | (refine' k_eqP ?k1 ?k2 ?_; (case k1 => walk_at "hp"); (case k2 => walk_at "hp")) | (refine' k_neP ?k1 ?k2 ?_; (case k1 => walk_at "hp"); (case k2 => walk_at "hp"))
  | (refine' k_isiO ?k1 ?k2 ?k3 ?k4 ?k5 ?k6 ?_; (case k1 => walk_at "hp"); (case k2 => assumption); (case k3 => assumption); (case k4 => assumption); (case k5 => assumption); (case k6 => assumption))
  | (refine' k_isiI ?k1 ?_; (case k1 => assumption))
  | (refine' k_jst ?k1 ?_; (case k1 => walk_at "size")) | (refine' k_fmtI ?k1 ?_; (case k1 => exact log2_64 (by omega) (by omega))) | (refine' k_strI ?k1 ?_; (case k1 => exact log2_64 (by omega) (by omega)))
  | (refine k_addS ?k1 ?_; (case k1 => walk_at "size")) | refine k_st ?_ | refine k_parti ?_
  | (refine' k_cat ?k1 ?k2 ?k3 ?k4 ?_; (case k1 => assumption); (case k2 => walk_at "hp"); (case k3 => walk_at "hp"); (case k4 => walk_at "size"); intro p' H' M')
  | (refine' k_slL ?k1 ?k2 ?_; (case k1 => assumption); (case k2 => first | assumption | exact SqL.of (by walk_at "hp")); intro p' H' M')
  | (refine k_rng1 ?k1 ?k2 ?_; (case k1 => omega); (case k2 => omega)) | (refine k_rng2 ?k1 ?k2 ?k3 ?k4 ?_; (case k1 => omega); (case k2 => omega); (case k3 => omega); (case k4 => omega))
  | (refine' k_lstAt ?k1 ?_; (case k1 => first | assumption | exact SqL.of (by walk_at "hp"))) | (refine' k_tupAt ?k1 ?_; (case k1 => first | assumption | exact SqT.of (by walk_at "hp")))
  | (refine' k_isXs ?k1 ?k2 ?_; (case k1 => assumption); (case k2 => walk_at "hp")) | (refine' k_isXo ?k1 ?k2 ?k3 ?_; (case k1 => assumption); (case k2 => walk_at "hp"); (case k3 => assumption)) | (refine' k_isXt ?k1 ?k2 ?k3 ?_; (case k1 => assumption); (case k2 => walk_at "hp"); (case k3 => assumption))
  | (refine' k_isX3 ?k1 ?k2 ?k3 ?k4 ?_; (case k1 => assumption); (case k2 => walk_at "hp"); (case k3 => walk_at "hp"); (case k4 => assumption)) | (refine' k_isX2 ?k1 ?k2 ?k3 ?k4 ?_; (case k1 => assumption); (case k2 => walk_at "hp"); (case k3 => walk_at "hp"); (case k4 => assumption))
  | (refine' k_isX4 ?k1 ?k2 ?k3 ?k4 ?_; (case k1 => assumption); (case k2 => walk_at "hp"); (case k3 => walk_at "hp"); (case k4 => assumption)) | (refine' k_ixT2 ?k1 ?k2 ?k3 ?_; (case k1 => walk_at "hp"); (case k2 => omega); (case k3 => omega); intro n' hn')
  | (refine k_iteNEq ?k1 ?_; (case k1 => (rw [Bool.eq_iff_iff]; first | (simp; done) | (simp; omega))))
  | (refine' k_xf ?k1 ?k2 ?_; (case k1 => walk_at "hp"); (case k2 => first | exact xd1 | exact xdH | exact xd2 (by decide +kernel)))
  | (refine' k_caught ?k1 ?_; (case k1 => assumption); intro a' ha')
  | walk_at "use")
local macro_rules | `(tactic| walk_at "go") => `(tactic| repeat' (walk_at "go1"))

local macro_rules | `(tactic| walk_at "fld") => `(tactic| first | exact stF_come _ _ | exact stF_go _ _)
local macro_rules | `(tactic| walk_at "eq") => `(tactic| first | rfl | assumption | omega)
local macro_rules | `(tactic| walk_at "size") => `(tactic| first | exact sz (by first | omega | (simp only [List.length_map, List.length_range, List.length_append, List.length_cons, List.length_nil, Int.reduceSub, Int.reduceToNat, Int.reduceNeg]; omega)) | (simp only [Str.length_append, Str.empty_append]; exact sz (by omega)))
section
variable {P : Program} {w : World} {K : PySem.W.Frag} {mg : Str → Option Value} {base : Heap} {C CE fE CN fN CA CU CT CI : Addr}
theorem use_apart {B H : Hp} {ms : List Addr} {f l : List (Addr × HO)} {Q : VK} {E : XK} {a dx b dy : Addr} {c g c2 g2 : Int} (M : Mem B ms H f l) (h1 : H a = some (.ins C dx (stF c g))) (h2 : H b = some (.ins C dy (stF c2 g2))) (hlt : mx c c2 > mn g g2) (k : ∀ H', Mem B ms H' f l → Q (.bl true) H') : sp_apart C [.ref a, .ref b, .int (mx c c2 - mn g g2)] H Q E :=
  ⟨a, dx, b, dy, c, g, c2, g2, rfl, h1, h2, hlt, fun H' s => k H' (M.same s)⟩
theorem mx_b {a b : Int} : a ≤ mx a b ∧ b ≤ mx a b ∧ (mx a b = a ∨ mx a b = b) := by unfold mx; split <;> omega
theorem mn_b {a b : Int} : mn a b ≤ a ∧ mn a b ≤ b ∧ (mn a b = a ∨ mn a b = b) := by unfold mn; split <;> omega
local macro_rules | `(tactic| walk_at "use") => `(tactic| with_reducible first
  | (refine' use_number ?k1 ?_; (case k1 => walk_at "eq"))
  | (refine' use_is ?k1 ?k2 ?k3 ?k4 ?k5 ?k6 ?_; (case k1 => walk_at "hp"); (case k2 => walk_at "hp"); (case k3 => walk_at "eq"); (case k4 => walk_at "eq"); (case k5 => exact ⟨by omega, by omega⟩); (case k6 => exact ⟨by omega, by omega⟩))
  | (refine' use_make ?k1 ?k2 ?_; (case k1 => assumption); (case k2 => omega); intro x' dx' H' M')
  | (refine' use_move ?k1 ?k2 ?k3 ?_; (case k1 => assumption); (case k2 => walk_at "hp"); (case k3 => omega); intro x' dx' H' M')
  | (refine' use_eqT ?k1 ?k2 ?k3 ?k4 ?_; (case k1 => walk_at "hp"); (case k2 => walk_at "hp"); (case k3 => walk_at "eq"); (case k4 => walk_at "eq"))
  | (refine' use_eqF ?k1 ?k2 ?k3 ?_; (case k1 => walk_at "hp"); (case k2 => walk_at "hp"); (case k3 => first | assumption | omega))
  | (refine' use_eq ?k1 ?k2 ?_; (case k1 => walk_at "hp"); (case k2 => walk_at "hp"))
  | (refine' use_or ?k1 ?k2 ?k3 ?k4 ?k5 ?_; (case k1 => assumption); (case k2 => walk_at "hp"); (case k3 => walk_at "hp"); (case k4 => omega); (case k5 => omega); intro x' dx' H' M')
  | (refine' use_and ?k1 ?k2 ?k3 ?k4 ?_; (case k1 => assumption); (case k2 => walk_at "hp"); (case k3 => walk_at "hp"); (case k4 => assumption); intro x' dx' H' M')
  | (refine' use_apart ?k1 ?k2 ?k3 ?k4 ?_; (case k1 => assumption); (case k2 => walk_at "hp"); (case k3 => walk_at "hp"); (case k4 => assumption); intro H' M'))
def sp_two (C : Addr) : Sp := fun vs H Q _ => ∃ (a dx b dy p q : Addr) (c g c2 g2 : Int), vs = [.ref a, .ref b, .ref p, .ref q] ∧ H a = some (.ins C dx (stF c g)) ∧ H b = some (.ins C dy (stF c2 g2)) ∧ H p = some (.tup [.int c, .int g]) ∧ H q = some (.tup [.int c2, .int g2]) ∧ c ≤ g ∧ c2 ≤ g2 ∧ Md c ∧ Md g ∧ Md c2 ∧ Md g2 ∧ ∀ H', Same H H' → Q (.bl true) H'
theorem ok_joined {f : Addr} {fd : FuncData} (F : Fun K "_law_joined" "_law_joined" s__law_joined f fd) (T : Txt P K mg C CE fE CN fN CA CU CT CI) (c_Stay_and : Spc P w K mg base 3 C "__and__" (sp_and C CN)) (c_Stay_or : Spc P w K mg base 3 C "__or__" (sp_or C)) (c__law_is : Cal P w K mg base 4 "_law_is" (sp_is C)) (c__law_apart : Cal P w K mg base 4 "_law_apart" (sp_apart C)) :
    FnOk P w K mg base (L2.CX P w) (4 + 1) f fd ["_law_one", "_law_two", "_law_first_here", "_law_second"] (sp_two C) := by
  refine okT F sc__law_joined (fun vs H Q E h => ?_) (fun cdv A outer s H vs Q E hr tk h => ?_)
  · obtain ⟨a, dx, b, dy, p, q, c, g, c2, g2, rfl, _⟩ := h
    rfl
  obtain ⟨a, dx, b, dy, p, q, c, g, c2, g2, rfl, h1, h2, h3, h4, hcg, hcg2, ⟨c1, c3⟩, ⟨g1, g3⟩, ⟨c4, c5⟩, ⟨g4, g5⟩, k⟩ := h
  have f1 := T.cl; have f2 := T.nC; have f3 := T.nG; have f4 := T.ca; have f5 := T.cn; have f6 := T.ct; have f7 := T.cm; have f8 := T.i1; have f9 := T.i2
  refine ⟨_, (pss_cons (ps_set (i := 4) sc__law_joined.nd rfl (Or.inl rfl) (pe_callB (b_max2 rfl) (by rfl) T.b_max (by decide +kernel) (pa_cons (pe_ix ix_tup (pv 2) pe_int (fun _ _ => rfl)) (pa_cons (pe_ix ix_tup (pv 3) pe_int (fun _ _ => rfl)) pa_nil))))
      (pss_cons (ps_set (i := 5) sc__law_joined.nd rfl (Or.inl rfl) (pe_callB (b_min2 rfl) (by rfl) T.b_min (by decide +kernel) (pa_cons (pe_ix ix_tup (pv 2) pe_int (fun _ _ => rfl)) (pa_cons (pe_ix ix_tup (pv 3) pe_int (fun _ _ => rfl)) pa_nil))))
      (pss_cons (ps_if (PW.pt (pw_and (pt_cmpR op_le (pv 4) (pv 5) (nomark _)) (pw_and1 (pt_not (pt_val (c_call c__law_is tk hr (by decide) (pa_cons (c_opO c_Stay_and T.sf_Stay tk hr (by decide) (pv 0) (pv 1)) (pa_cons (pe_tup (pa_cons (pv 4) (pa_cons (pv 5) pa_nil))) pa_nil)))))))) (pss_one (ps_ret pe_bl)) pss_nil)
      (pss_cons (ps_if (PW.pt (pw_and (pt_cmpR op_gt (pv 4) (pv 5) (nomark _)) (pw_and1 (pt_not (pt_val (c_call c__law_apart tk hr (by decide) (pa_cons (pv 0) (pa_cons (pv 1) (pa_cons (pe_op op_sub (pv 4) (pv 5)) pa_nil))))))))) (pss_one (ps_ret pe_bl)) pss_nil)
      (pss_one (ps_ret (c_call c__law_is tk hr (by decide) (pa_cons (c_opO c_Stay_or T.sf_Stay tk hr (by decide) (pv 0) (pv 1)) (pa_cons (pe_tup (pa_cons (pe_callB (b_min2 rfl) (by rfl) T.b_min (by decide +kernel) (pa_cons (pe_ix ix_tup (pv 2) pe_int (fun _ _ => rfl)) (pa_cons (pe_ix ix_tup (pv 3) pe_int (fun _ _ => rfl)) pa_nil))) (pa_cons (pe_callB (b_max2 rfl) (by rfl) T.b_max (by decide +kernel) (pa_cons (pe_ix ix_tup (pv 2) pe_int (fun _ _ => rfl)) (pa_cons (pe_ix ix_tup (pv 3) pe_int (fun _ _ => rfl)) pa_nil))) pa_nil))) pa_nil))))))))), ?_⟩
  simp only [cxK, st__law_joined]
  have M : Mem H [] H [] [] := mem_start (by simp []) (by simp) (by simp)
  have b1 := mx_b (a := c) (b := c2)
  have b2 := mn_b (a := g) (b := g2)
  have b3 := mn_b (a := c) (b := c2)
  have b4 := mx_b (a := g) (b := g2)
  walk_at "go"
  all_goals exact k _ (Same.of_keep (by assumption))
theorem ok_alike {f : Addr} {fd : FuncData} (F : Fun K "_law_alike" "_law_alike" s__law_alike f fd) (T : Txt P K mg C CE fE CN fN CA CU CT CI) (c_Stay : Mak P w K mg base 1 "Stay" C (sp_init C CE)) (c_Stay_add : Spc P w K mg base 3 C "__add__" (sp_move C (· + ·))) (c_Stay_eq : Spc P w K mg base 1 C "__eq__" (sp_eq C)) :
    FnOk P w K mg base (L2.CX P w) (3 + 1) f fd ["_law_one", "_law_two", "_law_first_here", "_law_second"] (sp_two C) := by
  refine okT F sc__law_alike (fun vs H Q E h => ?_) (fun cdv A outer s H vs Q E hr tk h => ?_)
  · obtain ⟨a, dx, b, dy, p, q, c, g, c2, g2, rfl, _⟩ := h
    rfl
  obtain ⟨a, dx, b, dy, p, q, c, g, c2, g2, rfl, h1, h2, h3, h4, hcg, hcg2, ⟨c1, c3⟩, ⟨g1, g3⟩, ⟨c4, c5⟩, ⟨g4, g5⟩, k⟩ := h
  have f1 := T.cl; have f2 := T.nC; have f3 := T.nG; have f4 := T.ca; have f5 := T.cn; have f6 := T.ct; have f7 := T.cm; have f8 := T.i1; have f9 := T.i2
  refine ⟨_, (pss_cons (ps_set (i := 4) sc__law_alike.nd rfl (Or.inl rfl) (c_make c_Stay tk hr (by decide) (pa_cons (pe_ix ix_tup (pv 2) pe_int (fun _ _ => rfl)) (pa_cons (pe_ix ix_tup (pv 2) pe_int (fun _ _ => rfl)) pa_nil))))
      (pss_cons (ps_if (PW.pt (pw_or (pt_not (pt_cmpR (c_eq c_Stay_eq hr (by decide)) (pv 0) (pv 4) (nomark _))) (pw_or1 (pt_cmpR (c_ne c_Stay_eq T.ne_Stay hr (by decide)) (pv 0) (pv 4) (nomark _))))) (pss_one (ps_ret pe_bl)) pss_nil)
      (pss_cons (ps_if (PW.pt (pw_or (pt_cmpR op_ne (pe_cmpR (c_eq c_Stay_eq hr (by decide)) (pv 0) (pv 1) (nomark _)) (pe_cmpR (op_eqD hr.units) (pv 2) (pv 3) (nomark _)) (nomark _)) (pw_or1 (pt_cmpR op_ne (pe_cmpR (c_ne c_Stay_eq T.ne_Stay hr (by decide)) (pv 0) (pv 1) (nomark _)) (pe_cmpR (op_neD hr.units) (pv 2) (pv 3) (nomark _)) (nomark _))))) (pss_one (ps_ret pe_bl)) pss_nil)
      (pss_cons (ps_if (PW.pt (pw_or (pt_cmpR (c_eq c_Stay_eq hr (by decide)) (pv 0) (c_make c_Stay tk hr (by decide) (pa_cons (pe_ix ix_tup (pv 2) pe_int (fun _ _ => rfl)) (pa_cons (pe_op op_add (pe_ix ix_tup (pv 2) pe_int (fun _ _ => rfl)) pe_int) pa_nil))) (nomark _)) (pw_or1 (pt_cmpR (c_eq c_Stay_eq hr (by decide)) (pv 0) (c_make c_Stay tk hr (by decide) (pa_cons (pe_op op_sub (pe_ix ix_tup (pv 2) pe_int (fun _ _ => rfl)) pe_int) (pa_cons (pe_ix ix_tup (pv 2) pe_int (fun _ _ => rfl)) pa_nil))) (nomark _))))) (pss_one (ps_ret pe_bl)) pss_nil)
      (pss_one (ps_ret (pe_not (pe_cmpR (c_eq c_Stay_eq hr (by decide)) (pv 0) (c_opN c_Stay_add T.n_Stay_add tk hr (by decide) (pv 0) pe_int) (nomark _))))))))), ?_⟩
  simp only [cxK, st__law_alike]
  have M : Mem H [] H [] [] := mem_start (by simp []) (by simp) (by simp)
  walk_at "go"
  all_goals exact k _ (Same.of_keep (by assumption))
end
end K16

set_option Elab.async false
set_option linter.all false
set_option maxRecDepth 100000
set_option maxHeartbeats 8000000
namespace K16
open PySem L2 MyL
local macro_rules | `(tactic| walk_at "mem") => `(tactic| first | exact List.mem_cons_self | (refine List.mem_cons_of_mem _ ?_; walk_at "mem"))
local macro_rules | `(tactic| walk_at "hp") => `(tactic| first | assumption | (refine' Mem.getL ?k1 ?k2; (case k1 => assumption); (case k2 => walk_at "mem")) | (refine' Mem.getF ?k1 ?k2; (case k1 => assumption); (case k2 => walk_at "mem")) | (refine' Mem.atB ?k1 ?k2; (case k1 => assumption); (case k2 => assumption)))
local macro_rules | `(tactic| walk_at "cond") => `(tactic| first | omega | assumption | exact mulR (by omega) (by omega) | exact mulL (by omega) (by omega) | exact divW (by omega) (by omega) | decide)
local macro_rules | `(tactic| walk_at "look") => `(tactic| first | with_unfolding_all rfl | exact atI_map (by omega) (by omega))
local macro_rules | `(tactic| walk_at "go1") => `(tactic| with_reducible first
  | refine k_seq ?_ | refine k_gName ?_ | refine k_asg ?_ | refine k_ret ?_ | refine k_ifS ?_ | refine k_drop ?_ | refine k_next ?_ | refine k_break ?_ | refine k_cont ?_ | refine k_retN ?_
  | (refine' k_var ?k1 ?_; (case k1 => with_unfolding_all rfl)) | refine k_c ?_ | refine k_op ?_ | refine k_un ?_ | refine k_test ?_ | refine k_B ?_ | refine k_bl ?_ | refine k_and ?_ | refine k_or ?_ | refine k_not ?_
  | refine k_andV ?_ | refine k_orV ?_ | refine k_notV ?_ | refine k_ifE ?_ | refine k_nil ?_ | refine k_cons ?_ | refine k_cb ?_ | refine k_callS ?_ | refine k_lst0 ?_ | refine k_tup0 ?_ | refine k_fld0 ?_ | refine k_sub0 ?_ | refine k_make0 ?_ | refine k_prop0 ?_ | refine k_chain ?_ | refine k_makeK0 ?_ | refine k_swapK ?_ | refine k_meth0 ?_ | refine k_ownN0 ?_ | refine k_ownO0 ?_ | refine k_sfld0 ?_ | refine k_jnil ?_ | refine k_jcons ?_ | refine k_fmt0 ?_ | refine k_sl0 ?_ | refine k_nopart ?_ | refine k_part ?_ | refine k_forR1 ?_ | refine k_forR2 ?_ | refine k_forL ?_ | refine k_forT ?_ | refine k_lcR1 ?_ | refine k_lcR2 ?_ | refine k_lcL ?_ | refine k_err0 ?_ | refine k_xf0 ?_ | refine k_errQ1 ?_ | refine k_errQ0 ?_ | refine k_errQ2 ?_ | refine k_errQ3 ?_
  | refine k_I0 ?_ | (refine k_I ?k1 ?_; (case k1 => walk_at "cond")) | refine k_U ?_ | refine k_eqI ?_ | refine k_neI ?_ | refine k_eqB ?_ | refine k_neB ?_ | refine k_eqS ?_ | refine k_neS ?_
  | refine k_int1 ?_ | refine k_abs1 ?_ | refine k_min2 ?_ | refine k_max2 ?_
  | (refine' k_lenM ?k1 ?_; (case k1 => walk_at "hp")) | (refine' k_lenL ?k1 ?_; (case k1 => walk_at "hp")) | (refine' k_lenT ?k1 ?_; (case k1 => walk_at "hp"))
  | (refine' k_lenS ?k1 ?_; (case k1 => assumption)) | (refine' k_ixS ?k1 ?k2 ?_; (case k1 => assumption); (case k2 => walk_at "look"))
  | (refine' k_ixL ?k1 ?k2 ?_; (case k1 => walk_at "hp"); (case k2 => walk_at "look")) | (refine' k_ixT ?k1 ?k2 ?_; (case k1 => walk_at "hp"); (case k2 => walk_at "look"))
  | (refine' k_ix4 ?k1 ?k2 ?k3 ?_; (case k1 => walk_at "hp"); (case k2 => omega); (case k3 => omega); intro n' hn')
  | (refine' k_ix3 ?k1 ?k2 ?k3 ?_; (case k1 => walk_at "hp"); (case k2 => omega); (case k3 => omega); intro n' hn')
  | (refine' k_ix2 ?k1 ?k2 ?k3 ?_; (case k1 => walk_at "hp"); (case k2 => omega); (case k3 => omega); intro n' hn')
  | (refine' k_fld ?k1 ?k2 ?k3 ?k4 ?_; (case k1 => walk_at "hp"); (case k2 => assumption); (case k3 => assumption); (case k4 => walk_at "fld"))
  | (refine' k_lst ?k1 ?k2 ?_; (case k1 => assumption); (case k2 => exact sz (by simp)); intro p' H' M')
  | (refine' k_tup ?k1 ?k2 ?_; (case k1 => assumption); (case k2 => exact sz (by simp)); intro p' H' M')
  | (refine' k_setF0 ?k1 ?k2 ?k3 ?_; (case k1 => assumption); (case k2 => simp); (case k3 => with_unfolding_all rfl); intro H' M'; try simp only [Int.reduceToNat, List.set_cons_succ, List.set_cons_zero] at M')
  | (refine' k_setL0 ?k1 ?k2 ?_; (case k1 => assumption); (case k2 => with_unfolding_all rfl); intro H' M'; try simp only [Int.reduceToNat, List.set_cons_succ, List.set_cons_zero] at M')
  | (refine' k_setL1 ?k1 ?k2 ?_; (case k1 => assumption); (case k2 => with_unfolding_all rfl); intro H' M'; try simp only [Int.reduceToNat, List.set_cons_succ, List.set_cons_zero] at M')
  | (refine' k_setL2 ?k1 ?k2 ?_; (case k1 => assumption); (case k2 => with_unfolding_all rfl); intro H' M'; try simp only [Int.reduceToNat, List.set_cons_succ, List.set_cons_zero] at M')
  | refine iteT ?_ | refine iteF ?_ | refine k_iteNE ?_ | refine k_iteNS ?_ | refine k_iteNT ?_ | refine k_iteNF ?_
  | (refine k_iteD ?_ ?_ <;> intro hc <;> first | (exfalso; omega) | skip)
  | (refine k_iteN ?_ ?_ <;> intro hc <;> first | (exfalso; omega) | skip)
  | (refine' k_ownN ?k1 ?_; (case k1 => walk_at "hp")) | (refine' k_ownO ?k1 ?k2 ?_; (case k1 => walk_at "hp"); (case k2 => walk_at "hp")) | (refine' k_ownEq ?k1 ?k2 ?_; (case k1 => walk_at "hp"); (case k2 => walk_at "hp"))
  | (refine' k_ownIn ?k1 ?_; (case k1 => walk_at "hp")) | (refine' k_ownU ?k1 ?_; (case k1 => walk_at "hp")) | (refine' k_ownStr ?k1 ?_; (case k1 => walk_at "hp"))
  | (refine' k_prop ?k1 ?_; (case k1 => walk_at "hp")) | (refine' k_ownNe ?k1 ?k2 ?_; (case k1 => walk_at "hp"); (case k2 => walk_at "hp")) | (refine' k_eqP ?k1 ?k2 ?_; (case k1 => walk_at "hp"); (case k2 => walk_at "hp")) | (refine' k_neP ?k1 ?k2 ?_; (case k1 => walk_at "hp"); (case k2 => walk_at "hp"))
  | (refine' k_isiO ?k1 ?k2 ?k3 ?k4 ?k5 ?k6 ?_; (case k1 => walk_at "hp"); (case k2 => assumption); (case k3 => assumption); (case k4 => assumption); (case k5 => assumption); (case k6 => assumption))
  | (refine' k_isiI ?k1 ?_; (case k1 => assumption))
  | (refine' k_jst ?k1 ?_; (case k1 => walk_at "size")) | (refine' k_fmtI ?k1 ?_; (case k1 => exact log2_64 (by omega) (by omega))) | (refine' k_strI ?k1 ?_; (case k1 => exact log2_64 (by omega) (by omega)))
  | (refine k_addS ?k1 ?_; (case k1 => walk_at "size")) | refine k_st ?_ | refine k_parti ?_
  | (refine' k_cat ?k1 ?k2 ?k3 ?k4 ?_; (case k1 => assumption); (case k2 => walk_at "hp"); (case k3 => walk_at "hp"); (case k4 => walk_at "size"); intro p' H' M')
  | (refine' k_slL ?k1 ?k2 ?_; (case k1 => assumption); (case k2 => first | assumption | exact SqL.of (by walk_at "hp")); intro p' H' M')
  | (refine k_rng1 ?k1 ?k2 ?_; (case k1 => omega); (case k2 => omega)) | (refine k_rng2 ?k1 ?k2 ?k3 ?k4 ?_; (case k1 => omega); (case k2 => omega); (case k3 => omega); (case k4 => omega))
  | (refine' k_lstAt ?k1 ?_; (case k1 => first | assumption | exact SqL.of (by walk_at "hp"))) | (refine' k_tupAt ?k1 ?_; (case k1 => first | assumption | exact SqT.of (by walk_at "hp")))
  | (refine' k_isXs ?k1 ?k2 ?_; (case k1 => assumption); (case k2 => walk_at "hp")) | (refine' k_isXo ?k1 ?k2 ?k3 ?_; (case k1 => assumption); (case k2 => walk_at "hp"); (case k3 => assumption)) | (refine' k_isXt ?k1 ?k2 ?k3 ?_; (case k1 => assumption); (case k2 => walk_at "hp"); (case k3 => assumption))
  | (refine' k_isX3 ?k1 ?k2 ?k3 ?k4 ?_; (case k1 => assumption); (case k2 => walk_at "hp"); (case k3 => walk_at "hp"); (case k4 => assumption)) | (refine' k_isX2 ?k1 ?k2 ?k3 ?k4 ?_; (case k1 => assumption); (case k2 => walk_at "hp"); (case k3 => walk_at "hp"); (case k4 => assumption))
  | (refine' k_isX4 ?k1 ?k2 ?k3 ?k4 ?_; (case k1 => assumption); (case k2 => walk_at "hp"); (case k3 => walk_at "hp"); (case k4 => assumption)) | (refine' k_ixT2 ?k1 ?k2 ?k3 ?_; (case k1 => walk_at "hp"); (case k2 => omega); (case k3 => omega); intro n' hn')
  | (refine k_iteNEq ?k1 ?_; (case k1 => (rw [Bool.eq_iff_iff]; first | (simp; done) | (simp; omega))))
  | (refine' k_xf ?k1 ?k2 ?_; (case k1 => walk_at "hp"); (case k2 => first | exact xd1 | exact xdH | exact xd2 (by decide +kernel)))
  | (refine' k_caught ?k1 ?_; (case k1 => assumption); intro a' ha')
  | walk_at "use")
local macro_rules | `(tactic| walk_at "go") => `(tactic| repeat' (walk_at "go1"))

local macro_rules | `(tactic| walk_at "fld") => `(tactic| first | exact stF_come _ _ | exact stF_go _ _)
local macro_rules | `(tactic| walk_at "eq") => `(tactic| first | rfl | assumption | omega)
local macro_rules | `(tactic| walk_at "size") => `(tactic| first | exact sz (by first | omega | (simp only [List.length_map, List.length_range, List.length_append, List.length_cons, List.length_nil, Int.reduceSub, Int.reduceToNat, Int.reduceNeg]; omega)) | (simp only [Str.length_append, Str.empty_append]; exact sz (by omega)))
section
variable {P : Program} {w : World} {K : PySem.W.Frag} {mg : Str → Option Value} {base : Heap} {C CE fE CN fN CA CU CT CI : Addr}
theorem use_two {B H : Hp} {ms : List Addr} {f l : List (Addr × HO)} {Q : VK} {E : XK} {a dx b dy p q : Addr} {c g c2 g2 : Int} (M : Mem B ms H f l) (h1 : H a = some (.ins C dx (stF c g))) (h2 : H b = some (.ins C dy (stF c2 g2))) (h3 : H p = some (.tup [.int c, .int g])) (h4 : H q = some (.tup [.int c2, .int g2])) (a1 : c ≤ g) (a2 : c2 ≤ g2) (a3 : Md c ∧ Md g ∧ Md c2 ∧ Md g2) (k : ∀ H', Mem B ms H' f l → Q (.bl true) H') : sp_two C [.ref a, .ref b, .ref p, .ref q] H Q E :=
  ⟨a, dx, b, dy, p, q, c, g, c2, g2, rfl, h1, h2, h3, h4, a1, a2, a3.1, a3.2.1, a3.2.2.1, a3.2.2.2, fun H' s => k H' (M.same s)⟩
local macro_rules | `(tactic| walk_at "use") => `(tactic| with_reducible first
  | (refine' use_is ?k1 ?k2 ?k3 ?k4 ?k5 ?k6 ?_; (case k1 => walk_at "hp"); (case k2 => walk_at "hp"); (case k3 => walk_at "eq"); (case k4 => walk_at "eq"); (case k5 => exact ⟨by omega, by omega⟩); (case k6 => exact ⟨by omega, by omega⟩))
  | (refine' use_make ?k1 ?k2 ?_; (case k1 => assumption); (case k2 => omega); intro x' dx' H' M')
  | (refine' use_has ?k1 ?k2 ?k3 ?k4 ?k5 ?k6 ?_; (case k1 => assumption); (case k2 => walk_at "hp"); (case k3 => walk_at "hp"); (case k4 => walk_at "hp"); (case k5 => rfl); (case k6 => rfl); intro H' M')
  | (refine' use_moved ?k1 ?k2 ?k3 ?k4 ?k5 ?k6 ?k7 ?k8 ?k9 ?_; (case k1 => assumption); (case k2 => walk_at "hp"); (case k3 => walk_at "hp"); (case k4 => rfl); (case k5 => rfl); (case k6 => omega); (case k7 => exact ⟨by omega, by omega⟩); (case k8 => exact ⟨by omega, by omega⟩); (case k9 => exact ⟨by omega, by omega⟩); intro H' M')
  | (refine' use_two ?k1 ?k2 ?k3 ?k4 ?k5 ?k6 ?k7 ?k8 ?_; (case k1 => assumption); (case k2 => walk_at "hp"); (case k3 => walk_at "hp"); (case k4 => walk_at "hp"); (case k5 => walk_at "hp"); (case k6 => omega); (case k7 => omega); (case k8 => exact ⟨⟨by omega, by omega⟩, ⟨by omega, by omega⟩, ⟨by omega, by omega⟩, ⟨by omega, by omega⟩⟩); intro H' M')
  | (refine' use_refuse ?k1 ?k2 ?_; (case k1 => assumption); (case k2 => omega); intro H' M')
  | (refine' use_draws ?k1 ?k2 ?_; (case k1 => assumption); (case k2 => assumption); intro bx' sc' cs' st' H' M')
  | (refine' use_take ?k1 ?k2 ?k3 ?k4 ?k5 ?k6 ?_; (case k1 => assumption); (case k2 => simp); (case k3 => omega); (case k4 => omega); (case k5 => omega); (case k6 => omega); intro d' pos' big' st' H' a1' a2' a3' a4' M')
  | (refine' use_num ?k1 ?k2 ?k3 ?k4 ?_; (case k1 => assumption); (case k2 => simp); (case k3 => omega); (case k4 => omega); rintro d' pos' big' st' H' ⟨a1', a2'⟩ a3' a4' M')
  | (refine' use_pair ?k1 ?k2 ?k3 ?k4 ?_; (case k1 => assumption); (case k2 => simp); (case k3 => omega); (case k4 => omega); intro p' c' g' pos' big' st' H' a0' a1' a2' a3' a4' M')
  | (refine' use_near ?k1 ?k2 ?k3 ?k4 ?k5 ?k6 ?k7 ?k8 ?_; (case k1 => assumption); (case k2 => walk_at "hp"); (case k3 => omega); (case k4 => omega); (case k5 => omega); (case k6 => simp); (case k7 => omega); (case k8 => omega); intro p' c' g' pos' big' st' H' a0' a1' a2' a3' a4' M'))
theorem ok_law {f : Addr} {fd : FuncData} (F : Fun K "law" "law" s_law f fd) (T : Txt P K mg C CE fE CN fN CA CU CT CI) (c_Stay : Mak P w K mg base 1 "Stay" C (sp_init C CE)) (c_StayK : MakK P w K mg base 1 "Stay" C ["go", "come"] swap2 (sp_init C CE)) (c__law_draws : Cal P w K mg base 1 "_law_draws" (sp_draws K)) (c__law_take : Cal P w K mg base 1 "_law_take" sp_take) (c__law_far : Cal P w K mg base 2 "_law_far" (sp_num RFar)) (c__law_first : Cal P w K mg base 3 "_law_first" (sp_pair 800000000000000020)) (c__law_near : Cal P w K mg base 2 "_law_near" sp_near) (c__law_many : Cal P w K mg base 3 "_law_many" (sp_num RMany)) (c__law_is : Cal P w K mg base 4 "_law_is" (sp_is C)) (c__law_has : Cal P w K mg base 2 "_law_has" (sp_has C)) (c__law_moved : Cal P w K mg base 5 "_law_moved" (sp_moved C)) (c__law_joined : Cal P w K mg base 5 "_law_joined" (sp_two C)) (c__law_alike : Cal P w K mg base 4 "_law_alike" (sp_two C)) (c__law_empty : Cal P w K mg base 3 "_law_empty" sp_refuse) (c__law_caught : Cal P w K mg base 3 "_law_caught" sp_refuse) :
    FnOk P w K mg base (L2.CX P w) (5 + 1) f fd ["_law_script"] (spLaw K) := by
  refine okT F sc_law (fun vs H Q E h => ?_) (fun cdv A outer s H vs Q E hr tk h => ?_)
  · obtain ⟨a, ns, rfl, _⟩ := h
    rfl
  obtain ⟨a, ns, rfl, hS, hlen, k⟩ := h
  have f1 := T.cl; have f2 := T.nC; have f3 := T.nG; have f4 := T.ca; have f5 := T.cn; have f6 := T.ct; have f7 := T.cm; have f8 := T.i1; have f9 := T.i2
  refine ⟨_, (pss_cons (ps_set (i := 1) sc_law.nd rfl (Or.inl rfl) (c_call c__law_draws tk hr (by decide) (pa_cons (pv 0) pa_nil)))
      (pss_cons (ps_set (i := 2) sc_law.nd rfl (Or.inl rfl) (c_call c__law_first tk hr (by decide) (pa_cons (pv 1) pa_nil)))
      (pss_cons (ps_set (i := 3) sc_law.nd rfl (Or.inl rfl) (c_call c__law_near tk hr (by decide) (pa_cons (pv 1) (pa_cons (pv 2) pa_nil))))
      (pss_cons (ps_set (i := 4) sc_law.nd rfl (Or.inl rfl) (c_call c__law_many tk hr (by decide) (pa_cons (pv 1) pa_nil)))
      (pss_cons (ps_set (i := 5) sc_law.nd rfl (Or.inl rfl) (c_make c_Stay tk hr (by decide) (pa_cons (pe_ix ix_tup (pv 2) pe_int (fun _ _ => rfl)) (pa_cons (pe_ix ix_tup (pv 2) pe_int (fun _ _ => rfl)) pa_nil))))
      (pss_cons (ps_set (i := 6) sc_law.nd rfl (Or.inl rfl) (c_makeK c_StayK tk hr (by decide) (pk_cons (pe_ix ix_tup (pv 3) pe_int (fun _ _ => rfl)) (pk_cons (pe_ix ix_tup (pv 3) pe_int (fun _ _ => rfl)) pk_nil))))
      (pss_cons (ps_if (PW.pt (pw_or (pt_not (pt_val (c_call c__law_is tk hr (by decide) (pa_cons (pv 5) (pa_cons (pv 2) pa_nil))))) (pw_or1 (pt_not (pt_val (c_call c__law_is tk hr (by decide) (pa_cons (pv 6) (pa_cons (pv 3) pa_nil)))))))) (pss_one (ps_ret pe_bl)) pss_nil)
      (pss_cons (ps_if (PW.pt (pw_or (pt_not (pt_val (c_call c__law_has tk hr (by decide) (pa_cons (pv 5) (pa_cons (pv 2) (pa_cons (pv 3) pa_nil)))))) (pw_or1 (pt_not (pt_val (c_call c__law_has tk hr (by decide) (pa_cons (pv 6) (pa_cons (pv 3) (pa_cons (pv 2) pa_nil))))))))) (pss_one (ps_ret pe_bl)) pss_nil)
      (pss_cons (ps_if (PW.pt (pw_or (pt_not (pt_val (c_call c__law_moved tk hr (by decide) (pa_cons (pv 5) (pa_cons (pv 2) (pa_cons (pv 4) pa_nil)))))) (pw_or1 (pt_not (pt_val (c_call c__law_moved tk hr (by decide) (pa_cons (pv 6) (pa_cons (pv 3) (pa_cons pe_int pa_nil))))))))) (pss_one (ps_ret pe_bl)) pss_nil)
      (pss_cons (ps_if (PW.pt (pw_or (pt_not (pt_val (c_call c__law_joined tk hr (by decide) (pa_cons (pv 5) (pa_cons (pv 6) (pa_cons (pv 2) (pa_cons (pv 3) pa_nil))))))) (pw_or1 (pt_not (pt_val (c_call c__law_joined tk hr (by decide) (pa_cons (pv 6) (pa_cons (pv 5) (pa_cons (pv 3) (pa_cons (pv 2) pa_nil)))))))))) (pss_one (ps_ret pe_bl)) pss_nil)
      (pss_cons (ps_if (PW.pt (pw_or (pt_not (pt_val (c_call c__law_alike tk hr (by decide) (pa_cons (pv 5) (pa_cons (pv 6) (pa_cons (pv 2) (pa_cons (pv 3) pa_nil))))))) (pw_or1 (pt_not (pt_val (c_call c__law_alike tk hr (by decide) (pa_cons (pv 6) (pa_cons (pv 5) (pa_cons (pv 3) (pa_cons (pv 2) pa_nil)))))))))) (pss_one (ps_ret pe_bl)) pss_nil)
      (pss_cons (ps_set (i := 7) sc_law.nd rfl (Or.inl rfl) (pe_ix ix_tup (pv 2) (c_call c__law_take tk hr (by decide) (pa_cons (pv 1) (pa_cons pe_int pa_nil))) (fun _ _ => rfl)))
      (pss_cons (ps_set (i := 8) sc_law.nd rfl (Or.inl rfl) (pe_ix ix_list (pe_lst (pa_cons pe_int (pa_cons (pe_op op_add pe_int (c_call c__law_take tk hr (by decide) (pa_cons (pv 1) (pa_cons pe_int pa_nil)))) (pa_cons (pe_op op_add pe_int (pe_op op_fdivW (c_call c__law_far tk hr (by decide) (pa_cons (pv 1) pa_nil)) pe_int)) pa_nil)))) (c_call c__law_take tk hr (by decide) (pa_cons (pv 1) (pa_cons pe_int pa_nil))) (fun _ _ => rfl)))
      (pss_cons (ps_if (PW.pt (pw_or (pt_not (pt_val (c_call c__law_empty tk hr (by decide) (pa_cons (pv 7) (pa_cons (pe_op op_sub (pv 7) (pv 8)) pa_nil))))) (pw_or1 (pt_not (pt_val (c_call c__law_caught tk hr (by decide) (pa_cons (pv 7) (pa_cons (pe_op op_sub (pv 7) (pv 8)) pa_nil)))))))) (pss_one (ps_ret pe_bl)) pss_nil)
      (pss_cons (ps_if (pt_not (pt_val (c_call c__law_is tk hr (by decide) (pa_cons (c_make c_Stay tk hr (by decide) (pa_cons (pv 7) (pa_cons (pv 7) pa_nil))) (pa_cons (pe_tup (pa_cons (pv 7) (pa_cons (pv 7) pa_nil))) pa_nil))))) (pss_one (ps_ret pe_bl)) pss_nil)
      (pss_one (ps_ret (pe_and (c_call c__law_is tk hr (by decide) (pa_cons (pv 5) (pa_cons (pv 2) pa_nil))) (pe_one (c_call c__law_is tk hr (by decide) (pa_cons (pv 6) (pa_cons (pv 3) pa_nil)))))))))))))))))))))), ?_⟩
  simp only [cxK, st_law]
  walk_at "go"
  all_goals exact k _
end
end K16

set_option Elab.async false
set_option linter.all false
set_option maxRecDepth 100000
set_option maxHeartbeats 8000000
namespace K16
open PySem L2 MyL
abbrev PR : Program := PySem.Challenge.rw_fittingpasts_k16_stay_signs.prog
abbrev s_EmptyStay : Stmt := inClass (top 6) 0
theorem e_EmptyStay : PySem.ErrX.ErrSt PR "EmptyStay.__init__" s_EmptyStay ["come", "go"] :=
  ⟨_, _, _, _, _, _, _, _, _, _, rfl, fun _ => rfl, rfl, rfl, rfl, rfl, rfl, rfl, by decide +kernel, rfl, rfl, rfl, by decide +kernel, by decide +kernel, (.cons (by decide +kernel) (.cons (by decide +kernel) .nil)), fun _ _ _ _ _ _ us hl => match us, hl with | [_, _, _], _ => rfl⟩
abbrev s_NoCommonDay : Stmt := inClass (top 7) 0
theorem e_NoCommonDay : PySem.ErrX.ErrSt PR "NoCommonDay.__init__" s_NoCommonDay ["gap"] :=
  ⟨_, _, _, _, _, _, _, _, _, _, rfl, fun _ => rfl, rfl, rfl, rfl, rfl, rfl, rfl, by decide +kernel, rfl, rfl, rfl, by decide +kernel, by decide +kernel, (.cons (by decide +kernel) .nil), fun _ _ _ _ _ _ us hl => match us, hl with | [_, _], _ => rfl⟩
theorem b_Stay_init : BindsSt "__init__" "Stay.__init__" s_Stay_init ["self", "come", "go"] := fun _ _ _ _ _ _ us hl => match us, hl with | [_, _, _], _ => rfl
theorem b_Stay_eq : BindsSt "__eq__" "Stay.__eq__" s_Stay_eq ["self", "other"] := fun _ _ _ _ _ _ us hl => match us, hl with | [_, _], _ => rfl
theorem b_Stay_contains : BindsSt "__contains__" "Stay.__contains__" s_Stay_contains ["self", "day"] := fun _ _ _ _ _ _ us hl => match us, hl with | [_, _], _ => rfl
theorem b_Stay_add : BindsSt "__add__" "Stay.__add__" s_Stay_add ["self", "many"] := fun _ _ _ _ _ _ us hl => match us, hl with | [_, _], _ => rfl
theorem b_Stay_sub : BindsSt "__sub__" "Stay.__sub__" s_Stay_sub ["self", "many"] := fun _ _ _ _ _ _ us hl => match us, hl with | [_, _], _ => rfl
theorem b_Stay_and : BindsSt "__and__" "Stay.__and__" s_Stay_and ["self", "other"] := fun _ _ _ _ _ _ us hl => match us, hl with | [_, _], _ => rfl
theorem b_Stay_or : BindsSt "__or__" "Stay.__or__" s_Stay_or ["self", "other"] := fun _ _ _ _ _ _ us hl => match us, hl with | [_, _], _ => rfl
theorem b_Stay_str : BindsSt "__str__" "Stay.__str__" s_Stay_str ["self"] := fun _ _ _ _ _ _ us hl => match us, hl with | [_], _ => rfl
theorem b_Stay_width : BindsSt "width" "Stay.width" s_Stay_width ["self"] := fun _ _ _ _ _ _ us hl => match us, hl with | [_], _ => rfl
theorem b__law_draws : BindsSt "_law_draws" "_law_draws" s__law_draws ["_law_script"] := fun _ _ _ _ _ _ us hl => match us, hl with | [_], _ => rfl
theorem b__law_take : BindsSt "_law_take" "_law_take" s__law_take ["_law_box", "_law_limit"] := fun _ _ _ _ _ _ us hl => match us, hl with | [_, _], _ => rfl
theorem b__law_far : BindsSt "_law_far" "_law_far" s__law_far ["_law_box"] := fun _ _ _ _ _ _ us hl => match us, hl with | [_], _ => rfl
theorem b__law_number : BindsSt "_law_number" "_law_number" s__law_number ["_law_actual", "_law_due"] := fun _ _ _ _ _ _ us hl => match us, hl with | [_, _], _ => rfl
theorem b__law_first : BindsSt "_law_first" "_law_first" s__law_first ["_law_box"] := fun _ _ _ _ _ _ us hl => match us, hl with | [_], _ => rfl
theorem b__law_near : BindsSt "_law_near" "_law_near" s__law_near ["_law_box", "_law_first_here"] := fun _ _ _ _ _ _ us hl => match us, hl with | [_, _], _ => rfl
theorem b__law_many : BindsSt "_law_many" "_law_many" s__law_many ["_law_box"] := fun _ _ _ _ _ _ us hl => match us, hl with | [_], _ => rfl
theorem b__law_is : BindsSt "_law_is" "_law_is" s__law_is ["_law_stay", "_law_days"] := fun _ _ _ _ _ _ us hl => match us, hl with | [_, _], _ => rfl
theorem b__law_has : BindsSt "_law_has" "_law_has" s__law_has ["_law_stay", "_law_days", "_law_other"] := fun _ _ _ _ _ _ us hl => match us, hl with | [_, _, _], _ => rfl
theorem b__law_moved : BindsSt "_law_moved" "_law_moved" s__law_moved ["_law_stay", "_law_days", "_law_many_here"] := fun _ _ _ _ _ _ us hl => match us, hl with | [_, _, _], _ => rfl
theorem b__law_apart : BindsSt "_law_apart" "_law_apart" s__law_apart ["_law_one", "_law_two", "_law_gap"] := fun _ _ _ _ _ _ us hl => match us, hl with | [_, _, _], _ => rfl
theorem b__law_joined : BindsSt "_law_joined" "_law_joined" s__law_joined ["_law_one", "_law_two", "_law_first_here", "_law_second"] := fun _ _ _ _ _ _ us hl => match us, hl with | [_, _, _, _], _ => rfl
theorem b__law_alike : BindsSt "_law_alike" "_law_alike" s__law_alike ["_law_one", "_law_two", "_law_first_here", "_law_second"] := fun _ _ _ _ _ _ us hl => match us, hl with | [_, _, _, _], _ => rfl
theorem b__law_empty : BindsSt "_law_empty" "_law_empty" s__law_empty ["_law_come", "_law_go"] := fun _ _ _ _ _ _ us hl => match us, hl with | [_, _], _ => rfl
theorem b__law_caught : BindsSt "_law_caught" "_law_caught" s__law_caught ["_law_come", "_law_go"] := fun _ _ _ _ _ _ us hl => match us, hl with | [_, _], _ => rfl
theorem b_law : BindsSt "law" "law" s_law ["_law_script"] := fun _ _ _ _ _ _ us hl => match us, hl with | [_], _ => rfl
theorem bk_Stay : KwSt "__init__" "Stay.__init__" s_Stay_init ["self", "come", "go"] ["go", "come"] swap2 := fun _ _ _ _ _ _ u ws hl => match ws, hl with | [_, _], _ => rfl
theorem all_mk {w : World} {K : PySem.W.Frag} {h : Heap} {mg : Str → Option Value} {C CE fE CN fN CA CU CT CI : Addr} (X : K.In h) (G : h.Ns mainGlobals mg)
    (a_Stay : PySem.W.nsIn K mainGlobals "Stay" = some (some (.ref C)))
    (a_EmptyStay : PySem.W.nsIn K mainGlobals "EmptyStay" = some (some (.ref CE)))
    (a_NoCommonDay : PySem.W.nsIn K mainGlobals "NoCommonDay" = some (some (.ref CN)))
    (a_ArchiveError : PySem.W.nsIn K mainGlobals "ArchiveError" = some (some (.ref CA)))
    (a_UnknownError : PySem.W.nsIn K mainGlobals "UnknownError" = some (some (.ref CU)))
    (a_TextError : PySem.W.nsIn K mainGlobals "TextError" = some (some (.ref CT)))
    (a_ImpossibleError : PySem.W.nsIn K mainGlobals "ImpossibleError" = some (some (.ref CI)))
    (z_isinstance : PySem.W.nsIn K mainGlobals "isinstance" = some none)
    (z_int : PySem.W.nsIn K mainGlobals "int" = some none)
    (z_bool : PySem.W.nsIn K mainGlobals "bool" = some none)
    (z_len : PySem.W.nsIn K mainGlobals "len" = some none)
    (z_min : PySem.W.nsIn K mainGlobals "min" = some none)
    (z_max : PySem.W.nsIn K mainGlobals "max" = some none)
    (z_str : PySem.W.nsIn K mainGlobals "str" = some none)
    (z_ValueError : PySem.W.nsIn K mainGlobals "ValueError" = some none)
    (cl_Stay : Cls K C)
    (na_Stay_come : NoAttr K C "come")
    (na_Stay_go : NoAttr K C "go")
    (mk_Stay : PySem.W.makesIn K C = true)
    (kc_Stay : PySem.W.keepIn K (.ref C) = true)
    (ca_Stay : PySem.W.findIn K (.ref C) "__class__" = some (some (.builtin "object.__class__")))
    (cm_Stay : PySem.W.mroIn K C (.type "object") = some true)
    (cn : PySem.W.specialIn K (.builtin "object.__class__") "__get__" = some (some (.builtin "getset_descriptor.__get__")))
    (ct : PySem.W.takesIn K (.builtin "object.__class__") = some true)
    (n_Stay_Add : NumC K C .Add)
    (n_Stay_Sub : NumC K C .Sub)
    (sf_Stay : PySem.W.selfFirst K C = true)
    (ne_Stay : NeC K C)
    (er_EmptyStay : PySem.ErrX.ErrTxt PR K mg "EmptyStay" CE fE ["come", "go"])
    (er_NoCommonDay : PySem.ErrX.ErrTxt PR K mg "NoCommonDay" CN fN ["gap"])
    (ek_E : ExcK K CE)
    (ek_N : ExcK K CN)
    (xf_EmptyStay : XfC K CE)
    (nx_EmptyStay_come : PySem.W.findIn K (.ref CE) "come" = some none)
    (nx_EmptyStay_go : PySem.W.findIn K (.ref CE) "go" = some none)
    (xf_NoCommonDay : XfC K CN)
    (nx_NoCommonDay_gap : PySem.W.findIn K (.ref CN) "gap" = some none)
    (exmE : PySem.W.exmOne K (.ref CE) (.ref CE) = some true)
    (exmN : PySem.W.exmOne K (.ref CN) (.ref CN) = some true)
    (exmA : PySem.W.exmOne K (.ref CE) (.ref CA) = some true)
    (kE1 : PySem.W.kitOne K (.ref CE) (.type "ValueError") = some true)
    (kE2 : PySem.W.kitOne K (.ref CE) (.ref CA) = some true)
    (kE3 : PySem.W.kitAny K (.ref CE) [.ref CU, .ref CT, .ref CI, .ref CN] = some false)
    (kN1 : PySem.W.kitOne K (.ref CN) (.type "ValueError") = some true)
    (kN2 : PySem.W.kitOne K (.ref CN) (.ref CA) = some true)
    (kN3 : PySem.W.kitAny K (.ref CN) [.ref CU, .ref CT, .ref CI, .ref CE] = some false)
    (m_Stay_init : MethAt K C "__init__" "Stay.__init__" s_Stay_init)
    (m_Stay_eq : MethAt K C "__eq__" "Stay.__eq__" s_Stay_eq)
    (m_Stay_contains : MethAt K C "__contains__" "Stay.__contains__" s_Stay_contains)
    (m_Stay_add : MethAt K C "__add__" "Stay.__add__" s_Stay_add)
    (m_Stay_sub : MethAt K C "__sub__" "Stay.__sub__" s_Stay_sub)
    (m_Stay_and : MethAt K C "__and__" "Stay.__and__" s_Stay_and)
    (m_Stay_or : MethAt K C "__or__" "Stay.__or__" s_Stay_or)
    (m_Stay_str : MethAt K C "__str__" "Stay.__str__" s_Stay_str)
    (p_Stay_width : PropAt K C "width" "Stay.width" s_Stay_width)
    (d__law_draws : DefAt K mg "_law_draws" "_law_draws" s__law_draws)
    (d__law_take : DefAt K mg "_law_take" "_law_take" s__law_take)
    (d__law_far : DefAt K mg "_law_far" "_law_far" s__law_far)
    (d__law_number : DefAt K mg "_law_number" "_law_number" s__law_number)
    (d__law_first : DefAt K mg "_law_first" "_law_first" s__law_first)
    (d__law_near : DefAt K mg "_law_near" "_law_near" s__law_near)
    (d__law_many : DefAt K mg "_law_many" "_law_many" s__law_many)
    (d__law_is : DefAt K mg "_law_is" "_law_is" s__law_is)
    (d__law_has : DefAt K mg "_law_has" "_law_has" s__law_has)
    (d__law_moved : DefAt K mg "_law_moved" "_law_moved" s__law_moved)
    (d__law_apart : DefAt K mg "_law_apart" "_law_apart" s__law_apart)
    (d__law_joined : DefAt K mg "_law_joined" "_law_joined" s__law_joined)
    (d__law_alike : DefAt K mg "_law_alike" "_law_alike" s__law_alike)
    (d__law_empty : DefAt K mg "_law_empty" "_law_empty" s__law_empty)
    (d__law_caught : DefAt K mg "_law_caught" "_law_caught" s__law_caught)
    (d_law : DefAt K mg "law" "law" s_law) :
    DefAt K mg "law" "law" s_law ∧ ∀ {f : Addr} {fd : FuncData}, Fun K "law" "law" s_law f fd → ∀ base : Heap, FnOk PR w K mg base (L2.CX PR w) 6 f fd ["_law_script"] (spLaw K) := by
  have z := fun {n : Str} (e : PySem.W.nsIn K mainGlobals n = some none) => PySem.W.mg_none_of X G e
  have y := fun {n : Str} {v : Value} (e : PySem.W.nsIn K mainGlobals n = some (some v)) => PySem.W.mg_of X G e
  have T : Txt PR K mg C CE fE CN fN CA CU CT CI := ⟨cl_Stay, na_Stay_come, na_Stay_go, ca_Stay, cn, ct, cm_Stay, z z_isinstance, z z_int, z z_bool, z z_len, z z_min, z z_max, z z_str, z z_ValueError, y a_Stay, er_EmptyStay, er_NoCommonDay, y a_EmptyStay, y a_NoCommonDay, y a_ArchiveError, y a_UnknownError, y a_TextError, y a_ImpossibleError,
    kit_ty (by decide +kernel), kit_ty (by decide +kernel), n_Stay_Add, n_Stay_Sub, sf_Stay, ne_Stay, ek_E, ek_N, xf_EmptyStay, xf_NoCommonDay, nx_EmptyStay_come, nx_EmptyStay_go, nx_NoCommonDay_gap, exmE, exmN, exmA, kE1, kE2, kE3, kN1, kN2, kN3⟩
  refine ⟨d_law, fun {f fd} F base => ?_⟩
  have c_Stay : Mak PR w K mg base 1 "Stay" C (sp_init C CE) := mak_of m_Stay_init T.g_Stay mk_Stay kc_Stay b_Stay_init fun F => ok_init F T
  have c_StayK : MakK PR w K mg base 1 "Stay" C ["go", "come"] swap2 (sp_init C CE) := makK_of m_Stay_init T.g_Stay mk_Stay kc_Stay bk_Stay fun F => ok_init F T
  have c_Stay_width : Prp PR w K mg base 1 C "width" (sp_width C) := prp_of p_Stay_width T.cl b_Stay_width fun F => ok_width F T
  have c_Stay_eq : Spc PR w K mg base 1 C "__eq__" (sp_eq C) := spc_of m_Stay_eq b_Stay_eq fun F => ok_eq F T 
  have c_Stay_contains : Spc PR w K mg base 1 C "__contains__" (sp_contains C) := spc_of m_Stay_contains b_Stay_contains fun F => ok_contains F T 
  have c_Stay_str : Spc PR w K mg base 1 C "__str__" (sp_str C) := spc_of m_Stay_str b_Stay_str fun F => ok_str F T 
  have c_Stay_add : Spc PR w K mg base 3 C "__add__" (sp_move C (· + ·)) := spc_of m_Stay_add b_Stay_add fun F => ok_add F T c_Stay
  have c_Stay_sub : Spc PR w K mg base 3 C "__sub__" (sp_move C (· - ·)) := spc_of m_Stay_sub b_Stay_sub fun F => ok_sub F T c_Stay
  have c_Stay_and : Spc PR w K mg base 3 C "__and__" (sp_and C CN) := spc_of m_Stay_and b_Stay_and fun F => ok_and F T c_Stay
  have c_Stay_or : Spc PR w K mg base 3 C "__or__" (sp_or C) := spc_of m_Stay_or b_Stay_or fun F => ok_or F T c_Stay
  have q__law_number : CalQ PR w K mg base 1 "_law_number" sp_number := calQ_of d__law_number b__law_number fun F hb => ok_number F hb T
  have c__law_draws : Cal PR w K mg base 1 "_law_draws" (sp_draws K) := cal_of d__law_draws b__law_draws fun F => ok_draws F T 
  have c__law_take : Cal PR w K mg base 1 "_law_take" sp_take := cal_of d__law_take b__law_take fun F => ok_take F T 
  have c__law_far : Cal PR w K mg base 2 "_law_far" (sp_num RFar) := cal_of d__law_far b__law_far fun F => ok_far F T c__law_take
  have c__law_first : Cal PR w K mg base 3 "_law_first" (sp_pair 800000000000000020) := cal_of d__law_first b__law_first fun F => ok_first F T c__law_take c__law_far
  have c__law_near : Cal PR w K mg base 2 "_law_near" sp_near := cal_of d__law_near b__law_near fun F => ok_near F T c__law_take
  have c__law_many : Cal PR w K mg base 3 "_law_many" (sp_num RMany) := cal_of d__law_many b__law_many fun F => ok_many F T c__law_take c__law_far
  have c__law_is : Cal PR w K mg base 4 "_law_is" (sp_is C) := cal_of d__law_is b__law_is fun F => ok_is F T q__law_number c_Stay_width c_Stay_str
  have c__law_has : Cal PR w K mg base 2 "_law_has" (sp_has C) := cal_of d__law_has b__law_has fun F => ok_has F T c_Stay_contains
  have c__law_moved : Cal PR w K mg base 5 "_law_moved" (sp_moved C) := cal_of d__law_moved b__law_moved fun F => ok_moved F T c_Stay_add c_Stay_sub c_Stay_eq c__law_is
  have c__law_apart : Cal PR w K mg base 4 "_law_apart" (sp_apart C) := cal_of d__law_apart b__law_apart fun F => ok_apart F T c_Stay_and q__law_number
  have c__law_joined : Cal PR w K mg base 5 "_law_joined" (sp_two C) := cal_of d__law_joined b__law_joined fun F => ok_joined F T c_Stay_and c_Stay_or c__law_is c__law_apart
  have c__law_alike : Cal PR w K mg base 4 "_law_alike" (sp_two C) := cal_of d__law_alike b__law_alike fun F => ok_alike F T c_Stay c_Stay_add c_Stay_eq
  have c__law_empty : Cal PR w K mg base 3 "_law_empty" sp_refuse := cal_of d__law_empty b__law_empty fun F => ok_empty F T c_Stay q__law_number
  have c__law_caught : Cal PR w K mg base 3 "_law_caught" sp_refuse := cal_of d__law_caught b__law_caught fun F => ok_caught F T c_Stay
  exact ok_law F T c_Stay c_StayK c__law_draws c__law_take c__law_far c__law_first c__law_near c__law_many c__law_is c__law_has c__law_moved c__law_joined c__law_alike c__law_empty c__law_caught
end K16

set_option Elab.async false
set_option linter.all false
open PySem PySem.W PyProof.Rows L2 MyL K16
set_option maxRecDepth 100000 in
set_option maxHeartbeats 0 in
theorem PySem.Challenge.cw_fittingpasts_k16_stay_signs_holds : PySem.Challenge.rw_fittingpasts_k16_stay_signs.Holds := by
  w_on; o_law; k_head; (case hw => w_witness2)
  k_fill
  refine law_walk (l := PySem.Challenge.rw_fittingpasts_k16_stay_signs) (k := 6) (x := "_law_script") (st := s_law) rfl rfl ⟨rfl, by decide, by decide⟩ (fun w h Y => PySem.W.kIn_of Y) (fun _ _ _ _ _ _ _ _ => .of_eq rfl) ?F
  case F =>
    intro w mg h KX G
    refine' K16.all_mk KX G ?a_Stay ?a_EmptyStay ?a_NoCommonDay ?a_ArchiveError ?a_UnknownError ?a_TextError ?a_ImpossibleError ?z_isinstance ?z_int ?z_bool ?z_len ?z_min ?z_max ?z_str ?z_ValueError ?cl_Stay ?na_Stay_come ?na_Stay_go ?mk_Stay ?kc_Stay ?ca_Stay ?cm_Stay ?cn ?ct ?n_Stay_Add ?n_Stay_Sub ?sf_Stay ?ne_Stay ?er_EmptyStay ?er_NoCommonDay ?ek_E ?ek_N ?xf_EmptyStay ?nx_EmptyStay_come ?nx_EmptyStay_go ?xf_NoCommonDay ?nx_NoCommonDay_gap ?exmE ?exmN ?exmA ?kE1 ?kE2 ?kE3 ?kN1 ?kN2 ?kN3 ?m_Stay_init ?m_Stay_eq ?m_Stay_contains ?m_Stay_add ?m_Stay_sub ?m_Stay_and ?m_Stay_or ?m_Stay_str ?p_Stay_width ?d__law_draws ?d__law_take ?d__law_far ?d__law_number ?d__law_first ?d__law_near ?d__law_many ?d__law_is ?d__law_has ?d__law_moved ?d__law_apart ?d__law_joined ?d__law_alike ?d__law_empty ?d__law_caught ?d_law
    (case a_Stay => k_is)
    (case a_EmptyStay => k_is)
    (case a_NoCommonDay => k_is)
    (case a_ArchiveError => k_is)
    (case a_UnknownError => k_is)
    (case a_TextError => k_is)
    (case a_ImpossibleError => k_is)
    (case z_isinstance => k_is)
    (case z_int => k_is)
    (case z_bool => k_is)
    (case z_len => k_is)
    (case z_min => k_is)
    (case z_max => k_is)
    (case z_str => k_is)
    (case z_ValueError => k_is)
    (case cl_Stay => refine' ⟨?a, ?b, ?c, ?d⟩; (case a => k_is); (case b => k_is); (case c => k_is); (case d => k_is))
    (case na_Stay_come => unfold NoAttr; k_is)
    (case na_Stay_go => unfold NoAttr; k_is)
    (case mk_Stay => k_is)
    (case kc_Stay => k_is)
    (case ca_Stay => k_is)
    (case cm_Stay => k_is)
    (case cn => k_is)
    (case ct => k_is)
    (case n_Stay_Add => refine' PySem.ErrX.num_mk ?a ?b ?c ?d ?e; (case a => k_is); (case b => k_is); (case c => k_is); (case d => kernel_rfl); (case e => kernel_rfl))
    (case n_Stay_Sub => refine' PySem.ErrX.num_mk ?a ?b ?c ?d ?e; (case a => k_is); (case b => k_is); (case c => k_is); (case d => kernel_rfl); (case e => kernel_rfl))
    (case sf_Stay => k_is)
    (case ne_Stay => refine' ⟨?a, ?b⟩; (case a => k_is); (case b => k_is))
    (case er_EmptyStay => refine' PySem.ErrX.err_mk KX G e_EmptyStay ?g1 ?g2 ?g3 ?g4 ?g5 ?g6 ?g7 ?g8 ?g9 ?h1 ?h2 ?h3 ?h4 ?h5 ?h6 ?h7 ?h8 ?h9 ?i1 ?i2 ?i3; (case g1 => k_is); (case g2 => k_is); (case g3 => k_is); (case g4 => decide +kernel); (case g5 => k_is); (case g6 => (intro f hf; simp only [List.mem_cons, List.not_mem_nil, or_false] at hf; rcases hf with rfl | rfl; all_goals k_is)); (case g7 => k_is); (case g8 => k_is); (case g9 => k_is); (case h1 => k_is); (case h2 => k_is); (case h3 => k_is); (case h4 => k_is); (case h5 => ks_is); (case h6 => k_is); (case h7 => k_is); (case h8 => k_is); (case h9 => k_is); (case i1 => rfl); (case i2 => decide +kernel); (case i3 => k_is))
    (case er_NoCommonDay => refine' PySem.ErrX.err_mk KX G e_NoCommonDay ?g1 ?g2 ?g3 ?g4 ?g5 ?g6 ?g7 ?g8 ?g9 ?h1 ?h2 ?h3 ?h4 ?h5 ?h6 ?h7 ?h8 ?h9 ?i1 ?i2 ?i3; (case g1 => k_is); (case g2 => k_is); (case g3 => k_is); (case g4 => decide +kernel); (case g5 => k_is); (case g6 => (intro f hf; simp only [List.mem_cons, List.not_mem_nil, or_false] at hf; rcases hf with rfl; all_goals k_is)); (case g7 => k_is); (case g8 => k_is); (case g9 => k_is); (case h1 => k_is); (case h2 => k_is); (case h3 => k_is); (case h4 => k_is); (case h5 => ks_is); (case h6 => k_is); (case h7 => k_is); (case h8 => k_is); (case h9 => k_is); (case i1 => rfl); (case i2 => decide +kernel); (case i3 => k_is))
    (case ek_E => refine' PySem.ErrX.exck_mk ?a ?b ?c ?d ?e ?f ?g ?h; (case a => kernel_rfl); (case b => k_is); (case c => k_is); (case d => k_is); (case e => k_is); (case f => k_is); (case g => k_is); (case h => k_is))
    (case ek_N => refine' PySem.ErrX.exck_mk ?a ?b ?c ?d ?e ?f ?g ?h; (case a => kernel_rfl); (case b => k_is); (case c => k_is); (case d => k_is); (case e => k_is); (case f => k_is); (case g => k_is); (case h => k_is))
    (case xf_EmptyStay => refine' ⟨?a, ?b, ?c, ?d⟩; (case a => k_is); (case b => k_is); (case c => k_is); (case d => k_is))
    (case nx_EmptyStay_come => k_is)
    (case nx_EmptyStay_go => k_is)
    (case xf_NoCommonDay => refine' ⟨?a, ?b, ?c, ?d⟩; (case a => k_is); (case b => k_is); (case c => k_is); (case d => k_is))
    (case nx_NoCommonDay_gap => k_is)
    (case exmE => kernel_rfl)
    (case exmN => kernel_rfl)
    (case exmA => kernel_rfl)
    (case kE1 => kernel_rfl)
    (case kE2 => kernel_rfl)
    (case kE3 => kernel_rfl)
    (case kN1 => kernel_rfl)
    (case kN2 => kernel_rfl)
    (case kN3 => kernel_rfl)
    (case m_Stay_init => refine' gmeth (st := s_Stay_init) ?a ?i ?l ?c ?k; (case a => k_is); (case i => k_is); (case l => k_is); (case c => k_is); (case k => k_is))
    (case m_Stay_eq => refine' gmeth (st := s_Stay_eq) ?a ?i ?l ?c ?k; (case a => k_is); (case i => k_is); (case l => k_is); (case c => k_is); (case k => k_is))
    (case m_Stay_contains => refine' gmeth (st := s_Stay_contains) ?a ?i ?l ?c ?k; (case a => k_is); (case i => k_is); (case l => k_is); (case c => k_is); (case k => k_is))
    (case m_Stay_add => refine' gmeth (st := s_Stay_add) ?a ?i ?l ?c ?k; (case a => k_is); (case i => k_is); (case l => k_is); (case c => k_is); (case k => k_is))
    (case m_Stay_sub => refine' gmeth (st := s_Stay_sub) ?a ?i ?l ?c ?k; (case a => k_is); (case i => k_is); (case l => k_is); (case c => k_is); (case k => k_is))
    (case m_Stay_and => refine' gmeth (st := s_Stay_and) ?a ?i ?l ?c ?k; (case a => k_is); (case i => k_is); (case l => k_is); (case c => k_is); (case k => k_is))
    (case m_Stay_or => refine' gmeth (st := s_Stay_or) ?a ?i ?l ?c ?k; (case a => k_is); (case i => k_is); (case l => k_is); (case c => k_is); (case k => k_is))
    (case m_Stay_str => refine' gmeth (st := s_Stay_str) ?a ?i ?l ?c ?k; (case a => k_is); (case i => k_is); (case l => k_is); (case c => k_is); (case k => k_is))
    (case p_Stay_width => refine' gprop (st := s_Stay_width) ?a ?g ?t ?r ?l ?c ?k; (case a => k_is); (case g => k_is); (case t => k_is); (case r => k_is); (case l => k_is); (case c => k_is); (case k => k_is))
    (case d__law_draws => refine' gdef (st := s__law_draws) KX G ?a ?l ?c ?k; (case a => k_is); (case l => k_is); (case c => k_is); (case k => k_is))
    (case d__law_take => refine' gdef (st := s__law_take) KX G ?a ?l ?c ?k; (case a => k_is); (case l => k_is); (case c => k_is); (case k => k_is))
    (case d__law_far => refine' gdef (st := s__law_far) KX G ?a ?l ?c ?k; (case a => k_is); (case l => k_is); (case c => k_is); (case k => k_is))
    (case d__law_number => refine' gdef (st := s__law_number) KX G ?a ?l ?c ?k; (case a => k_is); (case l => k_is); (case c => k_is); (case k => k_is))
    (case d__law_first => refine' gdef (st := s__law_first) KX G ?a ?l ?c ?k; (case a => k_is); (case l => k_is); (case c => k_is); (case k => k_is))
    (case d__law_near => refine' gdef (st := s__law_near) KX G ?a ?l ?c ?k; (case a => k_is); (case l => k_is); (case c => k_is); (case k => k_is))
    (case d__law_many => refine' gdef (st := s__law_many) KX G ?a ?l ?c ?k; (case a => k_is); (case l => k_is); (case c => k_is); (case k => k_is))
    (case d__law_is => refine' gdef (st := s__law_is) KX G ?a ?l ?c ?k; (case a => k_is); (case l => k_is); (case c => k_is); (case k => k_is))
    (case d__law_has => refine' gdef (st := s__law_has) KX G ?a ?l ?c ?k; (case a => k_is); (case l => k_is); (case c => k_is); (case k => k_is))
    (case d__law_moved => refine' gdef (st := s__law_moved) KX G ?a ?l ?c ?k; (case a => k_is); (case l => k_is); (case c => k_is); (case k => k_is))
    (case d__law_apart => refine' gdef (st := s__law_apart) KX G ?a ?l ?c ?k; (case a => k_is); (case l => k_is); (case c => k_is); (case k => k_is))
    (case d__law_joined => refine' gdef (st := s__law_joined) KX G ?a ?l ?c ?k; (case a => k_is); (case l => k_is); (case c => k_is); (case k => k_is))
    (case d__law_alike => refine' gdef (st := s__law_alike) KX G ?a ?l ?c ?k; (case a => k_is); (case l => k_is); (case c => k_is); (case k => k_is))
    (case d__law_empty => refine' gdef (st := s__law_empty) KX G ?a ?l ?c ?k; (case a => k_is); (case l => k_is); (case c => k_is); (case k => k_is))
    (case d__law_caught => refine' gdef (st := s__law_caught) KX G ?a ?l ?c ?k; (case a => k_is); (case l => k_is); (case c => k_is); (case k => k_is))
    (case d_law => refine' gdef (st := s_law) KX G ?a ?l ?c ?k; (case a => k_is); (case l => k_is); (case c => k_is); (case k => k_is))
#print axioms PySem.Challenge.cw_fittingpasts_k16_stay_signs_holds

