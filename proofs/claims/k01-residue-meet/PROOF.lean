import PyProof.Rows.All
import Wide.All
import OpenK.AllK
import Wide.FinOn
import KE.KExcSuper
import HandS.Exc
import HandS.ExcInit
import KE.KOpsOwn
import KE.KCallOwn
import KE.KExcIs
import HandS.ForExc
import HandS.ForMost
import HandS.HotCalls
import HandS.More
import HandS.SlotsOwn
import HandS.MakeKw
import HandS.IsInst
import HandS.ExcField
import HandS.Wide
import HandS.FStr
import HandS.EndBits
import HandS.Property
import HandS.ClsMeth
import HandS.ExcOwn
import HandS.Star
import PySem.Challenge.RW_fittingpasts_k01_residue_meet
set_option Elab.async false
set_option linter.all false
set_option maxRecDepth 100000
set_option maxHeartbeats 4000000
/-! An own error whose body of __init__ is super().__init__('..') and then self.f = f for each field f. -/
namespace PySem
namespace ErrX
open PySem.W PySem.Calls PyProof.Rows PySem.HandSPX
/-- self.f = f for each name -/
inductive Asgs : List Str → List Stmt → Prop
  | nil : Asgs [] []
  | cons {f : Str} {fs : List Str} {r : List Stmt} {q1 q2 q3 q4 : Pos} : (f == ("__debug__" : Str)) = false → Asgs fs r → Asgs (f :: fs) (.Assign [.Attribute (.Name "self" q1) f q2] (.Name f q3) q4 :: r)
/-- what the written part says of the error's class at C and of its __init__ at fI -/
structure ErrTxt (prog : Program) (K : Frag) (mg : Str → Option Value) (x : Str) (C fI : Addr) (fs : List Str) : Prop where
  gC : mg x = some (.ref C)
  gS : mg "super" = none
  cls : ∃ nm q N bs bm sn sub ab col dd k0 k1 k2 k3 k5, K.lookup C = some (excClassObj nm q C N bs bm true sn sub ab col dd k0 k1 k2 k3 k5 "ValueError.__new__") ∧ refsVE bm = true
  sa : findIn K (.ref C) "__setattr__" = some (some (.builtin "object.__setattr__"))
  no : ∀ f ∈ fs, findIn K (.ref C) f = some none
  iC : findIn K (.ref C) "__init__" = some (some (.ref fI))
  tC : typeIn K (.ref fI) = some (.type "function")
  kC : keepIn K (.ref C) = true
  exC : subIn K (.ref C) (.type "BaseException") = some true
  veC : subIn K (.ref C) (.type "ValueError") = some true
  tyC : typeIn K (.ref C) = some (.type "type")
  op : nsIn K cStatics "thirdparty.any" = some none
  al : ks_superIn K C C "__init__" = some (some (.builtin "ValueError.__init__"))
  slf : mroIn K C (.ref C) = some true
  fn : ∃ (oc : Value) (od : Option Addr) (qual : Str) (params : Arguments) (scope : Scope) (rest : List Stmt) (doc pm : Value) (an : Option Addr) (cda : Addr) (ct : Value) (cc : Addr) (osl : Array (Option Value)) (txt : Str) (j : Nat) (p0 p1 p2 p3 p4 p5 : Pos) (ar : Arg)
      (ccl : Value) (cdd : Option Addr) (vs : Array Value) (ccs : Array (Option Value)) (file : Str) (tf : Tok) (cl : Value) (cld : Option Addr) (csl : Array (Option Value)),
    K.lookup fI = some ⟨oc, od, .func (ksFn "__init__" qual params (.Expr (.Call (.Attribute (.Call (.Name "super" p0) [] [] p1) "__init__" p2) [.Constant (.str txt) j p3] [] p4) p5 :: rest) scope .none .none doc pm an (.ref cda) ct cc), osl⟩ ∧ codeIn K (.ref cda) qual = true ∧
    K.lookup cda = some ⟨ccl, cdd, .fields vs, ccs⟩ ∧ vs[2]? = some (.str file tf) ∧ ((prog.main.file : Str) == file) = true ∧ K.lookup cc = some ⟨cl, cld, .cell (some (.ref C)), csl⟩ ∧
    (∀ env : Env, eval (.Call (.Attribute (.Call (.Name "super" p0) [] [] p1) "__init__" p2) [.Constant (.str txt) j p3] [] p4) env = (do
      let ov ← attributeBase (.Call (.Name "super" p0) [] [] p1) "__init__" env (eval (.Call (.Name "super" p0) [] [] p1) env)
      standAt p2.atName
      let (f, first) ← holding [ov] (getMethod ov "__init__" (do return (← importBound (.Call (.Name "super" p0) [] [] p1) env).getD true))
      callWith p4 f first (backTo p4 (starEach [.Constant (.str txt) j p3] env)) [])) ∧
    (prog.main.scope.names.lookup ("super" : Str)).isSome = false ∧
    (params.posonlyargs ++ params.args).head? = some ar ∧ ar.arg = "self" ∧
    scope.kind = .function ∧ scope.isCoroutine = false ∧ scope.isGenerator = false ∧ (∀ x ∈ scope.names, x.2 ≠ .cell) ∧ scope.names.lookup ("super" : Str) = some .globalImplicit ∧ scope.names.lookup ("__class__" : Str) = some .free ∧
    scope.names.lookup ("self" : Str) = some .local ∧ (∀ f ∈ fs, scope.names.lookup f = some .local) ∧ (("self" : Str) :: fs).Nodup ∧
    Asgs fs rest ∧ ∀ us : List Value, us.length = fs.length + 1 → bindArgs (ksFn "__init__" qual params (.Expr (.Call (.Attribute (.Call (.Name "super" p0) [] [] p1) "__init__" p2) [.Constant (.str txt) j p3] [] p4) p5 :: rest) scope .none .none doc pm an (.ref cda) ct cc) ⟨us, []⟩ = pure (((("self" : Str) :: fs)).zip us)

theorem lookup_rev : ∀ {l : List (Str × Value)} {x : Str} {v : Value}, (l.map (·.1)).Nodup → l.lookup x = some v → l.reverse.lookup x = some v := by
  intro l x v nd h
  have key : ∀ (m : List (Str × Value)), (m.map (·.1)).Nodup → (x, v) ∈ m → m.lookup x = some v := by
    intro m
    induction m with
    | nil => intro _ h; cases h
    | cons p m ih =>
      intro nd h
      obtain ⟨y, u⟩ := p
      rw [List.map_cons, List.nodup_cons] at nd
      rcases List.mem_cons.mp h with e | e
      · cases e; simp [List.lookup]
      · have hne : (x == y) = false := by
          rw [beq_eq_false_iff_ne]
          rintro rfl
          exact nd.1 (List.mem_map_of_mem (f := (·.1)) e)
        simp [List.lookup, hne]
        exact ih nd.2 e
  refine key _ ?_ (List.mem_reverse.mpr (PySem.mem_of_lookup h))
  rw [List.map_reverse]
  exact List.pairwise_reverse.mpr (nd.imp Ne.symm)

/-- what stands at the exception behind the stores: the fields so far (the last one first) -/
def DictOf (x : Addr) (n : Nat) (h : Heap) (fl : List (Str × Value)) (dv : Option Addr) : Prop :=
  match fl with
  | [] => dv = none
  | _ => ∃ dx, dv = some dx ∧ n ≤ dx ∧ dx ≠ x ∧ ∃ mA, h.Ns1 dx mA ∧ (∀ y, mA y = fl.lookup y)
theorem dictOf_cons {x : Addr} {n : Nat} {h : Heap} {fl : List (Str × Value)} {dv : Option Addr} {f : Str} {v : Value} : DictOf x n h ((f, v) :: fl) dv = ∃ dx, dv = some dx ∧ n ≤ dx ∧ dx ≠ x ∧ ∃ mA, h.Ns1 dx mA ∧ (∀ y, mA y = ((f, v) :: fl).lookup y) := rfl
abbrev excD (C t : Addr) (d : Option Addr) : Obj := { cls := .ref C, dict := d, data := .fields #[.ref t, .none, .none, .none, .bool false, .none] }
theorem lookup_ite (f y : Str) (v : Value) (fl : List (Str × Value)) : ((f, v) :: fl).lookup y = if y = f then some v else fl.lookup y := by
  by_cases h : y = f
  · subst h; simp [List.lookup]
  · have e : (y == f) = false := by simpa using h
    rw [if_neg h]; simp [List.lookup, e]
section
variable {prog : Program} {w : World} {A : Around} {E : Value → Shared → Prop} {K : Frag} {mg : Str → Option Value} {C fI : Addr}
theorem run_asgs {env : Env} {x t0 : Addr} {n : Nat} {m : Str → Option Value} {cd : ClassData} (hcd : clsIn K C = some cd) (hmr : refsVE cd.mro = true) (hh : cd.hasDict = true) (sa : findIn K (.ref C) "__setattr__" = some (some (.builtin "object.__setattr__")))
    (hnx : K.lookup x = none) (hk : env.scope.kind = .function) (hself : env.kindOf "self" = some .local) (mself : m "self" = some (.ref x)) (hLx : env.locals ≠ x) (hLn : env.locals < n) {Q : Flow → Shared → Prop} :
    ∀ {fs : List Str} {rest : List Stmt} {vs : List Value} {fl : List (Str × Value)} {dv : Option Addr} {s : Shared}, Asgs fs rest → vs.length = fs.length → (∀ p ∈ fs.zip vs, m p.1 = some p.2 ∧ env.kindOf p.1 = some .local ∧ findIn K (.ref C) p.1 = some none) → fl.length + fs.length ≤ 900 →
    K.In s.heap → s.heap.Ns env.locals m → s.heap.get? x = some (excD C t0 dv) → n ≤ s.heap.objs.size → DictOf x n s.heap fl dv → (∀ dx, dv = some dx → K.lookup dx = none ∧ dx ≠ env.locals) →
    (∀ h' tk dv', (∀ b o, b ≠ x → some b ≠ dv → s.heap.get? b = some o → h'.get? b = some o) → h'.get? x = some (excD C t0 dv') → DictOf x n h' ((fs.zip vs).reverse ++ fl) dv' → Q .next { s with heap := h', toks := tk }) →
    wpAny (model prog w) A (execs rest env) Q E s := by
  intro fs
  induction fs with
  | nil =>
    intro rest vs fl dv s ha hl _ _ _ _ hx _ hd _ hq
    cases ha
    refine wpAny_execs_nil ?_
    have := hq s.heap s.toks dv (fun b o _ _ e => e) hx (by simpa using hd)
    exact this
  | cons f fs ih =>
    intro rest vs fl dv s ha hl hm hz X hn hx hsz hd hdv hq
    cases ha with
    | cons hdb ha' =>
    cases vs with
    | nil => cases hl
    | cons v vs =>
    have hl' : vs.length = fs.length := by simpa using hl
    obtain ⟨mv, kv, nov⟩ := hm (f, v) (by simp)
    have hm' : ∀ p ∈ fs.zip vs, m p.1 = some p.2 ∧ env.kindOf p.1 = some .local ∧ findIn K (.ref C) p.1 = some none := fun p hp => hm p (by simp [hp])
    have hz' : fl.length + (fs.length + 1) ≤ 900 := by simpa using hz
    refine wpAny_execs_cons (plainObj_wpAny_Assign_Attribute ?_ (by rfl))
    refine wpAny_Name (wpAny_loadName_local hk kv hn mv ?_) hdb
    refine wpAny_Name (wpAny_loadName_local hk hself hn mself ?_) (by decide)
    show wpAny _ _ (setAttr (.ref x) f v) _ _ _
    obtain ⟨hp, g, d, tk, os⟩ := s
    cases fl with
    | nil =>
      have e0 : dv = none := hd
      subst e0
      refine set_plain X (ox := excD C t0 none) (od := none) ⟨hx, rfl, rfl, trivial⟩ sa ?_
      refine exc_osa X hx hcd hmr hh nov (fun h' tk' dx k dn dne hx' hn' => ?_)
      have ndl : ∀ {b o}, hp.get? b = some o → b ≠ dx := fun {b o} q => Nat.ne_of_lt (Nat.lt_of_lt_of_le (Heap.lt_size q) dn)
      have hnL : h'.Ns env.locals m := by
        obtain ⟨o, es, ep, ho, r⟩ := hn
        exact ⟨o, es, ep, k _ o hLx ho, r⟩
      have hsz' : n ≤ h'.objs.size := by
        have := Heap.lt_size (show h'.get? x = some _ from hx')
        obtain ⟨o, es, ep, ho, r⟩ := hn'
        have z := Heap.lt_size ho
        exact Nat.le_of_lt (Nat.lt_of_le_of_lt (Nat.le_trans hsz dn) z)
      have X' : K.In h' := fun a o e => k a o (fun z => by rw [z, hnx] at e; cases e) (X a o e)
      refine ih (fl := [(f, v)]) (dv := some dx) (s := ⟨h', g, d, tk', os⟩) ha' hl' hm' (by simp; omega) X' hnL hx' hsz' ?_ ?_ ?_
      · refine ⟨dx, rfl, Nat.le_trans hsz dn, dne, _, hn', fun y => ?_⟩
        rw [lookup_ite]
        rfl
      · intro dx' e
        cases e
        refine ⟨?_, ?_⟩
        · cases q : K.lookup dx with
          | none => rfl
          | some o => exact absurd (Heap.lt_size (X _ _ q)) (Nat.not_lt.mpr dn)
        · exact Ne.symm (Nat.ne_of_lt (Nat.lt_of_lt_of_le hLn (Nat.le_trans hsz dn)))
      · intro h2 tk2 dv2 k2 hx2 hd2
        refine hq h2 tk2 dv2 (fun b o hb _ e => k2 b o hb (fun z => ndl e (Option.some.inj z)) (k b o hb e)) hx2 ?_
        simpa using hd2
    | cons p0 fl =>
      obtain ⟨dx, rfl, dn, dne, mA, hns, hmA⟩ := hd
      obtain ⟨nK, nL⟩ := hdv dx rfl
      have hw : Within mA ((p0 :: fl).map (·.1)) := fun y hy => by
        rw [hmA y] at hy
        cases q : (p0 :: fl).lookup y with
        | none => exact absurd q hy
        | some u => exact List.mem_map_of_mem (f := (·.1)) (PySem.mem_of_lookup q)
      obtain ⟨oD, _, _, hoD, _, _⟩ := hns.count hw
      refine set_plain X (ox := excD C t0 (some dx)) (od := some oD) ⟨hx, rfl, rfl, hoD⟩ sa ?_
      refine PySem.OEX.osa_old X hx hns hw (by rw [List.length_map]; simp at hz' ⊢; omega) hcd hmr hh nov (fun h' tk' k hn' => ?_)
      have hnL : h'.Ns env.locals m := by
        obtain ⟨o, es, ep, ho, r⟩ := hn
        exact ⟨o, es, ep, k _ o (Ne.symm nL) ho, r⟩
      have hx' : h'.get? x = some (excD C t0 (some dx)) := k _ _ (Ne.symm dne) hx
      have hsz' : n ≤ h'.objs.size := by
        obtain ⟨o, es, ep, ho, r⟩ := hn'
        have z := Heap.lt_size ho
        exact Nat.le_of_lt (Nat.lt_of_le_of_lt dn z)
      have X' : K.In h' := fun a o e => k a o (fun z => by rw [z, nK] at e; cases e) (X a o e)
      refine ih (fl := (f, v) :: p0 :: fl) (dv := some dx) (s := ⟨h', g, d, tk', os⟩) ha' hl' hm' (by simp at hz' ⊢; omega) X' hnL hx' hsz' ?_ hdv ?_
      · refine ⟨dx, rfl, dn, dne, _, hn', fun y => ?_⟩
        rw [lookup_ite, hmA y]
      · intro h2 tk2 dv2 k2 hx2 hd2
        refine hq h2 tk2 dv2 (fun b o hb hb2 e => k2 b o hb hb2 (k b o (fun z => hb2 (by rw [z])) e)) hx2 ?_
        simpa using hd2
end
end ErrX
end PySem

set_option Elab.async false
set_option linter.all false
set_option maxRecDepth 100000
set_option maxHeartbeats 4000000
namespace PySem
namespace ErrX
open PySem.W PySem.Calls PyProof.Rows PySem.HandSPX
section
variable {prog : Program} {w : World} {A : Around} {E : Value → Shared → Prop} {K : Frag} {mg : Str → Option Value} {C fI : Addr} {R : Result → Shared → Prop}
/-- the call of super().__init__ as a wrapper -/
theorem call_mw {h : Heap} {g : Array GenState} {d : Drawn} {t : Nat} {os : OsState} {nm q : Str} {N : Addr} {bs bm : List Value} {hdct : Bool} {sn : List Str} {sub : List Value} {ab : Bool} {col : Option Bool} {dd : Option Addr} {k0 k1 k2 k3 k5 : Option Value} {u e t0 : Addr} {rest : List Value} {Q : Value → Shared → Prop}
    (hC : h.get? C = some (excClassObj nm q C N bs bm hdct sn sub ab col dd k0 k1 k2 k3 k5 "ValueError.__new__")) (he : h.get? e = some (excO C t0)) (hu : h.get? u = some (kxs_mw "ValueError.__init__" e)) (hrest : rest.length ≤ sizeLine)
    (hq : ∀ h' t1, (∀ b o, b ≠ e → h.get? b = some o → h'.get? b = some o) → h'.get? e = some (excO C t1) → Q .none ⟨h', g, d, t, os⟩) :
    wpAny (model prog w) A (call (.ref u) rest) Q E ⟨h, g, d, t, os⟩ := by
  refine wpAny_call (codeAny_of_tree ?_)
  show wpAny _ A.in1 (callAny (.ref u) ⟨rest, []⟩) _ _ _
  simp only [callAny]
  refine wpAny_bind (wpAny_load hu ?_)
  simp only [kxs_mw, show (Value.type "method-wrapper" == Value.type "method" || Value.type "method-wrapper" == Value.type "builtin_function_or_method" || Value.type "method-wrapper" == Value.type "method-wrapper") = true by decide, if_true]
  refine KFB.if_so (by decide) ?_
  refine wpAny_bind (check_bound_init PySem.F.excBase_ValueError.toExcCallFacts hC he rfl ?_)
  refine wpAny_bind (wpAny_pure (wpAny_pure ?_))
  refine ⟨plainId_quiet PySem.F.excBase_ValueError.init.plain _, codeAny_builtin PySem.F.excBase_ValueError.initEntry ?_⟩
  exact exc_init_tree (cls := .ref C) (t0 := t0) (dv := none) (c2 := .none) (c3 := .none) (b4 := .bool false) he hrest fun h' k e' _ => hq h' _ k e'
theorem str_size (v : Value) : [v].length ≤ sizeLine := by
  rw [sizeLine_eq]
  exact (by decide : 1 ≤ 16777216)
theorem run_init {x0 : Str} {fs : List Str} (T : ErrTxt prog K mg x0 C fI fs) (hfs : fs.length ≤ 100) {s : Shared} {x t0 : Addr} {vs : List Value} (hl : vs.length = fs.length) (X : K.In s.heap) (hlim : s.heap.NoLimit) (hg : s.heap.Ns mainGlobals mg)
    (hb : ∃ mb, s.heap.Ns builtinsNs mb ∧ ∀ y : Str, y ≠ "__name__" → mb y = bootBuiltins y) (hx : s.heap.get? x = some (excO C t0)) (hnx : K.lookup x = none) (hroom : A.depth < recursionLimit)
    (hq : ∀ h' tk t1 dv, (∀ b o, b ≠ x → s.heap.get? b = some o → h'.get? b = some o) → h'.get? x = some (excD C t1 dv) → DictOf x s.heap.objs.size h' (fs.zip vs).reverse dv → R (.ok (.ret .none)) { s with heap := h', toks := tk }) :
    codeAny (model prog w) A (.call (.ref fI) ⟨.ref x :: vs, []⟩) R s := by
  obtain ⟨oc, od, qual, params, scope, rest, doc, pm, an, cda, ct, cc, osl, txt, j, p0, p1, p2, p3, p4, p5, ar, ccl, cdd, cvs, ccs, file, tf, cl, cld, csl, lf, hcd, lcd, hvs, hfile, lcc, heq, htop, hhd, hself, hk, hco, hgen, hcell, hks, hkc, hks1, hkf, nd, hasg, hbind⟩ := T.fn
  obtain ⟨nm, q, N, bs, bm, sn, sub, ab, col, dd, k0, k1, k2, k3, k5, hC, hbm⟩ := T.cls
  have hcl : clsIn K C = some { name := nm, bases := bs, mro := .ref C :: bm, ns := N, qualname := q, hasDict := true, slotNames := sn, subclasses := sub, abstract := ab, collection := col, hasDel := false } := by unfold clsIn; rw [hC] <;> rfl
  have hxn : s.heap.objs.size ≠ x := Nat.ne_of_gt (Heap.lt_size hx)
  have hal := T.al
  unfold ks_superIn at hal
  rw [hcl] at hal
  refine ks_codeAny_call_defAt (binds := ((("self" : Str) :: fs)).zip (.ref x :: vs)) hroom (X _ _ lf) rfl hlim (codeRec_of X hcd) rfl (BindsTo.of_eq (hbind _ (by simp [hl]))) hcell (fun y hy => ?_) (fun h1 hn1 k1' => ?_) hco hgen hk
  · have := (List.of_mem_zip (show (y.1, y.2) ∈ _ from hy)).1
    rcases List.mem_cons.mp this with e | e
    · rw [e]; exact hks1
    · exact hkf _ e
  obtain ⟨hp, g, d, tk, os⟩ := s
  dsimp only at *
  have X1 : K.In h1 := X.keeps k1'
  have hx1 := k1' _ _ hx
  have mself : (fun y => (((("self" : Str) :: fs)).zip (.ref x :: vs)).reverse.lookup y) "self" = some (Value.ref x) := by
    refine lookup_rev ?_ (by simp [List.zip_cons_cons, List.lookup])
    rw [List.map_fst_zip (by simp [hl])]
    exact nd
  have mfs : ∀ p ∈ fs.zip vs, (fun y => (((("self" : Str) :: fs)).zip (.ref x :: vs)).reverse.lookup y) p.1 = some p.2 ∧ (ksEnv qual scope hp.objs.size fI (.ref cda) cc).kindOf p.1 = some .local ∧ findIn K (.ref C) p.1 = some none := by
    intro p hp'
    have hpf := (List.of_mem_zip (show (p.1, p.2) ∈ _ from hp')).1
    refine ⟨lookup_rev ?_ ?_, hkf _ hpf, T.no _ hpf⟩
    · rw [List.map_fst_zip (by simp [hl])]
      exact nd
    · have key : ∀ (m : List (Str × Value)), (m.map (·.1)).Nodup → p ∈ m → m.lookup p.1 = some p.2 := by
        intro m
        induction m with
        | nil => intro _ h; cases h
        | cons r m ih =>
          intro nd h
          obtain ⟨y, u⟩ := r
          rw [List.map_cons, List.nodup_cons] at nd
          rcases List.mem_cons.mp h with e | e
          · rw [e]; simp [List.lookup]
          · have hne : (p.1 == y) = false := by
              rw [beq_eq_false_iff_ne]
              rintro rfl
              exact nd.1 (List.mem_map_of_mem (f := (·.1)) e)
            simp [List.lookup, hne]
            exact ih nd.2 e
      refine key _ ?_ (by rw [List.zip_cons_cons]; exact List.mem_cons_of_mem _ hp')
      rw [List.map_fst_zip (by simp [hl])]
      exact nd
  generalize hm : (fun y => (((("self" : Str) :: fs)).zip (.ref x :: vs)).reverse.lookup y) = m at hn1 mself mfs
  have J : InstAt h1 x (excO C t0) C none := ⟨hx1, rfl, rfl, trivial⟩
  obtain ⟨oD, hD1, hD2⟩ : ∃ oD, h1.get? C = some oD ∧ ∃ cd, oD.data = .cls cd := ⟨_, X1 _ _ hC, _, rfl⟩
  obtain ⟨cdD, hD2⟩ := hD2
  obtain ⟨mb, hb1, hb2⟩ := hb
  have hint : interactive (callEnv (ksFn "__init__" qual params (.Expr (.Call (.Attribute (.Call (.Name "super" p0) [] [] p1) "__init__" p2) [.Constant (.str txt) j p3] [] p4) p5 :: rest) scope .none .none doc pm an (.ref cda) ct cc) hp.objs.size fI) = false := by
    show (scope.kind == .module && _) = false
    rw [hk]
    rfl
  -- super().__init__('..')
  refine ks_wpAt_execs_cons (ks_wpAt_Expr_any (ks_wpAt_MethodCall ?_ (heq _)) hint)
  refine ks_wpAt_super_base (env := ksEnv qual scope hp.objs.size fI (.ref cda) cc) hks hkc (by decide) rfl (X1 _ _ lf) rfl hhd rfl (X1 _ _ lcd) rfl hvs hfile htop ?_
  refine ks_loadName_global hk hks (loadGlobal_builtin (env := ksEnv qual scope hp.objs.size fI (.ref cda) cc) (hg.keeps k1') T.gS (hb1.keeps k1') ((hb2 _ (by decide)).trans (by decide +kernel : bootBuiltins "super" = some (.type "super"))) ⟨rfl, ?_⟩)
  refine wpAny_loadName_free hk hkc rfl ⟨_, X1 _ _ lcc, rfl⟩ ?_
  rw [hself]
  refine wpAny_loadName_local hk hks1 hn1 mself ?_
  refine ks_wpAny_isType_cls hD1 hD2 ⟨rfl, ?_⟩
  refine ks_wpAny_call_super hD1 hD2 J.at_ J.cls (fun c e => ?_) (looks_mroIn X1 T.slf) (fun h2 hso k2 => ?_)
  · cases e
  have X2 : K.In h2 := X1.keeps k2
  have hx2 := k2 _ _ hx1
  have J2 : InstAt h2 x (excO C t0) C none := ⟨hx2, rfl, rfl, trivial⟩
  refine kxs_getMethod (l₀ := Value.ref C :: bm) kxs_ValueError hso (looks_opaque X2 T.op) ?_ rfl X2 hal (J2.type.andThen (looks_subIn X2 T.veC)) (fun z => by rw [z, hC] at hnx; cases hnx) (by decide) ?_
  · exact fun A Q E s k q => wpAny_bind ((looks_clsIn X2 hcl) A _ E s k (wpAny_pure q))
  have hmw : (h2.push (kxs_mw "ValueError.__init__" x)).get? h2.objs.size = some (kxs_mw "ValueError.__init__" x) := Heap.get?_push_at rfl rfl
  have k3' : ∀ b o, h2.get? b = some o → (h2.push (kxs_mw "ValueError.__init__" x)).get? b = some o := fun b o e => Heap.get?_push_of_some _ e
  refine kxs_callWith (i := "ValueError.__init__") (x := x) (by rfl) ?_
  refine evalArgs_plain (spliced_cons (Constant_str (k := j) (pos := p3) (spliced_nil ?_)))
  refine ⟨hmw, ?_⟩
  refine call_mw (k3' _ _ (X2 _ _ hC)) (k3' _ _ hx2) hmw (str_size _) fun h4 t4 k4 hx4 => ?_
  have kA : ∀ b o, b ≠ x → h1.get? b = some o → h4.get? b = some o := fun b o hb e => k4 b o hb (k3' b o (k2 b o e))
  have X4 : K.In h4 := fun a o e => kA a o (fun z => by rw [z, hnx] at e; cases e) (X1 a o e)
  have hnL : h4.Ns hp.objs.size m := by
    obtain ⟨o, es, ep, ho, r⟩ := hn1
    exact ⟨o, es, ep, kA _ o hxn ho, r⟩
  have hs4 : hp.objs.size < h4.objs.size := by
    obtain ⟨o, es, ep, ho, r⟩ := hnL
    exact Heap.lt_size ho
  refine wpAt_of_wpAny ?_
  refine run_asgs (env := ksEnv qual scope hp.objs.size fI (.ref cda) cc) (n := hp.objs.size + 1) (fl := []) (dv := none) (s := ⟨h4, g, d, _, os⟩) hcl (show refsVE (.ref C :: bm) = true from hbm) rfl T.sa hnx hk hks1 mself hxn (Nat.lt_succ_self _) hasg hl mfs (by simp; omega) X4 hnL hx4 hs4 rfl (fun dx e => nomatch e) ?_
  intro h' tk' dv' k' hx' hd'
  refine hq h' tk' t4 dv' (fun b o hb e => k' b o hb (fun z => nomatch z) (kA b o hb (k1' b o e))) hx' ?_
  rw [List.append_nil] at hd'
  cases hz : (fs.zip vs).reverse with
  | nil =>
    rw [hz] at hd'
    exact hd'
  | cons p r =>
    rw [hz] at hd'
    obtain ⟨dx, e, dn, r⟩ := hd'
    exact ⟨dx, e, Nat.le_of_succ_le dn, r⟩
/-- what is made by C(..) -/
structure Made (h h' : Heap) (e C : Addr) (dv : Option Addr) (fl : List (Str × Value)) : Prop where
  keep : ∀ b o, h.get? b = some o → h'.get? b = some o
  new : h.objs.size ≤ e
  obj : ∃ t1, h'.get? e = some (excD C t1 dv)
  dct : DictOf e h.objs.size h' fl dv
theorem run_made {x0 : Str} {fs : List Str} (T : ErrTxt prog K mg x0 C fI fs) (hfs : fs.length ≤ 100) {s : Shared} {vs : List Value} (hl : vs.length = fs.length) (X : K.In s.heap) (hlim : s.heap.NoLimit) (hg : s.heap.Ns mainGlobals mg)
    (hb : ∃ mb, s.heap.Ns builtinsNs mb ∧ ∀ y : Str, y ≠ "__name__" → mb y = bootBuiltins y) (hroom : A.depth + 1 < recursionLimit)
    (hq : ∀ h' tk e dv, Made s.heap h' e C dv (fs.zip vs).reverse → R (.ok (.ret (.ref e))) { s with heap := h', toks := tk }) :
    codeAny (model prog w) A (.call (.ref C) ⟨vs, []⟩) R s := by
  obtain ⟨nm, q, N, bs, bm, sn, sub, ab, col, dd, k0, k1, k2, k3, k5, hC, hbm⟩ := T.cls
  obtain ⟨hp, g, dr, tk, os⟩ := s
  have k : ∀ b o, hp.get? b = some o → ((hp.push (kdv_tup vs)).push (excO C hp.objs.size)).get? b = some o := fun b o e => Heap.get?_push_of_some _ (Heap.get?_push_of_some _ e)
  have hget : ((hp.push (kdv_tup vs)).push (excO C hp.objs.size)).get? (hp.objs.size + 1) = some (excO C hp.objs.size) := by heap_get
  have hnx : K.lookup (hp.objs.size + 1) = none := by
    cases e : K.lookup (hp.objs.size + 1) with
    | none => rfl
    | some o =>
      have z : hp.get? (hp.objs.size + 1) = some o := X _ _ e
      exact absurd (Nat.lt_of_succ_lt (Heap.lt_size z)) (Nat.lt_irrefl _)
  obtain ⟨mb, hb1, hb2⟩ := hb
  have hvl : vs.length ≤ sizeLine := by rw [hl, sizeLine_eq]; omega
  refine call_own PySem.F.excBase_ValueError (fun X => refsVE_contains X bm hbm) (X _ _ hC) (looks_findIn X T.iC) (fun self => bind_fn X self T.tC) hvl ?_
  refine run_init (s := ⟨(hp.push (kdv_tup vs)).push (excO C hp.objs.size), g, dr, tk, os⟩) T hfs hl (X.keeps k) (hlim.keeps k) (hg.keeps k) ⟨mb, hb1.keeps k, hb2⟩ hget hnx ?_ fun h' tk' t1 dv k' hx hd => ?_
  · show A.depth + 1 < recursionLimit
    exact hroom
  · have old : ∀ b o, hp.get? b = some o → h'.get? b = some o := fun b o e => k' b o (Nat.ne_of_lt (Nat.lt_succ_of_lt (Heap.lt_size e))) (k b o e)
    refine ⟨rfl, hq h' tk' (hp.objs.size + 1) dv ⟨old, Nat.le_succ _, ⟨_, hx⟩, ?_⟩⟩
    cases hz : (fs.zip vs).reverse with
    | nil =>
      rw [hz] at hd
      exact hd
    | cons p r =>
      rw [hz] at hd
      obtain ⟨dx, e, dn, r⟩ := hd
      refine ⟨dx, e, Nat.le_trans ?_ dn, r⟩
      simp only [Heap.size_push]
      exact Nat.le_trans (Nat.le_succ _) (Nat.le_succ _)
end
end ErrX
end PySem
namespace L2
open PySem PySem.Spec PyProof.Rows
theorem relO_zip {vs : List V} {us : List Value} (r : Vals vs us) : ∀ (fs : List Str), fs.length = vs.length → ∀ f, RelO ((fs.zip vs).lookup f) ((fs.zip us).lookup f) := by
  induction r with
  | nil => intro fs h f; simp; trivial
  | cons rv rr ih =>
    intro fs h f
    cases fs with
    | nil => cases h
    | cons g fs =>
      rw [List.zip_cons_cons, List.zip_cons_cons, lookup_put, PySem.ErrX.lookup_ite]
      by_cases e : f = g
      · rw [if_pos e, if_pos e]; exact rv
      · rw [if_neg e, if_neg e]; exact ih fs (by simpa using h) f
theorem vals_reverse {vs : List V} {us : List Value} (r : Vals vs us) : Vals vs.reverse us.reverse := by
  induction r with
  | nil => exact .nil
  | cons rv rr ih =>
    rw [List.reverse_cons, List.reverse_cons]
    exact Vals.append ih (.cons rv .nil)
section
variable {X : Cx} {C fI : Addr}
/-- C(e, ..), an own error with the fields fs -/
def errQ (C : Addr) (fs : List Str) (vs : List V) (H1 : Hp) (Q : XK) : Prop :=
  match fs with
  | [] => Q (.ref C) none H1
  | f :: r => ∀ d, H1 d = none → Q (.ref C) (some d) (upd H1 d (.xd ((f :: r).reverse.zip vs.reverse)))
def tMkErr (C : Addr) (fs : List Str) (ta : TA) : St → Hp → XK → Prop := fun σ H Q => ta σ H fun vs H1 => vs.length = fs.length ∧ errQ C fs vs H1 Q
theorem mk_err_end {x0 : Str} {fs : List Str} {pins : List (Addr × Obj)} {σ : St} {H1 : Hp} {Q : XK} {s1 : Shared} {us : List Value} {vs : List V} (T : PySem.ErrX.ErrTxt X.prog X.K X.mg x0 C fI fs) (hfs : fs.length ≤ 100) {k : Nat} (hr : Room k X.A)
    (I1 : Inv X pins σ H1 s1) (r1 : Vals vs us) (hl : vs.length = fs.length) (q : errQ C fs vs H1 Q) :
    wpAny (model X.prog X.w) X.A (call (.ref C) us) (MkP X pins σ Q) X.xe s1 := by
  have hlim := I1.nolimit
  obtain ⟨mb, hb1, hb2⟩ := I1.mod.blt
  have hul : us.length = fs.length := by rw [← r1.length]; exact hl
  obtain ⟨hp, g, dr, tk, os⟩ := s1
  refine wpAny_call (PySem.ErrX.run_made (A := X.A) T hfs hul I1.kIn hlim (I1.mod.glob.keeps I1.bk) ⟨mb, hb1.keeps I1.bk, hb2⟩ (by have := hr.dp; omega) fun h' tk' e dv M => ?_)
  show MkP X pins σ Q (.ref e) ⟨h', g, dr, tk', os⟩
  obtain ⟨t1, hoe⟩ := M.obj
  have hzip : (fs.zip us).reverse = fs.reverse.zip us.reverse := by
    have hz := List.reverse_zipWith (f := Prod.mk) (l := fs) (l' := us) (by rw [hul])
    simpa [List.zip] using hz
  have hd := M.dct
  rw [hzip] at hd
  cases fs with
  | nil =>
    have e0 : dv = none := by simpa [PySem.ErrX.DictOf] using hd
    subst e0
    obtain ⟨G', g1, g2⟩ := restrict h' fun b => decide (b ≠ e)
    have gk : ∀ b, b ≠ e → G'.get? b = h'.get? b := fun b hb => g1 b (decide_eq_true hb)
    have ge : G'.get? e = none := g2 e (by simp)
    have old : ∀ b o, hp.get? b = some o → G'.get? b = some o := fun b o q => (gk b (Nat.ne_of_lt (Nat.lt_of_lt_of_le (Heap.lt_size q) M.new))).trans (M.keep b o q)
    have J : Inv X pins σ H1 ⟨G', g, dr, tk', os⟩ := I1.kept (t' := tk') old
    refine ⟨e, _, _, ⟨G', g, dr, tk', os⟩, _, .ref C, none, rfl, J, fun b o q => ?_, ge, hoe, ⟨rfl, rfl⟩, rfl, rfl, I1.hok.fresh M.new, rfl, I1.bare, raises_own T.exC T.tyC, q⟩
    by_cases hb : b = e
    · have q' : G'.get? b = some o := q
      rw [hb, ge] at q'; cases q'
    · exact (gk b hb).symm.trans q
  | cons f fs =>
    have hne : ∃ p r, (f :: fs).reverse.zip us.reverse = p :: r := by
      cases hz : (f :: fs).reverse.zip us.reverse with
      | nil =>
        have := congrArg List.length hz
        rw [List.length_zip, List.length_reverse, List.length_reverse, hul] at this
        simp at this
      | cons p r => exact ⟨p, r, rfl⟩
    obtain ⟨p, r, hne⟩ := hne
    rw [hne] at hd
    obtain ⟨d, e0, dn, dne, mA, hns, hmA⟩ := hd
    subst e0
    rw [← hne] at hmA
    obtain ⟨G', g1, g2⟩ := restrict h' fun b => decide (b ≠ e)
    have gk : ∀ b, b ≠ e → G'.get? b = h'.get? b := fun b hb => g1 b (decide_eq_true hb)
    have ge : G'.get? e = none := g2 e (by simp)
    have old : ∀ b o, hp.get? b = some o → G'.get? b = some o := fun b o q => (gk b (Nat.ne_of_lt (Nat.lt_of_lt_of_le (Heap.lt_size q) M.new))).trans (M.keep b o q)
    have ob : ObjOk X.prog X.w (upd H1 d (.xd ((f :: fs).reverse.zip vs.reverse))) G' d (.xd ((f :: fs).reverse.zip vs.reverse)) :=
      ⟨mA, hns.at (fun o q => (gk d dne).trans q), fun y => by rw [hmA y]; exact relO_zip (vals_reverse r1) _ (by rw [List.length_reverse, List.length_reverse, hl]) y⟩
    have J : Inv X pins σ (upd H1 d (.xd ((f :: fs).reverse.zip vs.reverse))) ⟨G', g, dr, tk', os⟩ := I1.laid (t' := tk') old dn ob
    refine ⟨e, _, _, ⟨G', g, dr, tk', os⟩, _, .ref C, some d, rfl, J, fun b o q => ?_, ge, hoe, ⟨rfl, rfl⟩, rfl, rfl, ?_, rfl, I1.bare, raises_own T.exC T.tyC, q d (I1.hok.fresh dn)⟩
    · by_cases hb : b = e
      · have q' : G'.get? b = some o := q
        rw [hb, ge] at q'; cases q'
      · exact (gk b hb).symm.trans q
    · rw [upd_ne (Ne.symm dne)]
      exact I1.hok.fresh M.new
theorem pmk_err {x0 : Str} {fs : List Str} {a : Expr} {es : List Expr} {ta : TA} {p pos : Pos} {k : Nat} (T : PySem.ErrX.ErrTxt X.prog X.K X.mg x0 C fI fs) (hfs : fs.length ≤ 100) (hr : Room k X.A) (ha : PA X (a :: es) ta) (hg : Gl X x0 := by rfl) (hdb : (x0 == ("__debug__" : Str)) = false := by decide)
    (he : starEach (a :: es) X.env = (false, eval a X.env) :: starEach es X.env := by rfl) (hpl : (backTo pos (starEach es X.env)).any (·.1) = false := by rfl) :
    PMk X (.Call (.Name x0 p) (a :: es) [] pos) (tMkErr C fs ta) := by
  intro pins s σ H Q I h
  refine wpAny_Call_Name_kw (ld_glob I hg T.gC ?_ hdb)
  refine PySem.W.callWith_K (h₀ := X.base) I.ok.mod.kin T.kC (thn (ha.run pos pins s σ H _ I h) fun us s1 hh => ?_) he hpl
  obtain ⟨vs, H1, I1, r1, hl, q⟩ := hh
  exact ⟨I1.kIn, mk_err_end T hfs hr I1 r1 hl q⟩
theorem pmk_err0 {x0 : Str} {p pos : Pos} {k : Nat} (T : PySem.ErrX.ErrTxt X.prog X.K X.mg x0 C fI []) (hr : Room k X.A) (hg : Gl X x0 := by rfl) (hdb : (x0 == ("__debug__" : Str)) = false := by decide) :
    PMk X (.Call (.Name x0 p) [] [] pos) (tMkErr C [] tNil) := by
  intro pins s σ H Q I h
  obtain ⟨hl, q⟩ := h
  refine wpAny_Call_Name_kw (ld_glob I hg T.gC ?_ hdb)
  exact PySem.W.callWith_K0 I.kIn T.kC (mk_err_end (us := []) (vs := []) T (Nat.zero_le _) hr I .nil rfl q)
end
end L2

set_option Elab.async false
set_option linter.all false
set_option maxRecDepth 100000
set_option maxHeartbeats 4000000
/-! Calls, makings and operators by defs of one's own, each as one rule. -/
namespace MyL
open PySem PySem.Spec PyProof.Rows L2
/-- a def of the module by its name -/
structure Cal (P : Program) (w : World) (K : PySem.W.Frag) (mg : Str → Option Value) (base : Heap) (k : Nat) (x : Str) (sp : Sp) : Prop where
  ex : ∃ (f : Addr) (fd : FuncData) (ps : List Str), mg x = some (.ref f) ∧ PySem.W.keepIn K (.ref f) = true ∧ Binds K fd ps [] ∧ FnOk P w K mg base (L2.CX P w) k f fd ps sp
/-- a class of the module by its name, made by its __init__ -/
structure Mak (P : Program) (w : World) (K : PySem.W.Frag) (mg : Str → Option Value) (base : Heap) (k : Nat) (x : Str) (C : Addr) (sp : Sp) : Prop where
  ex : ∃ (f : Addr) (fd : FuncData) (ps : List Str), mg x = some (.ref C) ∧ Mk K C f ∧ Binds K fd ps [] ∧ FnOk P w K mg base (L2.CX P w) k f fd ps sp
/-- a method of the class at C -/
structure Met (P : Program) (w : World) (K : PySem.W.Frag) (mg : Str → Option Value) (base : Heap) (k : Nat) (C : Addr) (m : Str) (sp : Sp) : Prop where
  ex : ∃ (f : Addr) (fd : FuncData) (ps : List Str), Cls K C ∧ Meth K C m f ∧ Binds K fd ps [] ∧ FnOk P w K mg base (L2.CX P w) k f fd ps sp
section
variable {P : Program} {w : World} {K : PySem.W.Frag} {mg : Str → Option Value} {base : Heap} {k : Nat} {x m : Str} {C : Addr} {sp : Sp}
theorem raw0 {CX : CXT} {f : Addr} {fd : FuncData} {ps : List Str} (F : FnOk P w K mg base CX k f fd ps sp) (hb : Binds K fd ps []) : FnR P w K mg base CX k f sp := by
  have h := F.raw hb (dvs := []) .nil
  intro A outer s H us vs Q E hr e0 r hs
  exact h A outer s H us vs Q E hr e0 r (by show sp (vs ++ []) H Q E; rw [List.append_nil]; exact hs)
end
section
variable {X : Cx} {W : WX} {pins : List (Addr × Obj)} {σ : L2.St} {H : Hp} {s : Shared} {k : Nat} {f C : Addr} {sp : Sp} {Q : VK} {us : List Value} {vs : List V}
/-- the callee runs below the running body, what it raises goes to W -/
theorem run_S {A : Around} (F : FnR X.prog X.w X.K X.mg X.base (L2.CX X.prog X.w) k f sp) (tk : Takes X W) (hr : Room k A) (e0 : Env0 X.prog X.w X.K X.mg X.base A X.stack s H) (I : Inv X pins σ H s) (r : Vals vs us) (h : sp vs H Q (WE W σ)) :
    codeAny (model X.prog X.w) A (.call (.ref f) ⟨us, []⟩) (fun r s' => match r with | .ok (.ret v) => EP X pins σ Q v s' | .ok _ => False | .error e => X.xe e s') s := by
  refine codeAny_mono (F A X.stack s H us vs Q (WE W σ) hr e0 r h) fun r s' hq => ?_
  match r, hq with
  | .error e, hq => exact passAt tk σ pins H s e s' I hq
  | .ok (.ret u), hq => exact I.after hq
  | .ok .next, hq => exact hq.elim
  | .ok .brk, hq => exact hq.elim
  | .ok .cont, hq => exact hq.elim
/-- C(..) with what __init__ raises going to W -/
theorem make_S {fd : FuncData} {ps : List Str} (M : Mk X.K C f) (F : FnOk X.prog X.w X.K X.mg X.base (L2.CX X.prog X.w) k f fd ps sp) (tk : Takes X W) (hr : Room (k + 1) X.A) (hb : Binds X.K fd ps []) (I : Inv X pins σ H s) (r : Vals vs us)
    (h : ∀ x dx, H x = none → H dx = none → dx ≠ x → sp (.ref x :: vs) (upd (upd H dx (.own x)) x (.ins C dx [])) (fun v H2 => v = .non ∧ Q (.ref x) H2) (WE W σ)) :
    wpAny (model X.prog X.w) X.A (call (.ref C) us) (EP X pins σ Q) X.xe s := by
  have hq := h (s.heap.objs.size + 1) s.heap.objs.size (I.hok.fresh (Nat.le_succ _)) (I.hok.fresh (Nat.le_refl _)) (Nat.ne_of_lt (Nat.lt_succ_self _))
  have I2 := Inv.made (C := C) I
  have r2 : Vals (V.ref (s.heap.objs.size + 1) :: vs) (Value.ref (s.heap.objs.size + 1) :: us) := .cons rfl r
  have hl : (Value.ref (s.heap.objs.size + 1) :: us ++ []).length = ps.length := by
    rw [List.append_nil, ← r2.length]; exact F.len _ _ _ _ hq
  have hbd := hb _ (Value.ref (s.heap.objs.size + 1) :: us) I2.kIn hl
  rw [List.append_nil] at hbd
  refine wpAny_call (make_map (f := f) I.kIn M.makes M.init (beq_iff_eq.mp M.fn) (codeAny_mono (F.run _ X.stack _ _ ⟨Value.ref (s.heap.objs.size + 1) :: us, []⟩ _ _ _ (WE W σ) (hr.make C us [])
    (I2.env0.make C us []) hbd r2 hq) fun r s' hq' => ?_))
  match r, hq' with
  | .error e, hq' => exact passAt tk σ pins _ _ e s' I2 hq'
  | .ok (.ret u), hq' =>
    obtain ⟨v, H', I3, rv, ev, q3⟩ := I2.after hq'
    subst ev
    exact ⟨rv, ⟨V.ref (s.heap.objs.size + 1), H', I3, rfl, q3⟩⟩
  | .ok .next, hq' => exact hq'.elim
  | .ok .brk, hq' => exact hq'.elim
  | .ok .cont, hq' => exact hq'.elim
end
/-! ### the rules -/
def tMakeS (C : Addr) (sp : Sp) (W : WX) (t : TA) : TE := fun σ H Q => t σ H fun vs H1 => ∀ x dx, H1 x = none → H1 dx = none → dx ≠ x → sp (.ref x :: vs) (upd (upd H1 dx (.own x)) x (.ins C dx [])) (fun v H2 => v = .non ∧ Q (.ref x) H2) (WE W σ)
def tMethS (C : Addr) (m : Str) (sp : Sp) (W : WX) (ta : TE) (t : TA) : TE := fun σ H Q => ta σ H fun x H1 => ∃ a dx fs, x = .ref a ∧ H1 a = some (.ins C dx fs) ∧ fs.lookup m = none ∧ t σ H1 fun vs H2 => sp (.ref a :: vs) H2 Q (WE W σ)
section
variable {X : Cx} {W : WX} {k j : Nat} {C : Addr} {sp : Sp} {x m : Str} {p pos apos : Pos} {e o : Expr} {es : List Expr} {ta : TE} {t : TA}
theorem c_call (c : Cal X.prog X.w X.K X.mg X.base k x sp) (tk : Takes X W) (hr : Room j X.A) (hk : k ≤ j) (ha : PA X (e :: es) t) (hg : Gl X x := by rfl)
    (hdb : (x == ("__debug__" : Str)) = false := by decide) (he : starEach (e :: es) X.env = (false, eval e X.env) :: starEach es X.env := by rfl) (hpl : (backTo pos (starEach es X.env)).any (·.1) = false := by rfl) :
    PE X (.Call (.Name x p) (e :: es) [] pos) (tCallS sp (WE W) t) := by
  obtain ⟨f, fd, ps, hm, kp, b, F⟩ := c.ex
  exact pe_callS F (hr.mono hk) hg hm kp b (fun σ => passAt tk σ) ha hdb he hpl
theorem c_call0 (c : Cal X.prog X.w X.K X.mg X.base k x sp) (tk : Takes X W) (hr : Room j X.A) (hk : k ≤ j) (hg : Gl X x := by rfl)
    (hdb : (x == ("__debug__" : Str)) = false := by decide) : PE X (.Call (.Name x p) [] [] pos) (tCallS sp (WE W) tNil) := by
  obtain ⟨f, fd, ps, hm, kp, b, F⟩ := c.ex
  refine ⟨fun pins s σ H Q I h => ?_⟩
  exact wpAny_Call_Name_kw (ld_glob I hg hm (PySem.W.callWith_K0 I.kIn kp (run_fnS (E := WE W) (us := []) F (hr.mono hk) b (passAt tk σ) I .nil h)) hdb)
theorem c_make (c : Mak X.prog X.w X.K X.mg X.base k x C sp) (tk : Takes X W) (hr : Room j X.A) (hk : k + 1 ≤ j) (ha : PA X (e :: es) t) (hg : Gl X x := by rfl)
    (hdb : (x == ("__debug__" : Str)) = false := by decide) (he : starEach (e :: es) X.env = (false, eval e X.env) :: starEach es X.env := by rfl) (hpl : (backTo pos (starEach es X.env)).any (·.1) = false := by rfl) :
    PE X (.Call (.Name x p) (e :: es) [] pos) (tMakeS C sp W t) := by
  obtain ⟨f, fd, ps, hm, M, b, F⟩ := c.ex
  refine ⟨fun pins s σ H Q I h => ?_⟩
  refine wpAny_Call_Name_kw (ld_glob I hg hm ?_ hdb)
  refine PySem.W.callWith_K (h₀ := X.base) I.ok.mod.kin M.kp (thn (ha.run pos pins s σ H _ I h) fun us s1 hh => ?_) he hpl
  obtain ⟨vs, H1, I1, r, q⟩ := hh
  exact ⟨I1.kIn, make_S M F tk (hr.mono hk) b I1 r q⟩
theorem c_meth {pl : Sem Bool} (c : Met X.prog X.w X.K X.mg X.base k C m sp) (tk : Takes X W) (hr : Room j X.A) (hk : k ≤ j) (ho : PE X o ta) (ha : PA X (e :: es) t)
    (hst : starEach (e :: es) X.env = (false, eval e X.env) :: starEach es X.env := by rfl) (hpl : (backTo pos (starEach es X.env)).any (·.1) = false := by rfl)
    (ht : eval (.Call (.Attribute o m apos) (e :: es) [] pos) X.env = (do
      let ov ← eval o X.env
      standAt apos.atName
      let (f, first) ← holding [ov] (getMethod ov m pl)
      callWith pos f first (backTo pos (starEach (e :: es) X.env)) (backToKw pos (keywordEach [] X.env))) := by rfl) :
    PE X (.Call (.Attribute o m apos) (e :: es) [] pos) (tMethS C m sp W ta t) := by
  obtain ⟨f, fd, ps, cl, hm, b, F⟩ := c.ex
  refine ⟨fun pins s σ H Q I h => ?_⟩
  refine PySem.W.methodCall_KW (pl := pl) (thn (ho.run pins s σ H _ I h) fun u s1 hh => ?_) ht
  obtain ⟨x, H1, I1, rx, a, dx, fs, ex, ea, l, q⟩ := hh
  subst ex
  obtain rfl : u = Value.ref a := rx
  refine getmeth_ok I1 ea cl hm l ?_
  refine PySem.W.callWith_K (first := [.ref a]) (h₀ := X.base) I.ok.mod.kin hm.kp (thn (ha.run pos pins s1 σ H1 _ I1 q) fun us s2 hh => ?_) hst hpl
  obtain ⟨vs, H2, I2, r, q2⟩ := hh
  exact ⟨I2.kIn, run_fnS (E := WE W) (us := .ref a :: us) (vs := .ref a :: vs) F (hr.mono hk) b (passAt tk σ) I2 (.cons rfl r) q2⟩
theorem c_meth0 {pl : Sem Bool} (c : Met X.prog X.w X.K X.mg X.base k C m sp) (tk : Takes X W) (hr : Room j X.A) (hk : k ≤ j) (ho : PE X o ta)
    (ht : eval (.Call (.Attribute o m apos) [] [] pos) X.env = (do
      let ov ← eval o X.env
      standAt apos.atName
      let (f, first) ← holding [ov] (getMethod ov m pl)
      callWith pos f first (backTo pos (starEach [] X.env)) (backToKw pos (keywordEach [] X.env))) := by rfl) :
    PE X (.Call (.Attribute o m apos) [] [] pos) (tMethS C m sp W ta tNil) := by
  obtain ⟨f, fd, ps, cl, hm, b, F⟩ := c.ex
  refine ⟨fun pins s σ H Q I h => ?_⟩
  refine PySem.W.methodCall_KW (pl := pl) (thn (ho.run pins s σ H _ I h) fun u s1 hh => ?_) ht
  obtain ⟨x, H1, I1, rx, a, dx, fs, ex, ea, l, q⟩ := hh
  subst ex
  obtain rfl : u = Value.ref a := rx
  refine getmeth_ok I1 ea cl hm l ?_
  exact PySem.W.callWith_K0 (first := [.ref a]) I1.kIn hm.kp (run_fnS (E := WE W) (us := [.ref a]) (vs := [.ref a]) F (hr.mono hk) b (passAt tk σ) I1 (.cons rfl .nil) q)
end
/-! ### operators by own methods -/
/-- the class at C has the def for the special name at f -/
structure Spc (P : Program) (w : World) (K : PySem.W.Frag) (mg : Str → Option Value) (base : Heap) (k : Nat) (C : Addr) (m : Str) (sp : Sp) : Prop where
  ex : ∃ f : Addr, PySem.W.findIn K (.ref C) m = some (some (.ref f)) ∧ PySem.W.isFn K (.ref f) = true ∧ FnR P w K mg base (L2.CX P w) k f sp
/-- a + n and the like, n a whole number -/
structure NumC (K : PySem.W.Frag) (C : Addr) (op : Operator) : Prop where
  sf : PySem.W.selfFirst K C = true
  r : PySem.W.findIn K (.ref C) (dunderR op.info.2) = some none
  it : PySem.W.subIn K (.type "int") (.ref C) = some false
  i1 : ∃ fo, PySem.W.findIn K (.type "int") (PySem.dunder op.info.2) = some fo
  i2 : ∃ ro, PySem.W.findIn K (.type "int") (dunderR op.info.2) = some ro
def tOwnN (C : Addr) (sp : Sp) (W : WX) (ta tb : TE) : TE := fun σ H Q => ta σ H fun x H1 => tb σ H1 fun y H2 => ∃ a dx fs j, x = .ref a ∧ y = .int j ∧ H2 a = some (.ins C dx fs) ∧ sp [.ref a, .int j] H2 Q (WE W σ)
def tOwnO (C : Addr) (sp : Sp) (W : WX) (ta tb : TE) : TE := fun σ H Q => ta σ H fun x H1 => tb σ H1 fun y H2 => ∃ a dx fs b dy gs, x = .ref a ∧ y = .ref b ∧ H2 a = some (.ins C dx fs) ∧ H2 b = some (.ins C dy gs) ∧ sp [.ref a, .ref b] H2 Q (WE W σ)
def rOwnEq (C : Addr) (sp : Sp) : R2 := fun x y H Q => ∃ a dx fs b dy gs, x = .ref a ∧ y = .ref b ∧ H a = some (.ins C dx fs) ∧ H b = some (.ins C dy gs) ∧ sp [.ref a, .ref b] H (fun v H' => ∃ c, v = .bl c ∧ Q v H') (fun _ _ _ => False)
def rOwnIn (C : Addr) (sp : Sp) : R2 := fun y x H Q => ∃ a dx fs, x = .ref a ∧ H a = some (.ins C dx fs) ∧ sp [.ref a, y] H (fun v H' => ∃ c, v = .bl c ∧ Q v H') (fun _ _ _ => False)
def rOwnU (C : Addr) (sp : Sp) : V → Hp → VK → Prop := fun x H Q => ∃ a dx fs, x = .ref a ∧ H a = some (.ins C dx fs) ∧ sp [.ref a] H Q (fun _ _ _ => False)
def rOwnStr (C : Addr) (sp : Sp) : List V → Hp → VK → Prop := fun xs H Q => ∃ a dx fs, xs = [.ref a] ∧ H a = some (.ins C dx fs) ∧ sp [.ref a] H (fun v H' => ∃ z, v = .str z ∧ Q v H') (fun _ _ _ => False)
section
variable {X : Cx} {W : WX} {k j : Nat} {C : Addr} {sp : Sp} {a b : Expr} {ta tb : TE} {pos : Pos}
theorem c_opN {op : Operator} (c : Spc X.prog X.w X.K X.mg X.base k C (PySem.dunder op.info.2) sp) (n : NumC X.K C op) (tk : Takes X W) (hr : Room j X.A) (hk : k ≤ j) (ha : PE X a ta) (hb : PE X b tb) : PE X (.BinOp a op b pos) (tOwnN C sp W ta tb) := by
  obtain ⟨f, hs, hf, F⟩ := c.ex
  obtain ⟨fo, h1⟩ := n.i1
  obtain ⟨ro, h2⟩ := n.i2
  refine ⟨fun pins s σ H Q I h => wpAny_BinOp (binT ha hb I h fun v u s2 x y H2 I2 rx ry q => ?_)⟩
  obtain ⟨p, dx, fs, i, rfl, rfl, hp, hsp⟩ := q
  obtain rfl : v = Value.ref p := rx
  obtain ⟨t, rfl⟩ := ry
  obtain ⟨mA, J, _⟩ := ins_get I2.hok hp
  obtain ⟨od, J, _⟩ := J.look
  obtain ⟨m, hF⟩ := I2.fr
  refine PySem.W.ksp_binT (T := "int") (rc := none) hF I2.ok.mod.kin J rfl n.sf hs hf n.r (.inl rfl) h1 h2 n.it ?_
  refine wpAny_mono (wpAny_call (run_S (us := [.ref p, .int i t]) (vs := [.ref p, .int i]) F tk (hr.mono hk) I2.env0 I2 (.cons rfl (.cons ⟨t, rfl⟩ .nil)) hsp)) (fun w s' z => ?_) fun _ _ x => x
  obtain ⟨z', H', I', rz, qz⟩ := z
  exact SlX.cmpback rz ⟨z', H', I', rz, qz⟩
theorem c_opO {op : Operator} (c : Spc X.prog X.w X.K X.mg X.base k C (PySem.dunder op.info.2) sp) (sf : PySem.W.selfFirst X.K C = true) (tk : Takes X W) (hr : Room j X.A) (hk : k ≤ j) (ha : PE X a ta) (hb : PE X b tb) : PE X (.BinOp a op b pos) (tOwnO C sp W ta tb) := by
  obtain ⟨f, hs, hf, F⟩ := c.ex
  refine ⟨fun pins s σ H Q I h => wpAny_BinOp (binT ha hb I h fun v u s2 x y H2 I2 rx ry q => ?_)⟩
  obtain ⟨p, dx, fs, p2, dy, gs, rfl, rfl, hp, hp2, hsp⟩ := q
  obtain rfl : v = Value.ref p := rx
  obtain rfl : u = Value.ref p2 := ry
  obtain ⟨mA, J, _⟩ := ins_get I2.hok hp
  obtain ⟨od, J, _⟩ := J.look
  obtain ⟨mB, J', _⟩ := ins_get I2.hok hp2
  obtain ⟨od', J', _⟩ := J'.look
  obtain ⟨m, hF⟩ := I2.fr
  refine PySem.W.binop_K hF I2.ok.mod.kin J J'.type sf hs hf ?_
  refine wpAny_mono (wpAny_call (run_S (us := [.ref p, .ref p2]) (vs := [.ref p, .ref p2]) F tk (hr.mono hk) I2.env0 I2 (.cons rfl (.cons rfl .nil)) hsp)) (fun w s' z => ?_) fun _ _ x => x
  obtain ⟨z', H', I', rz, qz⟩ := z
  exact SlX.cmpback rz ⟨z', H', I', rz, qz⟩
theorem c_eq (c : Spc X.prog X.w X.K X.mg X.base k C "__eq__" sp) (hr : Room j X.A) (hk : k ≤ j) : OpR X (compareOp .Eq) (rOwnEq C sp) := by
  intro pins s σ H x y v u Q I rx ry h
  obtain ⟨f, hs, hf, F⟩ := c.ex
  obtain ⟨p, dx, fs, p2, dy, gs, rfl, rfl, hp, hp2, hsp⟩ := h
  obtain rfl : v = Value.ref p := rx
  obtain rfl : u = Value.ref p2 := ry
  obtain ⟨mA, J, _⟩ := ins_get I.hok hp
  obtain ⟨od, J, _⟩ := J.look
  obtain ⟨mB, J', _⟩ := ins_get I.hok hp2
  obtain ⟨od', J', _⟩ := J'.look
  obtain ⟨m, hF⟩ := I.fr
  show wpAny _ _ (richCompare .Eq (.ref p) (.ref p2)) _ _ _
  refine PySem.W.cmp_K (op := .Eq) (tb := .ref C) hr.units0 hF I.ok.mod.kin J J'.type (by simp [PySem.W.notFirst]) hs hf ?_
  refine wpAny_mono (wpAny_call (run_S (W := fun _ _ _ _ => False) (us := [.ref p, .ref p2]) (vs := [.ref p, .ref p2]) F takes0 (hr.mono hk) I.env0 I (.cons rfl (.cons rfl .nil)) hsp)) (fun w s' z => ?_) fun _ _ x => x
  obtain ⟨z', H', I', rz, c, ec, qz⟩ := z
  exact SlX.cmpback rz ⟨z', H', I', rz, qz⟩
theorem c_in (c : Spc X.prog X.w X.K X.mg X.base k C "__contains__" sp) (hr : Room j X.A) (hk : k ≤ j) : OpR X (compareOp .In) (rOwnIn C sp) := by
  intro pins s σ H y x u v Q I ry rx h
  obtain ⟨f, hs, hf, F⟩ := c.ex
  obtain ⟨p, dx, fs, rfl, hp, hsp⟩ := h
  obtain rfl : v = Value.ref p := rx
  obtain ⟨mA, J, _⟩ := ins_get I.hok hp
  obtain ⟨od, J, _⟩ := J.look
  obtain ⟨m, hF⟩ := I.fr
  refine PySem.W.in_K hF I.ok.mod.kin J hs hf ?_
  refine wpAny_mono (wpAny_call (run_S (W := fun _ _ _ _ => False) (us := [.ref p, u]) (vs := [.ref p, y]) F takes0 (hr.mono hk) I.env0 I (.cons rfl (.cons ry .nil)) hsp)) (fun w s' z => ?_) fun _ _ x => x
  obtain ⟨z', H', I', rz, c, ec, qz⟩ := z
  subst ec
  obtain rfl : w = Value.bool c := rz
  exact wpAny_truthy_bool ⟨.bl c, H', I', rfl, qz⟩
theorem c_neg (c : Spc X.prog X.w X.K X.mg X.base k C "__neg__" sp) (hr : Room j X.A) (hk : k ≤ j) : UnR X (unaryOp .USub) (rOwnU C sp) := by
  intro pins s σ H x v Q I rx h
  obtain ⟨f, hs, hf, F⟩ := c.ex
  obtain ⟨p, dx, fs, rfl, hp, hsp⟩ := h
  obtain rfl : v = Value.ref p := rx
  obtain ⟨mA, J, _⟩ := ins_get I.hok hp
  obtain ⟨od, J, _⟩ := J.look
  obtain ⟨m, hF⟩ := I.fr
  exact PySem.W.ksp_neg hF I.ok.mod.kin J hs hf (wpAny_call (run_S (W := fun _ _ _ _ => False) (us := [.ref p]) (vs := [.ref p]) F takes0 (hr.mono hk) I.env0 I (.cons rfl .nil) hsp))
theorem c_str (c : Spc X.prog X.w X.K X.mg X.base k C "__str__" sp) (hr : Room j X.A) (hk : k + 2 ≤ j) : CallR X (.type "str") (rOwnStr C sp) := by
  intro pins s σ H xs us Q I r h
  obtain ⟨f, hs, hf, F⟩ := c.ex
  obtain ⟨p, dx, fs, rfl, hp, hsp⟩ := h
  obtain ⟨u, rfl, ru⟩ := r.one
  obtain rfl : u = Value.ref p := ru
  obtain ⟨mA, J, _⟩ := ins_get I.hok hp
  obtain ⟨od, J, _⟩ := J.look
  have hr2 : Room k X.A.in1.in1 := (show Room (k + 1) X.A.in1 from Room.in1 (hr.mono hk)).in1
  refine PySem.W.kso_call hr2.units0 I.kIn J hs hf ?_
  refine wpAny_mono (wpAny_call (run_S (W := fun _ _ _ _ => False) (us := [.ref p]) (vs := [.ref p]) F takes0 hr2 I.env0.in1.in1 I (.cons rfl .nil) hsp)) (fun w s' z => ?_) fun _ _ x => x
  obtain ⟨z', H', I', rz, y, ey, qz⟩ := z
  subst ey
  obtain ⟨t, rfl⟩ := rz
  exact ⟨.str y, H', I', ⟨t, rfl⟩, qz⟩
end
end MyL

set_option Elab.async false
set_option linter.all false
set_option maxRecDepth 100000
set_option maxHeartbeats 4000000
/-! Defs that raise nothing and run whatever is handled; isinstance of a caught error. -/
namespace MyL
open PySem PySem.Spec PyProof.Rows L2
/-- a def that lets nothing out, wherever it is called -/
def FnQ (P : Program) (w : World) (K : PySem.W.Frag) (mg : Str → Option Value) (base : Heap) (k : Nat) (f : Addr) (sp : Sp) : Prop :=
  ∀ (A : Around) (outer : List Env) (s : Shared) (H : Hp) (us : List Value) (vs : List V) (Q : VK), L2H.RoomH k A → Env0 P w K mg base A outer s H → Vals vs us → sp vs H Q (fun _ _ _ => False) →
    codeAny (model P w) A (.call (.ref f) ⟨us, []⟩) (CR (fun _ _ _ _ _ _ => False) outer P w H s Q (fun _ _ _ => False)) s
structure CalQ (P : Program) (w : World) (K : PySem.W.Frag) (mg : Str → Option Value) (base : Heap) (k : Nat) (x : Str) (sp : Sp) : Prop where
  ex : ∃ f : Addr, mg x = some (.ref f) ∧ PySem.W.keepIn K (.ref f) = true ∧ FnQ P w K mg base k f sp
def cxQ (P : Program) (w : World) (K : PySem.W.Frag) (mg : Str → Option Value) (base : Heap) (N : List Str) (qual : Str) (scope : Scope) (f : Addr) (cd : Value) (A : Around) (outer : List Env) (s : Shared) (H : Hp) : Cx :=
  { cxOf (fun _ _ _ _ _ _ => False) P w K mg base N qual scope f cd A outer s H (fun _ _ _ => False) with calm := false, xe := fun _ _ => False }
theorem inv_startQ {P : Program} {w : World} {K : PySem.W.Frag} {mg : Str → Option Value} {base : Heap} {N ps : List Str} {qual : Str} {scope : Scope} {f : Addr} {cd : Value} {A : Around} {outer : List Env} {s s1 : Shared} {H : Hp} {us : List Value} {vs : List V}
    (S : FnScope N ps scope) (e0 : Env0 P w K mg base A outer s H) (hl : vs.length = ps.length) (r : Vals vs us)
    (x : InCallC s s.heap.objs.size (bindL (envOfC qual scope s.heap.objs.size f cd).kindOf (ps.zip us) fun _ => none) (cellsFrom (s.heap.objs.size + 1) scope.names []) (bindC (envOfC qual scope s.heap.objs.size f cd).kindOf (ps.zip us) fun _ => none) s1) :
    Inv (cxQ P w K mg base N qual scope f cd A outer s H) [] (start N vs) H s1 := by
  have I := inv_start (CX := fun _ _ _ _ _ _ => False) (E := fun _ _ _ => False) (A := { A with handled := none }) (N := N) S rfl ⟨e0.frames, e0.mod, e0.bs, e0.bsz, e0.funs, e0.frf, e0.hok, e0.bare⟩ hl r x
  exact ⟨⟨I.ok.mod, I.ok.kind, I.ok.glob, I.ok.blt, I.ok.above, I.ok.inj, I.ok.has, I.ok.cab, fun z => Bool.noConfusion (show false = true from z), Around.frames_deeper e0.frames, I.ok.stk, I.ok.exf, I.ok.bs, I.ok.bsz, I.ok.noex, I.ok.exfs, I.ok.funs, I.ok.frf⟩,
    I.os, I.bare, I.base, I.loc, I.cell, I.free, I.freeC, I.pin, I.hok, I.len⟩
section
variable {P : Program} {w : World} {K : PySem.W.Frag} {mg : Str → Option Value} {base : Heap}
theorem Fun.okQ {x qual : Str} {st : Stmt} {f : Addr} {fd : FuncData} {N ps : List Str} {k : Nat} {sp : Sp} (F : L2.Fun K x qual st f fd) (S : FnScope N ps (defScope st)) (hb : Binds K fd ps []) (len : ∀ vs H Q E, sp vs H Q E → vs.length = ps.length)
    (hbody : ∀ (cdv : Value) (A : Around) (outer : List Env) (s : Shared) (H : Hp) (vs : List V) (Q : VK), L2H.RoomH k (A.deeper (envOfC qual (defScope st) s.heap.objs.size f cdv)) → sp vs H Q (fun _ _ _ => False) →
      ∃ t, PSs (cxQ P w K mg base N qual (defScope st) f cdv A outer s H) (defBody st) t ∧ t { nx := fun _ H' => Q .non H', rt := Q } (start N vs) H) : FnQ P w K mg base (k + 1) f sp := by
  obtain ⟨oc, od, kV, doc, pm, an, cdv, ct, osl, rfl, lk, hcd⟩ := F.ex
  intro A outer s H us vs Q hr e0 r hsp
  have hl := len _ _ _ _ hsp
  have KX : K.In s.heap := e0.mod.kin.keeps fun b o e => (e0.bs b o e).1
  have lim : s.heap.NoLimit := e0.mod.nolimit.keeps fun b o e => (e0.bs b o e).1
  have hb' := hb s us KX (by rw [List.append_nil, ← r.length]; exact hl)
  rw [List.append_nil] at hb'
  refine codeAny_call_function hr.depth (KX _ _ lk) rfl S.co S.gen rfl (PySem.W.codeRec_of KX hcd) (hb' _ _ _ _ ?_)
  refine wpAny_newFunctionEnv_cells S.kind (fun y hy => ?_) fun env he s1 x => ?_
  · rcases S.par y.1 (List.of_mem_zip (show (y.1, y.2) ∈ _ from hy)).1 with q | q
    · exact .inl q
    · exact .inr ⟨q, PySem.W.cellsFrom_some _ _ _ (.inl q)⟩
  subst he
  refine ⟨lim.keeps x.toInCall.keep, codeAny_func ?_⟩
  obtain ⟨t, ht, hq⟩ := hbody cdv A outer s H vs Q (hr.deeper _) hsp
  have I : Inv (cxQ P w K mg base N qual (defScope st) f cdv A outer s H) [] (start N vs) H s1 := inv_startQ S e0 hl r x
  refine wpAny_mono (ht.run [] s1 (start N vs) H _ I hq) (fun fl s' hs => ?_) fun e s' hs => (show False from hs).elim
  match fl, hs with
  | .ret u, hs =>
    obtain ⟨v, σ', H', J, rv, q⟩ := hs
    exact ⟨v, H', J.os, J.bare, J.base, J.hok, rv, q⟩
  | .next, hs =>
    obtain ⟨σ', H', J, q⟩ := hs
    exact ⟨.non, H', J.os, J.bare, J.base, J.hok, rfl, q⟩
  | .brk, hs =>
    obtain ⟨_, _, _, q⟩ := hs
    exact q.elim
  | .cont, hs =>
    obtain ⟨_, _, _, q⟩ := hs
    exact q.elim
end
theorem roomQ {j : Nat} {A : Around} (r : Room j A) (h : Option Value) : L2H.RoomH j (A.mark h) := ⟨r.dp, r.un⟩
section
variable {X : Cx} {k j : Nat} {sp : Sp} {x : Str} {p pos : Pos} {e : Expr} {es : List Expr} {t : TA}
theorem q_call (c : CalQ X.prog X.w X.K X.mg X.base k x sp) (hr : L2H.RoomH j X.A) (hk : k ≤ j) (ha : PA X (e :: es) t) (hg : Gl X x := by rfl)
    (hdb : (x == ("__debug__" : Str)) = false := by decide) (he : starEach (e :: es) X.env = (false, eval e X.env) :: starEach es X.env := by rfl) (hpl : (backTo pos (starEach es X.env)).any (·.1) = false := by rfl) :
    PE X (.Call (.Name x p) (e :: es) [] pos) (tCallS sp (fun _ _ _ _ => False) t) := by
  obtain ⟨f, hm, kp, F⟩ := c.ex
  refine ⟨fun pins s σ H Q I h => ?_⟩
  refine wpAny_Call_Name_kw (ld_glob I hg hm ?_ hdb)
  refine PySem.W.callWith_K (h₀ := X.base) I.ok.mod.kin kp (thn (ha.run pos pins s σ H _ I h) fun us s1 hh => ?_) he hpl
  obtain ⟨vs, H1, I1, r, q⟩ := hh
  refine ⟨I1.kIn, wpAny_call (codeAny_mono (F X.A X.stack s1 H1 us vs Q (hr.mono hk) I1.env0 r q) fun r s' hq => ?_)⟩
  match r, hq with
  | .error e, hq => exact (show False from hq).elim
  | .ok (.ret u), hq => exact I1.after hq
  | .ok .next, hq => exact hq.elim
  | .ok .brk, hq => exact hq.elim
  | .ok .cont, hq => exact hq.elim
end
/-! ### isinstance of the caught error -/
structure ExcK (K : PySem.W.Frag) (D : Addr) : Prop where
  cl : (PySem.W.clsIn K D).isSome = true
  ga : PySem.W.findIn K (.ref D) "__getattribute__" = some (some (.builtin "BaseException.__getattribute__"))
  gg : PySem.W.findIn K (.ref D) "__getattr__" = some none
  sb : PySem.W.subIn K (.ref D) (.type "BaseException") = some true
  ca : PySem.W.findIn K (.ref D) "__class__" = some (some (.builtin "object.__class__"))
  cn : PySem.W.specialIn K (.builtin "object.__class__") "__get__" = some (some (.builtin "getset_descriptor.__get__"))
  ct : PySem.W.takesIn K (.builtin "object.__class__") = some true
  cm : PySem.W.mroIn K D (.type "object") = some true
def DOk (H : Hp) : Option Addr → Prop
  | none => True
  | some dd => ∃ fs, H dd = some (.xd fs)
def rIsX (K : PySem.W.Frag) (cls : Value) (d : Option Addr) (a : Addr) : List V → Hp → VK → Prop := fun xs H Q => ∃ (D : Addr) (c : V) (cv : Value) (b : Bool), cls = .ref D ∧ ExcK K D ∧ DOk H d ∧ xs = [.ref a, c] ∧ ClsV c cv ∧ PySem.W.kitOne K (.ref D) cv = some b ∧ Q (.bl b) H
def rIsXT (K : PySem.W.Frag) (cls : Value) (d : Option Addr) (a : Addr) : List V → Hp → VK → Prop := fun xs H Q => ∃ (D tp : Addr) (cs : List V) (us : List Value) (b : Bool), cls = .ref D ∧ ExcK K D ∧ DOk H d ∧ xs = [.ref a, .ref tp] ∧ H tp = some (.tup cs) ∧ Paired ClsV cs us ∧ PySem.W.kitAny K (.ref D) us = some b ∧ Q (.bl b) H
section
variable {X : Cx} {a D : Addr} {oe : Obj} {cls : Value} {d : Option Addr} {pn pins : List (Addr × Obj)} {σ : L2.St} {H : Hp} {s : Shared}
theorem exc_inst (hz : Zc (.ref D) d oe) (hf : ∃ vs, oe.data = .fields vs) (hd : DOk H d) (I : Inv (X.suite a ((a, oe) :: pn)) pins σ H s) : ∃ od, PySem.W.InstAt s.heap a oe D od := by
  obtain ⟨hget, _⟩ := I.pin (a, oe) (List.mem_append_left _ List.mem_cons_self)
  obtain ⟨vs, hv⟩ := hf
  have hnc : PySem.W.notCls oe = true := by
    unfold PySem.W.notCls
    rw [hv]
  cases d with
  | none =>
    refine ⟨none, hget, hz.1, hnc, ?_⟩
    rw [hz.2]
    trivial
  | some dd =>
    obtain ⟨fs, hx⟩ := hd
    have hx : ObjOk X.prog X.w H s.heap dd (.xd fs) := I.hok dd _ hx
    obtain ⟨mA, hns, _⟩ := hx
    obtain ⟨od, ho, _⟩ := lookIn_ns hns
    refine ⟨some od, hget, hz.1, hnc, ?_⟩
    rw [hz.2]
    exact ho
theorem call_isX (hz : Zc cls d oe) (hf : ∃ vs, oe.data = .fields vs) : CallR (X.suite a ((a, oe) :: pn)) (.builtin "isinstance") (rIsX X.K cls d a) := by
  intro pins s σ H xs us Q I r h
  obtain ⟨D, c, cv, b, rfl, C, hd, rfl, hc, e, q⟩ := h
  obtain ⟨od, J⟩ := exc_inst hz hf hd I
  match us, r with
  | [u1, u2], .cons r1 (.cons r2 .nil) =>
    obtain rfl : u1 = Value.ref a := r1
    have e2 := hc.eq r2
    subst e2
    exact PySem.W.kia_one (PySem.W.kitx_exc C.cl C.ga C.gg C.sb C.ca C.cn C.ct C.cm) I.kIn J e (fun z => nomatch z) fun tk => ⟨.bl b, H, I.tok tk, rfl, q⟩
theorem call_isXT (hz : Zc cls d oe) (hf : ∃ vs, oe.data = .fields vs) : CallR (X.suite a ((a, oe) :: pn)) (.builtin "isinstance") (rIsXT X.K cls d a) := by
  intro pins s σ H xs us Q I r h
  obtain ⟨D, tp, cs, ws, b, rfl, C, hd, rfl, hT, k, e, q⟩ := h
  obtain ⟨od, J⟩ := exc_inst hz hf hd I
  match us, r with
  | [u1, u2], .cons r1 (.cons r2 .nil) =>
    obtain rfl : u1 = Value.ref a := r1
    obtain rfl : u2 = Value.ref tp := r2
    obtain ⟨_, its, rv, o, h1, h2, n, h3⟩ := (show ObjOk X.prog X.w H s.heap tp (.tup cs) from I.hok tp _ hT)
    have e3 := ClsV.all k rv
    subst e3
    obtain ⟨oc, od', dt, sl⟩ := o
    simp only at h2 h3
    subst h2 h3
    exact PySem.W.kia_tup (PySem.W.kitx_exc C.cl C.ga C.gg C.sb C.ca C.cn C.ct C.cm) I.kIn J h1 e (fun z => nomatch z) fun tk => ⟨.bl b, H, I.tok tk, rfl, q⟩
end
end MyL

set_option Elab.async false
set_option linter.all false
set_option maxRecDepth 100000
set_option maxHeartbeats 4000000
/-! What is known of the heap, and readings taken apart step by step. -/
namespace MyL
open PySem L2
/-- behind B, of which only the objects at ms may have changed: H holds f (handed in) and l (made here) -/
structure Mem (B : Hp) (ms : List Addr) (H : Hp) (f l : List (Addr × HO)) : Prop where
  atF : ∀ p ∈ f, H p.1 = some p.2
  atL : ∀ p ∈ l, H p.1 = some p.2
  nd : ((l ++ f).map (·.1)).Nodup
  keep : ∀ a o, B a = some o → a ∉ ms → H a = some o
  tr : ∀ m ∈ ms, H m ≠ none
  new : ∀ p ∈ l, B p.1 = none
theorem Same.of_keep {B H : Hp} {f l : List (Addr × HO)} (M : Mem B [] H f l) : Same B H := fun a o h => M.keep a o h (by simp)
theorem mem_start {H : Hp} {ms : List Addr} {f : List (Addr × HO)} (h : ∀ p ∈ f, H p.1 = some p.2) (nd : (f.map (·.1)).Nodup) (tr : ∀ m ∈ ms, m ∈ f.map (·.1)) : Mem H ms H f [] :=
  ⟨h, (fun _ h => nomatch h), by simpa using nd, fun _ _ h _ => h, (fun m hm z => by
    obtain ⟨p, hp, e⟩ := List.mem_map.mp (tr m hm)
    have := h p hp
    rw [e, z] at this; cases this), (fun _ h => nomatch h)⟩
section
variable {B H H' : Hp} {ms : List Addr} {f l : List (Addr × HO)} {p a : Addr} {o o' : HO}
theorem Mem.fresh (M : Mem B ms H f l) (h : H p = none) : B p = none := by
  cases e : B p with
  | none => rfl
  | some u =>
    by_cases hm : p ∈ ms
    · exact absurd h (M.tr p hm)
    · rw [M.keep p u e hm] at h; cases h
theorem Mem.ne (M : Mem B ms H f l) (h : H p = none) : p ∉ (l ++ f).map (·.1) := fun hm => by
  obtain ⟨q, hq, e⟩ := List.mem_map.mp hm
  rcases List.mem_append.mp hq with z | z
  · have := M.atL q z; rw [e, h] at this; cases this
  · have := M.atF q z; rw [e, h] at this; cases this
theorem Mem.same (M : Mem B ms H f l) (s : Same H H') : Mem B ms H' f l :=
  ⟨fun p hp => s _ _ (M.atF p hp), fun p hp => s _ _ (M.atL p hp), M.nd, fun a o h hm => s _ _ (M.keep a o h hm), fun m hm => by
    cases e : H m with
    | none => exact absurd e (M.tr m hm)
    | some o => rw [s _ _ e]; exact (fun z => nomatch z), M.new⟩
theorem same_alloc (h : H p = none) : Same H (upd H p o) := fun a u e => by
  rw [upd_ne (ne_of_none e h)]; exact e
theorem Mem.sameNew (M : Mem B ms H f l) (s : Same H H') (h : H p = none) (h' : H' p = some o) : Mem B ms H' f ((p, o) :: l) :=
  let M' := M.same s
  ⟨M'.atF, fun q hq => by
    rcases List.mem_cons.mp hq with rfl | hq
    · exact h'
    · exact M'.atL q hq, by
      show (p :: ((l ++ f).map (·.1))).Nodup
      exact List.nodup_cons.mpr ⟨M.ne h, M.nd⟩, M'.keep, M'.tr, fun q hq => by
    rcases List.mem_cons.mp hq with rfl | hq
    · exact M.fresh h
    · exact M.new q hq⟩
theorem Mem.alloc (M : Mem B ms H f l) (h : H p = none) : Mem B ms (upd H p o) f ((p, o) :: l) := M.sameNew (same_alloc h) h upd_same
/-- something that stands in the heap is known of, too -/
theorem Mem.drop {q : Addr × HO} (M : Mem B ms H f (q :: l)) : Mem B ms H f l :=
  ⟨M.atF, fun p hp => M.atL p (List.mem_cons_of_mem _ hp), by
    have := M.nd
    rw [List.cons_append, List.map_cons, List.nodup_cons] at this
    exact this.2, M.keep, M.tr, fun p hp => M.new p (List.mem_cons_of_mem _ hp)⟩
theorem Mem.setL {l1 l2 : List (Addr × HO)} (M : Mem B ms H f (l1 ++ (a, o) :: l2)) : Mem B ms (upd H a o') f (l1 ++ (a, o') :: l2) := by
  have nd := M.nd
  have hne : ∀ q ∈ l1 ++ l2 ++ f, q.1 ≠ a := by
    have e : ((l1 ++ (a, o) :: l2 ++ f).map (·.1)) = l1.map (·.1) ++ a :: (l2 ++ f).map (·.1) := by simp
    rw [e, List.nodup_append] at nd
    obtain ⟨_, n2, n3⟩ := nd
    rw [List.nodup_cons] at n2
    intro q hq z
    rw [List.append_assoc] at hq
    rcases List.mem_append.mp hq with hq | hq
    · exact n3 _ (List.mem_map_of_mem hq) _ List.mem_cons_self z
    · exact n2.1 (by rw [← z]; exact List.mem_map_of_mem hq)
  have hB : B a = none := M.new (a, o) (by simp)
  refine ⟨fun q hq => ?_, fun q hq => ?_, by simpa using nd, fun b u h hm => ?_, fun m hm z => ?_, fun q hq => ?_⟩
  · rw [upd_ne (hne q (by simp [hq]))]; exact M.atF q hq
  · rcases List.mem_append.mp hq with h | h
    · rw [upd_ne (hne q (by simp [h]))]; exact M.atL q (by simp [h])
    · rcases List.mem_cons.mp h with rfl | h
      · exact upd_same
      · rw [upd_ne (hne q (by simp [h]))]; exact M.atL q (by simp [h])
  · rw [upd_ne (ne_of_none h hB)]; exact M.keep b u h hm
  · by_cases e : m = a
    · rw [e, upd_same] at z; cases z
    · rw [upd_ne e] at z; exact M.tr m hm z
  · rcases List.mem_append.mp hq with h | h
    · exact M.new q (by simp [h])
    · rcases List.mem_cons.mp h with rfl | h
      · exact hB
      · exact M.new q (by simp [h])
theorem Mem.setF {f1 f2 : List (Addr × HO)} (M : Mem B ms H (f1 ++ (a, o) :: f2) l) (ha : a ∈ ms) : Mem B ms (upd H a o') (f1 ++ (a, o') :: f2) l := by
  have nd := M.nd
  have hne : ∀ q ∈ l ++ f1 ++ f2, q.1 ≠ a := by
    have e : ((l ++ (f1 ++ (a, o) :: f2)).map (·.1)) = (l ++ f1).map (·.1) ++ a :: f2.map (·.1) := by simp
    rw [e, List.nodup_append] at nd
    obtain ⟨_, n2, n3⟩ := nd
    rw [List.nodup_cons] at n2
    intro q hq z
    rcases List.mem_append.mp hq with hq | hq
    · exact n3 _ (List.mem_map_of_mem hq) _ List.mem_cons_self z
    · exact n2.1 (by rw [← z]; exact List.mem_map_of_mem hq)
  refine ⟨fun q hq => ?_, fun q hq => ?_, by simpa using nd, fun b u h hm => ?_, fun m hm z => ?_, M.new⟩
  · rcases List.mem_append.mp hq with h | h
    · rw [upd_ne (hne q (by simp [h]))]; exact M.atF q (by simp [h])
    · rcases List.mem_cons.mp h with rfl | h
      · exact upd_same
      · rw [upd_ne (hne q (by simp [h]))]; exact M.atF q (by simp [h])
  · rw [upd_ne (hne q (by simp [hq]))]; exact M.atL q hq
  · rw [upd_ne (fun z => hm (by rw [z]; exact ha))]; exact M.keep b u h hm
  · by_cases e : m = a
    · rw [e, upd_same] at z; cases z
    · rw [upd_ne e] at z; exact M.tr m hm z
/-- all but the objects at ms is as it was -/
def Keep (ms : List Addr) (H H' : Hp) : Prop := (∀ a o, H a = some o → a ∉ ms → H' a = some o) ∧ ∀ m ∈ ms, H' m ≠ none
theorem Mem.keeps (M : Mem B ms H f l) : Keep ms B H := ⟨M.keep, M.tr⟩
theorem Mem.getF (M : Mem B ms H f l) (h : (a, o) ∈ f) : H a = some o := M.atF _ h
theorem Mem.getL (M : Mem B ms H f l) (h : (a, o) ∈ l) : H a = some o := M.atL _ h
/-- behind a call that may have changed the first of what was handed in -/
theorem Mem.call1 {f : List (Addr × HO)} (M : Mem B ms H ((a, o) :: f) l) (ha : a ∈ ms) (k : Keep [a] H H') (h' : H' a = some o') : Mem B ms H' ((a, o') :: f) l := by
  have nd := M.nd
  have hne : ∀ q ∈ l ++ f, q.1 ≠ a := by
    rw [List.map_append, List.map_cons, List.nodup_append] at nd
    obtain ⟨_, n2, n3⟩ := nd
    rw [List.nodup_cons] at n2
    intro q hq z
    rcases List.mem_append.mp hq with hq | hq
    · exact n3 _ (List.mem_map.mpr ⟨q, hq, rfl⟩) _ List.mem_cons_self z
    · exact n2.1 (List.mem_map.mpr ⟨q, hq, z⟩)
  refine ⟨fun q hq => ?_, fun q hq => ?_, by simpa using nd, fun b u h hm => ?_, fun m hm z => ?_, M.new⟩
  · rcases List.mem_cons.mp hq with rfl | h
    · exact h'
    · exact k.1 _ _ (M.atF q (by simp [h])) (by simpa using hne q (by simp [h]))
  · exact k.1 _ _ (M.atL q hq) (by simpa using hne q (by simp [hq]))
  · exact k.1 _ _ (M.keep b u h hm) (by intro z; rw [List.mem_singleton] at z; exact hm (by rw [z]; exact ha))
  · cases e : H m with
    | none => exact M.tr m hm e
    | some u =>
      by_cases hma : m = a
      · rw [hma, h'] at z; cases z
      · rw [k.1 _ _ e (by simpa using hma)] at z; cases z
end
/-! ### steps -/
section
variable {n : L2.St → Hp → Prop} {r : VK} {b c : L2.St → Hp → Prop} {σ : L2.St} {H : Hp} {t u : TS} {te ta tb : TE} {tt tu : TT} {Q : VK} {QB : Bool → Hp → Prop} {QA : List V → Hp → Prop} {v : V} {i : Nat} {tA : TA}
theorem k_seq (h : t ⟨u ⟨n, r, b, c⟩, r, b, c⟩ σ H) : tSeq t u ⟨n, r, b, c⟩ σ H := h
theorem k_next (h : n σ H) : tNext ⟨n, r, b, c⟩ σ H := h
theorem k_break (h : b σ H) : tBreak ⟨n, r, b, c⟩ σ H := h
theorem k_cont (h : c σ H) : tCont ⟨n, r, b, c⟩ σ H := h
theorem k_asg (h : te σ H fun v H1 => n (σ.set i (some v)) H1) : tAsg te (gName i) ⟨n, r, b, c⟩ σ H := h
theorem k_ret (h : te σ H r) : tRet te ⟨n, r, b, c⟩ σ H := h
theorem k_retN (h : r .non H) : tRetN ⟨n, r, b, c⟩ σ H := h
theorem k_drop (h : te σ H fun _ H1 => n σ H1) : tDrop te ⟨n, r, b, c⟩ σ H := h
theorem k_ifS (h : tt σ H fun k H1 => if k = true then t ⟨n, r, b, c⟩ σ H1 else u ⟨n, r, b, c⟩ σ H1) : tIfS tt t u ⟨n, r, b, c⟩ σ H := h
theorem k_var (h : σ[i]? = some (some v)) (q : Q v H) : tVar i σ H Q := ⟨v, h, q⟩
theorem k_c (q : Q v H) : tC v σ H Q := q
theorem k_op {rr : R2} (h : ta σ H fun x H1 => tb σ H1 fun y H2 => rr x y H2 Q) : tOp rr ta tb σ H Q := h
theorem k_un {ru : V → Hp → VK → Prop} (h : ta σ H fun x H1 => ru x H1 Q) : tUn ru ta σ H Q := h
theorem k_test (h : te σ H fun x H' => ∃ k, x = .bl k ∧ QB k H') : tTest te σ H QB := h
theorem k_B (h : te σ H fun x H' => ∃ k, x = .bl k ∧ QB k H') : tB te σ H QB := h
theorem k_bl {k : Bool} {PB : Bool → Prop} (h : PB k) : ∃ k', V.bl k = .bl k' ∧ PB k' := ⟨k, rfl, h⟩
theorem k_and (h : tt σ H fun k H1 => if k = true then tu σ H1 QB else QB false H1) : tAnd tt tu σ H QB := h
theorem k_or (h : tt σ H fun k H1 => if k = true then QB true H1 else tu σ H1 QB) : tOr tt tu σ H QB := h
theorem k_not (h : tt σ H fun k H1 => QB (!k) H1) : tNot tt σ H QB := h
theorem k_andV (h : ta σ H fun x H1 => ∃ k, x = .bl k ∧ if k = true then tb σ H1 Q else Q (.bl false) H1) : tAndV ta tb σ H Q := h
theorem k_orV (h : ta σ H fun x H1 => ∃ k, x = .bl k ∧ if k = true then Q (.bl true) H1 else tb σ H1 Q) : tOrV ta tb σ H Q := h
theorem k_notV (h : ta σ H fun x H1 => ∃ k, x = .bl k ∧ Q (.bl (!k)) H1) : tNotV ta σ H Q := h
theorem k_ifE (h : tt σ H fun k H1 => if k = true then ta σ H1 Q else tb σ H1 Q) : tIf tt ta tb σ H Q := h
theorem k_nil (h : QA [] H) : tNil σ H QA := h
theorem k_cons (h : te σ H fun x H1 => tA σ H1 fun xs H2 => QA (x :: xs) H2) : tCons te tA σ H QA := h
theorem k_cb {rc : List V → Hp → VK → Prop} (h : tA σ H fun vs H1 => rc vs H1 Q) : tCB rc tA σ H Q := h
theorem k_callS {sp : Sp} {E : L2.St → XK} (h : tA σ H fun vs H1 => sp vs H1 Q (E σ)) : tCallS sp E tA σ H Q := h
theorem k_I {C : Int → Int → Prop} {g : Int → Int → V} {x y : Int} (hc : C x y) (q : Q (g x y) H) : rI C g (.int x) (.int y) H Q := ⟨x, y, rfl, rfl, hc, q⟩
theorem k_I0 {g : Int → Int → V} {x y : Int} (q : Q (g x y) H) : rI0 g (.int x) (.int y) H Q := ⟨x, y, rfl, rfl, q⟩
theorem k_U {g : Int → V} {x : Int} (q : Q (g x) H) : rU g (.int x) H Q := ⟨x, rfl, q⟩
theorem k_eqI {x y : Int} (q : Q (.bl (decide (x = y))) H) : rEq (.int x) (.int y) H Q := ⟨rfl, by
  have e : decide (V.int x = V.int y) = decide (x = y) := by
    by_cases h : x = y
    · subst h; simp
    · rw [decide_eq_false h, decide_eq_false (fun z => h (V.int.inj z))]
  rw [e]; exact q⟩
theorem k_neI {x y : Int} (q : Q (.bl (!decide (x = y))) H) : rNe (.int x) (.int y) H Q := ⟨rfl, by
  have e : decide (V.int x = V.int y) = decide (x = y) := by
    by_cases h : x = y
    · subst h; simp
    · rw [decide_eq_false h, decide_eq_false (fun z => h (V.int.inj z))]
  rw [e]; exact q⟩
theorem k_eqB {x y : Bool} (q : Q (.bl (x == y)) H) : rEq (.bl x) (.bl y) H Q := ⟨rfl, by
  have e : decide (V.bl x = V.bl y) = (x == y) := by cases x <;> cases y <;> simp
  rw [e]; exact q⟩
theorem k_neB {x y : Bool} (q : Q (.bl (!(x == y))) H) : rNe (.bl x) (.bl y) H Q := ⟨rfl, by
  have e : decide (V.bl x = V.bl y) = (x == y) := by cases x <;> cases y <;> simp
  rw [e]; exact q⟩
theorem k_eqS {x y : Str} (q : Q (.bl (decide (x = y))) H) : rEq (.str x) (.str y) H Q := ⟨rfl, by
  have e : decide (V.str x = V.str y) = decide (x = y) := by
    by_cases h : x = y
    · subst h; simp
    · rw [decide_eq_false h, decide_eq_false (fun z => h (V.str.inj z))]
  rw [e]; exact q⟩
theorem k_neS {x y : Str} (q : Q (.bl (!decide (x = y))) H) : rNe (.str x) (.str y) H Q := ⟨rfl, by
  have e : decide (V.str x = V.str y) = decide (x = y) := by
    by_cases h : x = y
    · subst h; simp
    · rw [decide_eq_false h, decide_eq_false (fun z => h (V.str.inj z))]
  rw [e]; exact q⟩
theorem k_iteD {p : Prop} [Decidable p] {A Z : Prop} (h1 : p → A) (h2 : ¬ p → Z) : if decide p = true then A else Z := by
  by_cases h : p
  · rw [if_pos (decide_eq_true h)]; exact h1 h
  · rw [if_neg (by simpa using h)]; exact h2 h
theorem k_iteN {p : Prop} [Decidable p] {A Z : Prop} (h1 : ¬ p → A) (h2 : p → Z) : if (!decide p) = true then A else Z := by
  by_cases h : p
  · rw [if_neg (by simpa using h)]; exact h2 h
  · rw [if_pos (by simpa using h)]; exact h1 h
theorem k_iteB {k : Bool} {A Z : Prop} (h1 : k = true → A) (h2 : k = false → Z) : if k = true then A else Z := by
  cases k with
  | true => rw [if_pos rfl]; exact h1 rfl
  | false => rw [if_neg Bool.false_ne_true]; exact h2 rfl
/-- new things -/
def newL (xs : List V) (H : Hp) (Q : VK) : Prop := xs.length ≤ sizeLine ∧ ∀ p, H p = none → Q (.ref p) (upd H p (.lst xs))
def newT (xs : List V) (H : Hp) (Q : VK) : Prop := xs.length ≤ sizeLine ∧ ∀ p, H p = none → Q (.ref p) (upd H p (.tup xs))
theorem k_lst {B : Hp} {ms : List Addr} {f l : List (Addr × HO)} {xs : List V} (M : Mem B ms H f l) (hl : xs.length ≤ sizeLine) (k : ∀ p H', Mem B ms H' f ((p, .lst xs) :: l) → Q (.ref p) H') : newL xs H Q :=
  ⟨hl, fun p hp => k p _ (M.alloc hp)⟩
theorem k_tup {B : Hp} {ms : List Addr} {f l : List (Addr × HO)} {xs : List V} (M : Mem B ms H f l) (hl : xs.length ≤ sizeLine) (k : ∀ p H', Mem B ms H' f ((p, .tup xs) :: l) → Q (.ref p) H') : newT xs H Q :=
  ⟨hl, fun p hp => k p _ (M.alloc hp)⟩
theorem k_lst0 (h : tA σ H fun xs H1 => newL xs H1 Q) : tLst tA σ H Q := h
theorem k_tup0 (h : tA σ H fun xs H1 => newT xs H1 Q) : tTup tA σ H Q := h
/-- an attribute -/
theorem k_fld0 {K : PySem.W.Frag} {f : Str} (h : ta σ H fun x H1 => ∃ a C dx fs v, x = .ref a ∧ H1 a = some (.ins C dx fs) ∧ Cls K C ∧ NoAttr K C f ∧ fs.lookup f = some v ∧ Q v H1) : tFld K ta f σ H Q := h
theorem k_fld {K : PySem.W.Frag} {f : Str} {a C dx : Addr} {fs : List (Str × V)} {v : V} (h : H a = some (.ins C dx fs)) (hc : Cls K C) (hn : NoAttr K C f) (hl : fs.lookup f = some v) {PV : V → Prop} (q : PV v) :
    ∃ a' C' dx' fs' v', V.ref a = .ref a' ∧ H a' = some (.ins C' dx' fs') ∧ Cls K C' ∧ NoAttr K C' f ∧ fs'.lookup f = some v' ∧ PV v' := ⟨a, C, dx, fs, v, rfl, h, hc, hn, hl, q⟩
/-- an item -/
theorem k_ixL {K : PySem.W.Frag} {p : Addr} {xs : List V} {j : Int} {v : V} (h : H p = some (.lst xs)) (ha : atI xs j = some v) (q : Q v H) : rIxL K (.ref p) (.int j) H Q := ⟨p, xs, j, v, rfl, rfl, SqL.of h, ha, q⟩
theorem k_ixT {K : PySem.W.Frag} {p : Addr} {xs : List V} {j : Int} {v : V} (h : H p = some (.tup xs)) (ha : atI xs j = some v) (q : Q v H) : rIxT K (.ref p) (.int j) H Q := ⟨p, xs, j, v, rfl, rfl, SqT.of h, ha, q⟩
end
end MyL

set_option Elab.async false
set_option linter.all false
set_option maxRecDepth 100000
set_option maxHeartbeats 4000000
namespace MyL
open PySem PySem.Spec PyProof.Rows L2
section
variable {X : Cx} {e a b : Expr} {t t' ta tb : TE} {pos : Pos}
theorem pe_imp (h : PE X e t) (hi : ∀ σ H Q, t' σ H Q → t σ H Q) : PE X e t' := ⟨fun pins s σ H Q I q => h.run pins s σ H Q I (hi _ _ _ q)⟩
/-- a * b -/
def CMulU (i j : Int) : Prop := CMul i j ∨ CMulW i j
theorem op_mulU : OpR X (binaryOp .Mult) (rI CMulU fun i j => .int (i * j)) := by
  intro pins s σ H x y v u Q I rx ry h
  obtain ⟨i, j, ex, ey, hc, q⟩ := h
  rcases hc with hc | hc
  · exact op_mul pins s σ H x y v u Q I rx ry ⟨i, j, ex, ey, hc, q⟩
  · exact op_mulW pins s σ H x y v u Q I rx ry ⟨i, j, ex, ey, hc, q⟩
/-- a written power -/
theorem pe_powC {i j n : Int} {k1 k2 : Nat} {p1 p2 : Pos} (hc : CPow i j := by unfold CPow; decide) (hv : i ^ j.toNat = n := by decide +kernel) : PE X (.BinOp (.Constant (.int i) k1 p1) .Pow (.Constant (.int j) k2 p2) pos) (tC (.int n)) :=
  pe_imp (pe_op op_pow pe_int pe_int) fun σ H Q q => ⟨i, j, rfl, rfl, hc, by show Q (.int (i ^ j.toNat)) H; rw [hv]; exact q⟩
/-- a written number below zero -/
theorem pe_negC {i : Int} {k1 : Nat} {p1 : Pos} : PE X (.UnaryOp .USub (.Constant (.int i) k1 p1) pos) (tC (.int (-i))) :=
  pe_imp (pe_un un_neg pe_int) fun σ H Q q => ⟨i, rfl, q⟩
end
section
variable {P : Program} {w : World} {K : PySem.W.Frag} {mg : Str → Option Value} {base : Heap}
/-- a def that may raise, by its body; what leaves the frame is the caller's wish -/
theorem okT {x qual : Str} {st : Stmt} {f : Addr} {fd : FuncData} {N ps : List Str} {k : Nat} {sp : Sp} (F : L2.Fun K x qual st f fd) (S : FnScope N ps (defScope st)) (len : ∀ vs H Q E, sp vs H Q E → vs.length = ps.length)
    (hbody : ∀ (cdv : Value) (A : Around) (outer : List Env) (s : Shared) (H : Hp) (vs : List V) (Q : VK) (E : XK), Room k (A.deeper (envOfC qual (defScope st) s.heap.objs.size f cdv)) →
      Takes (cxOf (L2.CX P w) P w K mg base N qual (defScope st) f cdv A outer s H E) (fun c d _ H => E c d H) → sp vs H Q E →
      ∃ t, PSs (cxOf (L2.CX P w) P w K mg base N qual (defScope st) f cdv A outer s H E) (defBody st) t ∧ t ⟨fun _ H' => Q .non H', Q, fun _ _ => False, fun _ _ => False⟩ (start N vs) H) : FnOk P w K mg base (L2.CX P w) (k + 1) f fd ps sp :=
  F.okX S len fun cdv A outer s H vs Q E hr h => hbody cdv A outer s H vs Q E hr (takes_of rfl rfl rfl rfl) h
end
/-! ### built-ins of one argument -/
def rInt1 : List V → Hp → VK → Prop := fun xs H Q => ∃ i, xs = [.int i] ∧ Q (.int i) H
def rAbs1 : List V → Hp → VK → Prop := fun xs H Q => ∃ i : Int, xs = [.int i] ∧ Q (.int (if i < 0 then -i else i)) H
def rStrI : List V → Hp → VK → Prop := fun xs H Q => ∃ i : Int, xs = [.int i] ∧ i.natAbs.log2 < 1920 ∧ Q (.str (toString i)) H
def rLenQ (K : PySem.W.Frag) : List V → Hp → VK → Prop := fun xs H Q => ∃ p ys, xs = [.ref p] ∧ (SqL K H p ys ∨ SqT K H p ys) ∧ Q (.int ys.length) H
def rMin2 : List V → Hp → VK → Prop := fun xs H Q => ∃ i j : Int, xs = [.int i, .int j] ∧ Q (.int (if j < i then j else i)) H
def rMax2 : List V → Hp → VK → Prop := fun xs H Q => ∃ i j : Int, xs = [.int i, .int j] ∧ Q (.int (if j > i then j else i)) H
section
variable {X : Cx}
theorem b_int : CallR X (.type "int") rInt1 := fun pins s σ H xs us Q I r h => call_int1 pins s σ H xs us Q I r (.inl h)
theorem b_abs : CallR X (.builtin "abs") rAbs1 := call_abs
theorem b_strI : CallR X (.type "str") rStrI := call_str_int
theorem b_len : CallR X (.builtin "len") (rLenQ X.K) := call_len_seq
theorem b_min2 (hc : X.calm = true) : CallR X (.builtin "min") rMin2 := call_min2 hc
theorem b_max2 (hc : X.calm = true) : CallR X (.builtin "max") rMax2 := call_max2 hc
end
section
variable {H : Hp} {Q : VK} {i j : Int} {K : PySem.W.Frag}
theorem k_int1 (q : Q (.int i) H) : rInt1 [.int i] H Q := ⟨i, rfl, q⟩
theorem k_abs1 (q : Q (.int (if i < 0 then -i else i)) H) : rAbs1 [.int i] H Q := ⟨i, rfl, q⟩
theorem k_strI (h : i.natAbs.log2 < 1920) (q : Q (.str (toString i)) H) : rStrI [.int i] H Q := ⟨i, rfl, h, q⟩
theorem k_lenL {p : Addr} {ys : List V} (h : H p = some (.lst ys)) (q : Q (.int ys.length) H) : rLenQ K [.ref p] H Q := ⟨p, ys, rfl, .inl (SqL.of h), q⟩
theorem k_lenT {p : Addr} {ys : List V} (h : H p = some (.tup ys)) (q : Q (.int ys.length) H) : rLenQ K [.ref p] H Q := ⟨p, ys, rfl, .inr (SqT.of h), q⟩
theorem k_min2 (q : Q (.int (if j < i then j else i)) H) : rMin2 [.int i, .int j] H Q := ⟨i, j, rfl, q⟩
theorem k_max2 (q : Q (.int (if j > i then j else i)) H) : rMax2 [.int i, .int j] H Q := ⟨i, j, rfl, q⟩
/-- isinstance of numbers and truths -/
theorem k_isiI {c : String} {b : Bool} (e : PySem.W.kitOne K (.type "int") (.type c) = some b) (q : Q (.bl b) H) : rIsi K [.int i, .ty c] H Q := ⟨_, _, _, _, b, rfl, .ty c, .base (.int i), e, q⟩
/-- the rest of a division -/
theorem k_mod {x y : Int} {g : Int → Int → V} {C : Int → Int → Prop} (hc : C x y) (q : Q (g x y) H) : rI C g (.int x) (.int y) H Q := ⟨x, y, rfl, rfl, hc, q⟩
/-- xs[j] = v, xs made here or handed in to be changed -/
theorem k_sub0 {σ : L2.St} {n : L2.St → Hp → Prop} {r : VK} {b c : L2.St → Hp → Prop} {te to ti : TE} {ts : TSet} (h : te σ H fun v H1 => to σ H1 fun o H2 => ti σ H2 fun i H3 => ts o i v H3 fun H4 => n σ H4) : tAsg te (gSub to ti ts) ⟨n, r, b, c⟩ σ H := h
theorem k_setL {QH : Hp → Prop} {p : Addr} {xs : List V} {k : Int} {jn : Nat} {v : V} (h : H p = some (.lst xs)) (hi : ixN xs.length k = some jn) (q : QH (upd H p (.lst (xs.set jn v)))) : rSetL (.ref p) (.int k) v H QH := ⟨p, xs, k, jn, rfl, rfl, h, hi, q⟩
end
end MyL

set_option Elab.async false
set_option linter.all false
set_option maxRecDepth 100000
set_option maxHeartbeats 4000000
namespace MyL
open PySem L2
/-! ### the steps of a reading, as one word -/
theorem k_iteNT {A Z : Prop} (h : Z) : if (!true) = true then A else Z := h
theorem k_iteNF {A Z : Prop} (h : A) : if (!false) = true then A else Z := h
theorem divW {i j : Int} (h : 0 < j) (h2 : j < 2 ^ 64) : CDivW i j := ⟨h, by
  have e : j.natAbs < 2 ^ 64 := by omega
  exact Nat.lt_of_le_of_lt (Nat.log2_lt (by omega) |>.mpr e |> Nat.le_of_lt) (by decide)⟩
theorem cxK {CX : CXT} {P : Program} {w : World} {K : PySem.W.Frag} {mg : Str → Option Value} {base : Heap} {N : List Str} {qual : Str} {scope : Scope} {f : Addr} {cd : Value} {A : Around} {outer : List Env} {s : Shared} {H : Hp} {E : XK} : (cxOf CX P w K mg base N qual scope f cd A outer s H E).K = K := rfl
theorem cxQK {P : Program} {w : World} {K : PySem.W.Frag} {mg : Str → Option Value} {base : Heap} {N : List Str} {qual : Str} {scope : Scope} {f : Addr} {cd : Value} {A : Around} {outer : List Env} {s : Shared} {H : Hp} : (cxQ P w K mg base N qual scope f cd A outer s H).K = K := rfl
theorem mulL {i j : Int} (h : -(2 ^ 64) < i) (h2 : i < 2 ^ 64) : CMulU i j := .inl (.inl ⟨h, h2⟩)
theorem mulR {i j : Int} (h : -(2 ^ 64) < j) (h2 : j < 2 ^ 64) : CMulU i j := .inl (.inr ⟨h, h2⟩)
theorem atI_map {ns : List Int} {j : Int} (h0 : 0 ≤ j) (h1 : j < ns.length) : atI (ns.map V.int) j = some (.int (ns.getD j.toNat 0)) := by
  have hj : j.toNat < ns.length := by omega
  unfold atI ixN
  rw [List.length_map, if_pos h0, if_pos h1]
  simp [hj]
theorem k_lenM {K : PySem.W.Frag} {H : Hp} {Q : VK} {p : Addr} {ns : List Int} (h : H p = some (.lst (ns.map V.int))) (q : Q (.int ns.length) H) : rLenQ K [.ref p] H Q := ⟨p, _, rfl, .inl (SqL.of h), by rw [List.length_map]; exact q⟩
theorem sz {n : Nat} (h : n ≤ 100000) : n ≤ sizeLine := Nat.le_trans h (by decide)
section
variable {B H : Hp} {ms : List Addr} {f l : List (Addr × HO)} {QH : Hp → Prop} {p : Addr} {xs : List V} {k : Int} {jn : Nat} {v : V} {x0 x1 x2 x3 : Addr × HO}
theorem k_setF0 (M : Mem B ms H ((p, .lst xs) :: f) l) (hm : p ∈ ms) (hi : ixN xs.length k = some jn) (q : ∀ H', Mem B ms H' ((p, .lst (xs.set jn v)) :: f) l → QH H') : rSetL (.ref p) (.int k) v H QH :=
  ⟨p, xs, k, jn, rfl, rfl, M.getF List.mem_cons_self, hi, q _ (Mem.setF (f1 := []) M hm)⟩
theorem k_setL0 (M : Mem B ms H f ((p, .lst xs) :: l)) (hi : ixN xs.length k = some jn) (q : ∀ H', Mem B ms H' f ((p, .lst (xs.set jn v)) :: l) → QH H') : rSetL (.ref p) (.int k) v H QH :=
  ⟨p, xs, k, jn, rfl, rfl, M.getL List.mem_cons_self, hi, q _ (Mem.setL (l1 := []) M)⟩
theorem k_setL1 (M : Mem B ms H f (x0 :: (p, .lst xs) :: l)) (hi : ixN xs.length k = some jn) (q : ∀ H', Mem B ms H' f (x0 :: (p, .lst (xs.set jn v)) :: l) → QH H') : rSetL (.ref p) (.int k) v H QH :=
  ⟨p, xs, k, jn, rfl, rfl, M.getL (by simp), hi, q _ (Mem.setL (l1 := [x0]) M)⟩
theorem k_setL2 (M : Mem B ms H f (x0 :: x1 :: (p, .lst xs) :: l)) (hi : ixN xs.length k = some jn) (q : ∀ H', Mem B ms H' f (x0 :: x1 :: (p, .lst (xs.set jn v)) :: l) → QH H') : rSetL (.ref p) (.int k) v H QH :=
  ⟨p, xs, k, jn, rfl, rfl, M.getL (by simp), hi, q _ (Mem.setL (l1 := [x0, x1]) M)⟩
end

section
variable {B H H' : Hp} {ms : List Addr} {f l : List (Addr × HO)} {p a : Addr} {o o' u : HO}
theorem Mem.call1New {f : List (Addr × HO)} (M : Mem B ms H ((a, o) :: f) l) (ha : a ∈ ms) (k : Keep [a] H H') (h' : H' a = some o') (hn : H p = none) (hp : H' p = some u) : Mem B ms H' ((a, o') :: f) ((p, u) :: l) := by
  have M1 := M.call1 ha k h'
  have hpa : p ≠ a := fun z => by
    have := M.getF (a := a) (o := o) List.mem_cons_self
    rw [← z, hn] at this; cases this
  have hne : p ∉ (l ++ (a, o') :: f).map (·.1) := by
    have h := M.ne hn
    simpa using h
  refine ⟨M1.atF, fun q hq => ?_, ?_, M1.keep, M1.tr, fun q hq => ?_⟩
  · rcases List.mem_cons.mp hq with rfl | hq
    · exact hp
    · exact M1.atL q hq
  · show (p :: ((l ++ (a, o') :: f).map (·.1))).Nodup
    exact List.nodup_cons.mpr ⟨hne, M1.nd⟩
  · rcases List.mem_cons.mp hq with rfl | hq
    · exact M.fresh hn
    · exact M.new q hq
theorem Keep.of_same (h : Same H H') : Keep [] H H' := ⟨fun a o e _ => h a o e, fun _ h => nomatch h⟩
end
section
variable {K : PySem.W.Frag} {H : Hp} {Q : VK} {p : Addr} {j a b c d e g : Int}
theorem k_ix2 (h : H p = some (.lst [.int a, .int b])) (h0 : 0 ≤ j) (h1 : j < 2) (q : ∀ n, n = a ∨ n = b → Q (.int n) H) : rIxL K (.ref p) (.int j) H Q := by
  obtain rfl | rfl : j = 0 ∨ j = 1 := by omega
  · exact ⟨p, _, _, _, rfl, rfl, SqL.of h, rfl, q _ (by simp)⟩
  · exact ⟨p, _, _, _, rfl, rfl, SqL.of h, rfl, q _ (by simp)⟩
theorem k_ix3 (h : H p = some (.lst [.int a, .int b, .int c])) (h0 : 0 ≤ j) (h1 : j < 3) (q : ∀ n, n = a ∨ n = b ∨ n = c → Q (.int n) H) : rIxL K (.ref p) (.int j) H Q := by
  obtain rfl | rfl | rfl : j = 0 ∨ j = 1 ∨ j = 2 := by omega
  · exact ⟨p, _, _, _, rfl, rfl, SqL.of h, rfl, q _ (by simp)⟩
  · exact ⟨p, _, _, _, rfl, rfl, SqL.of h, rfl, q _ (by simp)⟩
  · exact ⟨p, _, _, _, rfl, rfl, SqL.of h, rfl, q _ (by simp)⟩
theorem k_ix4 (h : H p = some (.lst [.int a, .int b, .int c, .int d])) (h0 : 0 ≤ j) (h1 : j < 4) (q : ∀ n, n = a ∨ n = b ∨ n = c ∨ n = d → Q (.int n) H) : rIxL K (.ref p) (.int j) H Q := by
  obtain rfl | rfl | rfl | rfl : j = 0 ∨ j = 1 ∨ j = 2 ∨ j = 3 := by omega
  · exact ⟨p, _, _, _, rfl, rfl, SqL.of h, rfl, q _ (by simp)⟩
  · exact ⟨p, _, _, _, rfl, rfl, SqL.of h, rfl, q _ (by simp)⟩
  · exact ⟨p, _, _, _, rfl, rfl, SqL.of h, rfl, q _ (by simp)⟩
  · exact ⟨p, _, _, _, rfl, rfl, SqL.of h, rfl, q _ (by simp)⟩
end
end MyL

set_option Elab.async false
set_option linter.all false
set_option maxRecDepth 100000
set_option maxHeartbeats 4000000
namespace MyL
open PySem L2
section
variable {n : L2.St → Hp → Prop} {r : VK} {b c : L2.St → Hp → Prop} {σ : L2.St} {H : Hp} {te ta tb : TE} {Q : VK} {tA : TA} {K : PySem.W.Frag} {C : Addr} {sp : Sp} {W : WX}
/-- C(..), its values at hand -/
def newO (C : Addr) (sp : Sp) (vs : List V) (H : Hp) (Q : VK) (E : XK) : Prop := ∀ x dx, H x = none → H dx = none → dx ≠ x → sp (.ref x :: vs) (upd (upd H dx (.own x)) x (.ins C dx [])) (fun v H2 => v = .non ∧ Q (.ref x) H2) E
theorem k_make0 (h : tA σ H fun vs H1 => newO C sp vs H1 Q (WE W σ)) : tMakeS C sp W tA σ H Q := h
theorem k_meth0 {m : Str} (h : ta σ H fun x H1 => ∃ a dx fs, x = .ref a ∧ H1 a = some (.ins C dx fs) ∧ fs.lookup m = none ∧ tA σ H1 fun vs H2 => sp (.ref a :: vs) H2 Q (WE W σ)) : tMethS C m sp W ta tA σ H Q := h
theorem k_meth {m : Str} {a dx : Addr} {fs : List (Str × V)} {PQ : Addr → Prop} (h : H a = some (.ins C dx fs)) (hl : fs.lookup m = none) (q : PQ a) : ∃ a' dx' fs', V.ref a = .ref a' ∧ H a' = some (.ins C dx' fs') ∧ fs'.lookup m = none ∧ PQ a' := ⟨a, dx, fs, rfl, h, hl, q⟩
theorem k_ownN0 (h : ta σ H fun x H1 => tb σ H1 fun y H2 => ∃ a dx fs j, x = .ref a ∧ y = .int j ∧ H2 a = some (.ins C dx fs) ∧ sp [.ref a, .int j] H2 Q (WE W σ)) : tOwnN C sp W ta tb σ H Q := h
theorem k_ownO0 (h : ta σ H fun x H1 => tb σ H1 fun y H2 => ∃ a dx fs b dy gs, x = .ref a ∧ y = .ref b ∧ H2 a = some (.ins C dx fs) ∧ H2 b = some (.ins C dy gs) ∧ sp [.ref a, .ref b] H2 Q (WE W σ)) : tOwnO C sp W ta tb σ H Q := h
theorem k_ownN {a dx : Addr} {fs : List (Str × V)} {j : Int} {E : XK} (h : H a = some (.ins C dx fs)) (q : sp [.ref a, .int j] H Q E) : ∃ a' dx' fs' j', V.ref a = .ref a' ∧ V.int j = .int j' ∧ H a' = some (.ins C dx' fs') ∧ sp [.ref a', .int j'] H Q E := ⟨a, dx, fs, j, rfl, rfl, h, q⟩
theorem k_ownO {a dx b dy : Addr} {fs gs : List (Str × V)} {E : XK} (h : H a = some (.ins C dx fs)) (h2 : H b = some (.ins C dy gs)) (q : sp [.ref a, .ref b] H Q E) : ∃ a' dx' fs' b' dy' gs', V.ref a = .ref a' ∧ V.ref b = .ref b' ∧ H a' = some (.ins C dx' fs') ∧ H b' = some (.ins C dy' gs') ∧ sp [.ref a', .ref b'] H Q E := ⟨a, dx, fs, b, dy, gs, rfl, rfl, h, h2, q⟩
theorem k_ownEq {a dx b dy : Addr} {fs gs : List (Str × V)} (h : H a = some (.ins C dx fs)) (h2 : H b = some (.ins C dy gs)) (q : sp [.ref a, .ref b] H (fun v H' => ∃ c, v = .bl c ∧ Q v H') (fun _ _ _ => False)) : rOwnEq C sp (.ref a) (.ref b) H Q := ⟨a, dx, fs, b, dy, gs, rfl, rfl, h, h2, q⟩
theorem k_ownIn {a dx : Addr} {fs : List (Str × V)} {y : V} (h : H a = some (.ins C dx fs)) (q : sp [.ref a, y] H (fun v H' => ∃ c, v = .bl c ∧ Q v H') (fun _ _ _ => False)) : rOwnIn C sp y (.ref a) H Q := ⟨a, dx, fs, rfl, h, q⟩
theorem k_ownU {a dx : Addr} {fs : List (Str × V)} (h : H a = some (.ins C dx fs)) (q : sp [.ref a] H Q (fun _ _ _ => False)) : rOwnU C sp (.ref a) H Q := ⟨a, dx, fs, rfl, h, q⟩
theorem k_ownStr {a dx : Addr} {fs : List (Str × V)} (h : H a = some (.ins C dx fs)) (q : sp [.ref a] H (fun v H' => ∃ z, v = .str z ∧ Q v H') (fun _ _ _ => False)) : rOwnStr C sp [.ref a] H Q := ⟨a, dx, fs, rfl, h, q⟩
theorem k_st {z : Str} {PS : Str → Prop} (q : PS z) : ∃ z', V.str z = .str z' ∧ PS z' := ⟨z, rfl, q⟩
/-- isinstance of an instance and its own class -/
theorem k_isiO {a dx : Addr} {fs : List (Str × V)} (h : H a = some (.ins C dx fs)) (cl : Cls K C) (ha : PySem.W.findIn K (.ref C) "__class__" = some (some (.builtin "object.__class__"))) (hn : PySem.W.specialIn K (.builtin "object.__class__") "__get__" = some (some (.builtin "getset_descriptor.__get__")))
    (ht : PySem.W.takesIn K (.builtin "object.__class__") = some true) (hm : PySem.W.mroIn K C (.type "object") = some true) (q : Q (.bl true) H) : rIsi K [.ref a, .ref C] H Q :=
  ⟨_, _, _, _, true, rfl, .own C, .base (.ins h cl ha hn ht hm), by simp [PySem.W.kitOne], q⟩
/-- self.f = e -/
theorem k_sfld0 {f : Str} (h : te σ H fun y H1 => ta σ H1 fun x H2 => ∃ a C dx fs, x = .ref a ∧ H2 a = some (.ins C dx fs) ∧ Cls K C ∧ NoAttr K C f ∧ fs.length < 1000 ∧ n σ (upd H2 a (.ins C dx (putF f y fs)))) : sFld K ta te f ⟨n, r, b, c⟩ σ H := h
theorem k_sfld {f : Str} {a dx : Addr} {fs : List (Str × V)} {y : V} {PQ : Hp → Prop} (h : H a = some (.ins C dx fs)) (cl : Cls K C) (na : NoAttr K C f) (hl : fs.length < 1000) (q : PQ (upd H a (.ins C dx (putF f y fs)))) :
    ∃ a' C' dx' fs', V.ref a = .ref a' ∧ H a' = some (.ins C' dx' fs') ∧ Cls K C' ∧ NoAttr K C' f ∧ fs'.length < 1000 ∧ PQ (upd H a' (.ins C' dx' (putF f y fs'))) := ⟨a, C, dx, fs, rfl, h, cl, na, hl, q⟩
/-- f'..' -/
theorem k_jnil {acc : Str} {QS : Str → Hp → Prop} (q : QS acc H) : tJs [] acc σ H QS := q
theorem k_jcons {t : TE} {ts : List TE} {acc : Str} {QS : Str → Hp → Prop} (q : t σ H fun x H1 => ∃ y : Str, x = .str y ∧ (acc ++ y).length ≤ sizeLine ∧ tJs ts (acc ++ y) σ H1 QS) : tJs (t :: ts) acc σ H QS := q
theorem k_jst {acc y : Str} {PS : Str → Prop} (h : (acc ++ y).length ≤ sizeLine) (q : PS y) : ∃ y' : Str, V.str y = .str y' ∧ (acc ++ y').length ≤ sizeLine ∧ PS y' := ⟨y, rfl, h, q⟩
theorem k_fmt0 (q : te σ H fun x H1 => (∃ y : Str, x = .str y ∧ y.length ≤ sizeLine ∧ Q (.str y) H1) ∨ ∃ i : Int, x = .int i ∧ i.natAbs.log2 < 1920 ∧ Q (.str (toString i)) H1) : tFmt te σ H Q := q
theorem k_fmtI {i : Int} {P1 : Str → Prop} {P2 : Int → Prop} (h : i.natAbs.log2 < 1920) (q : P2 i) : (∃ y : Str, V.int i = .str y ∧ y.length ≤ sizeLine ∧ P1 y) ∨ ∃ i' : Int, V.int i = .int i' ∧ i'.natAbs.log2 < 1920 ∧ P2 i' := .inr ⟨i, rfl, h, q⟩
theorem k_fmtS {z : Str} {P1 : Str → Prop} {P2 : Int → Prop} (h : z.length ≤ sizeLine) (q : P1 z) : (∃ y : Str, V.str z = .str y ∧ y.length ≤ sizeLine ∧ P1 y) ∨ ∃ i' : Int, V.str z = .int i' ∧ i'.natAbs.log2 < 1920 ∧ P2 i' := .inl ⟨z, rfl, h, q⟩
theorem k_addS {x y : Str} {P2 : Str → Str → Prop} (h : x.length + y.length ≤ sizeLine) (q : P2 x y) : ∃ i j, V.str x = .str i ∧ V.str y = .str j ∧ i.length + j.length ≤ sizeLine ∧ P2 i j := ⟨x, y, rfl, rfl, h, q⟩
/-- xs + ys -/
theorem k_cat {B : Hp} {ms : List Addr} {f l : List (Addr × HO)} {p q : Addr} {xs ys : List V} (M : Mem B ms H f l) (h1 : H p = some (.lst xs)) (h2 : H q = some (.lst ys)) (hl : xs.length + ys.length ≤ sizeLine) (k : ∀ a H', Mem B ms H' f ((a, .lst (xs ++ ys)) :: l) → Q (.ref a) H') : rCat (.ref p) (.ref q) H Q :=
  ⟨p, q, xs, ys, rfl, rfl, h1, h2, hl, fun a ha => k a _ (M.alloc ha)⟩
/-- xs[a:b] -/
theorem k_sl0 {rr : V → Option Int → Option Int → Hp → VK → Prop} {tl th : TO} (h : te σ H fun x H1 => tl σ H1 fun l H2 => th σ H2 fun u H3 => rr x l u H3 Q) : tSl rr te tl th σ H Q := h
theorem k_slL {B : Hp} {ms : List Addr} {f l : List (Addr × HO)} {p : Addr} {xs : List V} {lo hi : Option Int} (M : Mem B ms H f l) (h1 : SqL K H p xs) (k : ∀ a H', Mem B ms H' f ((a, .lst (cutV xs lo hi)) :: l) → Q (.ref a) H') : rSlL K (.ref p) lo hi H Q :=
  ⟨p, xs, rfl, h1, fun a ha => k a _ (M.alloc ha)⟩
theorem k_nopart {QO : Option Int → Hp → Prop} (q : QO none H) : tNoPart σ H QO := q
theorem k_part {QO : Option Int → Hp → Prop} (q : te σ H fun x H1 => ∃ i, x = .int i ∧ QO (some i) H1) : tPart te σ H QO := q
theorem k_parti {i : Int} {PQ : Int → Prop} (q : PQ i) : ∃ i', V.int i = .int i' ∧ PQ i' := ⟨i, rfl, q⟩
end
section
variable {σ : L2.St} {H : Hp} {tA : TA} {C : Addr} {fs : List Str} {X : XK} {f g h : Str} {v u t : V}
theorem k_err0 (q : tA σ H fun vs H1 => vs.length = fs.length ∧ errQ C fs vs H1 X) : tMkErr C fs tA σ H X := q
theorem k_errQ0 (q : X (.ref C) none H) : ([] : List V).length = ([] : List Str).length ∧ errQ C [] [] H X := ⟨rfl, q⟩
theorem k_errQ1 (q : ∀ d, H d = none → X (.ref C) (some d) (upd H d (.xd [(f, v)]))) : [v].length = [f].length ∧ errQ C [f] [v] H X := ⟨rfl, q⟩
theorem k_errQ2 (q : ∀ d, H d = none → X (.ref C) (some d) (upd H d (.xd [(g, u), (f, v)]))) : [v, u].length = [f, g].length ∧ errQ C [f, g] [v, u] H X := ⟨rfl, q⟩
theorem k_errQ3 (q : ∀ d, H d = none → X (.ref C) (some d) (upd H d (.xd [(h, t), (g, u), (f, v)]))) : [v, u, t].length = [f, g, h].length ∧ errQ C [f, g, h] [v, u, t] H X := ⟨rfl, q⟩
end
/-- a class of the module, as a value -/
theorem g_ref {X : Cx} {x : Str} {C : Addr} {pos : Pos} (hm : X.mg x = some (.ref C)) (hg : Gl X x := by rfl) (hd : (x == ("__debug__" : Str)) = false := by decide) : PE X (.Name x pos) (tC (.ref C)) := pe_glob (v := .ref C) hg hm rfl hd
/-- a built-in class, as a value -/
theorem g_ty {X : Cx} {x : Str} {n : String} {pos : Pos} (hm : X.mg x = none) (hv : bootBuiltins x = some (.type n)) (hg : Gl X x := by rfl) (hn : x ≠ "__name__" := by decide) (hd : (x == ("__debug__" : Str)) = false := by decide) : PE X (.Name x pos) (tC (.ty n)) := pe_bltn (v := .ty n) hg hm hv rfl hn hd
theorem log2_64 {i : Int} (h : -(2 ^ 64) < i) (h2 : i < 2 ^ 64) : i.natAbs.log2 < 1920 := by
  by_cases e : i.natAbs = 0
  · rw [e]; decide
  · exact Nat.lt_of_lt_of_le ((Nat.log2_lt e).mpr (show i.natAbs < 2 ^ 64 by omega)) (by decide)
theorem strI_len {i : Int} (h : -(2 ^ 64) < i) (h2 : i < 2 ^ 64) : (Str.ofString (toString i)).length ≤ 31 := by
  rw [PySem.ofString_length]
  exact int_text_length_le10 (k := 30) (by decide) (by omega)
end MyL

set_option Elab.async false
set_option linter.all false
set_option maxRecDepth 100000
set_option maxHeartbeats 4000000
/-! Loops by a word between two turns. -/
namespace MyL
open PySem L2
/-- for k in a range that begins at lo and has n turns -/
def RngLoop (lo : Int) (n : Nat) (g : TG) (tb : TS) (nx : L2.St → Hp → Prop) (rt : VK) (σ : L2.St) (H : Hp) : Prop :=
  ∃ Pv : Nat → L2.St → Hp → Prop, Pv 0 σ H ∧ (∀ i σ' H', i < n → Pv i σ' H' → g (.int (lo + i)) σ' H' fun σ2 H2 => tb ⟨Pv (i + 1), rt, nx, Pv (i + 1)⟩ σ2 H2) ∧ ∀ σ' H', Pv n σ' H' → nx σ' H'
/-- for x in a list of xs -/
def LstLoop (K : PySem.W.Frag) (a : Addr) (xs : List V) (g : TG) (tb : TS) (nx : L2.St → Hp → Prop) (rt : VK) (σ : L2.St) (H : Hp) : Prop :=
  ∃ Pv : Nat → L2.St → Hp → Prop, Pv 0 σ H ∧ (∀ i σ' H', i ≤ xs.length → Pv i σ' H' → SqL K H' a xs) ∧ (∀ i x σ' H', xs[i]? = some x → Pv i σ' H' → g x σ' H' fun σ2 H2 => tb ⟨Pv (i + 1), rt, nx, Pv (i + 1)⟩ σ2 H2) ∧ ∀ σ' H', Pv xs.length σ' H' → nx σ' H'
def TupLoop (K : PySem.W.Frag) (a : Addr) (xs : List V) (g : TG) (tb : TS) (nx : L2.St → Hp → Prop) (rt : VK) (σ : L2.St) (H : Hp) : Prop :=
  ∃ Pv : Nat → L2.St → Hp → Prop, Pv 0 σ H ∧ (∀ i σ' H', i ≤ xs.length → Pv i σ' H' → SqT K H' a xs) ∧ (∀ i x σ' H', xs[i]? = some x → Pv i σ' H' → g x σ' H' fun σ2 H2 => tb ⟨Pv (i + 1), rt, nx, Pv (i + 1)⟩ σ2 H2) ∧ ∀ σ' H', Pv xs.length σ' H' → nx σ' H'
/-- a comprehension over a range, over a list -/
def LcR (lo : Int) (n : Nat) (g : TG) (tt : TT) (te : TE) (vs : List Nat) (σ : L2.St) (H : Hp) (Q : VK) : Prop :=
  ∀ D, H D = none → ∃ Pv : Nat → Hp → Prop, Pv 0 (upd H D (.lst [])) ∧ (∀ i H', i < n → Pv i H' → g (.int (lo + i)) (wipe σ vs) H' fun σ2 H2 => wipe σ2 vs = wipe σ vs ∧ tt σ2 H2 fun b H3 =>
    if b = true then te σ2 H3 fun y H4 => ∃ acc, H4 D = some (.lst acc) ∧ acc.length < sizeLine ∧ Pv (i + 1) (upd H4 D (.lst (acc ++ [y]))) else Pv (i + 1) H3) ∧ ∀ H', Pv n H' → Q (.ref D) H'
def LcL (K : PySem.W.Frag) (a : Addr) (xs : List V) (g : TG) (tt : TT) (te : TE) (vs : List Nat) (σ : L2.St) (H : Hp) (Q : VK) : Prop :=
  ∀ D, H D = none → ∃ Pv : Nat → Hp → Prop, Pv 0 (upd H D (.lst [])) ∧ (∀ i H', i ≤ xs.length → Pv i H' → SqL K H' a xs) ∧ (∀ i x H', xs[i]? = some x → Pv i H' → g x (wipe σ vs) H' fun σ2 H2 => wipe σ2 vs = wipe σ vs ∧ tt σ2 H2 fun b H3 =>
    if b = true then te σ2 H3 fun y H4 => ∃ acc, H4 D = some (.lst acc) ∧ acc.length < sizeLine ∧ Pv (i + 1) (upd H4 D (.lst (acc ++ [y]))) else Pv (i + 1) H3) ∧ ∀ H', Pv xs.length H' → Q (.ref D) H'
def iJ (J : It) : TI := fun _ H R => R J H
section
variable {nx : L2.St → Hp → Prop} {rt : VK} {bk ct : L2.St → Hp → Prop} {σ : L2.St} {H : Hp} {tb : TS} {g : TG} {te tl : TE} {tt : TT} {Q : VK} {tA : TA} {K : PySem.W.Frag} {D : Ends} {vs : List Nat}
theorem k_forR1 (h : tA σ H fun vs H1 => ∃ j : Int, vs = [.int j] ∧ -(2 ^ 62) ≤ j ∧ j < 2 ^ 62 ∧ tFor (iJ (Itr 0 j.toNat)) g tb D σ H1) : tFor (iRng1 tA) g tb D σ H := h
theorem k_forR2 (h : tA σ H fun vs H1 => ∃ i j : Int, vs = [.int i, .int j] ∧ (-(2 ^ 62) ≤ i ∧ i < 2 ^ 62 ∧ -(2 ^ 62) ≤ j ∧ j < 2 ^ 62) ∧ tFor (iJ (Itr i (j - i).toNat)) g tb D σ H1) : tFor (iRng2 tA) g tb D σ H := h
theorem k_forL (h : tl σ H fun x H1 => ∃ a, x = .ref a ∧ (∃ xs, SqL K H1 a xs) ∧ tFor (iJ (Itl K a)) g tb D σ H1) : tFor (iList K tl) g tb D σ H := h
theorem k_forT (h : tl σ H fun x H1 => ∃ a, x = .ref a ∧ (∃ xs, SqT K H1 a xs) ∧ tFor (iJ (Itt K a)) g tb D σ H1) : tFor (iTup K tl) g tb D σ H := h
theorem k_lcR1 (h : tA σ H fun zs H1 => ∃ j : Int, zs = [.int j] ∧ -(2 ^ 62) ≤ j ∧ j < 2 ^ 62 ∧ tLc (iJ (Itr 0 j.toNat)) g tt te vs σ H1 Q) : tLc (iRng1 tA) g tt te vs σ H Q := h
theorem k_lcR2 (h : tA σ H fun zs H1 => ∃ i j : Int, zs = [.int i, .int j] ∧ (-(2 ^ 62) ≤ i ∧ i < 2 ^ 62 ∧ -(2 ^ 62) ≤ j ∧ j < 2 ^ 62) ∧ tLc (iJ (Itr i (j - i).toNat)) g tt te vs σ H1 Q) : tLc (iRng2 tA) g tt te vs σ H Q := h
theorem k_lcL (h : tl σ H fun x H1 => ∃ a, x = .ref a ∧ (∃ xs, SqL K H1 a xs) ∧ tLc (iJ (Itl K a)) g tt te vs σ H1 Q) : tLc (iList K tl) g tt te vs σ H Q := h
theorem k_rng1 {n : Int} {PR : Int → Prop} (h1 : -(2 ^ 62) ≤ n) (h2 : n < 2 ^ 62) (q : PR n) : ∃ j : Int, [V.int n] = [.int j] ∧ -(2 ^ 62) ≤ j ∧ j < 2 ^ 62 ∧ PR j := ⟨n, rfl, h1, h2, q⟩
theorem k_rng2 {m n : Int} {PR : Int → Int → Prop} (h1 : -(2 ^ 62) ≤ m) (h2 : m < 2 ^ 62) (h3 : -(2 ^ 62) ≤ n) (h4 : n < 2 ^ 62) (q : PR m n) : ∃ i j : Int, [V.int m, V.int n] = [.int i, .int j] ∧ (-(2 ^ 62) ≤ i ∧ i < 2 ^ 62 ∧ -(2 ^ 62) ≤ j ∧ j < 2 ^ 62) ∧ PR i j := ⟨m, n, rfl, ⟨h1, h2, h3, h4⟩, q⟩
theorem k_lstAt {p : Addr} {xs : List V} {PR : Addr → Prop} (h : SqL K H p xs) (q : PR p) : ∃ a, V.ref p = .ref a ∧ (∃ xs, SqL K H a xs) ∧ PR a := ⟨p, rfl, ⟨xs, h⟩, q⟩
theorem k_tupAt {p : Addr} {xs : List V} {PR : Addr → Prop} (h : SqT K H p xs) (q : PR p) : ∃ a, V.ref p = .ref a ∧ (∃ xs, SqT K H a xs) ∧ PR a := ⟨p, rfl, ⟨xs, h⟩, q⟩
theorem rng_loop {lo : Int} {n : Nat} (h : RngLoop lo n g tb nx rt σ H) : tFor (iJ (Itr lo n)) g tb ⟨nx, rt, bk, ct⟩ σ H := by
  obtain ⟨Pv, h0, hs, hd⟩ := h
  exact for_range (D := ⟨nx, rt, bk, ct⟩) Pv h0 hs hd
theorem lst_loop {a : Addr} {xs : List V} (h : LstLoop K a xs g tb nx rt σ H) : tFor (iJ (Itl K a)) g tb ⟨nx, rt, bk, ct⟩ σ H := by
  obtain ⟨Pv, h0, hl, hs, hd⟩ := h
  exact for_list (D := ⟨nx, rt, bk, ct⟩) Pv h0 hl hs hd
theorem tup_loop {a : Addr} {xs : List V} (h : TupLoop K a xs g tb nx rt σ H) : tFor (iJ (Itt K a)) g tb ⟨nx, rt, bk, ct⟩ σ H := by
  obtain ⟨Pv, h0, hl, hs, hd⟩ := h
  exact for_tup (D := ⟨nx, rt, bk, ct⟩) Pv h0 hl hs hd
theorem lc_rng {lo : Int} {n : Nat} (h : LcR lo n g tt te vs σ H Q) : tLc (iJ (Itr lo n)) g tt te vs σ H Q := fun D hD => by
  obtain ⟨Pv, h0, hs, hd⟩ := h D hD
  exact lc_range Pv h0 hs hd
theorem lc_lst {a : Addr} {xs : List V} (h : LcL K a xs g tt te vs σ H Q) : tLc (iJ (Itl K a)) g tt te vs σ H Q := fun D hD => by
  obtain ⟨Pv, h0, hl, hs, hd⟩ := h D hD
  exact lc_list Pv h0 hl hs hd
theorem k_iteNE {x : Bool} {A Z : Prop} (h : Z) : if (!(x == x)) = true then A else Z := by
  rw [if_neg (by simp)]; exact h
theorem k_iteNS {z : Str} {A Z : Prop} (h : Z) : if (!decide (z = z)) = true then A else Z := by
  rw [if_neg (by simp)]; exact h
theorem k_gName {i : Nat} {v : V} {QG : L2.St → Hp → Prop} (q : QG (σ.set i (some v)) H) : gName i v σ H QG := q
theorem Mem.one {B : Hp} {ms : List Addr} {f l : List (Addr × HO)} {x : Addr × HO} (M : Mem B ms H f (x :: l)) : Mem B ms H f [x] := by
  refine ⟨M.atF, fun p hp => M.atL p (by simp at hp; simp [hp]), ?_, M.keep, M.tr, fun p hp => M.new p (by simp at hp; simp [hp])⟩
  have nd := M.nd
  simp only [List.cons_append, List.map_cons, List.nodup_cons, List.map_append, List.nil_append, List.nodup_append, List.mem_append, List.append_eq] at nd ⊢
  exact ⟨fun z => nd.1 (.inr z), nd.2.2.1⟩
theorem Mem.none {B : Hp} {ms : List Addr} {f l : List (Addr × HO)} (M : Mem B ms H f l) : Mem B ms H f [] := by
  refine ⟨M.atF, (fun p hp => nomatch hp), ?_, M.keep, M.tr, (fun p hp => nomatch hp)⟩
  have nd := M.nd
  rw [List.map_append, List.nodup_append] at nd
  simpa using nd.2.1
/-- a comprehension over a range without a test, whose element is reckoned and makes nothing -/
theorem lcR_pure {B : Hp} {ms : List Addr} {f l : List (Addr × HO)} {lo : Int} {n j : Nat} (M : Mem B ms H f l) (v : Nat → V) (hn : n ≤ 50000) (hw : ∀ x, wipe ((wipe σ vs).set j (some x)) vs = wipe σ vs)
    (he : ∀ (i : Nat) H' D (R : VK), i < n → Mem B ms H' f ((D, .lst ((List.range i).map v)) :: l) → (∀ H4, Mem B ms H4 f ((D, .lst ((List.range i).map v)) :: l) → R (v i) H4) → te ((wipe σ vs).set j (some (.int (lo + i)))) H' R)
    (k : ∀ D H', Mem B ms H' f ((D, .lst ((List.range n).map v)) :: l) → Q (.ref D) H') : tLc (iJ (Itr lo n)) (gName j) tYes te vs σ H Q := by
  refine lc_rng fun D hD => ⟨fun i H' => Mem B ms H' f ((D, .lst ((List.range i).map v)) :: l), M.alloc hD, fun i H' hi M' => ⟨hw _, ?_⟩, fun H' M' => k D H' M'⟩
  refine iteT (B := Mem B ms H' f ((D, .lst ((List.range (i + 1)).map v)) :: l)) (he i H' D _ hi M' fun H4 M4 => ⟨_, M4.getL List.mem_cons_self, ?_, ?_⟩)
  · rw [List.length_map, List.length_range]; exact Nat.lt_of_lt_of_le hi (Nat.le_trans hn (by decide))
  · dsimp only; rw [List.range_succ, List.map_append]; exact Mem.setL (l1 := []) M4
/-- .. over a list -/
theorem lcL_pure {B : Hp} {ms : List Addr} {f l : List (Addr × HO)} {a : Addr} {xs : List V} {j : Nat} (M : Mem B ms H f l) (hx : ∀ H', Mem B ms H' f l → SqL K H' a xs) (v : Nat → V) (hn : xs.length ≤ 50000) (hw : ∀ x, wipe ((wipe σ vs).set j (some x)) vs = wipe σ vs)
    (he : ∀ (i : Nat) x H' D (R : VK), xs[i]? = some x → Mem B ms H' f ((D, .lst ((List.range i).map v)) :: l) → (∀ H4, Mem B ms H4 f ((D, .lst ((List.range i).map v)) :: l) → R (v i) H4) → te ((wipe σ vs).set j (some x)) H' R)
    (k : ∀ D H', Mem B ms H' f ((D, .lst ((List.range xs.length).map v)) :: l) → Q (.ref D) H') : tLc (iJ (Itl K a)) (gName j) tYes te vs σ H Q := by
  refine lc_lst (xs := xs) fun D hD => ⟨fun i H' => Mem B ms H' f ((D, .lst ((List.range i).map v)) :: l), M.alloc hD, fun i H' _ M' => hx H' M'.drop, fun i x H' hi M' => ⟨hw _, ?_⟩, fun H' M' => k D H' M'⟩
  refine iteT (B := Mem B ms H' f ((D, .lst ((List.range (i + 1)).map v)) :: l)) (he i x H' D _ hi M' fun H4 M4 => ⟨_, M4.getL List.mem_cons_self, ?_, ?_⟩)
  · rw [List.length_map, List.length_range]; exact Nat.lt_of_lt_of_le (List.getElem?_eq_some_iff.mp hi).1 (Nat.le_trans hn (by decide))
  · dsimp only; rw [List.range_succ, List.map_append]; exact Mem.setL (l1 := []) M4
end
end MyL

set_option Elab.async false
set_option linter.all false
set_option maxRecDepth 100000
set_option maxHeartbeats 4000000
/-! What is asked of a caught error, step by step. -/
namespace MyL
open PySem L2
section
variable {K : PySem.W.Frag} {H : Hp} {Q : VK} {D a dd C1 C2 C3 : Addr} {fs : List (Str × V)} {b : Bool} {σ : L2.St} {te : TE} {f : Str} {v : V}
theorem k_isXo (hD : ExcK K D) (hd : H dd = some (.xd fs)) (e : PySem.W.kitOne K (.ref D) (.ref C1) = some b) (q : Q (.bl b) H) : rIsX K (.ref D) (some dd) a [.ref a, .ref C1] H Q := ⟨D, _, _, b, rfl, hD, ⟨fs, hd⟩, rfl, .own C1, e, q⟩
theorem k_isXs (hD : ExcK K D) (hd : H dd = some (.xd fs)) (q : Q (.bl true) H) : rIsX K (.ref D) (some dd) a [.ref a, .ref D] H Q := k_isXo hD hd (by simp [PySem.W.kitOne]) q
theorem k_isXt {n : String} (hD : ExcK K D) (hd : H dd = some (.xd fs)) (e : PySem.W.kitOne K (.ref D) (.type n) = some b) (q : Q (.bl b) H) : rIsX K (.ref D) (some dd) a [.ref a, .ty n] H Q := ⟨D, _, _, b, rfl, hD, ⟨fs, hd⟩, rfl, .ty n, e, q⟩
theorem k_isX3 {tp : Addr} (hD : ExcK K D) (hd : H dd = some (.xd fs)) (ht : H tp = some (.tup [.ref C1, .ref C2, .ref C3])) (e : PySem.W.kitAny K (.ref D) [.ref C1, .ref C2, .ref C3] = some b) (q : Q (.bl b) H) : rIsXT K (.ref D) (some dd) a [.ref a, .ref tp] H Q :=
  ⟨D, tp, _, _, b, rfl, hD, ⟨fs, hd⟩, rfl, ht, .cons (.own C1) (.cons (.own C2) (.cons (.own C3) .nil)), e, q⟩
theorem k_isX2 {tp : Addr} (hD : ExcK K D) (hd : H dd = some (.xd fs)) (ht : H tp = some (.tup [.ref C1, .ref C2])) (e : PySem.W.kitAny K (.ref D) [.ref C1, .ref C2] = some b) (q : Q (.bl b) H) : rIsXT K (.ref D) (some dd) a [.ref a, .ref tp] H Q :=
  ⟨D, tp, _, _, b, rfl, hD, ⟨fs, hd⟩, rfl, ht, .cons (.own C1) (.cons (.own C2) .nil), e, q⟩
theorem k_xf0 {cls : Value} {d : Option Addr} (h : te σ H fun x H1 => x = .ref a ∧ cls = .ref D ∧ ∃ (dd : Addr) (fs : List (Str × V)) (v : V), d = some dd ∧ H1 dd = some (.xd fs) ∧ fs.lookup f = some v ∧ Q v H1) : tXf a cls d D f te σ H Q := h
theorem k_xf {PV : V → Prop} (hd : H dd = some (.xd fs)) (hl : fs.lookup f = some v) (q : PV v) : V.ref a = .ref a ∧ Value.ref D = .ref D ∧ ∃ (dd' : Addr) (fs' : List (Str × V)) (v' : V), some dd = some dd' ∧ H dd' = some (.xd fs') ∧ fs'.lookup f = some v' ∧ PV v' := ⟨rfl, rfl, dd, fs, v, rfl, hd, hl, q⟩
theorem xd1 {g : Str} {v : V} : List.lookup g [(g, v)] = some v := by simp [List.lookup]
theorem xd2 {g h : Str} {v u : V} (n : ¬ g = h) : List.lookup g [(h, u), (g, v)] = some v := by
  rw [lookup_put, if_neg n, lookup_put, if_pos rfl]
/-- the clause takes the error -/
theorem k_caught {K : PySem.W.Frag} {c : Value} {i : Nat} {ts : Addr → Value → Option Addr → TS} {Wout : WX} {nx : L2.St → Hp → Prop} {rt : VK} {bk ct : L2.St → Hp → Prop} {cls : Value} {d : Option Addr} (h : PySem.W.exmOne K cls c = some true)
    (q : ∀ a, H a = none → ts a cls d ⟨fun σ' H' => nx (σ'.set i none) H', rt, fun σ' H' => bk (σ'.set i none) H', fun σ' H' => ct (σ'.set i none) H'⟩ (σ.set i (some (.ref a))) H) : wAs K c i ts Wout ⟨nx, rt, bk, ct⟩ cls d σ H :=
  ⟨true, h, fun _ => q, fun z => nomatch z⟩
/-- the script's list -/
theorem k_lenS {p : Addr} {ns : List Int} (h : SqL K H p (ns.map V.int)) (q : Q (.int ns.length) H) : rLenQ K [.ref p] H Q := ⟨p, _, rfl, .inl h, by rw [List.length_map]; exact q⟩
theorem k_ixS {p : Addr} {xs : List V} {j : Int} {v : V} (h : SqL K H p xs) (ha : atI xs j = some v) (q : Q v H) : rIxL K (.ref p) (.int j) H Q := ⟨p, xs, j, v, rfl, rfl, h, ha, q⟩
theorem cut_all {xs : List V} {n : Int} (h : (xs.length : Int) ≤ n) : cutV xs none (some n) = xs := by
  unfold cutV
  have h0 : HT.sIx xs.length 0 none = 0 := rfl
  have h1 : HT.sIx xs.length xs.length (some n) = xs.length := by
    show (if n < 0 then (n + (xs.length : Int)).toNat else min n.toNat xs.length) = xs.length
    rw [if_neg (by omega)]
    omega
  rw [h0, h1]
  simp
end
end MyL

set_option Elab.async false
set_option linter.all false
set_option maxRecDepth 100000
set_option maxHeartbeats 4000000
/-! A class of one's own made by keywords alone. -/
namespace MyL
open PySem PySem.Spec PyProof.Rows L2
structure MakK (P : Program) (w : World) (K : PySem.W.Frag) (mg : Str → Option Value) (base : Heap) (k : Nat) (x : Str) (C : Addr) (ks : List Str) (pm : {α : Type} → List α → List α) (sp : Sp) : Prop where
  ex : ∃ (f : Addr) (fd : FuncData) (ps : List Str), mg x = some (.ref C) ∧ Mk K C f ∧ (∀ (s : Shared) (u : Value) (ws : List Value), K.In s.heap → ws.length = ks.length → BindsTo s fd ⟨[u], ks.zip ws⟩ (ps.zip (u :: pm ws))) ∧
    (∀ (zs : List V) (ws : List Value), Vals zs ws → zs.length = ks.length → Vals (pm zs) (pm ws)) ∧ FnOk P w K mg base (L2.CX P w) k f fd ps sp
def tMakeK (C : Addr) (sp : Sp) (pm : List V → List V) (n : Nat) (W : WX) (tk : TA) : TE := fun σ H Q => tk σ H fun zs H1 => zs.length = n ∧ newO C sp (pm zs) H1 Q (WE W σ)
section
variable {X : Cx} {W : WX} {k j : Nat} {C : Addr} {sp : Sp} {x : Str} {p pos : Pos} {kws : List Keyword} {ks : List Str} {t : TA} {pm : {α : Type} → List α → List α}
theorem c_makeK (c : MakK X.prog X.w X.K X.mg X.base k x C ks pm sp) (tk : Takes X W) (hr : Room j X.A) (hk : k + 1 ≤ j) (hkw : PK X kws t) (hg : Gl X x := by rfl) (hall : (backToKw pos (keywordEach kws X.env)).all (·.1.isSome) = true := by rfl) (hks : (backToKw pos (keywordEach kws X.env)).filterMap (·.1) = ks := by rfl)
    (hdb : (x == ("__debug__" : Str)) = false := by decide) (hpl : ((backTo pos (starEach [] X.env)).any (·.1) || (backToKw pos (keywordEach kws X.env)).any (·.1.isNone)) = false := by rfl) :
    PE X (.Call (.Name x p) [] kws pos) (tMakeK C sp pm ks.length W t) := by
  obtain ⟨f, fd, ps, hm, M, hb, hrel, F⟩ := c.ex
  refine ⟨fun pins s σ H Q I h => ?_⟩
  refine wpAny_Call_Name_kw (ld_glob I hg hm ?_ hdb)
  refine PySem.W.callWith_KW0 (first := []) (h₀ := X.base) I.ok.mod.kin M.kp hall (thn (hkw.run pos pins s σ H _ I h) fun ws s1 hh => ?_) hpl
  obtain ⟨zs, H1, I1, rz, hl, q⟩ := hh
  refine ⟨I1.kIn, ?_⟩
  rw [hks]
  have hwl : ws.length = ks.length := by rw [← rz.length]; exact hl
  have hq := q (s1.heap.objs.size + 1) s1.heap.objs.size (I1.hok.fresh (Nat.le_succ _)) (I1.hok.fresh (Nat.le_refl _)) (Nat.ne_of_lt (Nat.lt_succ_self _))
  have I2 := Inv.made (C := C) I1
  have r2 : Vals (V.ref (s1.heap.objs.size + 1) :: pm zs) (Value.ref (s1.heap.objs.size + 1) :: pm ws) := .cons rfl (hrel zs ws rz hl)
  have hr2 : Room (k + 1) X.A := hr.mono hk
  show wpAny _ _ (call (.ref C) [] (ks.zip ws)) _ _ _
  refine wpAny_call (make_map (f := f) I1.kIn M.makes M.init (beq_iff_eq.mp M.fn) (codeAny_mono (F.run _ X.stack _ _ ⟨[Value.ref (s1.heap.objs.size + 1)], ks.zip ws⟩ (Value.ref (s1.heap.objs.size + 1) :: pm ws) _ _ (WE W σ) (hr2.make C [] (ks.zip ws))
    (I2.env0.make C [] (ks.zip ws)) (hb _ _ ws I2.kIn hwl) r2 hq) fun r s' hq' => ?_))
  match r, hq' with
  | .error e, hq' => exact passAt tk σ pins _ _ e s' I2 hq'
  | .ok (.ret u), hq' =>
    obtain ⟨v, H', I3, rv, ev, q3⟩ := I2.after hq'
    subst ev
    exact ⟨rv, ⟨V.ref (s1.heap.objs.size + 1), H', I3, rfl, q3⟩⟩
  | .ok .next, hq' => exact hq'.elim
  | .ok .brk, hq' => exact hq'.elim
  | .ok .cont, hq' => exact hq'.elim
theorem k_makeK0 {σ : L2.St} {H : Hp} {Q : VK} {pm : List V → List V} {n : Nat} (h : t σ H fun zs H1 => zs.length = n ∧ newO C sp (pm zs) H1 Q (WE W σ)) : tMakeK C sp pm n W t σ H Q := h
end
/-- two turned about -/
def swap2 {α : Type} : List α → List α
  | [a, b] => [b, a]
  | l => l
theorem k_swap2 {H : Hp} {Q : VK} {E : XK} {C : Addr} {sp : Sp} {u v : V} (q : newO C sp [v, u] H Q E) : [u, v].length = 2 ∧ newO C sp (swap2 [u, v]) H Q E := ⟨rfl, q⟩
end MyL

set_option Elab.async false
set_option linter.all false
set_option maxRecDepth 100000
set_option maxHeartbeats 4000000
/-! A comprehension whose element makes an object at every turn. -/
namespace MyL
open PySem L2
section
variable {σ : L2.St} {H : Hp} {te : TE} {Q : VK} {K : PySem.W.Frag} {vs : List Nat} {B : Hp} {ms : List Addr} {f l : List (Addr × HO)}
theorem Mem.swap {x y : Addr × HO} (M : Mem B ms H f (x :: y :: l)) : Mem B ms H f (y :: x :: l) := by
  refine ⟨M.atF, fun p hp => M.atL p ?_, ?_, M.keep, M.tr, fun p hp => M.new p ?_⟩
  · simp at hp ⊢; rcases hp with h | h | h <;> simp [h]
  · have nd := M.nd
    simp only [List.cons_append, List.map_cons, List.nodup_cons, List.mem_cons, not_or] at nd ⊢
    exact ⟨⟨fun z => nd.1.1 z.symm, nd.2.1⟩, nd.1.2, nd.2.2⟩
  · simp at hp ⊢; rcases hp with h | h | h <;> simp [h]
theorem lcL_new {O : V → HO → Prop} {a : Addr} {xs : List V} {j : Nat} (M : Mem B ms H f l) (hx : ∀ H' l', Mem B ms H' f l' → SqL K H' a xs) (hn : xs.length ≤ 50000) (hw : ∀ x, wipe ((wipe σ vs).set j (some x)) vs = wipe σ vs)
    (he : ∀ x H' l' (R : VK), x ∈ xs → Mem B ms H' f l' → (∀ y o H4, O x o → Mem B ms H4 f ((y, o) :: l') → R (.ref y) H4) → te ((wipe σ vs).set j (some x)) H' R)
    (k : ∀ (D : Addr) (zs : List (Addr × HO)) (H' : Hp), zs.length = xs.length → (∀ (n : Nat) (x : V) (z : Addr × HO), xs[n]? = some x → zs[n]? = some z → O x z.2) → Mem B ms H' f ((D, .lst (zs.map fun z => V.ref z.1)) :: (zs.reverse ++ l)) → Q (.ref D) H') : tLc (iJ (Itl K a)) (gName j) tYes te vs σ H Q := by
  refine lc_lst (xs := xs) fun D hD => ⟨fun i H' => ∃ zs : List (Addr × HO), zs.length = i ∧ (∀ (n : Nat) (x : V) (z : Addr × HO), xs[n]? = some x → zs[n]? = some z → O x z.2) ∧ Mem B ms H' f ((D, .lst (zs.map fun z => V.ref z.1)) :: (zs.reverse ++ l)), ?_, ?_, ?_, ?_⟩
  · exact ⟨[], rfl, (fun n x z _ h => by simp at h), M.alloc hD⟩
  · rintro i H' _ ⟨zs, _, _, M'⟩
    exact hx H' _ M'
  · rintro i x H' hi ⟨zs, hz, hO, M'⟩
    refine ⟨hw _, ?_⟩
    refine iteT (B := ∃ zs : List (Addr × HO), zs.length = i + 1 ∧ (∀ (n : Nat) (x : V) (z : Addr × HO), xs[n]? = some x → zs[n]? = some z → O x z.2) ∧ Mem B ms H' f ((D, .lst (zs.map fun z => V.ref z.1)) :: (zs.reverse ++ l))) (he x H' _ _ (List.mem_of_getElem? hi) M' fun y o H4 ho M4 => ?_)
    have hil : i < xs.length := by
      have := List.getElem?_eq_some_iff.1 hi
      exact this.1
    refine ⟨_, M4.getL (List.mem_cons_of_mem _ List.mem_cons_self), ?_, zs ++ [(y, o)], ?_, ?_, ?_⟩
    · rw [List.length_map, hz]; exact Nat.lt_of_lt_of_le hil (Nat.le_trans hn (by decide))
    · simp [hz]
    · intro n x' z hx' hz'
      by_cases hlt : n < i
      · rw [List.getElem?_append_left (by omega)] at hz'
        exact hO n x' z hx' hz'
      · have hni : n = i := by
          have := (List.getElem?_eq_some_iff.1 hz').1
          simp at this
          omega
        subst hni
        rw [List.getElem?_append_right (by omega), hz, Nat.sub_self] at hz'
        rw [hi] at hx'
        simp at hx' hz'
        subst hx' hz'
        exact ho
    · have := (Mem.setL (l1 := [(y, o)]) (o' := .lst (List.map (fun z : Addr × HO => V.ref z.1) (zs ++ [(y, o)]))) M4).swap
      simpa using this
  · rintro H' ⟨zs, hz, hO, M'⟩
    exact k D zs H' hz hO M'
theorem k_swapK {E : XK} {C : Addr} {sp : Sp} {u v : V} {s t : Str} (q : newO C sp [v, u] H Q E) : [u, v].length = [s, t].length ∧ newO C sp (swap2 [u, v]) H Q E := ⟨rfl, q⟩
theorem k_iteNEq {x y : Bool} {A Z : Prop} (e : x = y) (h : Z) : if (!(x == y)) = true then A else Z := by
  subst e; rw [if_neg (by simp)]; exact h
end
end MyL

set_option Elab.async false
set_option linter.all false
set_option maxRecDepth 100000
set_option maxHeartbeats 4000000
/-! The end: what the top has written, def by def, and the law's own head. -/
namespace MyL
open PySem PySem.Spec PyProof.Rows L2
def DefAt (K : PySem.W.Frag) (mg : Str → Option Value) (x qual : Str) (st : Stmt) : Prop := ∃ (f : Addr) (fd : FuncData), mg x = some (.ref f) ∧ Fun K x qual st f fd
def MethAt (K : PySem.W.Frag) (C : Addr) (m qual : Str) (st : Stmt) : Prop := ∃ (f : Addr) (fd : FuncData), PySem.W.findIn K (.ref C) m = some (some (.ref f)) ∧ PySem.W.isFn K (.ref f) = true ∧ Fun K m qual st f fd
section
variable {P : Program} {w : World} {K : PySem.W.Frag} {mg : Str → Option Value} {base h : Heap} {k : Nat} {C f : Addr} {x m qual : Str} {sp : Sp} {st : Stmt} {fd : FuncData} {ps : List Str} {oc : Value} {od an : Option Addr} {osl : Array (Option Value)} {kV doc pm cdv ct : Value}
theorem gdef (X : K.In h) (G : h.Ns mainGlobals mg) (a : PySem.W.nsIn K mainGlobals x = some (some (.ref f))) (l : K.lookup f = some ⟨oc, od, .func (PySem.W.fnOf x qual (defArgs st) (defBody st) (defScope st) .none kV doc pm an cdv ct), osl⟩)
    (c : PySem.W.codeIn K cdv qual = true) (kp : PySem.W.keepIn K (.ref f) = true) : DefAt K mg x qual st := ⟨f, _, PySem.W.mg_of X G a, fun_mk l c kp⟩
theorem gmeth (a : PySem.W.findIn K (.ref C) m = some (some (.ref f))) (i : PySem.W.isFn K (.ref f) = true) (l : K.lookup f = some ⟨oc, od, .func (PySem.W.fnOf m qual (defArgs st) (defBody st) (defScope st) .none kV doc pm an cdv ct), osl⟩)
    (c : PySem.W.codeIn K cdv qual = true) (kp : PySem.W.keepIn K (.ref f) = true) : MethAt K C m qual st := ⟨f, _, a, i, fun_mk l c kp⟩
/-- the arguments of a def of the text bind by place -/
def BindsSt (x qual : Str) (st : Stmt) (ps : List Str) : Prop := ∀ (kV doc pm : Value) (an : Option Addr) (cdv ct : Value) (us : List Value), us.length = ps.length → bindArgs (PySem.W.fnOf x qual (defArgs st) (defBody st) (defScope st) .none kV doc pm an cdv ct) ⟨us, []⟩ = pure (ps.zip us)
theorem cal_of (D : DefAt K mg x qual st) (hb : BindsSt x qual st ps) (ok : ∀ {f : Addr} {fd : FuncData}, Fun K x qual st f fd → FnOk P w K mg base (L2.CX P w) k f fd ps sp) : Cal P w K mg base k x sp := by
  obtain ⟨f, fd, a, F⟩ := D
  exact ⟨f, fd, ps, a, F.kp, F.binds hb, ok F⟩
theorem calQ_of (D : DefAt K mg x qual st) (hb : BindsSt x qual st ps) (ok : ∀ {f : Addr} {fd : FuncData}, Fun K x qual st f fd → Binds K fd ps [] → FnQ P w K mg base k f sp) : CalQ P w K mg base k x sp := by
  obtain ⟨f, fd, a, F⟩ := D
  exact ⟨f, a, F.kp, ok F (F.binds hb)⟩
theorem spc_of (D : MethAt K C m qual st) (hb : BindsSt m qual st ps) (ok : ∀ {f : Addr} {fd : FuncData}, Fun K m qual st f fd → FnOk P w K mg base (L2.CX P w) k f fd ps sp) : Spc P w K mg base k C m sp := by
  obtain ⟨f, fd, a, i, F⟩ := D
  exact ⟨f, a, i, raw0 (ok F) (F.binds hb)⟩
theorem met_of (D : MethAt K C m qual st) (cl : Cls K C) (hb : BindsSt m qual st ps) (ok : ∀ {f : Addr} {fd : FuncData}, Fun K m qual st f fd → FnOk P w K mg base (L2.CX P w) k f fd ps sp) : Met P w K mg base k C m sp := by
  obtain ⟨f, fd, a, i, F⟩ := D
  exact ⟨f, fd, ps, cl, ⟨a, i, F.kp⟩, F.binds hb, ok F⟩
theorem mak_of (D : MethAt K C "__init__" qual st) (gC : mg x = some (.ref C)) (mk : PySem.W.makesIn K C = true) (kc : PySem.W.keepIn K (.ref C) = true) (hb : BindsSt "__init__" qual st ps) (ok : ∀ {f : Addr} {fd : FuncData}, Fun K "__init__" qual st f fd → FnOk P w K mg base (L2.CX P w) k f fd ps sp) : Mak P w K mg base k x C sp := by
  obtain ⟨f, fd, a, i, F⟩ := D
  exact ⟨f, fd, ps, gC, ⟨mk, a, i, kc⟩, F.binds hb, ok F⟩
def KwSt (x qual : Str) (st : Stmt) (ps ks : List Str) (pm : {α : Type} → List α → List α) : Prop := ∀ (kV doc pm' : Value) (an : Option Addr) (cdv ct : Value) (u : Value) (ws : List Value), ws.length = ks.length → bindArgs (PySem.W.fnOf x qual (defArgs st) (defBody st) (defScope st) .none kV doc pm' an cdv ct) ⟨[u], ks.zip ws⟩ = pure (ps.zip (u :: pm ws))
theorem swap2_vals {zs : List V} {ws : List Value} (r : Vals zs ws) : Vals (swap2 zs) (swap2 ws) := by
  cases r with
  | nil => exact .nil
  | cons h1 r1 =>
    cases r1 with
    | nil => exact .cons h1 .nil
    | cons h2 r2 =>
      cases r2 with
      | nil => exact .cons h2 (.cons h1 .nil)
      | cons h3 r3 => exact .cons h1 (.cons h2 (.cons h3 r3))
theorem makK_of {ks : List Str} (D : MethAt K C "__init__" qual st) (gC : mg x = some (.ref C)) (mk : PySem.W.makesIn K C = true) (kc : PySem.W.keepIn K (.ref C) = true) (hb : KwSt "__init__" qual st ps ks swap2) (ok : ∀ {f : Addr} {fd : FuncData}, Fun K "__init__" qual st f fd → FnOk P w K mg base (L2.CX P w) k f fd ps sp) : MakK P w K mg base k x C ks swap2 sp := by
  obtain ⟨f, fd, a, i, F⟩ := D
  obtain ⟨oc, od, kV, doc, pm', an, cdv, ct, osl, rfl, lk, hcd⟩ := id F.ex
  exact ⟨f, _, ps, gC, ⟨mk, a, i, kc⟩, fun s u ws _ hl => .of_eq (hb kV doc pm' an cdv ct u ws hl), fun zs ws r _ => swap2_vals r, ok F⟩
def spLaw (K : PySem.W.Frag) : Sp := fun vs H Q _ => ∃ (a : Addr) (ns : List Int), vs = [.ref a] ∧ SqL K H a (ns.map V.int) ∧ ns.length ≤ 63 ∧ ∀ H', Q (.bl true) H'
end
theorem law_walk {l : PySem.W.OpenLaw} {k : Nat} {q : Program} {loose : List Str} {XP : (Str → Option Value) → Heap → Prop} {YP : World → Heap → Prop} {d : DefRec} {K : Params → PySem.W.Frag} {st : Stmt} {x : Str} (hn : l.most = some 63) (hdf : d.params.defaults = []) (hr : Room k callerA)
    (hY : ∀ (w : World) (h : Heap), YP w h → (K w.params).In h)
    (hb : ∀ (kV doc pm : Value) (an : Option Addr) (cdv ct : Value) (s : Shared) (u : Value), BindsTo s (PySem.W.fnOf d.name d.name (defArgs st) (defBody st) (defScope st) .none kV doc pm an cdv ct) ⟨[u], []⟩ [(x, u)])
    (F : ∀ (w : World) (mg : Str → Option Value) (h : Heap), (K w.params).In h → h.Ns mainGlobals mg → DefAt (K w.params) mg d.name d.name st ∧ ∀ {f : Addr} {fd : FuncData}, Fun (K w.params) d.name d.name st f fd → ∀ base : Heap, FnOk l.prog w (K w.params) mg base (L2.CX l.prog w) k f fd [x] (spLaw (K w.params))) :
    PySem.W.WalkO q loose XP YP l.row.toRowW d [] (fun f vs => PySem.call f vs) := by
  refine L2.walk_of (n := 63) (k := k) (x := x) (CX := fun w => L2.CX l.prog w) (sp := fun w => spLaw (K w.params)) hn (by decide) hdf hr hY (fun w mg fa h KX G hmg => ?_) (fun _ _ a ns hl _ hS => ⟨a, ns, rfl, hS, hl, fun _ => rfl⟩) fun _ _ _ _ _ ⟨_, _, _, _, _, _, _, _, _, _, _, _, z⟩ => z
  obtain ⟨⟨f, fd, a, Fn⟩, ok⟩ := F w mg h KX G
  have e := hmg.symm.trans a
  cases e
  obtain ⟨oc, od, kV, doc, pm, an, cdv, ct, osl, rfl, lk, hcd⟩ := id Fn.ex
  exact ⟨_, fun s u => hb kV doc pm an cdv ct s u, fun base _ _ => ok Fn base⟩
end MyL

set_option Elab.async false
set_option linter.all false
set_option maxRecDepth 100000
set_option maxHeartbeats 4000000
/-! The end, for error classes of one's own. -/
namespace PySem.ErrX
open PySem PySem.W PySem.Spec PyProof.Rows L2 PySem.ErrX HandSPX
/-- what the text of an error's __init__ says -/
def ErrSt (prog : Program) (qual : Str) (st : Stmt) (fs : List Str) : Prop :=
  ∃ (rest : List Stmt) (txt : Str) (j : Nat) (p0 p1 p2 p3 p4 p5 : Pos) (ar : Arg),
    defBody st = .Expr (.Call (.Attribute (.Call (.Name "super" p0) [] [] p1) "__init__" p2) [.Constant (.str txt) j p3] [] p4) p5 :: rest ∧
    (∀ env : Env, eval (.Call (.Attribute (.Call (.Name "super" p0) [] [] p1) "__init__" p2) [.Constant (.str txt) j p3] [] p4) env = (do
      let ov ← attributeBase (.Call (.Name "super" p0) [] [] p1) "__init__" env (eval (.Call (.Name "super" p0) [] [] p1) env)
      standAt p2.atName
      let (f, first) ← holding [ov] (getMethod ov "__init__" (do return (← importBound (.Call (.Name "super" p0) [] [] p1) env).getD true))
      callWith p4 f first (backTo p4 (starEach [.Constant (.str txt) j p3] env)) [])) ∧
    (prog.main.scope.names.lookup ("super" : Str)).isSome = false ∧
    ((defArgs st).posonlyargs ++ (defArgs st).args).head? = some ar ∧ ar.arg = "self" ∧
    (defScope st).kind = .function ∧ (defScope st).isCoroutine = false ∧ (defScope st).isGenerator = false ∧ (∀ x ∈ (defScope st).names, x.2 ≠ .cell) ∧ (defScope st).names.lookup ("super" : Str) = some .globalImplicit ∧ (defScope st).names.lookup ("__class__" : Str) = some .free ∧
    (defScope st).names.lookup ("self" : Str) = some .local ∧ (∀ f ∈ fs, (defScope st).names.lookup f = some .local) ∧ (("self" : Str) :: fs).Nodup ∧
    Asgs fs rest ∧ ∀ (doc pm : Value) (an : Option Addr) (cda : Addr) (ct : Value) (cc : Addr) (us : List Value), us.length = fs.length + 1 → bindArgs (ksFn "__init__" qual (defArgs st) (defBody st) (defScope st) .none .none doc pm an (.ref cda) ct cc) ⟨us, []⟩ = pure (((("self" : Str) :: fs)).zip us)
theorem fn_mk {prog : Program} {K : Frag} {C fI : Addr} {fs : List Str} {st : Stmt} {qual : Str} {oc : Value} {od : Option Addr} {doc pm : Value} {an : Option Addr} {cda : Addr} {ct : Value} {cc : Addr} {osl : Array (Option Value)} {ccl : Value} {cdd : Option Addr} {vs : Array Value} {ccs : Array (Option Value)} {file : Str} {tf : Tok} {cl : Value} {cld : Option Addr} {csl : Array (Option Value)}
    (S : ErrSt prog qual st fs) (l : K.lookup fI = some ⟨oc, od, .func (ksFn "__init__" qual (defArgs st) (defBody st) (defScope st) .none .none doc pm an (.ref cda) ct cc), osl⟩) (hc : codeIn K (.ref cda) qual = true) (l2 : K.lookup cda = some ⟨ccl, cdd, .fields vs, ccs⟩) (hv : vs[2]? = some (.str file tf)) (hf : ((prog.main.file : Str) == file) = true)
    (l3 : K.lookup cc = some ⟨cl, cld, .cell (some (.ref C)), csl⟩) :
    ∃ (oc : Value) (od : Option Addr) (qual : Str) (params : Arguments) (scope : Scope) (rest : List Stmt) (doc pm : Value) (an : Option Addr) (cda : Addr) (ct : Value) (cc : Addr) (osl : Array (Option Value)) (txt : Str) (j : Nat) (p0 p1 p2 p3 p4 p5 : Pos) (ar : Arg)
      (ccl : Value) (cdd : Option Addr) (vs : Array Value) (ccs : Array (Option Value)) (file : Str) (tf : Tok) (cl : Value) (cld : Option Addr) (csl : Array (Option Value)),
    K.lookup fI = some ⟨oc, od, .func (ksFn "__init__" qual params (.Expr (.Call (.Attribute (.Call (.Name "super" p0) [] [] p1) "__init__" p2) [.Constant (.str txt) j p3] [] p4) p5 :: rest) scope .none .none doc pm an (.ref cda) ct cc), osl⟩ ∧ codeIn K (.ref cda) qual = true ∧
    K.lookup cda = some ⟨ccl, cdd, .fields vs, ccs⟩ ∧ vs[2]? = some (.str file tf) ∧ ((prog.main.file : Str) == file) = true ∧ K.lookup cc = some ⟨cl, cld, .cell (some (.ref C)), csl⟩ ∧
    (∀ env : Env, eval (.Call (.Attribute (.Call (.Name "super" p0) [] [] p1) "__init__" p2) [.Constant (.str txt) j p3] [] p4) env = (do
      let ov ← attributeBase (.Call (.Name "super" p0) [] [] p1) "__init__" env (eval (.Call (.Name "super" p0) [] [] p1) env)
      standAt p2.atName
      let (f, first) ← holding [ov] (getMethod ov "__init__" (do return (← importBound (.Call (.Name "super" p0) [] [] p1) env).getD true))
      callWith p4 f first (backTo p4 (starEach [.Constant (.str txt) j p3] env)) [])) ∧
    (prog.main.scope.names.lookup ("super" : Str)).isSome = false ∧
    (params.posonlyargs ++ params.args).head? = some ar ∧ ar.arg = "self" ∧
    scope.kind = .function ∧ scope.isCoroutine = false ∧ scope.isGenerator = false ∧ (∀ x ∈ scope.names, x.2 ≠ .cell) ∧ scope.names.lookup ("super" : Str) = some .globalImplicit ∧ scope.names.lookup ("__class__" : Str) = some .free ∧
    scope.names.lookup ("self" : Str) = some .local ∧ (∀ f ∈ fs, scope.names.lookup f = some .local) ∧ (("self" : Str) :: fs).Nodup ∧
    Asgs fs rest ∧ ∀ us : List Value, us.length = fs.length + 1 → bindArgs (ksFn "__init__" qual params (.Expr (.Call (.Attribute (.Call (.Name "super" p0) [] [] p1) "__init__" p2) [.Constant (.str txt) j p3] [] p4) p5 :: rest) scope .none .none doc pm an (.ref cda) ct cc) ⟨us, []⟩ = pure (((("self" : Str) :: fs)).zip us) := by
  obtain ⟨rest, txt, j, p0, p1, p2, p3, p4, p5, ar, e, h1, h2, h3, h4, h5, h6, h7, h8, h9, h10, h11, h12, h13, h14, h15⟩ := S
  have h15' := h15 doc pm an cda ct cc
  rw [e] at l h15'
  exact ⟨oc, od, qual, defArgs st, defScope st, rest, doc, pm, an, cda, ct, cc, osl, txt, j, p0, p1, p2, p3, p4, p5, ar, ccl, cdd, vs, ccs, file, tf, cl, cld, csl, l, hc, l2, hv, hf, l3, h1, h2, h3, h4, h5, h6, h7, h8, h9, h10, h11, h12, h13, h14, h15'⟩
theorem err_mk {prog : Program} {K : Frag} {h : Heap} {mg : Str → Option Value} {x : Str} {C fI : Addr} {fs : List Str} {st : Stmt} {qual : Str} {oc : Value} {od : Option Addr} {doc pm : Value} {an : Option Addr} {cda : Addr} {ct : Value} {cc : Addr} {osl : Array (Option Value)} {ccl : Value} {cdd : Option Addr} {vs : Array Value} {ccs : Array (Option Value)} {file : Str} {tf : Tok} {cl : Value} {cld : Option Addr} {csl : Array (Option Value)}
    {nm q N bs bm sn sub ab col dd k0 k1 k2 k3 k5}
    (X : K.In h) (G : h.Ns mainGlobals mg) (S : ErrSt prog qual st fs) (gC : nsIn K mainGlobals x = some (some (.ref C))) (gS : nsIn K mainGlobals "super" = some none)
    (xL : K.lookup C = some (excClassObj nm q C N bs bm true sn sub ab col dd k0 k1 k2 k3 k5 "ValueError.__new__")) (xM : refsVE bm = true)
    (sa : findIn K (.ref C) "__setattr__" = some (some (.builtin "object.__setattr__"))) (no : ∀ f ∈ fs, findIn K (.ref C) f = some none) (iC : findIn K (.ref C) "__init__" = some (some (.ref fI))) (tC : typeIn K (.ref fI) = some (.type "function")) (kC : keepIn K (.ref C) = true)
    (exC : subIn K (.ref C) (.type "BaseException") = some true) (veC : subIn K (.ref C) (.type "ValueError") = some true) (tyC : typeIn K (.ref C) = some (.type "type")) (op : nsIn K cStatics "thirdparty.any" = some none) (al : ks_superIn K C C "__init__" = some (some (.builtin "ValueError.__init__"))) (slf : mroIn K C (.ref C) = some true)
    (l : K.lookup fI = some ⟨oc, od, .func (ksFn "__init__" qual (defArgs st) (defBody st) (defScope st) .none .none doc pm an (.ref cda) ct cc), osl⟩) (hc : codeIn K (.ref cda) qual = true) (l2 : K.lookup cda = some ⟨ccl, cdd, .fields vs, ccs⟩) (hv : vs[2]? = some (.str file tf)) (hf : ((prog.main.file : Str) == file) = true)
    (l3 : K.lookup cc = some ⟨cl, cld, .cell (some (.ref C)), csl⟩) : ErrTxt prog K mg x C fI fs :=
  ⟨mg_of X G gC, mg_none_of X G gS, ⟨nm, q, N, bs, bm, sn, sub, ab, col, dd, k0, k1, k2, k3, k5, xL, xM⟩, sa, no, iC, tC, kC, exC, veC, tyC, op, al, slf, fn_mk S l hc l2 hv hf l3⟩
theorem exck_mk {K : Frag} {D : Addr} (cl : (clsIn K D).isSome = true) (ga : findIn K (.ref D) "__getattribute__" = some (some (.builtin "BaseException.__getattribute__"))) (gg : findIn K (.ref D) "__getattr__" = some none) (sb : subIn K (.ref D) (.type "BaseException") = some true)
  (ca : findIn K (.ref D) "__class__" = some (some (.builtin "object.__class__"))) (cn : specialIn K (.builtin "object.__class__") "__get__" = some (some (.builtin "getset_descriptor.__get__"))) (ct : takesIn K (.builtin "object.__class__") = some true) (cm : mroIn K D (.type "object") = some true) : MyL.ExcK K D := ⟨cl, ga, gg, sb, ca, cn, ct, cm⟩
theorem int_has {K : Frag} {x : Str} (h : (fastLookup "int" x).isSome = true) : ∃ fo, findIn K (.type "int") x = some fo := Option.isSome_iff_exists.mp h
theorem num_mk {K : Frag} {C : Addr} {op : Operator} (sf : selfFirst K C = true) (r : findIn K (.ref C) (dunderR op.info.2) = some none) (it : subIn K (.type "int") (.ref C) = some false) (h1 : (fastLookup "int" (PySem.dunder op.info.2)).isSome = true) (h2 : (fastLookup "int" (dunderR op.info.2)).isSome = true) : MyL.NumC K C op := ⟨sf, r, it, int_has h1, int_has h2⟩
end PySem.ErrX

set_option Elab.async false
set_option linter.all false
set_option maxRecDepth 100000
set_option maxHeartbeats 4000000
/-! != by an own __eq__; properties. -/
namespace MyL
open PySem PySem.Spec PyProof.Rows L2
section
variable {prog : Program} {w : World} {A : Around} {E : Value → Shared → Prop} {s : Shared} {K : PySem.W.Frag} {x C L f : Addr} {h₀ : Heap} {m : Str → Option Value} {ox : Obj} {od : Option Obj} {name : Str} {b tb : Value}
theorem ifBound_B {M : Model} {args : List Value} {id : String} {Q : Option Value → Shared → Prop} (X : K.In s.heap) (I : PySem.W.InstAt s.heap x ox C od) (hs : PySem.W.findIn K (.ref C) name = some (some (.builtin id))) (hb : ∀ self, bindSpecial (.builtin id) self = pure (.builtin id, [self]))
    (h : wpAny M A (call (.builtin id) (.ref x :: args)) (fun v => Q (some v)) E s) : wpAny M A (callSpecialIfBound? (.ref x) name args) Q E s := by
  simp only [callSpecialIfBound?, bindSpecialIfBound?]
  refine wpAny_holding (wpAny_bind (wpAny_bind (wpAny_bind (I.type.here ((PySem.W.looks_findIn X hs).here ?_)))))
  simp only [hb]
  refine wpAny_bind (wpAny_askSetting (wpAny_ite ?_))
  have fin : wpAny M A (call (.builtin id) ([.ref x] ++ args) >>= fun v => pure (some v)) Q E s := wpAny_bind (wpAny_mono h (fun v s' h' => wpAny_pure h') fun _ _ h' => h')
  split
  · exact wpAny_bind (wpAny_pure (wpAny_pure fin))
  · exact wpAny_tryCatch (wpAny_bind (wpAny_pure (wpAny_pure fin)))
theorem objNe_own {Q : Fin → Shared → Prop} (hu : A.units < cLine) (X : K.In s.heap) (I : PySem.W.InstAt s.heap x ox C od) (hs : PySem.W.findIn K (.ref C) "__eq__" = some (some (.ref f))) (hf : PySem.W.isFn K (.ref f) = true)
    (hcall : wpAny (model prog w) A (call (.ref f) [.ref x, b]) (fun v s' => ∃ c, v = .bool c ∧ Q (.done (.ret (.bool (!c)))) s') E s) :
    wpAny (model prog w) A (Builtin.«object.__ne__» ⟨[.ref x, b], []⟩) Q E s := by
  unfold Builtin.«object.__ne__»
  repeat (first
    | with_reducible refine wpAny_cRoomFor hu ?_
    | (refine wpAny_bind (m := callSpecialIfBound? (.ref x) (Str.ofString "__eq__") [b])
        (PySem.W.ifBound_K X I hs hf (wpAny_mono hcall (fun r s' hr => by
          obtain ⟨c, rfl, hq⟩ := hr
          repeat (first | exact hq | exact wpAny_pure hq | exact wpAny_truthy_bool hq | (refine wpAny_bind (m := truthy (.bool _)) (wpAny_truthy_bool ?_)) | wp_step)) fun _ _ e => e)))
    | wp_step)
theorem ne_own {Q : Value → Shared → Prop} (hu : A.units + 1 < cLine) (X : K.In s.heap) (I : PySem.W.InstAt s.heap x ox C od) (hb : PySem.W.Looks (model prog w) s.heap (typeOf b) (.ref C)) (hn : PySem.W.findIn K (.ref C) "__ne__" = some (some (.builtin "object.__ne__"))) (hm : PySem.W.mroIn K C (.type "object") = some true)
    (hs : PySem.W.findIn K (.ref C) "__eq__" = some (some (.ref f))) (hf : PySem.W.isFn K (.ref f) = true)
    (hcall : wpAny (model prog w) A.in1 (call (.ref f) [.ref x, b]) (fun v s' => ∃ c, v = .bool c ∧ Q (.bool (!c)) s') E s) : wpAny (model prog w) A (richCompare .NotEq (.ref x) b) Q E s := by
  have one : wpAny (model prog w) A (tryCompare (.ref x) "__ne__" b) (fun r s' => ∃ v, r = some v ∧ Q v s') E s := by
    unfold tryCompare
    refine wpAny_bind (ifBound_B X I hn F.cmp_object.ne.bind (wpAny_call (codeAny_call_builtin F.cmp_object.ne.plain F.cmpEntry_ne (@PySem.W.check_slot (model prog w) _ _ s "object.__ne__" "object" "__ne__" (.ref x) [b] [] _ F.cmpKind_ne F.cmpSplit_ne (I.type.andThen (PySem.W.looks_mroIn X hm)) (F.cmpArgs_ne _ _)
      (objNe_own (A := A.in1) hu X I hs hf (wpAny_mono hcall (fun v s' hv => ?_) fun _ _ e => e))))))
    obtain ⟨c, rfl, hq⟩ := hv
    exact ⟨c, rfl, wpAny_pure ⟨_, rfl, hq⟩⟩
  unfold richCompare
  simp only [oneThing_ref]
  refine wpAny_holding (wpAny_bind (wpAny_cRoomFor (Nat.lt_of_succ_lt hu) ?_))
  rw [cmpInfo_NotEq]
  dsimp only
  refine wpAny_bind (I.type.here (wpAny_bind (hb.here ?_)))
  rw [show (Value.ref C != Value.ref C) = false from by simp]
  simp only [Bool.false_eq_true, if_false]
  refine wpAny_bind (wpAny_pure ?_)
  simp only [Bool.false_eq_true, if_false]
  refine wpAny_bind (wpAny_mono one (fun r s' z => ?_) fun _ _ e => e)
  obtain ⟨v, rfl, hq⟩ := z
  exact wpAny_pure hq
end
def rOwnNe (C : Addr) (sp : Sp) : R2 := fun x y H Q => ∃ a dx fs b dy gs, x = .ref a ∧ y = .ref b ∧ H a = some (.ins C dx fs) ∧ H b = some (.ins C dy gs) ∧ sp [.ref a, .ref b] H (fun v H' => ∃ c, v = .bl c ∧ Q (.bl (!c)) H') (fun _ _ _ => False)
structure NeC (K : PySem.W.Frag) (C : Addr) : Prop where
  ne : PySem.W.findIn K (.ref C) "__ne__" = some (some (.builtin "object.__ne__"))
  mro : PySem.W.mroIn K C (.type "object") = some true
section
variable {X : Cx} {W : WX} {k j : Nat} {C : Addr} {sp : Sp}
theorem c_ne (c : Spc X.prog X.w X.K X.mg X.base k C "__eq__" sp) (n : NeC X.K C) (hr : Room j X.A) (hk : k + 1 ≤ j) : OpR X (compareOp .NotEq) (rOwnNe C sp) := by
  intro pins s σ H x y v u Q I rx ry h
  obtain ⟨f, hs, hf, F⟩ := c.ex
  obtain ⟨p, dx, fs, p2, dy, gs, rfl, rfl, hp, hp2, hsp⟩ := h
  obtain rfl : v = Value.ref p := rx
  obtain rfl : u = Value.ref p2 := ry
  obtain ⟨mA, J, _⟩ := ins_get I.hok hp
  obtain ⟨od, J, _⟩ := J.look
  obtain ⟨mB, J', _⟩ := ins_get I.hok hp2
  obtain ⟨od', J', _⟩ := J'.look
  show wpAny _ _ (richCompare .NotEq (.ref p) (.ref p2)) _ _ _
  refine ne_own (Nat.lt_of_le_of_lt (Nat.add_le_add_left (by decide : 1 ≤ 64) _) hr.units) I.kIn J J'.type n.ne n.mro hs hf ?_
  have z := run_S (A := X.A.in1) (W := fun _ _ _ _ => False) (us := [.ref p, .ref p2]) (vs := [.ref p, .ref p2]) F takes0 (hr.mono hk).in1 I.env0.in1 I (.cons rfl (.cons rfl .nil)) hsp
  refine wpAny_mono (wpAny_call z) (fun w s' z => ?_) fun _ _ x => x
  obtain ⟨z', H', I', rz, c, ec, qz⟩ := z
  subst ec
  exact ⟨c, rz, .bl (!c), H', I', rfl, qz⟩
end
end MyL
namespace MyL
open PySem PySem.Spec PyProof.Rows L2
/-- a property of the class at C -/
structure Prp (P : Program) (w : World) (K : PySem.W.Frag) (mg : Str → Option Value) (base : Heap) (k : Nat) (C : Addr) (f : Str) (sp : Sp) : Prop where
  ex : ∃ (p g : Addr) (fd : FuncData) (ps : List Str), Cls K C ∧ PropOf K C f p g ∧ Binds K fd ps [] ∧ FnOk P w K mg base (L2.CX P w) k g fd ps sp
section
variable {X : Cx} {k j : Nat} {C : Addr} {sp : Sp} {f : Str} {e : Expr} {ta : TE} {pos : Pos}
theorem c_prop (c : Prp X.prog X.w X.K X.mg X.base k C f sp) (hr : Room j X.A) (hk : k + 1 ≤ j) (he : PE X e ta) (hab : attributeBase e f X.env (eval e X.env) = eval e X.env := by rfl) : PE X (.Attribute e f pos) (tProp C sp [] (fun _ _ _ => False) ta) := by
  obtain ⟨p, g, fd, ps, cl, hp, hb, F⟩ := c.ex
  exact pe_prop he cl hp F (hr.mono hk) hb .nil (fun _ _ _ _ _ _ _ ⟨_, _, _, _, _, _, _, _, _, _, _, _, z⟩ => z.elim) hab
end
section
variable {σ : L2.St} {H : Hp} {Q : VK} {C : Addr} {sp : Sp} {ta : TE} {K : PySem.W.Frag} {E : XK}
theorem k_prop0 (h : ta σ H fun x H1 => ∃ a dx fs, x = .ref a ∧ H1 a = some (.ins C dx fs) ∧ sp [.ref a] H1 Q E) : tProp C sp [] E ta σ H Q := h
theorem k_prop {a dx : Addr} {fs : List (Str × V)} (h : H a = some (.ins C dx fs)) (q : sp [.ref a] H Q E) : ∃ a' dx' fs', V.ref a = .ref a' ∧ H a' = some (.ins C dx' fs') ∧ sp [.ref a'] H Q E := ⟨a, dx, fs, rfl, h, q⟩
theorem k_ownNe {a dx b dy : Addr} {fs gs : List (Str × V)} (h1 : H a = some (.ins C dx fs)) (h2 : H b = some (.ins C dy gs)) (q : sp [.ref a, .ref b] H (fun v H' => ∃ c, v = .bl c ∧ Q (.bl (!c)) H') (fun _ _ _ => False)) : rOwnNe C sp (.ref a) (.ref b) H Q := ⟨a, dx, fs, b, dy, gs, rfl, rfl, h1, h2, q⟩
theorem k_neBack {PB : Bool → Prop} {c : Bool} (q : PB c) : ∃ c', V.bl c = .bl c' ∧ PB c' := ⟨c, rfl, q⟩
theorem beq_dec {i k : Int} : (i == k) = decide (i = k) := rfl
theorem k_eqP {a b : Addr} {i j k l : Int} (h1 : H a = some (.tup [.int i, .int j])) (h2 : H b = some (.tup [.int k, .int l])) (q : Q (.bl (decide (i = k) && decide (j = l))) H) : rEqD K (.ref a) (.ref b) H Q := by
  refine ⟨.tuple [.int i, .int j], .tuple [.int k, .int l], .tup (SqT.of h1) (.cons (.int _) (.cons (.int _) .nil)), .tup (SqT.of h2) (.cons (.int _) (.cons (.int _) .nil)), rfl, rfl, ?_⟩
  have : PyData.eqv (.tuple [.int i, .int j]) (.tuple [.int k, .int l]) = (decide (i = k) && decide (j = l)) := by
    simp only [PyData.eqv, PyData.eqvAll, Bool.and_true]
    rfl
  rw [this]; exact q
theorem k_neP {a b : Addr} {i j k l : Int} (h1 : H a = some (.tup [.int i, .int j])) (h2 : H b = some (.tup [.int k, .int l])) (q : Q (.bl (!(decide (i = k) && decide (j = l)))) H) : rNeD K (.ref a) (.ref b) H Q := by
  refine ⟨.tuple [.int i, .int j], .tuple [.int k, .int l], .tup (SqT.of h1) (.cons (.int _) (.cons (.int _) .nil)), .tup (SqT.of h2) (.cons (.int _) (.cons (.int _) .nil)), rfl, rfl, ?_⟩
  have : PyData.eqv (.tuple [.int i, .int j]) (.tuple [.int k, .int l]) = (decide (i = k) && decide (j = l)) := by
    simp only [PyData.eqv, PyData.eqvAll, Bool.and_true]
    rfl
  rw [this]; exact q
end
end MyL

set_option Elab.async false
set_option linter.all false
set_option maxRecDepth 100000
set_option maxHeartbeats 4000000
namespace MyL
open PySem PySem.Spec PyProof.Rows L2
def PropAt (K : PySem.W.Frag) (C : Addr) (m qual : Str) (st : Stmt) : Prop := ∃ (p g : Addr) (fd : FuncData), PropOf K C m p g ∧ Fun K m qual st g fd
section
variable {P : Program} {w : World} {K : PySem.W.Frag} {mg : Str → Option Value} {base h : Heap} {k : Nat} {C f p : Addr} {x m qual : Str} {sp : Sp} {st : Stmt} {fd : FuncData} {ps : List Str} {oc : Value} {od an : Option Addr} {osl : Array (Option Value)} {kV doc pm cdv ct : Value} {rest : List Value}
theorem gprop (a : PySem.W.findIn K (.ref C) m = some (some (.ref p))) (g : PySem.W.specialIn K (.ref p) "__get__" = some (some (.builtin "property.__get__"))) (t : PySem.W.takesIn K (.ref p) = some true) (r : PySem.W.recIn K p "property" = some (.ref f :: rest))
    (l : K.lookup f = some ⟨oc, od, .func (PySem.W.fnOf m qual (defArgs st) (defBody st) (defScope st) .none kV doc pm an cdv ct), osl⟩)
    (c : PySem.W.codeIn K cdv qual = true) (kp : PySem.W.keepIn K (.ref f) = true) : PropAt K C m qual st := ⟨p, f, _, ⟨a, g, t, rest, r⟩, fun_mk l c kp⟩
theorem prp_of (D : PropAt K C m qual st) (cl : Cls K C) (hb : BindsSt m qual st ps) (ok : ∀ {f : Addr} {fd : FuncData}, Fun K m qual st f fd → FnOk P w K mg base (L2.CX P w) k f fd ps sp) : Prp P w K mg base k C m sp := by
  obtain ⟨p, f, fd, a, F⟩ := D
  exact ⟨p, f, fd, ps, cl, a, F.binds hb, ok F⟩
end
section
variable {σ : L2.St} {H : Hp} {Q : VK} {K : PySem.W.Frag} {p : Addr} {xs : List V}
theorem k_chain {r r' : R2} {ta tb tc : TE} (h : ta σ H fun x H1 => tb σ H1 fun y H2 => r x y H2 fun z H3 => ∃ k, z = .bl k ∧ (if k = true then tc σ H3 fun w' H4 => r' y w' H4 Q else Q (.bl false) H3)) : tChain r r' ta tb tc σ H Q := h
/-- an item of a list of whole numbers, each within R -/
theorem k_ixAll {R : Int → Prop} {j : Int} (h : H p = some (.lst xs)) (h0 : 0 ≤ j) (h1 : j < xs.length) (hR : ∀ x ∈ xs, ∃ n : Int, x = .int n ∧ R n) (q : ∀ n, R n → Q (.int n) H) : rIxL K (.ref p) (.int j) H Q := by
  obtain ⟨i, rfl⟩ := Int.eq_ofNat_of_zero_le h0
  have hi : i < xs.length := by omega
  obtain ⟨n, e, hn⟩ := hR _ (List.getElem_mem hi)
  exact ⟨p, xs, (i : Int), .int n, rfl, rfl, SqL.of h, atI_nat (by rw [List.getElem?_eq_getElem hi, e]), q n hn⟩
theorem k_ixAllT {R : Int → Prop} {j : Int} (h : H p = some (.tup xs)) (h0 : 0 ≤ j) (h1 : j < xs.length) (hR : ∀ x ∈ xs, ∃ n : Int, x = .int n ∧ R n) (q : ∀ n, R n → Q (.int n) H) : rIxT K (.ref p) (.int j) H Q := by
  obtain ⟨i, rfl⟩ := Int.eq_ofNat_of_zero_le h0
  have hi : i < xs.length := by omega
  obtain ⟨n, e, hn⟩ := hR _ (List.getElem_mem hi)
  exact ⟨p, xs, (i : Int), .int n, rfl, rfl, SqT.of h, atI_nat (by rw [List.getElem?_eq_getElem hi, e]), q n hn⟩
end
end MyL

set_option Elab.async false
set_option linter.all false
set_option maxRecDepth 100000
set_option maxHeartbeats 4000000
namespace MyL
open PySem PySem.Spec PyProof.Rows L2
section
variable {K : PySem.W.Frag} {D dd a C1 C2 C3 C4 : Addr} {H : Hp} {Q : VK} {fs : List (Str × V)} {b : Bool}
theorem k_isX4 {tp : Addr} (hD : ExcK K D) (hd : H dd = some (.xd fs)) (ht : H tp = some (.tup [.ref C1, .ref C2, .ref C3, .ref C4])) (e : PySem.W.kitAny K (.ref D) [.ref C1, .ref C2, .ref C3, .ref C4] = some b) (q : Q (.bl b) H) : rIsXT K (.ref D) (some dd) a [.ref a, .ref tp] H Q :=
  ⟨D, tp, _, _, b, rfl, hD, ⟨fs, hd⟩, rfl, ht, .cons (.own C1) (.cons (.own C2) (.cons (.own C3) (.cons (.own C4) .nil))), e, q⟩
theorem k_ixT2 {p : Addr} {i j n : Int} (h : H p = some (.tup [.int i, .int j])) (h0 : 0 ≤ n) (h1 : n < 2) (q : ∀ m, m = i ∨ m = j → Q (.int m) H) : rIxT K (.ref p) (.int n) H Q :=
  k_ixAllT (R := fun m => m = i ∨ m = j) h h0 (by simpa using h1) (fun x hx => by simp at hx; rcases hx with rfl | rfl <;> exact ⟨_, rfl, by simp⟩) q
theorem Mem.atB {B : Hp} {f l : List (Addr × HO)} {o : HO} (M : Mem B [] H f l) (h : B a = some o) : H a = some o := Same.of_keep M a o h
theorem xdH {g : Str} {v : V} {l : List (Str × V)} : List.lookup g ((g, v) :: l) = some v := by simp [List.lookup]
end
end MyL

set_option Elab.async false
set_option linter.all false
set_option maxRecDepth 100000
set_option maxHeartbeats 4000000
/-! Static methods by the class; own errors without own __init__. -/
namespace MyL
open PySem PySem.Spec PyProof.Rows L2
/-- C.m is a staticmethod: its record at p, its def at g -/
structure StaOf (K : PySem.W.Frag) (C : Addr) (m : Str) (p g : Addr) : Prop where
  ga : PySem.W.specialIn K (.ref C) "__getattribute__" = some (some (.builtin "type.__getattribute__"))
  rd : PySem.W.readsIn K C (.type "type") = true
  at_ : PySem.W.findCls K (.ref C) (.type "type") m = some (.get (.builtin "staticmethod.__get__") (.ref p) .none (.ref C))
  rc : ∃ rest, PySem.W.recIn K p "staticmethod" = some (.ref g :: rest)
  kp : PySem.W.keepIn K (.ref g) = true
structure Sta (P : Program) (w : World) (K : PySem.W.Frag) (mg : Str → Option Value) (base : Heap) (k : Nat) (C : Addr) (m : Str) (sp : Sp) : Prop where
  ex : ∃ (p g : Addr) (fd : FuncData) (ps : List Str), StaOf K C m p g ∧ Binds K fd ps [] ∧ FnOk P w K mg base (L2.CX P w) k g fd ps sp
def tSta (C : Addr) (sp : Sp) (W : WX) (ta : TE) (t : TA) : TE := fun σ H Q => ta σ H fun x H1 => x = .ref C ∧ t σ H1 fun vs H2 => sp vs H2 Q (WE W σ)
section
variable {X : Cx} {W : WX} {k j : Nat} {C : Addr} {sp : Sp} {x m : Str} {p pos apos : Pos} {e o : Expr} {es : List Expr} {ta : TE} {t : TA}
theorem c_sta {pl : Sem Bool} (c : Sta X.prog X.w X.K X.mg X.base k C m sp) (tk : Takes X W) (hr : Room j X.A) (hk : k ≤ j) (ho : PE X o ta) (ha : PA X (e :: es) t)
    (hst : starEach (e :: es) X.env = (false, eval e X.env) :: starEach es X.env := by rfl) (hpl : (backTo pos (starEach es X.env)).any (·.1) = false := by rfl)
    (ht : eval (.Call (.Attribute o m apos) (e :: es) [] pos) X.env = (do
      let ov ← eval o X.env
      standAt apos.atName
      let (f, first) ← holding [ov] (getMethod ov m pl)
      callWith pos f first (backTo pos (starEach (e :: es) X.env)) (backToKw pos (keywordEach [] X.env))) := by rfl) :
    PE X (.Call (.Attribute o m apos) (e :: es) [] pos) (tSta C sp W ta t) := by
  obtain ⟨p, g, fd, ps, hm, b, F⟩ := c.ex
  obtain ⟨rest, hrec⟩ := hm.rc
  refine ⟨fun pins s σ H Q I h => ?_⟩
  refine PySem.W.methodCall_KW (pl := pl) (thn (ho.run pins s σ H _ I h) fun u s1 hh => ?_) ht
  obtain ⟨x, H1, I1, rx, ex, q⟩ := hh
  subst ex
  obtain rfl : u = Value.ref C := rx
  have I1' := I1.tok (s1.toks + 1)
  refine PySem.W.method_cls I1.kIn hm.ga (PySem.W.cls_bind I1.kIn hm.rd hm.at_ (wpAny_call (PySem.W.sm_get (s := { s1 with toks := s1.toks + 1 }) I1.kIn hrec (PySem.W.handed_on rfl ?_))))
  refine PySem.W.callWith_K (first := []) (h₀ := X.base) I.ok.mod.kin hm.kp (thn (ha.run pos pins _ σ H1 _ I1' q) fun us s2 hh => ?_) hst hpl
  obtain ⟨vs, H2, I2, r, q2⟩ := hh
  exact ⟨I2.kIn, run_fnS (E := WE W) (us := us) (vs := vs) F (hr.mono hk) b (passAt tk σ) I2 r q2⟩
end
/-- an own error whose class has no __init__ of its own -/
structure PlainErr (K : PySem.W.Frag) (mg : Str → Option Value) (x : Str) (C : Addr) : Prop where
  gC : mg x = some (.ref C)
  kC : PySem.W.keepIn K (.ref C) = true
  exc : PySem.W.excIn K C [.type "ValueError", .type "Exception", .type "BaseException", .type "object"] "ValueError.__new__" = true
  sb : PySem.W.subIn K (.ref C) (.type "BaseException") = some true
  ty : PySem.W.typeIn K (.ref C) = some (.type "type")
theorem pmk_plain0 {X : Cx} {x : Str} {C : Addr} {p pos : Pos} (T : PlainErr X.K X.mg x C) (hg : Gl X x := by rfl) (hdb : (x == ("__debug__" : Str)) = false := by decide) : PMk X (.Call (.Name x p) [] [] pos) (fun _ H Q => Q (.ref C) none H) := by
  intro pins s σ H Q I h
  refine wpAny_Call_Name_kw (ld_glob I hg T.gC (PySem.W.callWith_K0 I.kIn T.kC ?_) hdb)
  obtain ⟨bm, N, nm, qn, bs, hdct, sn, sub, ab, col, dd, k0, k1, k2, k3, k5, mN, hC, hN, hni, T'⟩ := exc_obj I.kIn T.exc
  refine wpAny_call_exc_subT PySem.F.excBase_ValueError T' hC hN hni (fun h' e hm => ?_) (Nat.zero_le _)
  exact mk_of I hm (raises_own T.sb T.ty) h (I.hok.gone hm.new)
section
variable {K : PySem.W.Frag} {D a C1 C2 C3 C4 : Addr} {H : Hp} {Q : VK} {b : Bool}
theorem k_isX0o (hD : ExcK K D) (e : PySem.W.kitOne K (.ref D) (.ref C1) = some b) (q : Q (.bl b) H) : rIsX K (.ref D) none a [.ref a, .ref C1] H Q := ⟨D, _, _, b, rfl, hD, trivial, rfl, .own C1, e, q⟩
theorem k_isX0s (hD : ExcK K D) (q : Q (.bl true) H) : rIsX K (.ref D) none a [.ref a, .ref D] H Q := k_isX0o hD (by simp [PySem.W.kitOne]) q
theorem k_isX0t {n : String} (hD : ExcK K D) (e : PySem.W.kitOne K (.ref D) (.type n) = some b) (q : Q (.bl b) H) : rIsX K (.ref D) none a [.ref a, .ty n] H Q := ⟨D, _, _, b, rfl, hD, trivial, rfl, .ty n, e, q⟩
theorem k_isX04 {tp : Addr} (hD : ExcK K D) (ht : H tp = some (.tup [.ref C1, .ref C2, .ref C3, .ref C4])) (e : PySem.W.kitAny K (.ref D) [.ref C1, .ref C2, .ref C3, .ref C4] = some b) (q : Q (.bl b) H) : rIsXT K (.ref D) none a [.ref a, .ref tp] H Q :=
  ⟨D, tp, _, _, b, rfl, hD, trivial, rfl, ht, .cons (.own C1) (.cons (.own C2) (.cons (.own C3) (.cons (.own C4) .nil))), e, q⟩
end
section
variable {σ : L2.St} {H : Hp} {Q : VK} {C : Addr} {sp : Sp} {W : WX} {ta : TE} {t : TA}
theorem k_sta0 (h : ta σ H fun x H1 => x = .ref C ∧ t σ H1 fun vs H2 => sp vs H2 Q (WE W σ)) : tSta C sp W ta t σ H Q := h
theorem k_sta {PR : Prop} (q : PR) : V.ref C = .ref C ∧ PR := ⟨rfl, q⟩
end
end MyL

set_option Elab.async false
set_option linter.all false
set_option maxRecDepth 100000
set_option maxHeartbeats 4000000
/-! min and max of a list or a tuple of whole numbers. -/
namespace MyL
open PySem PySem.Spec PyProof.Rows L2
section
variable {prog : Program} {w : World} {A : Around} {E : Value → Shared → Prop} {s : Shared} {l : Addr} {xs : Array (Int × Tok)}
theorem iter_intTup {Q : Value → Shared → Prop} (hl : s.heap.IsTuple l (intItems xs))
    (h : ∀ s₂ : Shared, s₂ = { s with heap := s.heap.push { cls := .type "tuple_iterator", data := .fields #[.ref l, .int 0 0] } } →
      (s₂.heap.IsTupleIter s.heap.objs.size l 0 ∧ s₂.heap.IsTuple l (intItems xs)) → (∀ b ∈ [s.heap.objs.size, l], b < s₂.heap.objs.size) → l ≠ s.heap.objs.size → Q (.ref s.heap.objs.size) s₂) :
    wpAny (model prog w) A (pyIter (.ref l)) Q E s := by
  have hlt : l < s.heap.objs.size := by obtain ⟨_, e, _⟩ := hl; exact Heap.lt_size e
  refine wpAny_pyIter_tuple hl (h _ rfl ⟨⟨_, Heap.get?_push_size _ rfl, rfl, rfl⟩, hl.push _⟩ (fun b hb => ?_) (Nat.ne_of_lt hlt))
  show b < (s.heap.push _).objs.size
  rw [Heap.size_push]
  rcases List.mem_cons.mp hb with rfl | hb
  · exact Nat.lt_succ_self _
  · rcases List.mem_cons.mp hb with rfl | hb
    · exact Nat.lt_succ_of_lt hlt
    · cases hb
theorem old_keptT {o0 : Obj} {h' : Heap} (hk : ∀ b o, b ∉ [s.heap.objs.size] → (s.heap.push o0).get? b = some o → h'.get? b = some o) :
    ∀ b o, s.heap.get? b = some o → h'.get? b = some o := fun b o e => by
  refine hk b o (fun hm => ?_) (Heap.get?_push_of_some _ e)
  rcases List.mem_cons.mp hm with e1 | hm
  · exact absurd (e1 ▸ Heap.lt_size e) (Nat.lt_irrefl _)
  · cases hm
theorem max_intTup {Q : Value → Shared → Prop} (hh : A.handled = none) (hl : s.heap.IsTuple l (intItems xs)) (hne : 0 < xs.size)
    (h : ∀ v h' tk, (intItems xs)[argBest (fun i j => decide (numAt xs i > numAt xs j)) (xs.size - 1)]? = some v → (∀ b o, s.heap.get? b = some o → h'.get? b = some o) → Q v { s with heap := h', toks := tk }) :
    wpAny (model prog w) A (call (.builtin "max") [.ref l]) Q E s := by
  refine call_max_walk (iter_intTup hl fun s₂ e st hfp hlI => ?_)
  subst e
  refine ⟨_, _, _, _, _, _, _, rfl, Walks.tuple (A := A.in1) hh _ l hlI (intItems xs), st, hfp, by simpa [intItems] using hne, CmpOf.ints_gt (numAt xs) (fun _ _ => intItems_at), fun v h' tk hP hk => ?_⟩
  exact h v h' tk (by simpa [intItems] using hP) (old_keptT hk)
theorem min_intTup {Q : Value → Shared → Prop} (hh : A.handled = none) (hl : s.heap.IsTuple l (intItems xs)) (hne : 0 < xs.size)
    (h : ∀ v h' tk, (intItems xs)[argBest (fun i j => decide (numAt xs i < numAt xs j)) (xs.size - 1)]? = some v → (∀ b o, s.heap.get? b = some o → h'.get? b = some o) → Q v { s with heap := h', toks := tk }) :
    wpAny (model prog w) A (call (.builtin "min") [.ref l]) Q E s := by
  refine call_min_walk (iter_intTup hl fun s₂ e st hfp hlI => ?_)
  subst e
  refine ⟨_, _, _, _, _, _, _, rfl, Walks.tuple (A := A.in1) hh _ l hlI (intItems xs), st, hfp, by simpa [intItems] using hne, CmpOf.ints_lt (numAt xs) (fun _ _ => intItems_at), fun v h' tk hP hk => ?_⟩
  exact h v h' tk (by simpa [intItems] using hP) (old_keptT hk)
theorem max_rawT {its : List Value} {ns : List Int} {Q : Value → Shared → Prop} (hh : A.handled = none) (hl : s.heap.IsTuple l its.toArray) (hi : IntsAre its ns) (hne : 0 < ns.length)
    (h : ∀ h' tk M t', (∀ b o, s.heap.get? b = some o → h'.get? b = some o) → M ∈ ns → (∀ a, a ∈ ns → a ≤ M) → Q (.int M t') { s with heap := h', toks := tk }) : wpAny (model prog w) A (call (.builtin "max") [.ref l]) Q E s := by
  obtain ⟨xs, e⟩ := hi.allInts.items
  have hn : numsOf (intItems xs).toList = ns := by rw [← e]; exact hi.numsOf
  rw [nums_intItems] at hn
  subst hn
  rw [e] at hl
  have hsz : 0 < xs.size := by simpa using hne
  refine max_intTup hh hl hsz fun v h' tk hv hk => ?_
  obtain ⟨t, rfl⟩ := intItems_at hv
  obtain ⟨h1, h2⟩ := argBest_gt (numAt xs) (xs.size - 1)
  refine h h' tk _ t hk ?_ fun a ha => ?_
  · rw [numAt_eq]; exact PySem.getD_mem (by rw [List.length_map, Array.length_toList]; omega)
  · obtain ⟨j, hj, rfl⟩ := mem_getD ha
    rw [List.length_map, Array.length_toList] at hj
    rw [← numAt_eq]; exact h2 j (by omega)
theorem min_rawT {its : List Value} {ns : List Int} {Q : Value → Shared → Prop} (hh : A.handled = none) (hl : s.heap.IsTuple l its.toArray) (hi : IntsAre its ns) (hne : 0 < ns.length)
    (h : ∀ h' tk M t', (∀ b o, s.heap.get? b = some o → h'.get? b = some o) → M ∈ ns → (∀ a, a ∈ ns → M ≤ a) → Q (.int M t') { s with heap := h', toks := tk }) : wpAny (model prog w) A (call (.builtin "min") [.ref l]) Q E s := by
  obtain ⟨xs, e⟩ := hi.allInts.items
  have hn : numsOf (intItems xs).toList = ns := by rw [← e]; exact hi.numsOf
  rw [nums_intItems] at hn
  subst hn
  rw [e] at hl
  have hsz : 0 < xs.size := by simpa using hne
  refine min_intTup hh hl hsz fun v h' tk hv hk => ?_
  obtain ⟨t, rfl⟩ := intItems_at hv
  obtain ⟨h1, h2⟩ := argBest_lt (numAt xs) (xs.size - 1)
  refine h h' tk _ t hk ?_ fun a ha => ?_
  · rw [numAt_eq]; exact PySem.getD_mem (by rw [List.length_map, Array.length_toList]; omega)
  · obtain ⟨j, hj, rfl⟩ := mem_getD ha
    rw [List.length_map, Array.length_toList] at hj
    rw [← numAt_eq]; exact h2 j (by omega)
end
def rMaxQ (K : PySem.W.Frag) : List V → Hp → VK → Prop := fun vs H Q => ∃ (a : Addr) (ns : List Int), vs = [V.ref a] ∧ (SqL K H a (ns.map V.int) ∨ SqT K H a (ns.map V.int)) ∧ 0 < ns.length ∧ ∀ m, m ∈ ns → (∀ y, y ∈ ns → y ≤ m) → Q (.int m) H
def rMinQ (K : PySem.W.Frag) : List V → Hp → VK → Prop := fun vs H Q => ∃ (a : Addr) (ns : List Int), vs = [V.ref a] ∧ (SqL K H a (ns.map V.int) ∨ SqT K H a (ns.map V.int)) ∧ 0 < ns.length ∧ ∀ m, m ∈ ns → (∀ y, y ∈ ns → m ≤ y) → Q (.int m) H
section
variable {X : Cx}
theorem b_maxQ (hc : X.calm = true) : CallR X (.builtin "max") (rMaxQ X.K) := by
  intro pins s σ H vs us Q I r h
  obtain ⟨a, ns, rfl, hs | hs, hne, q⟩ := h
  · exact cr_max hc pins s σ H _ us Q I r ⟨a, ns, rfl, hs, hne, q⟩
  · obtain ⟨its, rv, hl, _⟩ := I.tuple hs
    rw [Vals.ref1 r]
    obtain ⟨o, ho, hc', n, hd⟩ := hl
    exact max_rawT (I.ok.hd hc) ⟨o, ho, hc', n, hd⟩ rv.ints hne fun h' tk m t' hk h1 h2 => ⟨.int _, H, I.kept hk, ⟨_, rfl⟩, q m h1 h2⟩
theorem b_minQ (hc : X.calm = true) : CallR X (.builtin "min") (rMinQ X.K) := by
  intro pins s σ H vs us Q I r h
  obtain ⟨a, ns, rfl, hs | hs, hne, q⟩ := h
  · exact cr_min hc pins s σ H _ us Q I r ⟨a, ns, rfl, hs, hne, q⟩
  · obtain ⟨its, rv, hl, _⟩ := I.tuple hs
    rw [Vals.ref1 r]
    obtain ⟨o, ho, hc', n, hd⟩ := hl
    exact min_rawT (I.ok.hd hc) ⟨o, ho, hc', n, hd⟩ rv.ints hne fun h' tk m t' hk h1 h2 => ⟨.int _, H, I.kept hk, ⟨_, rfl⟩, q m h1 h2⟩
end
end MyL

set_option Elab.async false
set_option linter.all false
set_option maxRecDepth 100000
set_option maxHeartbeats 4000000
/-! Steps for list methods, list(..), tuple(..), in, tests against [], comprehensions with a test. -/
namespace MyL
open PySem PySem.Spec PyProof.Rows L2
section
variable {X : Cx}
def rListOf (K : PySem.W.Frag) : List V → Hp → VK → Prop := fun xs H Q => ∃ p ys, xs = [.ref p] ∧ (SqL K H p ys ∨ SqT K H p ys) ∧ ∀ l, H l = none → Q (.ref l) (upd H l (.lst ys))
def rTupleOf (K : PySem.W.Frag) : List V → Hp → VK → Prop := fun xs H Q => ∃ p ys, xs = [.ref p] ∧ ((SqL K H p ys ∧ ∀ l, H l = none → Q (.ref l) (upd H l (.tup ys))) ∨ (SqT K H p ys ∧ Q (.ref p) H))
theorem b_listOf : CallR X (.type "list") (rListOf X.K) := call_list_of
theorem b_tupleOf : CallR X (.type "tuple") (rTupleOf X.K) := call_tuple_of
end
section
variable {σ : L2.St} {H : Hp} {Q : VK} {K : PySem.W.Frag} {T : String} {r : V → List V → Hp → VK → Prop} {to te : TE} {t : TA} {tt : TT} {B : Hp} {ms : List Addr} {f l : List (Addr × HO)} {p : Addr} {xs : List V} {y : V} {x0 x1 x2 x3 : Addr × HO} {vs : List Nat}
theorem k_bm (h : to σ H fun x H1 => tyV K T x H1 ∧ t σ H1 fun xs H2 => r x xs H2 Q) : tBM K T r to t σ H Q := h
theorem k_bm0 (h : to σ H fun x H1 => tyV K T x H1 ∧ r x [] H1 Q) : tBM0 K T r to σ H Q := h
theorem k_tyL {PR : Prop} (h : H p = some (.lst xs)) (q : PR) : tyV K "list" (.ref p) H ∧ PR := ⟨.inl ⟨rfl, xs, SqL.of h⟩, q⟩
theorem k_appL0 (M : Mem B ms H f ((p, .lst xs) :: l)) (hs : xs.length < sizeLine) (q : ∀ H', Mem B ms H' f ((p, .lst (xs ++ [y])) :: l) → Q .non H') : rAppend (.ref p) [y] H Q :=
  ⟨p, xs, y, rfl, rfl, M.getL List.mem_cons_self, hs, q _ (Mem.setL (l1 := []) M)⟩
theorem k_appL1 (M : Mem B ms H f (x0 :: (p, .lst xs) :: l)) (hs : xs.length < sizeLine) (q : ∀ H', Mem B ms H' f (x0 :: (p, .lst (xs ++ [y])) :: l) → Q .non H') : rAppend (.ref p) [y] H Q :=
  ⟨p, xs, y, rfl, rfl, M.getL (by simp), hs, q _ (Mem.setL (l1 := [x0]) M)⟩
theorem k_appL2 (M : Mem B ms H f (x0 :: x1 :: (p, .lst xs) :: l)) (hs : xs.length < sizeLine) (q : ∀ H', Mem B ms H' f (x0 :: x1 :: (p, .lst (xs ++ [y])) :: l) → Q .non H') : rAppend (.ref p) [y] H Q :=
  ⟨p, xs, y, rfl, rfl, M.getL (by simp), hs, q _ (Mem.setL (l1 := [x0, x1]) M)⟩
theorem k_appL3 (M : Mem B ms H f (x0 :: x1 :: x2 :: (p, .lst xs) :: l)) (hs : xs.length < sizeLine) (q : ∀ H', Mem B ms H' f (x0 :: x1 :: x2 :: (p, .lst (xs ++ [y])) :: l) → Q .non H') : rAppend (.ref p) [y] H Q :=
  ⟨p, xs, y, rfl, rfl, M.getL (by simp), hs, q _ (Mem.setL (l1 := [x0, x1, x2]) M)⟩
theorem k_revL0 (M : Mem B ms H f ((p, .lst xs) :: l)) (q : ∀ H', Mem B ms H' f ((p, .lst xs.reverse) :: l) → Q .non H') : rReverse (.ref p) [] H Q :=
  ⟨p, xs, rfl, rfl, M.getL List.mem_cons_self, q _ (Mem.setL (l1 := []) M)⟩
theorem k_revL1 (M : Mem B ms H f (x0 :: (p, .lst xs) :: l)) (q : ∀ H', Mem B ms H' f (x0 :: (p, .lst xs.reverse) :: l) → Q .non H') : rReverse (.ref p) [] H Q :=
  ⟨p, xs, rfl, rfl, M.getL (by simp), q _ (Mem.setL (l1 := [x0]) M)⟩
theorem k_listOf (M : Mem B ms H f l) (h : SqL K H p xs ∨ SqT K H p xs) (q : ∀ d H', Mem B ms H' f ((d, .lst xs) :: l) → Q (.ref d) H') : rListOf K [.ref p] H Q := ⟨p, xs, rfl, h, fun d hd => q d _ (M.alloc hd)⟩
theorem k_tupleOf (M : Mem B ms H f l) (h : SqL K H p xs) (q : ∀ d H', Mem B ms H' f ((d, .tup xs) :: l) → Q (.ref d) H') : rTupleOf K [.ref p] H Q := ⟨p, xs, rfl, .inl ⟨h, fun d hd => q d _ (M.alloc hd)⟩⟩
theorem k_tupleOfT (h : SqT K H p xs) (q : Q (.ref p) H) : rTupleOf K [.ref p] H Q := ⟨p, xs, rfl, .inr ⟨h, q⟩⟩
theorem inV_ints {n : Int} {ns : List Int} : inV (.int n) (ns.map V.int) = decide (n ∈ ns) := by
  rw [Bool.eq_iff_iff]
  simp [inV, eqV]
theorem flat_ints {ns : List Int} : (ns.map V.int).all flatV = true := by simp [flatV]
theorem k_inI {n : Int} {ns : List Int} (h : SqL K H p (ns.map V.int) ∨ SqT K H p (ns.map V.int)) (q : Q (.bl (decide (n ∈ ns))) H) : rIn K false (.int n) (.ref p) H Q :=
  ⟨p, _, rfl, h, rfl, flat_ints, by show Q (.bl (inV (.int n) (ns.map V.int))) H; rw [inV_ints]; exact q⟩
/-- a list against [] -/
theorem k_neNil {b : Addr} {ds : List PyData} (h1 : SqL K H p xs) (h2 : H b = some (.lst [])) (hd : DpAll K H xs ds) (hs : SeqAt.shaped (.list ds) = true) (q : Q (.bl (!xs.isEmpty)) H) : rNeD K (.ref p) (.ref b) H Q := by
  refine ⟨.list ds, .list [], .lst h1 hd, .lst (SqL.of h2) .nil, hs, by decide +kernel, ?_⟩
  have e : PyData.eqv (.list ds) (.list []) = xs.isEmpty := by
    cases hd with
    | nil => rfl
    | cons _ _ => rfl
  rw [e]; exact q
theorem dp_ints {ns : List Int} : DpAll K H (ns.map V.int) (ns.map PyData.int) := by
  induction ns with
  | nil => exact .nil
  | cons n ns ih => exact .cons (.int n) ih
theorem lcL_sel {a : Addr} {j : Nat} (M : Mem B ms H f l) (hx : ∀ H' D acc, Mem B ms H' f ((D, .lst acc) :: l) → SqL K H' a xs) (P : V → Bool) (v : V → V) (hn : xs.length ≤ 50000) (hw : ∀ x, wipe ((wipe σ vs).set j (some x)) vs = wipe σ vs)
    (ht : ∀ x H' D acc (R : Bool → Hp → Prop), x ∈ xs → Mem B ms H' f ((D, .lst acc) :: l) → (∀ H4, Mem B ms H4 f ((D, .lst acc) :: l) → R (P x) H4) → tt ((wipe σ vs).set j (some x)) H' R)
    (he : ∀ x H' D acc (R : VK), x ∈ xs → P x = true → Mem B ms H' f ((D, .lst acc) :: l) → (∀ H4, Mem B ms H4 f ((D, .lst acc) :: l) → R (v x) H4) → te ((wipe σ vs).set j (some x)) H' R)
    (k : ∀ (D : Addr) (H' : Hp), Mem B ms H' f ((D, .lst ((xs.filter P).map v)) :: l) → Q (.ref D) H') : tLc (iJ (Itl K a)) (gName j) tt te vs σ H Q := by
  refine lc_lst (xs := xs) fun D hD => ⟨fun i H' => Mem B ms H' f ((D, .lst (((xs.take i).filter P).map v)) :: l), M.alloc hD, fun i H' _ M' => hx H' D _ M', fun i x H' hi M' => ⟨hw _, ?_⟩, fun H' M' => k D H' (by dsimp only at M'; rw [List.take_length] at M'; exact M')⟩
  have hm := List.mem_of_getElem? hi
  have hil := (List.getElem?_eq_some_iff.mp hi).1
  have htk : xs.take (i + 1) = xs.take i ++ [x] := by rw [List.take_add_one, hi]; rfl
  refine ht x H' D _ _ hm M' fun H4 M4 => ?_
  by_cases hp : P x = true
  · rw [hp, if_pos rfl]
    refine he x H4 D _ _ hm hp M4 fun H5 M5 => ⟨_, M5.getL List.mem_cons_self, ?_, ?_⟩
    · rw [List.length_map]
      have h1 := List.length_filter_le P (xs.take i)
      have h2 := List.length_take_le i xs
      exact Nat.lt_of_le_of_lt (Nat.le_trans h1 h2) (Nat.lt_of_lt_of_le hil (Nat.le_trans hn (by decide)))
    · dsimp only
      rw [htk, List.filter_append, List.map_append]
      have e : ([x].filter P).map v = [v x] := by simp [hp]
      rw [e]; exact Mem.setL (l1 := []) M5
  · have hf : P x = false := by simpa using hp
    rw [hf, if_neg (by decide)]
    dsimp only
    rw [htk, List.filter_append]
    have e : [x].filter P = [] := by simp [hf]
    rw [e, List.append_nil]; exact M4
end
end MyL
namespace MyL
open PySem PySem.Spec PyProof.Rows L2
def StaAt (K : PySem.W.Frag) (C : Addr) (m qual : Str) (st : Stmt) : Prop := ∃ (p g : Addr) (fd : FuncData), StaOf K C m p g ∧ Fun K m qual st g fd
section
variable {P : Program} {w : World} {K : PySem.W.Frag} {mg : Str → Option Value} {base h : Heap} {k : Nat} {C f p : Addr} {x m qual : Str} {sp : Sp} {st : Stmt} {fd : FuncData} {ps : List Str} {oc : Value} {od an : Option Addr} {osl : Array (Option Value)} {kV doc pm cdv ct : Value} {rest : List Value}
theorem gsta (ga : PySem.W.specialIn K (.ref C) "__getattribute__" = some (some (.builtin "type.__getattribute__"))) (rd : PySem.W.readsIn K C (.type "type") = true)
    (a : PySem.W.findCls K (.ref C) (.type "type") m = some (.get (.builtin "staticmethod.__get__") (.ref p) .none (.ref C))) (r : PySem.W.recIn K p "staticmethod" = some (.ref f :: rest))
    (l : K.lookup f = some ⟨oc, od, .func (PySem.W.fnOf m qual (defArgs st) (defBody st) (defScope st) .none kV doc pm an cdv ct), osl⟩)
    (c : PySem.W.codeIn K cdv qual = true) (kp : PySem.W.keepIn K (.ref f) = true) : StaAt K C m qual st := ⟨p, f, _, ⟨ga, rd, a, ⟨rest, r⟩, kp⟩, fun_mk l c kp⟩
theorem sta_of (D : StaAt K C m qual st) (hb : BindsSt m qual st ps) (ok : ∀ {f : Addr} {fd : FuncData}, Fun K m qual st f fd → FnOk P w K mg base (L2.CX P w) k f fd ps sp) : Sta P w K mg base k C m sp := by
  obtain ⟨p, f, fd, a, F⟩ := D
  exact ⟨p, f, fd, ps, a, F.binds hb, ok F⟩
theorem plain_mk (X : K.In h) (G : h.Ns mainGlobals mg) (g : PySem.W.nsIn K mainGlobals x = some (some (.ref C))) (kC : PySem.W.keepIn K (.ref C) = true) (e : PySem.W.excIn K C [.type "ValueError", .type "Exception", .type "BaseException", .type "object"] "ValueError.__new__" = true)
    (sb : PySem.W.subIn K (.ref C) (.type "BaseException") = some true) (ty : PySem.W.typeIn K (.ref C) = some (.type "type")) : PlainErr K mg x C := ⟨PySem.W.mg_of X G g, kC, e, sb, ty⟩
end
end MyL

set_option Elab.async false
set_option linter.all false
set_option maxRecDepth 100000
set_option maxHeartbeats 4000000
/-! Walks over a list or a tuple, unpacking, while, all, extend; pairs of numbers in the heap. -/
namespace MyL
open PySem PySem.Spec PyProof.Rows L2
/-- a list or a tuple of xs -/
def Sq (H : Hp) (a : Addr) (xs : List V) : Prop := H a = some (.lst xs) ∨ H a = some (.tup xs)
theorem Sq.same {H H' : Hp} {a : Addr} {xs : List V} (h : Sq H a xs) (s : Same H H') : Sq H' a xs := h.elim (fun z => .inl (s _ _ z)) fun z => .inr (s _ _ z)
def rIsN0 : R2 := fun x y H Q => y = .non ∧ Q (.bl (decide (x = .non))) H
def rNotN0 : R2 := fun x y H Q => y = .non ∧ Q (.bl (!decide (x = .non))) H
theorem op_isN0 {X : Cx} : OpR X (compareOp .Is) rIsN0 := op_isN
theorem op_notN0 {X : Cx} : OpR X (compareOp .IsNot) rNotN0 := op_notN
def iOr (a b : TI) : TI := fun σ H R => a σ H R ∨ b σ H R
section
variable {X : Cx} {tg l : Expr} {tl : TE} {a b : TI}
theorem pi_or (h1 : PI X tg l a) (h2 : PI X tg l b) : PI X tg l (iOr a b) := ⟨fun pins s σ H R I h => h.elim (h1.run pins s σ H R I) (h2.run pins s σ H R I)⟩
theorem pi_seq (h : PE X l tl) : PI X tg l (iOr (iList X.K tl) (iTup X.K tl)) := pi_or (pi_list h) (pi_tup h)
end
section
variable {nx : L2.St → Hp → Prop} {rt : VK} {bk ct : L2.St → Hp → Prop} {σ : L2.St} {H : Hp} {tb : TS} {g : TG} {te tl : TE} {tt : TT} {Q : VK} {tA : TA} {K : PySem.W.Frag} {D : Ends} {vs : List Nat} {B : Hp} {ms : List Addr} {f l : List (Addr × HO)}
theorem sq_loop {n : Nat} {a : Addr} {xs : List V} (hv : σ[n]? = some (some (.ref a))) (hq : Sq H a xs) (Pv : Nat → L2.St → Hp → Prop) (h0 : Pv 0 σ H) (hk : ∀ i σ' H', i ≤ xs.length → Pv i σ' H' → Same H H')
    (hs : ∀ i x σ' H', xs[i]? = some x → Pv i σ' H' → g x σ' H' fun σ2 H2 => tb ⟨Pv (i + 1), rt, nx, Pv (i + 1)⟩ σ2 H2) (hd : ∀ σ' H', Pv xs.length σ' H' → nx σ' H') : tFor (iOr (iList K (tVar n)) (iTup K (tVar n))) g tb ⟨nx, rt, bk, ct⟩ σ H := by
  rcases hq with hq | hq
  · exact .inl ⟨_, hv, a, rfl, ⟨xs, SqL.of hq⟩, lst_loop (K := K) ⟨Pv, h0, fun i σ' H' hi hp => SqL.of (hk i σ' H' hi hp _ _ hq), hs, hd⟩⟩
  · exact .inr ⟨_, hv, a, rfl, ⟨xs, SqT.of hq⟩, tup_loop (K := K) ⟨Pv, h0, fun i σ' H' hi hp => SqT.of (hk i σ' H' hi hp _ _ hq), hs, hd⟩⟩
def LcT (K : PySem.W.Frag) (a : Addr) (xs : List V) (g : TG) (tt : TT) (te : TE) (vs : List Nat) (σ : L2.St) (H : Hp) (Q : VK) : Prop :=
  ∀ D, H D = none → ∃ Pv : Nat → Hp → Prop, Pv 0 (upd H D (.lst [])) ∧ (∀ i H', i ≤ xs.length → Pv i H' → SqT K H' a xs) ∧ (∀ i x H', xs[i]? = some x → Pv i H' → g x (wipe σ vs) H' fun σ2 H2 => wipe σ2 vs = wipe σ vs ∧ tt σ2 H2 fun b H3 =>
    if b = true then te σ2 H3 fun y H4 => ∃ acc, H4 D = some (.lst acc) ∧ acc.length < sizeLine ∧ Pv (i + 1) (upd H4 D (.lst (acc ++ [y]))) else Pv (i + 1) H3) ∧ ∀ H', Pv xs.length H' → Q (.ref D) H'
theorem lc_tupW {a : Addr} {xs : List V} (h : LcT K a xs g tt te vs σ H Q) : tLc (iJ (Itt K a)) g tt te vs σ H Q := fun D hD => by
  obtain ⟨Pv, h0, hl, hs, hd⟩ := h D hD
  exact lc_tup Pv h0 hl hs hd
theorem k_lcT (h : tl σ H fun x H1 => ∃ a, x = .ref a ∧ (∃ xs, SqT K H1 a xs) ∧ tLc (iJ (Itt K a)) g tt te vs σ H1 Q) : tLc (iTup K tl) g tt te vs σ H Q := h
theorem lcT_pure {a : Addr} {xs : List V} {j : Nat} (M : Mem B ms H f l) (hx : ∀ H', Mem B ms H' f l → SqT K H' a xs) (v : Nat → V) (hn : xs.length ≤ 50000) (hw : ∀ x, wipe ((wipe σ vs).set j (some x)) vs = wipe σ vs)
    (he : ∀ (i : Nat) x H' D (R : VK), xs[i]? = some x → Mem B ms H' f ((D, .lst ((List.range i).map v)) :: l) → (∀ H4, Mem B ms H4 f ((D, .lst ((List.range i).map v)) :: l) → R (v i) H4) → te ((wipe σ vs).set j (some x)) H' R)
    (k : ∀ D H', Mem B ms H' f ((D, .lst ((List.range xs.length).map v)) :: l) → Q (.ref D) H') : tLc (iJ (Itt K a)) (gName j) tYes te vs σ H Q := by
  refine lc_tupW (xs := xs) fun D hD => ⟨fun i H' => Mem B ms H' f ((D, .lst ((List.range i).map v)) :: l), M.alloc hD, fun i H' _ M' => hx H' M'.drop, fun i x H' hi M' => ⟨hw _, ?_⟩, fun H' M' => k D H' M'⟩
  refine iteT (B := Mem B ms H' f ((D, .lst ((List.range (i + 1)).map v)) :: l)) (he i x H' D _ hi M' fun H4 M4 => ⟨_, M4.getL List.mem_cons_self, ?_, ?_⟩)
  · rw [List.length_map, List.length_range]; exact Nat.lt_of_lt_of_le (List.getElem?_eq_some_iff.mp hi).1 (Nat.le_trans hn (by decide))
  · dsimp only; rw [List.range_succ, List.map_append]; exact Mem.setL (l1 := []) M4
theorem lcQ_pure {n : Nat} {a : Addr} {xs : List V} {j : Nat} (hv : σ[n]? = some (some (.ref a))) (hq : Sq H a xs) (M : Mem B ms H f l) (hx : ∀ H', Mem B ms H' f l → Same H H') (v : Nat → V) (hn : xs.length ≤ 50000) (hw : ∀ x, wipe ((wipe σ vs).set j (some x)) vs = wipe σ vs)
    (he : ∀ (i : Nat) x H' D (R : VK), xs[i]? = some x → Mem B ms H' f ((D, .lst ((List.range i).map v)) :: l) → (∀ H4, Mem B ms H4 f ((D, .lst ((List.range i).map v)) :: l) → R (v i) H4) → te ((wipe σ vs).set j (some x)) H' R)
    (k : ∀ D H', Mem B ms H' f ((D, .lst ((List.range xs.length).map v)) :: l) → Q (.ref D) H') : tLc (iOr (iList K (tVar n)) (iTup K (tVar n))) (gName j) tYes te vs σ H Q := by
  rcases hq with hq | hq
  · exact .inl ⟨_, hv, a, rfl, ⟨xs, SqL.of hq⟩, lcL_pure M (fun H' M' => SqL.of (hx H' M' _ _ hq)) v hn hw he k⟩
  · exact .inr ⟨_, hv, a, rfl, ⟨xs, SqT.of hq⟩, lcT_pure M (fun H' M' => SqT.of (hx H' M' _ _ hq)) v hn hw he k⟩
/-- a comprehension over a range with a test, whose element is a new object -/
theorem lcR_selNew {lo : Int} {n j : Nat} (M : Mem B ms H f l) (P : Nat → Bool) (O : Nat → HO) (hn : n ≤ 50000) (hw : ∀ x, wipe ((wipe σ vs).set j (some x)) vs = wipe σ vs)
    (ht : ∀ (i : Nat) H' l' (R : Bool → Hp → Prop), i < n → Mem B ms H' f l' → (∀ H4, Mem B ms H4 f l' → R (P i) H4) → tt ((wipe σ vs).set j (some (.int (lo + i)))) H' R)
    (he : ∀ (i : Nat) H' l' (R : VK), i < n → P i = true → Mem B ms H' f l' → (∀ y H4, Mem B ms H4 f ((y, O i) :: l') → R (.ref y) H4) → te ((wipe σ vs).set j (some (.int (lo + i)))) H' R)
    (k : ∀ (D : Addr) (zs : List (Addr × HO)) (H' : Hp), zs.map (·.2) = ((List.range n).filter P).map O → Mem B ms H' f ((D, .lst (zs.map fun z => V.ref z.1)) :: (zs.reverse ++ l)) → Q (.ref D) H') : tLc (iJ (Itr lo n)) (gName j) tt te vs σ H Q := by
  refine lc_rng fun D hD => ⟨fun i H' => ∃ zs : List (Addr × HO), zs.map (·.2) = ((List.range i).filter P).map O ∧ Mem B ms H' f ((D, .lst (zs.map fun z => V.ref z.1)) :: (zs.reverse ++ l)), ?_, ?_, ?_⟩
  · exact ⟨[], rfl, M.alloc hD⟩
  · rintro i H' hi ⟨zs, hz, M'⟩
    refine ⟨hw _, ?_⟩
    refine ht i H' _ _ hi M' fun H4 M4 => ?_
    by_cases hp : P i = true
    · rw [hp, if_pos rfl]
      refine he i H4 _ _ hi hp M4 fun y H5 M5 => ⟨_, M5.getL (List.mem_cons_of_mem _ List.mem_cons_self), ?_, zs ++ [(y, O i)], ?_, ?_⟩
      · have e := congrArg List.length hz
        rw [List.length_map, List.length_map] at e
        have h1 := List.length_filter_le P (List.range i)
        rw [List.length_range] at h1
        rw [List.length_map]
        exact Nat.lt_of_lt_of_le (by omega : zs.length < n) (Nat.le_trans hn (by decide))
      · rw [List.map_append, hz, List.range_succ, List.filter_append, List.map_append]
        simp [hp]
      · have := (Mem.setL (l1 := [(y, O i)]) (o' := .lst (List.map (fun z : Addr × HO => V.ref z.1) (zs ++ [(y, O i)]))) M5).swap
        simpa using this
    · have hf : P i = false := by simpa using hp
      rw [hf, if_neg (by decide)]
      refine ⟨zs, ?_, M4⟩
      rw [hz, List.range_succ, List.filter_append]
      simp [hf]
  · rintro H' ⟨zs, hz, M'⟩
    exact k D zs H' hz M'
/-! ### unpacking -/
theorem k_asgT {n : Nat} {t : TGs} (h : te σ H fun x H1 => gTup K n t x σ H1 nx) : tAsg te (gTup K n t) ⟨nx, rt, bk, ct⟩ σ H := h
theorem k_gTup {n : Nat} {t : TGs} {p : Addr} {xs : List V} {QG : L2.St → Hp → Prop} (h : H p = some (.tup xs)) (hl : xs.length = n) (q : t xs σ H QG) : gTup K n t (.ref p) σ H QG := ⟨p, xs, rfl, SqT.of h, hl, q⟩
theorem k_gCons {t : TG} {u : TGs} {v : V} {r : List V} {QG : L2.St → Hp → Prop} (q : t v σ H fun σ' H' => u r σ' H' QG) : gCons t u (v :: r) σ H QG := ⟨v, r, rfl, q⟩
theorem k_gNil {QG : L2.St → Hp → Prop} (q : QG σ H) : gNil [] σ H QG := ⟨rfl, q⟩
theorem k_par {i j : Nat} (h : tA σ H fun vs H1 => ∃ v w, vs = [v, w] ∧ nx ((σ.set i (some v)).set j (some w)) H1) : tPar i j tA ⟨nx, rt, bk, ct⟩ σ H := h
theorem k_two {v w : V} {PR : V → V → Prop} (q : PR v w) : ∃ v' w', [v, w] = [v', w'] ∧ PR v' w' := ⟨v, w, rfl, q⟩
/-! ### while -/
theorem k_while {tc : TT} (Pv : L2.St → Hp → Prop) (μ : L2.St → Hp → Nat) (h0 : Pv σ H)
    (hs : ∀ σ' H', Pv σ' H' → tc σ' H' fun b H1 => if b = true then ∃ N : L2.St → Hp → Prop, (∀ σ2 H2, N σ2 H2 → ∃ m', m' < μ σ' H' ∧ (m' = μ σ2 H2 ∧ Pv σ2 H2)) ∧ tb ⟨N, rt, nx, N⟩ σ' H1 else nx σ' H1) : tWhile tc tb ⟨nx, rt, bk, ct⟩ σ H := by
  refine ⟨fun m σ H => m = μ σ H ∧ Pv σ H, ⟨_, rfl, h0⟩, ?_⟩
  rintro m σ' H' ⟨rfl, p⟩
  exact hs σ' H' p
theorem k_turn {Pv : L2.St → Hp → Prop} {μ : L2.St → Hp → Nat} {m : Nat} (h : tb ⟨fun σ2 H2 => Pv σ2 H2 ∧ μ σ2 H2 < m, rt, nx, fun σ2 H2 => Pv σ2 H2 ∧ μ σ2 H2 < m⟩ σ H) :
    ∃ N : L2.St → Hp → Prop, (∀ σ2 H2, N σ2 H2 → ∃ m', m' < m ∧ (m' = μ σ2 H2 ∧ Pv σ2 H2)) ∧ tb ⟨N, rt, nx, N⟩ σ H := ⟨_, fun σ2 H2 ⟨a, b⟩ => ⟨_, b, rfl, a⟩, h⟩
/-! ### all, isinstance, is None -/
theorem k_all {p : Addr} {bs : List Bool} (h : H p = some (.lst (bs.map V.bl))) (q : Q (.bl (bs.all id)) H) : rAll K [.ref p] H Q := ⟨p, bs, rfl, SqL.of h, q⟩
theorem k_isiL {p : Addr} {xs : List V} {c : String} {b : Bool} (h : H p = some (.lst xs)) (e : PySem.W.kitOne K (.type "list") (.type c) = some b) (q : Q (.bl b) H) : rIsi K [.ref p, .ty c] H Q := ⟨_, _, _, _, b, rfl, .ty c, .base (.lst h), e, q⟩
theorem k_isiT {p : Addr} {xs : List V} {c : String} {b : Bool} (h : H p = some (.tup xs)) (e : PySem.W.kitOne K (.type "tuple") (.type c) = some b) (q : Q (.bl b) H) : rIsi K [.ref p, .ty c] H Q := ⟨_, _, _, _, b, rfl, .ty c, .base (.tup h), e, q⟩
theorem k_isN {x : V} (q : Q (.bl (decide (x = .non))) H) : rIsN0 x .non H Q := ⟨rfl, q⟩
theorem k_notN {x : V} (q : Q (.bl (!decide (x = .non))) H) : rNotN0 x .non H Q := ⟨rfl, q⟩
theorem k_eqV {x y : V} (h : scal x y = true) (q : Q (.bl (decide (x = y))) H) : rEq x y H Q := ⟨h, q⟩
theorem k_neV {x y : V} (h : scal x y = true) (q : Q (.bl (!decide (x = y))) H) : rNe x y H Q := ⟨h, q⟩
theorem k_ixQ {p : Addr} {xs : List V} {j : Int} {v : V} (h : Sq H p xs) (ha : atI xs j = some v) (q : Q v H) : rIx K (.ref p) (.int j) H Q := by
  rcases h with h | h
  · exact .inl ⟨p, xs, j, v, rfl, rfl, SqL.of h, ha, q⟩
  · exact .inr (.inl ⟨p, xs, j, v, rfl, rfl, SqT.of h, ha, q⟩)
theorem k_lenQ {p : Addr} {xs : List V} (h : Sq H p xs) (q : Q (.int xs.length) H) : rLenQ K [.ref p] H Q := ⟨p, xs, rfl, h.elim (fun z => .inl (SqL.of z)) fun z => .inr (SqT.of z), q⟩
/-! ### what was made, in another order -/
theorem Mem.perm {l' : List (Addr × HO)} (M : Mem B ms H f l) (h : l.Perm l') : Mem B ms H f l' :=
  ⟨M.atF, fun p hp => M.atL p (h.mem_iff.mpr hp), by
    have e := (h.append_right f).map (·.1)
    exact e.nodup_iff.mp M.nd, M.keep, M.tr, fun p hp => M.new p (h.mem_iff.mpr hp)⟩
theorem Mem.sub {l' : List (Addr × HO)} (M : Mem B ms H f l) (h : l'.Sublist l) : Mem B ms H f l' :=
  ⟨M.atF, fun p hp => M.atL p (h.subset hp), by
    have e := (h.append_right f).map (·.1)
    exact e.nodup M.nd, M.keep, M.tr, fun p hp => M.new p (h.subset hp)⟩
theorem k_ext {p b : Addr} {xs zs : List V} (M : Mem B ms H f ((p, .lst xs) :: l)) (hb : H b = some (.lst zs)) (hs : xs.length + zs.length ≤ sizeLine) (q : ∀ H', Mem B ms H' f ((p, .lst (xs ++ zs)) :: l) → Q .non H') : rExtend (.ref p) [.ref b] H Q :=
  ⟨p, b, xs, zs, rfl, rfl, M.getL List.mem_cons_self, hb, hs, q _ (Mem.setL (l1 := []) M)⟩
/-! ### pairs of numbers -/
abbrev Pr := Int × Int
abbrev prO (s : Pr) : HO := .tup [.int s.1, .int s.2]
/-- xs are the pairs ss, each told by R -/
def PG (R : Addr → Pr → Prop) (xs : List V) (ss : List Pr) : Prop := xs.length = ss.length ∧ ∀ (i : Nat) (x : V) (s : Pr), xs[i]? = some x → ss[i]? = some s → ∃ p, x = .ref p ∧ R p s
/-- .. in the heap -/
abbrev Prs (H : Hp) : List V → List Pr → Prop := PG fun p s => H p = some (prO s)
/-- .. among what was made -/
abbrev PrL (l : List (Addr × HO)) : List V → List Pr → Prop := PG fun p s => (p, prO s) ∈ l
section
variable {R R' : Addr → Pr → Prop} {xs ys : List V} {ss ts : List Pr}
theorem PG.nil : PG R [] [] := ⟨rfl, fun i x s h => by simp at h⟩
theorem PG.get (h : PG R xs ss) {i : Nat} {x : V} (hx : xs[i]? = some x) : ∃ s p, ss[i]? = some s ∧ x = .ref p ∧ R p s := by
  have hi := (List.getElem?_eq_some_iff.mp hx).1
  rw [h.1] at hi
  obtain ⟨p, e, hp⟩ := h.2 i x _ hx (List.getElem?_eq_getElem hi)
  exact ⟨_, p, List.getElem?_eq_getElem hi, e, hp⟩
theorem PG.mono (h : PG R xs ss) (k : ∀ p s, R p s → R' p s) : PG R' xs ss :=
  ⟨h.1, fun i x s a b => (h.2 i x s a b).imp fun p ⟨e, z⟩ => ⟨e, k p s z⟩⟩
theorem PG.append (h1 : PG R xs ss) (h2 : PG R ys ts) : PG R (xs ++ ys) (ss ++ ts) := by
  refine ⟨by rw [List.length_append, List.length_append, h1.1, h2.1], fun i x s hx hs => ?_⟩
  by_cases hi : i < xs.length
  · rw [List.getElem?_append_left hi] at hx
    rw [List.getElem?_append_left (by rw [← h1.1]; exact hi)] at hs
    exact h1.2 i x s hx hs
  · rw [List.getElem?_append_right (by omega)] at hx
    rw [List.getElem?_append_right (by rw [← h1.1]; omega), ← h1.1] at hs
    exact h2.2 _ x s hx hs
theorem PG.one {p : Addr} {s : Pr} (h : R p s) : PG R [.ref p] [s] := ⟨rfl, fun i x s' a b => by
  cases i with
  | zero => simp at a b; subst a b; exact ⟨p, rfl, h⟩
  | succ i => simp at a⟩
theorem Prs.same {H' : Hp} (h : Prs H xs ss) (k : Same H H') : Prs H' xs ss := h.mono fun p s e => k _ _ e
theorem PrL.prs (M : Mem B ms H f l) (h : PrL l xs ss) : Prs H xs ss := h.mono fun p s e => M.getL e
theorem PrL.more {l' : List (Addr × HO)} (h : PrL l xs ss) (k : ∀ z ∈ l, z ∈ l') : PrL l' xs ss := h.mono fun p s e => k _ e
/-- new objects as pairs -/
theorem PG.ofNew {zs : List (Addr × HO)} (h : zs.map (·.2) = ss.map prO) : PrL zs (zs.map fun z => V.ref z.1) ss := by
  have e := congrArg List.length h
  rw [List.length_map, List.length_map] at e
  refine ⟨by rw [List.length_map]; exact e, fun i x s hx hs => ?_⟩
  rw [List.getElem?_map] at hx
  cases hz : zs[i]? with
  | none => rw [hz] at hx; simp at hx
  | some z =>
    rw [hz] at hx
    simp at hx
    have h1 : (zs.map (·.2))[i]? = some z.2 := by rw [List.getElem?_map, hz]; rfl
    rw [h, List.getElem?_map, hs] at h1
    simp at h1
    refine ⟨z.1, hx.symm, ?_⟩
    show (z.1, prO s) ∈ zs
    rw [h1]
    exact List.mem_of_getElem? hz
end
theorem atI_nat {xs : List V} {i : Nat} {x : V} (h : xs[i]? = some x) : atI xs (i : Int) = some x := by
  have hi := (List.getElem?_eq_some_iff.mp h).1
  unfold atI ixN
  rw [if_pos (by omega), if_pos (by omega)]
  simpa using h
theorem atI_nat0 {xs : List V} {i : Nat} {x : V} (h : xs[i]? = some x) : atI xs (0 + (i : Int)) = some x := by rw [Int.zero_add]; exact atI_nat h
theorem atI_0 {xs : List V} {x : V} (h : xs[0]? = some x) : atI xs 0 = some x := atI_nat (i := 0) h
theorem map_range_getD {α β : Type} {ss : List α} {d : α} {v : α → β} : (List.range ss.length).map (fun i => v (ss.getD i d)) = ss.map v := by
  refine List.ext_getElem? fun i => ?_
  rw [List.getElem?_map, List.getElem?_map]
  by_cases hi : i < ss.length
  · rw [List.getElem?_range hi, List.getElem?_eq_getElem hi]; simp [hi]
  · rw [List.getElem?_eq_none (by simpa using hi), List.getElem?_eq_none (by omega)]; rfl
theorem getD_of {α : Type} {ss : List α} {i : Nat} {s d : α} (h : ss[i]? = some s) : ss.getD i d = s := by
  rw [List.getD_eq_getElem?_getD, h]; rfl
theorem all_at {α : Type} {ss : List α} {p : α → Bool} {i : Nat} {s : α} (h : ss[i]? = some s) (hp : p s = false) : ss.all p = false := by
  rw [List.all_eq_false]; exact ⟨s, List.mem_of_getElem? h, by rw [hp]; exact Bool.false_ne_true⟩
theorem all_next {α : Type} {ss : List α} {p : α → Bool} {i : Nat} {s : α} (h : ss[i]? = some s) (hp : p s = true) (ha : (ss.take i).all p = true) : (ss.take (i + 1)).all p = true := by
  rw [List.take_add_one, h, List.all_append, ha]; simp [hp]
theorem Mem.front1 {x0 y : Addr × HO} (M : Mem B ms H f (x0 :: y :: l)) : Mem B ms H f (y :: x0 :: l) := M.swap
theorem Mem.front2 {x0 x1 y : Addr × HO} (M : Mem B ms H f (x0 :: x1 :: y :: l)) : Mem B ms H f (y :: x0 :: x1 :: l) := M.perm ((List.Perm.cons x0 (List.Perm.swap y x1 l)).trans (List.Perm.swap y x0 _))
theorem Mem.front3 {x0 x1 x2 y : Addr × HO} (M : Mem B ms H f (x0 :: x1 :: x2 :: y :: l)) : Mem B ms H f (y :: x0 :: x1 :: x2 :: l) := M.perm ((List.Perm.cons x0 ((List.Perm.cons x1 (List.Perm.swap y x2 l)).trans (List.Perm.swap y x1 _))).trans (List.Perm.swap y x0 _))
theorem Mem.frontA {zs : List (Addr × HO)} {x0 y : Addr × HO} (M : Mem B ms H f (x0 :: (zs ++ y :: l))) : Mem B ms H f (y :: x0 :: (zs ++ l)) := M.perm ((List.Perm.cons x0 List.perm_middle).trans (List.Perm.swap y x0 _))
theorem k_isNn (q : Q (.bl true) H) : rIsN0 .non .non H Q := ⟨rfl, by rw [decide_eq_true rfl]; exact q⟩
theorem k_isNi {i : Int} (q : Q (.bl false) H) : rIsN0 (.int i) .non H Q := ⟨rfl, by rw [decide_eq_false (fun z => nomatch z)]; exact q⟩
theorem k_notNn (q : Q (.bl false) H) : rNotN0 .non .non H Q := ⟨rfl, by rw [decide_eq_true rfl]; exact q⟩
theorem k_notNi {i : Int} (q : Q (.bl true) H) : rNotN0 (.int i) .non H Q := ⟨rfl, by rw [decide_eq_false (fun z => nomatch z)]; exact q⟩
abbrev pd (s : Pr) : PyData := .tuple [.int s.1, .int s.2]
theorem Prs.dp {xs : List V} {ss : List Pr} (h : Prs H xs ss) : DpAll K H xs (ss.map pd) := by
  induction xs generalizing ss with
  | nil =>
    have e := h.1
    cases ss with
    | nil => exact .nil
    | cons s ss => simp at e
  | cons x xs ih =>
    have e := h.1
    cases ss with
    | nil => simp at e
    | cons s ss =>
      obtain ⟨p, rfl, hp⟩ := h.2 0 x s rfl rfl
      refine .cons (.tup (SqT.of hp) (.cons (.int _) (.cons (.int _) .nil))) (ih ⟨by simpa using e, fun i x s a b => h.2 (i + 1) x s (by simpa using a) (by simpa using b)⟩)
theorem pd_lay (ss : List Pr) : PyData.canLayAll0 (ss.map pd) = true := by
  induction ss with
  | nil => rfl
  | cons s ss ih => simp only [List.map_cons, PyData.canLayAll0, PyData.canLay0, ih, Bool.and_self]
theorem pd_depth (ss : List Pr) : PyData.depthAll (ss.map pd) ≤ 1 := by
  induction ss with
  | nil => simp [PyData.depthAll]
  | cons s ss ih => simp only [List.map_cons, PyData.depthAll, PyData.depth]; omega
theorem pd_shaped (ss : List Pr) : SeqAt.shaped (.list (ss.map pd)) = true := by
  have h := pd_depth ss
  unfold SeqAt.shaped
  rw [Bool.and_eq_true, decide_eq_true_eq]
  refine ⟨by simp only [PyData.canLay0]; exact pd_lay ss, by simp only [PyData.depth]; omega⟩
theorem pd_eqv (ss : List Pr) : PyData.eqvAll (ss.map pd) (ss.map pd) = true := by
  induction ss with
  | nil => rfl
  | cons s ss ih => simp only [List.map_cons, PyData.eqvAll, PyData.eqv, ih, beq_self_eq_true, Bool.and_self]
theorem k_eqPrs {a b : Addr} {xs ys : List V} {ss : List Pr} (h1 : H a = some (.lst xs)) (h2 : H b = some (.lst ys)) (p1 : Prs H xs ss) (p2 : Prs H ys ss) (q : Q (.bl true) H) : rEqD K (.ref a) (.ref b) H Q :=
  ⟨_, _, .lst (SqL.of h1) p1.dp, .lst (SqL.of h2) p2.dp, pd_shaped ss, pd_shaped ss, by simp only [PyData.eqv]; rw [pd_eqv]; exact q⟩
theorem k_nePrs {a b : Addr} {xs ys : List V} {ss : List Pr} (h1 : H a = some (.lst xs)) (h2 : H b = some (.lst ys)) (p1 : Prs H xs ss) (p2 : Prs H ys ss) (q : Q (.bl false) H) : rNeD K (.ref a) (.ref b) H Q :=
  ⟨_, _, .lst (SqL.of h1) p1.dp, .lst (SqL.of h2) p2.dp, pd_shaped ss, pd_shaped ss, by simp only [PyData.eqv]; rw [pd_eqv]; exact q⟩
theorem k_neNilP {a b : Addr} {xs : List V} {ss : List Pr} (h1 : H a = some (.lst xs)) (h2 : H b = some (.lst [])) (p1 : Prs H xs ss) (q : Q (.bl (!ss.isEmpty)) H) : rNeD K (.ref a) (.ref b) H Q :=
  k_neNil (SqL.of h1) h2 p1.dp (pd_shaped ss) (by
    have e : xs.isEmpty = ss.isEmpty := by
      have := p1.1
      cases xs <;> cases ss <;> simp at this ⊢
    rw [e]; exact q)
end
end MyL

set_option Elab.async false
set_option linter.all false
set_option maxRecDepth 100000
set_option maxHeartbeats 4000000
/-! The box of a script and draws from it; what a call leaves, joined with what was known. -/
namespace MyL
open PySem PySem.Spec PyProof.Rows L2
section
variable {B H H' : Hp} {ms : List Addr} {f g l l2 : List (Addr × HO)} {a bx : Addr} {o o' : HO}
theorem Mem.comp1 (M : Mem B ms H ((bx, o) :: f) l) (hm : bx ∈ ms) (M2 : Mem H [bx] H' ((bx, o') :: g) l2) : Mem B ms H' ((bx, o') :: f) (l2 ++ l) := by
  have nd := M.nd
  have hne : ∀ q ∈ l ++ f, q.1 ≠ bx := by
    rw [List.map_append, List.map_cons, List.nodup_append] at nd
    obtain ⟨_, n2, n3⟩ := nd
    rw [List.nodup_cons] at n2
    intro q hq z
    rcases List.mem_append.mp hq with hq | hq
    · exact n3 _ (List.mem_map.mpr ⟨q, hq, rfl⟩) _ List.mem_cons_self z
    · exact n2.1 (List.mem_map.mpr ⟨q, hq, z⟩)
  have hk : ∀ q ∈ l ++ f, H' q.1 = some q.2 := fun q hq => M2.keep _ _ ((List.mem_append.mp hq).elim (fun z => M.atL q z) fun z => M.atF q (List.mem_cons_of_mem _ z)) (by simpa using hne q hq)
  refine ⟨fun q hq => ?_, fun q hq => ?_, ?_, fun b u h hmb => ?_, fun m hmm z => ?_, fun q hq => ?_⟩
  · rcases List.mem_cons.mp hq with rfl | h
    · exact M2.atF _ List.mem_cons_self
    · exact hk q (List.mem_append_right _ h)
  · rcases List.mem_append.mp hq with h | h
    · exact M2.atL q h
    · exact hk q (List.mem_append_left _ h)
  · rw [List.append_assoc, List.map_append, List.nodup_append]
    have n2 := M2.nd
    rw [List.map_append, List.nodup_append] at n2
    refine ⟨n2.1, by simpa using nd, fun x hx y hy e => ?_⟩
    obtain ⟨q, hq, rfl⟩ := List.mem_map.mp hx
    have h0 := M2.new q hq
    have h1 := M.ne h0
    exact h1 (by simpa [e] using hy)
  · exact M2.keep _ _ (M.keep b u h hmb) (by intro z; rw [List.mem_singleton] at z; exact hmb (by rw [z]; exact hm))
  · by_cases e : m = bx
    · rw [e] at z; exact M2.tr bx (by simp) z
    · cases e2 : H m with
      | none => exact M.tr m hmm e2
      | some u => rw [M2.keep _ _ e2 (by simpa using e)] at z; cases z
  · rcases List.mem_append.mp hq with h | h
    · exact M.fresh (M2.new q h)
    · exact M.new q h
theorem Mem.comp0 (M : Mem B ms H f l) (M2 : Mem H [] H' g l2) : Mem B ms H' f (l2 ++ l) := by
  have hk : ∀ b u, H b = some u → H' b = some u := fun b u h => M2.keep b u h (by simp)
  refine ⟨fun q hq => hk _ _ (M.atF q hq), fun q hq => ?_, ?_, fun b u h hmb => hk _ _ (M.keep b u h hmb), fun m hmm z => ?_, fun q hq => ?_⟩
  · rcases List.mem_append.mp hq with h | h
    · exact M2.atL q h
    · exact hk _ _ (M.atL q h)
  · rw [List.append_assoc, List.map_append, List.nodup_append]
    have n2 := M2.nd
    rw [List.map_append, List.nodup_append] at n2
    refine ⟨n2.1, M.nd, fun x hx y hy e => ?_⟩
    obtain ⟨q, hq, rfl⟩ := List.mem_map.mp hx
    exact M.ne (M2.new q hq) (by rw [e]; exact hy)
  · cases e2 : H m with
    | none => exact M.tr m hmm e2
    | some u => rw [hk _ _ e2] at z; cases z
  · rcases List.mem_append.mp hq with h | h
    · exact M.fresh (M2.new q h)
    · exact M.new q h
end
/-- the box: the script's list at sc, the place, the digits left, the turn, the seed -/
abbrev boxO (sc : Addr) (pos big turn seed : Int) : HO := .lst [.ref sc, .int pos, .int big, .int turn, .int seed]
def sp_draw : Sp := fun vs H Q _ => ∃ (bx sc : Addr) (ns : List Int) (pos big turn seed size : Int), vs = [.ref bx, .int size] ∧ H bx = some (boxO sc pos big turn seed) ∧ H sc = some (.lst (ns.map V.int)) ∧ bx ≠ sc ∧ 0 ≤ pos ∧ 0 ≤ big ∧ 1 ≤ size ∧ size < 2 ^ 64 ∧
  ∀ (d pos' big' turn' : Int) H', 0 ≤ d → d < size → 0 ≤ pos' → 0 ≤ big' → Keep [bx] H H' → H' bx = some (boxO sc pos' big' turn' seed) → Q (.int d) H'
def sp_box (K : PySem.W.Frag) : Sp := fun vs H Q _ => ∃ (a : Addr) (ns : List Int), vs = [.ref a] ∧ SqL K H a (ns.map V.int) ∧ ns.length ≤ 63 ∧ ∀ (bx sc : Addr) (seed : Int) H', H bx = none → H sc = none → bx ≠ sc → Same H H' → H' bx = some (boxO sc 0 0 0 seed) → H' sc = some (.lst (ns.map V.int)) → Q (.ref bx) H'
section
variable {B H : Hp} {ms : List Addr} {f l : List (Addr × HO)} {Q : VK} {E : XK} {bx sc : Addr} {ns : List Int} {pos big turn seed size : Int}
theorem box_ne (M : Mem B ms H ((bx, boxO sc pos big turn seed) :: (sc, .lst (ns.map V.int)) :: f) l) : bx ≠ sc := by
  have nd := M.nd
  rw [List.map_append, List.nodup_append] at nd
  have := nd.2.1
  simp at this
  exact this.1.1
theorem use_draw (M : Mem B ms H ((bx, boxO sc pos big turn seed) :: (sc, .lst (ns.map V.int)) :: f) l) (hm : bx ∈ ms) (h0 : 0 ≤ pos) (h1 : 0 ≤ big) (h2 : 1 ≤ size) (h3 : size < 2 ^ 64)
    (k : ∀ (d pos' big' turn' : Int) H', 0 ≤ d → d < size → 0 ≤ pos' → 0 ≤ big' → Mem B ms H' ((bx, boxO sc pos' big' turn' seed) :: (sc, .lst (ns.map V.int)) :: f) l → Q (.int d) H') : sp_draw [.ref bx, .int size] H Q E :=
  ⟨bx, sc, ns, pos, big, turn, seed, size, rfl, M.getF List.mem_cons_self, M.getF (by simp), box_ne M, h0, h1, h2, h3, fun d pos' big' turn' H' a1 a2 a3 a4 kp hb => k d pos' big' turn' H' a1 a2 a3 a4 (M.call1 hm kp hb)⟩
/-- a def that draws: what it may answer, by the objects that it makes -/
def sp_drawn (ar : List V → Prop) (R : List V → V → List (Addr × HO) → Prop) : Sp := fun vs H Q _ => ∃ (bx sc : Addr) (ns : List Int) (pos big turn seed : Int) (as : List V), vs = .ref bx :: as ∧ ar as ∧ H bx = some (boxO sc pos big turn seed) ∧ H sc = some (.lst (ns.map V.int)) ∧ bx ≠ sc ∧ 0 ≤ pos ∧ 0 ≤ big ∧
  ∀ (v : V) (l2 : List (Addr × HO)) (pos' big' turn' : Int) H', R as v l2 → 0 ≤ pos' → 0 ≤ big' → Mem H [bx] H' [(bx, boxO sc pos' big' turn' seed), (sc, .lst (ns.map V.int))] l2 → Q v H'
theorem use_drawn {ar : List V → Prop} {R : List V → V → List (Addr × HO) → Prop} {as : List V} (M : Mem B ms H ((bx, boxO sc pos big turn seed) :: (sc, .lst (ns.map V.int)) :: f) l) (hm : bx ∈ ms) (h0 : 0 ≤ pos) (h1 : 0 ≤ big) (ha : ar as)
    (k : ∀ (v : V) (l2 : List (Addr × HO)) (pos' big' turn' : Int) H', R as v l2 → 0 ≤ pos' → 0 ≤ big' → Mem B ms H' ((bx, boxO sc pos' big' turn' seed) :: (sc, .lst (ns.map V.int)) :: f) (l2 ++ l) → Q v H') : sp_drawn ar R (.ref bx :: as) H Q E :=
  ⟨bx, sc, ns, pos, big, turn, seed, as, rfl, ha, M.getF List.mem_cons_self, M.getF (by simp), box_ne M, h0, h1, fun v l2 pos' big' turn' H' hr a3 a4 M2 => k v l2 pos' big' turn' H' hr a3 a4 (M.comp1 hm M2)⟩
end
end MyL

set_option Elab.async false
set_option linter.all false
set_option maxRecDepth 100000
set_option maxHeartbeats 4000000
/-! What the residues' defs do (contracts alone), and a comprehension over two ranges. -/
namespace MyL
open PySem PySem.Spec PyProof.Rows L2
def resF (p l : Int) : List (Str × V) := [("place", .int p), ("length", .int l)]
theorem ne_pl : ¬ (("length" : Str) = "place") := by decide +kernel
theorem ne_lp : ¬ (("place" : Str) = "length") := by decide +kernel
theorem resF_place (p l : Int) : (resF p l).lookup ("place" : Str) = some (.int p) := by
  unfold resF; rw [lookup_put, if_pos rfl]
theorem resF_length (p l : Int) : (resF p l).lookup ("length" : Str) = some (.int l) := by
  unfold resF; rw [lookup_put, if_neg ne_pl, lookup_put, if_pos rfl]
theorem resF_put (p l : Int) : putF "length" (.int l) (putF "place" (.int p) []) = resF p l := by
  show (if ("place" : Str) = "length" then _ else (("place" : Str), V.int p) :: [(("length" : Str), V.int l)]) = _
  rw [if_neg ne_lp]; rfl
theorem resF_no {p l : Int} {m : Str} (h1 : ¬ m = "place") (h2 : ¬ m = "length") : (resF p l).lookup m = none := by
  unfold resF; rw [lookup_put, if_neg h1, lookup_put, if_neg h2]; rfl
def sp_res (C CO : Addr) : Sp := fun vs H Q E => ∃ (x dx : Addr) (p l : Int), vs = [.ref x, .int p, .int l] ∧ H x = some (.ins C dx []) ∧
  (1 ≤ l → ∀ H', H' x = some (.ins C dx (resF (p % l) l)) → (∀ b o, H b = some o → b ≠ x → H' b = some o) → Q .non H') ∧
  (l < 1 → ∀ d, H d = none → E (.ref CO) (some d) (upd H d (.xd [("value", .int l)])))
def sp_resEq (C : Addr) : Sp := fun vs H Q _ => ∃ (a dx b dy : Addr) (p l p2 l2 : Int), vs = [.ref a, .ref b] ∧ H a = some (.ins C dx (resF p l)) ∧ H b = some (.ins C dy (resF p2 l2)) ∧ Q (.bl (decide (p = p2) && decide (l = l2))) H
def sp_resIn (C : Addr) : Sp := fun vs H Q _ => ∃ (a dx : Addr) (p l d : Int), vs = [.ref a, .int d] ∧ H a = some (.ins C dx (resF p l)) ∧ 1 ≤ l ∧ Q (.bl (decide ((d - p) % l = 0))) H
section
variable {B H : Hp} {ms : List Addr} {f l : List (Addr × HO)} {Q : VK} {E : XK} {C CO a dx b dy : Addr} {p n p2 n2 d : Int}
theorem use_resEq (h1 : H a = some (.ins C dx (resF p n))) (h2 : H b = some (.ins C dy (resF p2 n2))) (q : Q (.bl (decide (p = p2) && decide (n = n2))) H) : sp_resEq C [.ref a, .ref b] H Q E := ⟨a, dx, b, dy, p, n, p2, n2, rfl, h1, h2, q⟩
theorem use_resIn (h1 : H a = some (.ins C dx (resF p n))) (hl : 1 ≤ n) (q : Q (.bl (decide ((d - p) % n = 0))) H) : sp_resIn C [.ref a, .int d] H Q E := ⟨a, dx, p, n, d, rfl, h1, hl, q⟩
theorem use_res (M : Mem B ms H f l) (h : 1 ≤ n) (k : ∀ x dx H', Mem B ms H' f ((x, .ins C dx (resF (p % n) n)) :: l) → Q (.ref x) H') :
    newO C (sp_res C CO) [.int p, .int n] H Q E := by
  intro x dx hx hdx hne
  refine ⟨x, dx, p, n, rfl, upd_same, fun _ H' hx' hk => ⟨rfl, k x dx H' (M.sameNew (fun a o e => ?_) hx hx')⟩, fun h' => absurd h (by omega)⟩
  have hax : a ≠ x := ne_of_none e hx
  exact hk a o (by rw [upd_ne hax, upd_ne (ne_of_none e hdx)]; exact e) hax
theorem use_resE (M : Mem B ms H f l) (h : n < 1) (k : ∀ d H', Mem B ms H' f ((d, .xd [("value", .int n)]) :: l) → E (.ref CO) (some d) H') : newO C (sp_res C CO) [.int p, .int n] H Q E := by
  intro x dx hx hdx hne
  refine ⟨x, dx, p, n, rfl, upd_same, fun h' => absurd h' (by omega), fun _ d hd => k d _ ?_⟩
  have s1 : Same H (upd (upd H dx (.own x)) x (.ins C dx [])) := fun a o e => by
    rw [upd_ne (ne_of_none e hx), upd_ne (ne_of_none e hdx)]; exact e
  exact M.sameNew (s1.trans (same_alloc hd)) (s1.free hd) upd_same
end
section
variable {σ : L2.St} {H : Hp} {te : TE} {Q : VK} {K : PySem.W.Frag} {vs vs1 : List Nat} {B : Hp} {ms : List Addr} {f l : List (Addr × HO)} {g g1 : TG} {tt tt1 : TT} {wi1 : TI} {tA : TA}
theorem k_xfB {H : Hp} {D dd : Addr} {fs : List (Str × V)} {f : Str} {v : V} {PV : V → Prop} (hd : H dd = some (.xd fs)) (hl : fs.lookup f = some v) (q : PV v) : Value.ref D = .ref D ∧ ∃ (dd' : Addr) (fs' : List (Str × V)) (v' : V), some dd = some dd' ∧ H dd' = some (.xd fs') ∧ fs'.lookup f = some v' ∧ PV v' := ⟨rfl, dd, fs, v, rfl, hd, hl, q⟩
/-- a comprehension over a range with a test, whose element is reckoned -/
theorem lcR_selV {lo : Int} {n j : Nat} (M : Mem B ms H f l) (P : Nat → Bool) (v : Nat → V) (hn : n ≤ 50000) (hw : ∀ x, wipe ((wipe σ vs).set j (some x)) vs = wipe σ vs)
    (ht : ∀ (i : Nat) H' D acc (R : Bool → Hp → Prop), i < n → Mem B ms H' f ((D, .lst acc) :: l) → (∀ H4, Mem B ms H4 f ((D, .lst acc) :: l) → R (P i) H4) → tt ((wipe σ vs).set j (some (.int (lo + i)))) H' R)
    (he : ∀ (i : Nat) H' D acc (R : VK), i < n → P i = true → Mem B ms H' f ((D, .lst acc) :: l) → (∀ H4, Mem B ms H4 f ((D, .lst acc) :: l) → R (v i) H4) → te ((wipe σ vs).set j (some (.int (lo + i)))) H' R)
    (k : ∀ (D : Addr) (H' : Hp), Mem B ms H' f ((D, .lst (((List.range n).filter P).map v)) :: l) → Q (.ref D) H') : tLc (iJ (Itr lo n)) (gName j) tt te vs σ H Q := by
  refine lc_rng fun D hD => ⟨fun i H' => Mem B ms H' f ((D, .lst (((List.range i).filter P).map v)) :: l), M.alloc hD, fun i H' hi M' => ⟨hw _, ?_⟩, fun H' M' => k D H' M'⟩
  refine ht i H' D _ _ hi M' fun H4 M4 => ?_
  by_cases hp : P i = true
  · rw [hp, if_pos rfl]
    refine he i H4 D _ _ hi hp M4 fun H5 M5 => ⟨_, M5.getL List.mem_cons_self, ?_, ?_⟩
    · rw [List.length_map]
      have h1 := List.length_filter_le P (List.range i)
      rw [List.length_range] at h1
      exact Nat.lt_of_lt_of_le (Nat.lt_of_le_of_lt h1 hi) (Nat.le_trans hn (by decide))
    · dsimp only
      rw [List.range_succ, List.filter_append, List.map_append]
      have e : ([i].filter P).map v = [v i] := by simp [hp]
      rw [e]; exact Mem.setL (l1 := []) M5
  · have hf : P i = false := by simpa using hp
    rw [hf, if_neg (by decide)]
    dsimp only
    rw [List.range_succ, List.filter_append]
    have e : [i].filter P = [] := by simp [hf]
    rw [e, List.append_nil]; exact M4
theorem k_lc2R2 (h : tA σ H fun zs H1 => ∃ i j : Int, zs = [.int i, .int j] ∧ (-(2 ^ 62) ≤ i ∧ i < 2 ^ 62 ∧ -(2 ^ 62) ≤ j ∧ j < 2 ^ 62) ∧ tLc2 (iJ (Itr i (j - i).toNat)) g tt wi1 g1 tt1 te vs vs1 σ H1 Q) : tLc2 (iRng2 tA) g tt wi1 g1 tt1 te vs vs1 σ H Q := h
/-- the objects that two ranges give, the second one to the number of the first -/
def tot2 (lo : Int) (O : Nat → Nat → HO) (n : Nat) : List HO := (List.range n).flatMap fun (i : Nat) => (List.range (lo + i).toNat).map (O i)
theorem tot2_succ (lo : Int) (O : Nat → Nat → HO) (n : Nat) : tot2 lo O (n + 1) = tot2 lo O n ++ (List.range (lo + n).toNat).map (O n) := by
  unfold tot2; rw [List.range_succ, List.flatMap_append]; simp
theorem tot2_len {lo : Int} {O : Nat → Nat → HO} {n : Nat} (h : lo + n ≤ 200) : (tot2 lo O n).length ≤ 200 * n := by
  induction n with
  | zero => simp [tot2]
  | succ n ih =>
    rw [tot2_succ, List.length_append, List.length_map, List.length_range]
    have := ih (by omega)
    omega
theorem lc2R_new {lo : Int} {n j j1 : Nat} (M : Mem B ms H f l) (O : Nat → Nat → HO) (h0 : 0 ≤ lo) (hn : n ≤ 200) (h2 : lo + n ≤ 200) (hw : ∀ x, wipe ((wipe σ vs).set j (some x)) vs = wipe σ vs)
    (hw1 : ∀ x y, wipe ((wipe ((wipe σ vs).set j (some x)) vs1).set j1 (some y)) vs1 = wipe ((wipe σ vs).set j (some x)) vs1) (hv : ∀ x, ((wipe σ vs).set j (some x))[j]? = some (some x))
    (he : ∀ (i k : Nat) H' l' (R : VK), i < n → k < (lo + i).toNat → Mem B ms H' f l' → (∀ y H4, Mem B ms H4 f ((y, O i k) :: l') → R (.ref y) H4) → te ((wipe ((wipe σ vs).set j (some (.int (lo + i)))) vs1).set j1 (some (.int (0 + (k : Int))))) H' R)
    (k : ∀ (D : Addr) (zs : List (Addr × HO)) (H' : Hp), zs.map (·.2) = tot2 lo O n → Mem B ms H' f ((D, .lst (zs.map fun z => V.ref z.1)) :: (zs.reverse ++ l)) → Q (.ref D) H') : tLc2 (iJ (Itr lo n)) (gName j) tYes (iRng1 (tCons (tVar j) tNil)) (gName j1) tYes te vs vs1 σ H Q := by
  intro D hD
  refine ⟨fun i m H' => m = n - i ∧ i ≤ n ∧ ∃ zs : List (Addr × HO), zs.map (·.2) = tot2 lo O i ∧ Mem B ms H' f ((D, .lst (zs.map fun z => V.ref z.1)) :: (zs.reverse ++ l)), ⟨n, by simp, Nat.zero_le _, [], rfl, M.alloc hD⟩, ?_⟩
  rintro i m H' ⟨rfl, hi, zs, hz, M'⟩
  by_cases hlt : i < n
  · refine .inr ⟨hlt, fun H2 => ∃ zs : List (Addr × HO), zs.map (·.2) = tot2 lo O (i + 1) ∧ Mem B ms H2 f ((D, .lst (zs.map fun z => V.ref z.1)) :: (zs.reverse ++ l)), fun H2 p2 => ⟨n - (i + 1), by omega, rfl, hlt, p2⟩, fun x H2 y => ?_⟩
    obtain ⟨e, y⟩ := y
    subst e y
    refine ⟨hw _, iteT (B := ∃ zs : List (Addr × HO), zs.map (·.2) = tot2 lo O (i + 1) ∧ Mem B ms H2 f ((D, .lst (zs.map fun z => V.ref z.1)) :: (zs.reverse ++ l))) ?_⟩
    refine ⟨_, hv _, lo + i, rfl, by omega, by omega, ?_⟩
    refine ⟨fun u m H3 => m = (lo + i).toNat - u ∧ u ≤ (lo + i).toNat ∧ ∃ zs : List (Addr × HO), zs.map (·.2) = tot2 lo O i ++ (List.range u).map (O i) ∧ Mem B ms H3 f ((D, .lst (zs.map fun z => V.ref z.1)) :: (zs.reverse ++ l)), ⟨_, rfl, Nat.zero_le _, zs, by simpa using hz, M'⟩, ?_⟩
    rintro u m H3 ⟨rfl, hu, zs, hz, M3⟩
    by_cases hul : u < (lo + i).toNat
    · refine .inr ⟨hul, fun H4 => ∃ zs : List (Addr × HO), zs.map (·.2) = tot2 lo O i ++ (List.range (u + 1)).map (O i) ∧ Mem B ms H4 f ((D, .lst (zs.map fun z => V.ref z.1)) :: (zs.reverse ++ l)), fun H4 p4 => ⟨(lo + i).toNat - (u + 1), by omega, rfl, hul, p4⟩, fun x H4 y => ?_⟩
      obtain ⟨e, y⟩ := y
      subst e y
      refine ⟨hw1 _ _, iteT (B := ∃ zs : List (Addr × HO), zs.map (·.2) = tot2 lo O i ++ (List.range (u + 1)).map (O i) ∧ Mem B ms H4 f ((D, .lst (zs.map fun z => V.ref z.1)) :: (zs.reverse ++ l))) ?_⟩
      refine he i u _ _ _ hlt hul M3 fun y H5 M5 => ⟨_, M5.getL (List.mem_cons_of_mem _ List.mem_cons_self), ?_, zs ++ [(y, O i u)], ?_, ?_⟩
      · have e := congrArg List.length hz
        have ht := tot2_len (lo := lo) (O := O) (n := i) (by omega)
        simp only [List.length_map, List.length_append, List.length_range] at e
        rw [List.length_map]
        exact Nat.lt_of_lt_of_le (m := 50000) (by omega) (by decide)
      · rw [List.map_append, hz, List.range_succ, List.map_append, List.append_assoc]; rfl
      · have := (Mem.setL (l1 := [(y, O i u)]) (o' := .lst (List.map (fun z : Addr × HO => V.ref z.1) (zs ++ [(y, O i u)]))) M5).swap
        simpa using this
    · have e : u = (lo + i).toNat := by omega
      subst e
      exact .inl ⟨Nat.le_refl _, zs, by rw [tot2_succ]; exact hz, M3⟩
  · have e : i = n := by omega
    subst e
    exact .inl ⟨Nat.le_refl _, k D zs H' hz M'⟩
end
end MyL

set_option Elab.async false
set_option linter.all false
set_option maxRecDepth 100000
set_option maxHeartbeats 4000000
/-! Static methods by a positional promise, also without arguments and with a star parameter. -/
namespace MyL
open PySem PySem.Spec PyProof.Rows L2
structure StaR (P : Program) (w : World) (K : PySem.W.Frag) (mg : Str → Option Value) (base : Heap) (k : Nat) (C : Addr) (m : Str) (sp : Sp) : Prop where
  ex : ∃ (p g : Addr), StaOf K C m p g ∧ FnR P w K mg base (L2.CX P w) k g sp
section
variable {X : Cx} {W : WX} {k j : Nat} {C : Addr} {sp : Sp} {x m : Str} {p pos apos : Pos} {e o : Expr} {es : List Expr} {ta : TE} {t : TA}
theorem c_staR {pl : Sem Bool} (c : StaR X.prog X.w X.K X.mg X.base k C m sp) (tk : Takes X W) (hr : Room j X.A) (hk : k ≤ j) (ho : PE X o ta) (ha : PA X (e :: es) t)
    (hst : starEach (e :: es) X.env = (false, eval e X.env) :: starEach es X.env := by rfl) (hpl : (backTo pos (starEach es X.env)).any (·.1) = false := by rfl)
    (ht : eval (.Call (.Attribute o m apos) (e :: es) [] pos) X.env = (do
      let ov ← eval o X.env
      standAt apos.atName
      let (f, first) ← holding [ov] (getMethod ov m pl)
      callWith pos f first (backTo pos (starEach (e :: es) X.env)) (backToKw pos (keywordEach [] X.env))) := by rfl) :
    PE X (.Call (.Attribute o m apos) (e :: es) [] pos) (tSta C sp W ta t) := by
  obtain ⟨p, g, hm, F⟩ := c.ex
  obtain ⟨rest, hrec⟩ := hm.rc
  refine ⟨fun pins s σ H Q I h => ?_⟩
  refine PySem.W.methodCall_KW (pl := pl) (thn (ho.run pins s σ H _ I h) fun u s1 hh => ?_) ht
  obtain ⟨x, H1, I1, rx, ex, q⟩ := hh
  subst ex
  obtain rfl : u = Value.ref C := rx
  have I1' := I1.tok (s1.toks + 1)
  refine PySem.W.method_cls I1.kIn hm.ga (PySem.W.cls_bind I1.kIn hm.rd hm.at_ (wpAny_call (PySem.W.sm_get (s := { s1 with toks := s1.toks + 1 }) I1.kIn hrec (PySem.W.handed_on rfl ?_))))
  refine PySem.W.callWith_K (first := []) (h₀ := X.base) I.ok.mod.kin hm.kp (thn (ha.run pos pins _ σ H1 _ I1' q) fun us s2 hh => ?_) hst hpl
  obtain ⟨vs, H2, I2, r, q2⟩ := hh
  exact ⟨I2.kIn, wpAny_call (run_S F tk (hr.mono hk) I2.env0 I2 r q2)⟩
theorem c_sta0R {pl : Sem Bool} (c : StaR X.prog X.w X.K X.mg X.base k C m sp) (tk : Takes X W) (hr : Room j X.A) (hk : k ≤ j) (ho : PE X o ta)
    (ht : eval (.Call (.Attribute o m apos) [] [] pos) X.env = (do
      let ov ← eval o X.env
      standAt apos.atName
      let (f, first) ← holding [ov] (getMethod ov m pl)
      callWith pos f first (backTo pos (starEach [] X.env)) (backToKw pos (keywordEach [] X.env))) := by rfl) :
    PE X (.Call (.Attribute o m apos) [] [] pos) (tSta C sp W ta tNil) := by
  obtain ⟨p, g, hm, F⟩ := c.ex
  obtain ⟨rest, hrec⟩ := hm.rc
  refine ⟨fun pins s σ H Q I h => ?_⟩
  refine PySem.W.methodCall_KW (pl := pl) (thn (ho.run pins s σ H _ I h) fun u s1 hh => ?_) ht
  obtain ⟨x, H1, I1, rx, ex, q⟩ := hh
  subst ex
  obtain rfl : u = Value.ref C := rx
  have I1' := I1.tok (s1.toks + 1)
  refine PySem.W.method_cls I1.kIn hm.ga (PySem.W.cls_bind I1.kIn hm.rd hm.at_ (wpAny_call (PySem.W.sm_get (s := { s1 with toks := s1.toks + 1 }) I1.kIn hrec (PySem.W.handed_on rfl ?_))))
  exact PySem.W.callWith_K0 (first := []) I1'.kIn hm.kp (wpAny_call (run_S F tk (hr.mono hk) I1'.env0 I1' .nil q))
end
section
variable {P : Program} {w : World} {K : PySem.W.Frag} {mg : Str → Option Value} {base : Heap} {k : Nat} {C : Addr} {m qual : Str} {st : Stmt} {sp : Sp}
/-- what a def with a star parameter alone is promised, by what its body is promised -/
def starSp (sp : Sp) : Sp := fun vs H Q E => vs.length ≤ sizeLine ∧ ∀ p, H p = none → sp [.ref p] (upd H p (.tup vs)) Q E
/-- the arguments of a def of the text with a star parameter alone -/
def StarSt (x qual : Str) (st : Stmt) (pv : Str) : Prop := ∀ (kV doc pm : Value) (an : Option Addr) (cdv ct : Value) (rest : List Value), bindArgs (PySem.W.fnOf x qual (defArgs st) (defBody st) (defScope st) .none kV doc pm an cdv ct) ⟨rest, []⟩ = (newTuple rest >>= fun t => pure [(pv, t)])
theorem okStar {x : Str} {f : Addr} {fd : FuncData} {N : List Str} {pv : Str} (F : L2.Fun K x qual st f fd) (hb : StarSt x qual st pv) (S : FnScope N [pv] (defScope st))
    (hbody : ∀ (cdv : Value) (A : Around) (outer : List Env) (s : Shared) (H : Hp) (vs : List V) (Q : VK) (E : XK), Room k (A.deeper (envOfC qual (defScope st) s.heap.objs.size f cdv)) →
      Takes (cxOf (L2.CX P w) P w K mg base N qual (defScope st) f cdv A outer s H E) (fun c d _ H => E c d H) → sp vs H Q E →
      ∃ t, PSs (cxOf (L2.CX P w) P w K mg base N qual (defScope st) f cdv A outer s H E) (defBody st) t ∧ t ⟨fun _ H' => Q .non H', Q, fun _ _ => False, fun _ _ => False⟩ (start N vs) H) : FnR P w K mg base (L2.CX P w) (k + 1) f (starSp sp) := by
  obtain ⟨oc, od, kV, doc, pm, an, cdv, ct, osl, rfl, lk, hcd⟩ := id F.ex
  refine (StX.fn_star (ps := []) (pv := pv) (sp := sp) lk hcd S StX.cxUp (fun us rest hl => ?_) fun A outer s H vs Q E hr h => hbody cdv A outer s H vs Q E hr (takes_of rfl rfl rfl rfl) h).imp ?_
  · cases us with
    | nil => exact hb kV doc pm an cdv ct rest
    | cons u us => cases hl
  · rintro vs H Q E ⟨hl, h⟩
    exact ⟨[], vs, rfl, rfl, hl, h⟩
theorem staR_of {ps : List Str} (D : StaAt K C m qual st) (hb : BindsSt m qual st ps) (ok : ∀ {f : Addr} {fd : FuncData}, Fun K m qual st f fd → FnOk P w K mg base (L2.CX P w) k f fd ps sp) : StaR P w K mg base k C m sp := by
  obtain ⟨p, f, fd, a, F⟩ := D
  exact ⟨p, f, a, raw0 (ok F) (F.binds hb)⟩
theorem staS_of (D : StaAt K C m qual st) (ok : ∀ {f : Addr} {fd : FuncData}, Fun K m qual st f fd → FnR P w K mg base (L2.CX P w) k f sp) : StaR P w K mg base k C m sp := by
  obtain ⟨p, f, fd, a, F⟩ := D
  exact ⟨p, f, a, ok F⟩
end
end MyL

set_option Elab.async false
set_option linter.all false
set_option maxRecDepth 100000
set_option maxHeartbeats 8000000
namespace K01
open PySem L2 MyL
def top (i : Nat) : Stmt := PySem.Challenge.pw_fittingpasts_k01_residue_meet.main.body.getD i (.Pass ⟨0, 0, 0, 0⟩)
abbrev s_gcd_and_factor : Stmt := top 9
abbrev N_gcd_and_factor : List Str := ["first", "second", "factor", "other_factor", "quotient"]
theorem sc_gcd_and_factor : FnScope N_gcd_and_factor ["first", "second"] (defScope s_gcd_and_factor) := ⟨rfl, rfl, rfl, by decide +kernel, rfl, by decide +kernel, by decide +kernel⟩
theorem st_gcd_and_factor (a0 a1 : V) : start N_gcd_and_factor [a0, a1] = [some a0, some a1, none, none, none] := rfl
abbrev s_Residue_init : Stmt := inClass (top 10) 0
abbrev N_Residue_init : List Str := ["self", "place", "length"]
theorem sc_Residue_init : FnScope N_Residue_init ["self", "place", "length"] (defScope s_Residue_init) := ⟨rfl, rfl, rfl, by decide +kernel, rfl, by decide +kernel, by decide +kernel⟩
theorem st_Residue_init (a0 a1 a2 : V) : start N_Residue_init [a0, a1, a2] = [some a0, some a1, some a2] := rfl
abbrev s_Residue_eq : Stmt := inClass (top 10) 1
abbrev N_Residue_eq : List Str := ["self", "other"]
theorem sc_Residue_eq : FnScope N_Residue_eq ["self", "other"] (defScope s_Residue_eq) := ⟨rfl, rfl, rfl, by decide +kernel, rfl, by decide +kernel, by decide +kernel⟩
theorem st_Residue_eq (a0 a1 : V) : start N_Residue_eq [a0, a1] = [some a0, some a1] := rfl
abbrev s_Residue_contains : Stmt := inClass (top 10) 3
abbrev N_Residue_contains : List Str := ["self", "day"]
theorem sc_Residue_contains : FnScope N_Residue_contains ["self", "day"] (defScope s_Residue_contains) := ⟨rfl, rfl, rfl, by decide +kernel, rfl, by decide +kernel, by decide +kernel⟩
theorem st_Residue_contains (a0 a1 : V) : start N_Residue_contains [a0, a1] = [some a0, some a1] := rfl
abbrev s_Residue_and : Stmt := inClass (top 10) 7
abbrev N_Residue_and : List Str := ["self", "other", "divisor", "factor", "difference", "steps"]
theorem sc_Residue_and : FnScope N_Residue_and ["self", "other"] (defScope s_Residue_and) := ⟨rfl, rfl, rfl, by decide +kernel, rfl, by decide +kernel, by decide +kernel⟩
theorem st_Residue_and (a0 a1 : V) : start N_Residue_and [a0, a1] = [some a0, some a1, none, none, none, none] := rfl
abbrev s_Residue_every : Stmt := inClass (top 10) 8
abbrev N_Residue_every : List Str := []
theorem sc_Residue_every : FnScope N_Residue_every [] (defScope s_Residue_every) := ⟨rfl, rfl, rfl, by decide +kernel, rfl, by decide +kernel, by decide +kernel⟩
theorem st_Residue_every : start N_Residue_every [] = [] := rfl
abbrev s_Residue_meet : Stmt := inClass (top 10) 9
abbrev N_Residue_meet : List Str := ["residues", "common", "residue"]
theorem sc_Residue_meet : FnScope N_Residue_meet ["residues"] (defScope s_Residue_meet) := ⟨rfl, rfl, rfl, by decide +kernel, rfl, by decide +kernel, by decide +kernel⟩
theorem st_Residue_meet (a0 : V) : start N_Residue_meet [a0] = [some a0, none, none] := rfl
abbrev s__law_box : Stmt := top 12
abbrev N__law_box : List Str := ["_law_script", "_law_seed", "_law_k"]
theorem sc__law_box : FnScope N__law_box ["_law_script"] (defScope s__law_box) := ⟨rfl, rfl, rfl, by decide +kernel, rfl, by decide +kernel, by decide +kernel⟩
theorem st__law_box (a0 : V) : start N__law_box [a0] = [some a0, none, none] := rfl
abbrev s__law_draw : Stmt := top 13
abbrev N__law_draw : List Str := ["_law_box_here", "_law_size", "_law_turn", "_law_cell", "_law_rest", "_law_once", "_law_twice"]
theorem sc__law_draw : FnScope N__law_draw ["_law_box_here", "_law_size"] (defScope s__law_draw) := ⟨rfl, rfl, rfl, by decide +kernel, rfl, by decide +kernel, by decide +kernel⟩
theorem st__law_draw (a0 a1 : V) : start N__law_draw [a0, a1] = [some a0, some a1, none, none, none, none, none] := rfl
abbrev s__law_is_number : Stmt := top 14
abbrev N__law_is_number : List Str := ["_law_value"]
theorem sc__law_is_number : FnScope N__law_is_number ["_law_value"] (defScope s__law_is_number) := ⟨rfl, rfl, rfl, by decide +kernel, rfl, by decide +kernel, by decide +kernel⟩
theorem st__law_is_number (a0 : V) : start N__law_is_number [a0] = [some a0] := rfl
abbrev s__law_gcd : Stmt := top 15
abbrev N__law_gcd : List Str := ["_law_first", "_law_second", "_law_rest"]
theorem sc__law_gcd : FnScope N__law_gcd ["_law_first", "_law_second"] (defScope s__law_gcd) := ⟨rfl, rfl, rfl, by decide +kernel, rfl, by decide +kernel, by decide +kernel⟩
theorem st__law_gcd (a0 a1 : V) : start N__law_gcd [a0, a1] = [some a0, some a1, none] := rfl
abbrev s__law_lcm : Stmt := top 16
abbrev N__law_lcm : List Str := ["_law_first", "_law_second"]
theorem sc__law_lcm : FnScope N__law_lcm ["_law_first", "_law_second"] (defScope s__law_lcm) := ⟨rfl, rfl, rfl, by decide +kernel, rfl, by decide +kernel, by decide +kernel⟩
theorem st__law_lcm (a0 a1 : V) : start N__law_lcm [a0, a1] = [some a0, some a1] := rfl
abbrev s__law_factor : Stmt := top 17
abbrev N__law_factor : List Str := ["_law_box_here", "_law_most", "_law_way"]
theorem sc__law_factor : FnScope N__law_factor ["_law_box_here", "_law_most"] (defScope s__law_factor) := ⟨rfl, rfl, rfl, by decide +kernel, rfl, by decide +kernel, by decide +kernel⟩
theorem st__law_factor (a0 a1 : V) : start N__law_factor [a0, a1] = [some a0, some a1, none] := rfl
abbrev s__law_pool : Stmt := top 18
abbrev N__law_pool : List Str := ["_law_box_here", "_law_count", "_law_most", "_law_factor_here", "_law_top", "_law_reach", "_law_common", "_law_loose", "_law_off", "_law_pool_here", "_law_k", "_law_size", "_law_spot"]
theorem sc__law_pool : FnScope N__law_pool ["_law_box_here", "_law_count", "_law_most"] (defScope s__law_pool) := ⟨rfl, rfl, rfl, by decide +kernel, rfl, by decide +kernel, by decide +kernel⟩
theorem st__law_pool (a0 a1 a2 : V) : start N__law_pool [a0, a1, a2] = [some a0, some a1, some a2, none, none, none, none, none, none, none, none, none, none] := rfl
abbrev s__law_is : Stmt := top 19
abbrev N__law_is : List Str := ["_law_residue", "_law_spot", "_law_size"]
theorem sc__law_is : FnScope N__law_is ["_law_residue", "_law_spot", "_law_size"] (defScope s__law_is) := ⟨rfl, rfl, rfl, by decide +kernel, rfl, by decide +kernel, by decide +kernel⟩
theorem st__law_is (a0 a1 a2 : V) : start N__law_is [a0, a1, a2] = [some a0, some a1, some a2] := rfl
abbrev s__law_holds : Stmt := top 20
abbrev N__law_holds : List Str := ["_law_residue", "_law_pool_here", "_law_least", "_law_one"]
theorem sc__law_holds : FnScope N__law_holds ["_law_residue", "_law_pool_here"] (defScope s__law_holds) := ⟨rfl, rfl, rfl, by decide +kernel, rfl, by decide +kernel, by decide +kernel⟩
theorem st__law_holds (a0 a1 : V) : start N__law_holds [a0, a1] = [some a0, some a1, none, none] := rfl
abbrev s__law_apart : Stmt := top 21
abbrev N__law_apart : List Str := ["_law_one", "_law_other"]
theorem sc__law_apart : FnScope N__law_apart ["_law_one", "_law_other"] (defScope s__law_apart) := ⟨rfl, rfl, rfl, by decide +kernel, rfl, by decide +kernel, by decide +kernel⟩
theorem st__law_apart (a0 a1 : V) : start N__law_apart [a0, a1] = [some a0, some a1] := rfl
abbrev s__law_meet : Stmt := top 22
abbrev N__law_meet : List Str := ["_law_first", "_law_second", "e"]
theorem sc__law_meet : FnScope N__law_meet ["_law_first", "_law_second"] (defScope s__law_meet) := ⟨rfl, rfl, rfl, by decide +kernel, rfl, by decide +kernel, by decide +kernel⟩
theorem st__law_meet (a0 a1 : V) : start N__law_meet [a0, a1] = [some a0, some a1, none] := rfl
abbrev s__law_is_disjoint : Stmt := top 23
abbrev N__law_is_disjoint : List Str := ["_law_told", "_law_divisor"]
theorem sc__law_is_disjoint : FnScope N__law_is_disjoint ["_law_told", "_law_divisor"] (defScope s__law_is_disjoint) := ⟨rfl, rfl, rfl, by decide +kernel, rfl, by decide +kernel, by decide +kernel⟩
theorem st__law_is_disjoint (a0 a1 : V) : start N__law_is_disjoint [a0, a1] = [some a0, some a1] := rfl
abbrev s__law_joined : Stmt := top 24
abbrev N__law_joined : List Str := ["_law_ones"]
theorem sc__law_joined : FnScope N__law_joined ["_law_ones"] (defScope s__law_joined) := ⟨rfl, rfl, rfl, by decide +kernel, rfl, by decide +kernel, by decide +kernel⟩
theorem st__law_joined (a0 : V) : start N__law_joined [a0] = [some a0] := rfl
abbrev s__law_row : Stmt := top 25
abbrev N__law_row : List Str := ["_law_ones", "e"]
theorem sc__law_row : FnScope N__law_row ["_law_ones"] (defScope s__law_row) := ⟨rfl, rfl, rfl, by decide +kernel, rfl, by decide +kernel, by decide +kernel⟩
theorem st__law_row (a0 : V) : start N__law_row [a0] = [some a0, none] := rfl
abbrev s__law_walk : Stmt := top 26
abbrev N__law_walk : List Str := ["_law_residue", "_law_pool_here", "_law_begin", "_law_period", "_law_k", "_law_day", "_law_due"]
theorem sc__law_walk : FnScope N__law_walk ["_law_residue", "_law_pool_here", "_law_begin"] (defScope s__law_walk) := ⟨rfl, rfl, rfl, by decide +kernel, rfl, by decide +kernel, by decide +kernel⟩
theorem st__law_walk (a0 a1 a2 : V) : start N__law_walk [a0, a1, a2] = [some a0, some a1, some a2, none, none, none, none] := rfl
abbrev s__law_pair : Stmt := top 27
abbrev N__law_pair : List Str := ["_law_pool_here", "_law_begin", "_law_first", "_law_second", "_law_told", "_law_back", "_law_divisor", "_law_own"]
theorem sc__law_pair : FnScope N__law_pair ["_law_pool_here", "_law_begin"] (defScope s__law_pair) := ⟨rfl, rfl, rfl, by decide +kernel, rfl, by decide +kernel, by decide +kernel⟩
theorem st__law_pair (a0 a1 : V) : start N__law_pair [a0, a1] = [some a0, some a1, none, none, none, none, none, none] := rfl
abbrev s__law_chain : Stmt := top 28
abbrev N__law_chain : List Str := ["_law_pool_here", "_law_ones", "_law_told", "_law_least", "_law_k", "_law_one", "_law_j"]
theorem sc__law_chain : FnScope N__law_chain ["_law_pool_here"] (defScope s__law_chain) := ⟨rfl, rfl, rfl, by decide +kernel, rfl, by decide +kernel, by decide +kernel⟩
theorem st__law_chain (a0 : V) : start N__law_chain [a0] = [some a0, none, none, none, none, none, none] := rfl
abbrev s_law : Stmt := top 29
abbrev N_law : List Str := ["_law_script", "_law_box_here", "_law_pair_here", "_law_begin", "_law_many"]
theorem sc_law : FnScope N_law ["_law_script"] (defScope s_law) := ⟨rfl, rfl, rfl, by decide +kernel, rfl, by decide +kernel, by decide +kernel⟩
theorem st_law (a0 : V) : start N_law [a0] = [some a0, none, none, none, none] := rfl
/-! ### the plain law -/
def gI (a b : Int) : Int := ((Nat.gcd a.toNat b.toNat : Nat) : Int)
theorem bezN (a b : Nat) : ∃ s t : Int, (a : Int) * s + b * t = ((Nat.gcd a b : Nat) : Int) := by
  induction a, b using Nat.gcd.induction with
  | H0 n => exact ⟨0, 1, by rw [Nat.gcd_zero_left]; omega⟩
  | H1 m n hm ih =>
    obtain ⟨s, t, e⟩ := ih
    refine ⟨t - (n / m : Nat) * s, s, ?_⟩
    have e2 : ((n % m : Nat) : Int) = n - m * (n / m : Nat) := by
      have := Nat.mod_add_div n m
      have h2 : ((n % m + m * (n / m) : Nat) : Int) = n := by rw [this]
      rw [Int.natCast_add, Int.natCast_mul] at h2
      omega
    have e3 : Nat.gcd m n = Nat.gcd (n % m) m := Nat.gcd_rec m n
    rw [e3, ← e, e2, Int.mul_sub, Int.sub_mul]
    have e4 : (m : Int) * (((n / m : Nat) : Int) * s) = m * ((n / m : Nat) : Int) * s := by rw [Int.mul_assoc]
    rw [e4]
    omega
theorem gI_bez {a b : Int} (ha : 0 ≤ a) (hb : 0 ≤ b) : ∃ s t : Int, a * s + b * t = gI a b := by
  obtain ⟨s, t, e⟩ := bezN a.toNat b.toNat
  exact ⟨s, t, by rw [Int.toNat_of_nonneg ha, Int.toNat_of_nonneg hb] at e; exact e⟩
theorem gI_l {a b : Int} (ha : 0 ≤ a) : gI a b ∣ a := by
  have := Int.natCast_dvd_natCast.mpr (Nat.gcd_dvd_left a.toNat b.toNat)
  rw [Int.toNat_of_nonneg ha] at this; exact this
theorem gI_r {a b : Int} (hb : 0 ≤ b) : gI a b ∣ b := by
  have := Int.natCast_dvd_natCast.mpr (Nat.gcd_dvd_right a.toNat b.toNat)
  rw [Int.toNat_of_nonneg hb] at this; exact this
theorem gI_pos {a b : Int} (ha : 1 ≤ a) : 1 ≤ gI a b := by
  have := Nat.gcd_pos_of_pos_left b.toNat (show 0 < a.toNat by omega)
  unfold gI; omega
theorem gI_le {a b : Int} (hb : 1 ≤ b) : gI a b ≤ b := Int.le_of_dvd (by omega) (gI_r (by omega))
theorem gI_le' {a b : Int} (ha : 1 ≤ a) : gI a b ≤ a := Int.le_of_dvd (by omega) (gI_l (by omega))
theorem dvd_gI {a b d : Int} (ha : 0 ≤ a) (hb : 0 ≤ b) (h1 : d ∣ a) (h2 : d ∣ b) : d ∣ gI a b := by
  obtain ⟨s, t, e⟩ := gI_bez ha hb
  rw [← e]
  exact Int.dvd_add (Int.dvd_mul_of_dvd_left h1) (Int.dvd_mul_of_dvd_left h2)
theorem gI_comm (a b : Int) : gI a b = gI b a := by unfold gI; rw [Nat.gcd_comm]
theorem gI_self {a : Int} (h : 0 ≤ a) : gI a a = a := by unfold gI; rw [Nat.gcd_self]; omega
def lI (a b : Int) : Int := a * (b / gI a b)
theorem lI_r {a b : Int} (ha : 1 ≤ a) (hb : 1 ≤ b) : b ∣ lI a b := by
  obtain ⟨u, hu⟩ := gI_l (a := a) (b := b) (by omega)
  have h := Int.mul_ediv_cancel' (gI_r (a := a) (b := b) (by omega))
  unfold lI
  refine ⟨u, ?_⟩
  calc a * (b / gI a b) = gI a b * u * (b / gI a b) := by rw [← hu]
    _ = gI a b * (b / gI a b) * u := by rw [Int.mul_right_comm]
    _ = b * u := by rw [h]
theorem lI_l (a b : Int) : a ∣ lI a b := ⟨_, rfl⟩
theorem lI_pos {a b : Int} (ha : 1 ≤ a) (hb : 1 ≤ b) : 1 ≤ lI a b := by
  have h1 := gI_pos (b := b) ha
  have h2 : 1 ≤ b / gI a b := (Int.le_ediv_iff_mul_le (by omega)).mpr (by have := gI_le (a := a) hb; omega)
  unfold lI
  have := Int.mul_le_mul ha h2 (by omega) (by omega)
  omega
theorem lI_len {a b : Int} (ha : 1 ≤ a) (hb : 1 ≤ b) : a / gI a b * b = lI a b := by
  have h1 := Int.mul_ediv_cancel' (gI_l (a := a) (b := b) (by omega))
  have h2 := Int.mul_ediv_cancel' (gI_r (a := a) (b := b) (by omega))
  unfold lI
  calc a / gI a b * b = a / gI a b * (gI a b * (b / gI a b)) := by rw [h2]
    _ = gI a b * (a / gI a b) * (b / gI a b) := by rw [← Int.mul_assoc, Int.mul_comm (a / gI a b)]
    _ = a * (b / gI a b) := by rw [h1]
theorem lI_dvd {a b x : Int} (ha : 1 ≤ a) (hb : 1 ≤ b) (h1 : a ∣ x) (h2 : b ∣ x) : lI a b ∣ x := by
  obtain ⟨s, t, e⟩ := gI_bez (a := a) (b := b) (by omega) (by omega)
  obtain ⟨u, rfl⟩ := h1
  obtain ⟨v, hv⟩ := h2
  have hg := gI_pos (b := b) ha
  have h3 := Int.mul_ediv_cancel' (gI_r (a := a) (b := b) (by omega))
  refine ⟨v * s + u * t, ?_⟩
  refine Int.eq_of_mul_eq_mul_left (show gI a b ≠ 0 by omega) ?_
  calc gI a b * (a * u) = (a * s + b * t) * (a * u) := by rw [e]
    _ = a * s * (a * u) + b * t * (a * u) := by rw [Int.add_mul]
    _ = a * s * (b * v) + b * t * (a * u) := by rw [hv]
    _ = a * b * (v * s) + a * b * (u * t) := by
      congr 1
      · rw [Int.mul_assoc, Int.mul_assoc]; congr 1; rw [Int.mul_left_comm s b v, Int.mul_comm s v]
      · rw [Int.mul_assoc, Int.mul_left_comm t a u, ← Int.mul_assoc b a, Int.mul_comm b a, Int.mul_comm t u]
    _ = a * b * (v * s + u * t) := by rw [Int.mul_add]
    _ = a * (gI a b * (b / gI a b)) * (v * s + u * t) := by rw [h3]
    _ = gI a b * (lI a b * (v * s + u * t)) := by
      unfold lI
      rw [← Int.mul_assoc (gI a b), Int.mul_left_comm a (gI a b)]
theorem lI_comm {a b : Int} (ha : 1 ≤ a) (hb : 1 ≤ b) : lI a b = lI b a := by
  have h1 := lI_dvd ha hb (lI_r hb ha) (lI_l b a)
  have h2 := lI_dvd hb ha (lI_r ha hb) (lI_l a b)
  have p1 := lI_pos ha hb
  have p2 := lI_pos hb ha
  have a1 := Int.le_of_dvd (by omega) h1
  have a2 := Int.le_of_dvd (by omega) h2
  omega
theorem lI_one {b : Int} (hb : 1 ≤ b) : lI 1 b = b := by
  have h : gI 1 b = 1 := by
    have h1 := gI_pos (a := 1) (b := b) (by omega)
    have h2 := gI_le' (a := 1) (b := b) (by omega)
    omega
  unfold lI; rw [h]; omega
theorem lI_self {a : Int} (h : 1 ≤ a) : lI a a = a := by
  unfold lI; rw [gI_self (by omega), Int.ediv_self (by omega), Int.mul_one]
theorem lI_le {a b : Int} (ha : 1 ≤ a) (hb : 1 ≤ b) : lI a b ≤ a * b := by
  unfold lI
  exact Int.mul_le_mul_of_nonneg_left (Int.ediv_le_self _ (by omega)) (by omega)
/-- what divides w with each of a, b divides it with both -/
theorem distr {a b n w : Int} (ha : 1 ≤ a) (hb : 1 ≤ b) (hn : 1 ≤ n) (h1 : gI a n ∣ w) (h2 : gI b n ∣ w) : gI (lI a b) n ∣ w := by
  obtain ⟨s, t, e⟩ := gI_bez (a := a) (b := n) (by omega) (by omega)
  obtain ⟨s2, t2, e2⟩ := gI_bez (a := b) (b := n) (by omega) (by omega)
  obtain ⟨u, v, e3⟩ := gI_bez (a := a) (b := b) (by omega) (by omega)
  obtain ⟨x, hx⟩ := h1
  obtain ⟨y, hy⟩ := h2
  have hg := gI_pos (b := b) ha
  have ka := Int.mul_ediv_cancel' (gI_l (a := a) (b := b) (by omega))
  have kb := Int.mul_ediv_cancel' (gI_r (a := a) (b := b) (by omega))
  have one : a / gI a b * u + b / gI a b * v = 1 := by
    refine Int.eq_of_mul_eq_mul_left (show gI a b ≠ 0 by omega) ?_
    rw [Int.mul_add, ← Int.mul_assoc, ← Int.mul_assoc, ka, kb, e3, Int.mul_one]
  have dl : gI (lI a b) n ∣ lI a b := gI_l (by have := lI_pos ha hb; omega)
  have dn : gI (lI a b) n ∣ n := gI_r (by omega)
  have w1 : w = (a * s + n * t) * x := by rw [e]; exact hx
  have w2 : w = (b * s2 + n * t2) * y := by rw [e2]; exact hy
  have hw : w = a / gI a b * u * ((b * s2 + n * t2) * y) + b / gI a b * v * ((a * s + n * t) * x) := by
    rw [← w1, ← w2, ← Int.add_mul, one, Int.one_mul]
  have dA : gI (lI a b) n ∣ a / gI a b * u * ((b * s2 + n * t2) * y) := by
    have e5 : a / gI a b * u * ((b * s2 + n * t2) * y) = a / gI a b * b * (u * s2 * y) + n * (a / gI a b * u * t2 * y) := by
      simp only [Int.add_mul, Int.mul_add, Int.mul_assoc, Int.mul_comm, Int.mul_left_comm]
    rw [e5]
    refine Int.dvd_add (Int.dvd_mul_of_dvd_left ?_) (Int.dvd_mul_of_dvd_left dn)
    rw [lI_len ha hb]; exact dl
  have dB : gI (lI a b) n ∣ b / gI a b * v * ((a * s + n * t) * x) := by
    have e5 : b / gI a b * v * ((a * s + n * t) * x) = a * (b / gI a b) * (v * s * x) + n * (b / gI a b * v * t * x) := by
      simp only [Int.add_mul, Int.mul_add, Int.mul_assoc, Int.mul_comm, Int.mul_left_comm]
    rw [e5]
    exact Int.dvd_add (Int.dvd_mul_of_dvd_left dl) (Int.dvd_mul_of_dvd_left dn)
  rw [hw]
  exact Int.dvd_add dA dB
theorem dvd_mod {n z s : Int} : n ∣ z - s % n ↔ n ∣ z - s := by
  have e := Int.emod_add_mul_ediv s n
  constructor
  · intro h
    have := Int.dvd_sub h (Int.dvd_mul_right n (s / n))
    rw [show z - s % n - n * (s / n) = z - s by omega] at this; exact this
  · intro h
    have := Int.dvd_add h (Int.dvd_mul_right n (s / n))
    rw [show z - s + n * (s / n) = z - s % n by omega] at this; exact this
theorem dvd_flip {n a b : Int} : n ∣ a - b ↔ n ∣ b - a := by
  rw [← Int.dvd_neg, show -(a - b) = b - a by omega]
/-- what two residues give together -/
structure Both (p n q m z : Int) : Prop where
  z0 : 0 ≤ z
  zl : z < lI n m
  d1 : n ∣ z - p
  d2 : m ∣ z - q
theorem both_and {p n q m f : Int} (hn : 1 ≤ n) (hm : 1 ≤ m) (hf : ∃ k, f * n = gI n m + k * m) (hd : (q - p) % gI n m = 0) : Both p n q m ((p + (q - p) / gI n m * f * n) % (n / gI n m * m)) := by
  rw [lI_len hn hm]
  have hl := lI_pos hn hm
  obtain ⟨k, hk⟩ := hf
  have e := Int.emod_add_mul_ediv (p + (q - p) / gI n m * f * n) (lI n m)
  have hq := Int.mul_ediv_cancel' (Int.dvd_of_emod_eq_zero hd)
  refine ⟨Int.emod_nonneg _ (by omega), Int.emod_lt_of_pos _ (by omega), ?_, ?_⟩
  · have h1 : n ∣ lI n m * ((p + (q - p) / gI n m * f * n) / lI n m) := Int.dvd_mul_of_dvd_left (lI_l n m)
    have h2 : n ∣ (q - p) / gI n m * f * n := Int.dvd_mul_left _ _
    have := Int.dvd_sub h2 h1
    rw [show (p + (q - p) / gI n m * f * n) % lI n m - p = (q - p) / gI n m * f * n - lI n m * ((p + (q - p) / gI n m * f * n) / lI n m) by omega]
    exact this
  · have h1 : m ∣ lI n m * ((p + (q - p) / gI n m * f * n) / lI n m) := Int.dvd_mul_of_dvd_left (lI_r hn hm)
    have e2 : (q - p) / gI n m * f * n = (q - p) + (q - p) / gI n m * k * m := by
      rw [Int.mul_assoc, hk, Int.mul_add, Int.mul_comm _ (gI n m), hq, Int.mul_assoc]
    have h2 : m ∣ (q - p) / gI n m * k * m := Int.dvd_mul_left _ _
    have := Int.dvd_sub h2 h1
    rw [show (p + (q - p) / gI n m * f * n) % lI n m - q = (q - p) / gI n m * k * m - lI n m * ((p + (q - p) / gI n m * f * n) / lI n m) by omega]
    exact this
theorem uniq {m z y : Int} (h0 : 0 ≤ z) (h1 : z < m) (h2 : 0 ≤ y) (h3 : y < m) (hd : m ∣ z - y) : z = y := by
  obtain ⟨k, hk⟩ := hd
  have : k = 0 := by
    rcases Int.lt_trichotomy k 0 with h | h | h
    · have := Int.mul_le_mul_of_nonneg_left (show k ≤ -1 by omega) (show 0 ≤ m by omega)
      omega
    · exact h
    · have := Int.mul_le_mul_of_nonneg_left (show 1 ≤ k by omega) (show 0 ≤ m by omega)
      omega
  subst this
  omega
theorem both_uniq {p n q m z y : Int} (hn : 1 ≤ n) (hm : 1 ≤ m) (a : Both p n q m z) (b : Both q m p n y) : z = y := by
  have hl := lI_comm hn hm
  refine uniq a.z0 a.zl b.z0 (by rw [hl]; exact b.zl) (lI_dvd hn hm ?_ ?_)
  · have := Int.dvd_sub a.d1 b.d2
    rw [show z - p - (y - p) = z - y by omega] at this; exact this
  · have := Int.dvd_sub a.d2 b.d1
    rw [show z - q - (y - q) = z - y by omega] at this; exact this
theorem both_self {p n z : Int} (hn : 1 ≤ n) (h0 : 0 ≤ p) (h1 : p < n) (a : Both p n p n z) : z = p ∧ lI n n = n := by
  have hl := lI_self hn
  exact ⟨uniq a.z0 a.zl h0 (by rw [hl]; exact h1) (by rw [hl]; exact a.d1), hl⟩
/-! ### a row of residues: pairs of a day and a length -/
def lf (rs : List Pr) : Int := rs.foldl (fun m r => lI m r.2) 1
theorem lf_snoc (rs : List Pr) (r : Pr) : lf (rs ++ [r]) = lI (lf rs) r.2 := by unfold lf; rw [List.foldl_append]; rfl
theorem lf_take {rs : List Pr} {i : Nat} {r : Pr} (h : rs[i]? = some r) : lf (rs.take (i + 1)) = lI (lf (rs.take i)) r.2 := by
  rw [List.take_add_one, h]; exact lf_snoc _ _
theorem snoc_ind {α : Type} {P : List α → Prop} (h0 : P []) (hs : ∀ l a, P l → P (l ++ [a])) (l : List α) : P l := by
  have : ∀ l : List α, P l.reverse := fun l => by
    induction l with
    | nil => exact h0
    | cons a l ih => rw [List.reverse_cons]; exact hs _ _ ih
  rw [← List.reverse_reverse l]; exact this _
theorem lf_pos {rs : List Pr} (h : ∀ r ∈ rs, 1 ≤ r.2) : 1 ≤ lf rs := by
  induction rs using snoc_ind with
  | h0 => simp [lf]
  | hs l a ih => rw [lf_snoc]; exact lI_pos (ih fun r hr => h r (by simp [hr])) (h a (by simp))
theorem lf_dvd {rs : List Pr} (h : ∀ r ∈ rs, 1 ≤ r.2) : ∀ r ∈ rs, r.2 ∣ lf rs := by
  induction rs using snoc_ind with
  | h0 => exact fun r hr => nomatch hr
  | hs l a ih =>
    intro r hr
    rw [lf_snoc]
    have hl : 1 ≤ lf l := lf_pos fun r hr => h r (by simp [hr])
    rcases List.mem_append.mp hr with z | z
    · exact Int.dvd_trans (ih (fun r hr => h r (by simp [hr])) r z) (lI_l _ _)
    · rw [List.mem_singleton.mp z]; exact lI_r hl (h a (by simp))
theorem lf_least {rs : List Pr} (h : ∀ r ∈ rs, 1 ≤ r.2) {x : Int} (hx : ∀ r ∈ rs, r.2 ∣ x) : lf rs ∣ x := by
  induction rs using snoc_ind with
  | h0 => exact Int.one_dvd x
  | hs l a ih =>
    rw [lf_snoc]
    exact lI_dvd (lf_pos fun r hr => h r (by simp [hr])) (h a (by simp)) (ih (fun r hr => h r (by simp [hr])) fun r hr => hx r (by simp [hr])) (hx a (by simp))
theorem lf_distr {rs : List Pr} {n w : Int} (h : ∀ r ∈ rs, 1 ≤ r.2) (hn : 1 ≤ n) (hw : ∀ r ∈ rs, gI r.2 n ∣ w) : gI (lf rs) n ∣ w := by
  induction rs using snoc_ind with
  | h0 =>
    have h1 := gI_pos (a := 1) (b := n) (by omega)
    have h2 := gI_le' (a := 1) (b := n) (by omega)
    have : gI (lf []) n = 1 := by show gI 1 n = 1; omega
    rw [this]; exact Int.one_dvd w
  | hs l a ih =>
    rw [lf_snoc]
    exact distr (lf_pos fun r hr => h r (by simp [hr])) (h a (by simp)) hn (ih (fun r hr => h r (by simp [hr])) fun r hr => hw r (by simp [hr])) (hw a (by simp))
theorem lf_le {rs : List Pr} (h : ∀ r ∈ rs, 1 ≤ r.2 ∧ r.2 ≤ 1000) : lf rs ≤ 1000 ^ rs.length := by
  induction rs using snoc_ind with
  | h0 => simp [lf]
  | hs l a ih =>
    rw [lf_snoc, List.length_append, List.length_singleton, Int.pow_succ]
    have hp := lf_pos (rs := l) fun r hr => (h r (by simp [hr])).1
    have h1 := ih fun r hr => h r (by simp [hr])
    have ha := h a (by simp)
    refine Int.le_trans (lI_le hp ha.1) ?_
    exact Int.mul_le_mul h1 ha.2 (by omega) (by omega)
structure Okr (rs : List Pr) (z : Int) : Prop where
  z0 : 0 ≤ z
  zl : z < lf rs
  d : ∀ r ∈ rs, r.2 ∣ z - r.1
def compat (rs : List Pr) (r : Pr) : Prop := ∀ q ∈ rs, gI q.2 r.2 ∣ q.1 - r.1
theorem compat_iff {rs : List Pr} {r : Pr} {z : Int} (h : ∀ r ∈ rs, 1 ≤ r.2) (hr : 1 ≤ r.2) (ok : Okr rs z) : compat rs r ↔ gI (lf rs) r.2 ∣ r.1 % r.2 - z := by
  have hlp := lf_pos h
  have key : gI (lf rs) r.2 ∣ r.1 % r.2 - z ↔ gI (lf rs) r.2 ∣ r.1 - z := by
    have e := Int.emod_add_mul_ediv r.1 r.2
    have d : gI (lf rs) r.2 ∣ r.2 * (r.1 / r.2) := Int.dvd_mul_of_dvd_left (gI_r (by omega))
    constructor
    · intro h
      have := Int.dvd_add h d
      rw [show r.1 % r.2 - z + r.2 * (r.1 / r.2) = r.1 - z by omega] at this; exact this
    · intro h
      have := Int.dvd_sub h d
      rw [show r.1 - z - r.2 * (r.1 / r.2) = r.1 % r.2 - z by omega] at this; exact this
  rw [key]
  constructor
  · intro hc
    refine lf_distr h hr fun q hq => ?_
    have h1 := hc q hq
    have h2 : gI q.2 r.2 ∣ z - q.1 := Int.dvd_trans (gI_l (by have := h q hq; omega)) (ok.d q hq)
    have h3 := Int.dvd_add h1 h2
    rw [show q.1 - r.1 + (z - q.1) = z - r.1 by omega] at h3
    exact dvd_flip.mp h3
  · intro hd q hq
    have hq1 := h q hq
    have h0 : gI q.2 r.2 ∣ gI (lf rs) r.2 := dvd_gI (by omega) (by omega) (Int.dvd_trans (gI_l (by omega)) (lf_dvd h q hq)) (gI_r (by omega))
    have h1 := Int.dvd_trans h0 hd
    have h2 : gI q.2 r.2 ∣ z - q.1 := Int.dvd_trans (gI_l (by omega)) (ok.d q hq)
    have h3 := Int.dvd_add h1 h2
    rw [show r.1 - z + (z - q.1) = r.1 - q.1 by omega] at h3
    exact dvd_flip.mp h3
theorem ok_next {rs : List Pr} {r : Pr} {z y : Int} (h : ∀ r ∈ rs, 1 ≤ r.2) (ok : Okr rs z) (b : Both z (lf rs) (r.1 % r.2) r.2 y) : Okr (rs ++ [r]) y := by
  refine ⟨b.z0, by rw [lf_snoc]; exact b.zl, fun q hq => ?_⟩
  rcases List.mem_append.mp hq with hq | hq
  · have h1 := Int.dvd_trans (lf_dvd h q hq) b.d1
    have := Int.dvd_add h1 (ok.d q hq)
    rw [show y - z + (z - q.1) = y - q.1 by omega] at this; exact this
  · rw [List.mem_singleton.mp hq]; exact dvd_mod.mp b.d2
theorem fac_turn {a m x y f o : Int} (hy : 0 < y) (h1 : ∃ k, x = f * a + k * m) (h2 : ∃ k, y = o * a + k * m) : ∃ k, x - x / y * y = (f - x / y * o) * a + k * m := by
  obtain ⟨k1, e1⟩ := h1
  obtain ⟨k2, e2⟩ := h2
  refine ⟨k1 - x / y * k2, ?_⟩
  generalize hq : x / y = q
  rw [Int.sub_mul, Int.sub_mul, e1, e2, Int.mul_add]
  have : q * (o * a) = q * o * a := by rw [Int.mul_assoc]
  have h3 : q * (k2 * m) = q * k2 * m := by rw [Int.mul_assoc]
  omega
theorem gI_turn {x y : Int} (hx : 0 ≤ x) (hy : 0 < y) : gI y (x - x / y * y) = gI x y := by
  have e : x - x / y * y = x % y := by
    have := Int.emod_add_mul_ediv x y
    rw [Int.mul_comm] at this
    omega
  unfold gI
  rw [e, Int.toNat_emod hx (by omega), Nat.gcd_comm, ← Nat.gcd_rec, Nat.gcd_comm]

local macro_rules | `(tactic| walk_at "mem") => `(tactic| first | exact List.mem_cons_self | (refine List.mem_cons_of_mem _ ?_; walk_at "mem"))
local macro_rules | `(tactic| walk_at "hp") => `(tactic| first | assumption | (refine' Mem.getL ?k1 ?k2; (case k1 => assumption); (case k2 => walk_at "mem")) | (refine' Mem.getF ?k1 ?k2; (case k1 => assumption); (case k2 => walk_at "mem")) | (refine' Mem.atB ?k1 ?k2; (case k1 => assumption); (case k2 => assumption)))
local macro_rules | `(tactic| walk_at "cond") => `(tactic| first | omega | assumption | exact mulR (by omega) (by omega) | exact mulL (by omega) (by omega) | exact divW (by omega) (by omega) | decide)
local macro_rules | `(tactic| walk_at "look") => `(tactic| first | assumption | with_unfolding_all rfl | exact atI_map (by omega) (by omega))
local macro_rules | `(tactic| walk_at "go1") => `(tactic| with_reducible first
  | refine k_seq ?_ | refine k_gName ?_ | refine k_asg ?_ | refine k_ret ?_ | refine k_ifS ?_ | refine k_drop ?_ | refine k_next ?_ | refine k_break ?_ | refine k_cont ?_ | refine k_retN ?_
  | (refine' k_var ?k1 ?_; (case k1 => with_unfolding_all rfl)) | refine k_c ?_ | refine k_op ?_ | refine k_un ?_ | refine k_test ?_ | refine k_B ?_ | refine k_bl ?_ | refine k_and ?_ | refine k_or ?_ | refine k_not ?_
  | refine k_andV ?_ | refine k_orV ?_ | refine k_notV ?_ | refine k_ifE ?_ | refine k_nil ?_ | refine k_cons ?_ | refine k_cb ?_ | refine k_callS ?_ | refine k_lst0 ?_ | refine k_tup0 ?_ | refine k_fld0 ?_ | refine k_sub0 ?_ | refine k_make0 ?_ | refine k_prop0 ?_ | refine k_sta0 ?_ | refine k_sta ?_ | refine k_bm ?_ | refine k_bm0 ?_ | refine k_chain ?_ | refine k_makeK0 ?_ | refine k_swapK ?_ | refine k_meth0 ?_ | refine k_ownN0 ?_ | refine k_ownO0 ?_ | refine k_sfld0 ?_ | refine k_jnil ?_ | refine k_jcons ?_ | refine k_fmt0 ?_ | refine k_sl0 ?_ | refine k_nopart ?_ | refine k_part ?_ | refine k_forR1 ?_ | refine k_forR2 ?_ | refine k_forL ?_ | refine k_forT ?_ | refine k_lcR1 ?_ | refine k_lcR2 ?_ | refine k_lcL ?_ | refine k_lcT ?_ | refine k_err0 ?_ | refine k_xf0 ?_ | refine k_errQ1 ?_ | refine k_errQ0 ?_ | refine k_errQ2 ?_ | refine k_errQ3 ?_
  | refine k_I0 ?_ | (refine k_I ?k1 ?_; (case k1 => walk_at "cond")) | refine k_U ?_ | refine k_eqI ?_ | refine k_neI ?_ | refine k_eqB ?_ | refine k_neB ?_ | refine k_eqS ?_ | refine k_neS ?_
  | refine k_int1 ?_ | refine k_abs1 ?_ | refine k_min2 ?_ | refine k_max2 ?_
  | (refine' k_lenM ?k1 ?_; (case k1 => walk_at "hp")) | (refine' k_lenL ?k1 ?_; (case k1 => walk_at "hp")) | (refine' k_lenT ?k1 ?_; (case k1 => walk_at "hp"))
  | (refine' k_lenS ?k1 ?_; (case k1 => assumption)) | (refine' k_ixS ?k1 ?k2 ?_; (case k1 => assumption); (case k2 => walk_at "look"))
  | (refine' k_ixL ?k1 ?k2 ?_; (case k1 => walk_at "hp"); (case k2 => walk_at "look")) | (refine' k_ixT ?k1 ?k2 ?_; (case k1 => walk_at "hp"); (case k2 => walk_at "look"))
  | (refine' k_ix4 ?k1 ?k2 ?k3 ?_; (case k1 => walk_at "hp"); (case k2 => omega); (case k3 => omega); intro n' hn')
  | (refine' k_ix3 ?k1 ?k2 ?k3 ?_; (case k1 => walk_at "hp"); (case k2 => omega); (case k3 => omega); intro n' hn')
  | (refine' k_ix2 ?k1 ?k2 ?k3 ?_; (case k1 => walk_at "hp"); (case k2 => omega); (case k3 => omega); intro n' hn')
  | (refine' k_fld ?k1 ?k2 ?k3 ?k4 ?_; (case k1 => walk_at "hp"); (case k2 => assumption); (case k3 => assumption); (case k4 => walk_at "fld"))
  | (refine' k_lst ?k1 ?k2 ?_; (case k1 => assumption); (case k2 => exact sz (by simp)); intro p' H' M')
  | (refine' k_tup ?k1 ?k2 ?_; (case k1 => assumption); (case k2 => exact sz (by simp)); intro p' H' M')
  | (refine' k_setF0 ?k1 ?k2 ?k3 ?_; (case k1 => assumption); (case k2 => simp); (case k3 => with_unfolding_all rfl); intro H' M'; try simp only [Int.reduceToNat, List.set_cons_succ, List.set_cons_zero] at M')
  | (refine' k_setL0 ?k1 ?k2 ?_; (case k1 => assumption); (case k2 => with_unfolding_all rfl); intro H' M'; try simp only [Int.reduceToNat, List.set_cons_succ, List.set_cons_zero] at M')
  | (refine' k_setL1 ?k1 ?k2 ?_; (case k1 => assumption); (case k2 => with_unfolding_all rfl); intro H' M'; try simp only [Int.reduceToNat, List.set_cons_succ, List.set_cons_zero] at M')
  | (refine' k_setL2 ?k1 ?k2 ?_; (case k1 => assumption); (case k2 => with_unfolding_all rfl); intro H' M'; try simp only [Int.reduceToNat, List.set_cons_succ, List.set_cons_zero] at M')
  | refine iteT ?_ | refine iteF ?_ | refine k_iteNE ?_ | refine k_iteNS ?_ | refine k_iteNT ?_ | refine k_iteNF ?_
  | (refine k_iteD ?_ ?_ <;> intro hc <;> first | (exfalso; omega) | skip)
  | (refine k_iteN ?_ ?_ <;> intro hc <;> first | (exfalso; omega) | skip)
  | (refine' k_ownN ?k1 ?_; (case k1 => walk_at "hp")) | (refine' k_ownO ?k1 ?k2 ?_; (case k1 => walk_at "hp"); (case k2 => walk_at "hp")) | (refine' k_ownEq ?k1 ?k2 ?_; (case k1 => walk_at "hp"); (case k2 => walk_at "hp"))
  | (refine' k_ownIn ?k1 ?_; (case k1 => walk_at "hp")) | (refine' k_ownU ?k1 ?_; (case k1 => walk_at "hp")) | (refine' k_ownStr ?k1 ?_; (case k1 => walk_at "hp"))
  | (refine' k_prop ?k1 ?_; (case k1 => walk_at "hp")) | (refine' k_ownNe ?k1 ?k2 ?_; (case k1 => walk_at "hp"); (case k2 => walk_at "hp")) | (refine' k_eqP ?k1 ?k2 ?_; (case k1 => walk_at "hp"); (case k2 => walk_at "hp")) | (refine' k_neP ?k1 ?k2 ?_; (case k1 => walk_at "hp"); (case k2 => walk_at "hp"))
  | (refine' k_isiO ?k1 ?k2 ?k3 ?k4 ?k5 ?k6 ?_; (case k1 => walk_at "hp"); (case k2 => assumption); (case k3 => assumption); (case k4 => assumption); (case k5 => assumption); (case k6 => assumption))
  | (refine' k_isiI ?k1 ?_; (case k1 => assumption))
  | (refine' k_jst ?k1 ?_; (case k1 => walk_at "size")) | (refine' k_fmtI ?k1 ?_; (case k1 => exact log2_64 (by omega) (by omega))) | (refine' k_strI ?k1 ?_; (case k1 => exact log2_64 (by omega) (by omega)))
  | (refine k_addS ?k1 ?_; (case k1 => walk_at "size")) | refine k_st ?_ | refine k_parti ?_
  | (refine' k_cat ?k1 ?k2 ?k3 ?k4 ?_; (case k1 => assumption); (case k2 => walk_at "hp"); (case k3 => walk_at "hp"); (case k4 => walk_at "size"); intro p' H' M')
  | (refine' k_slL ?k1 ?k2 ?_; (case k1 => assumption); (case k2 => first | assumption | exact SqL.of (by walk_at "hp")); intro p' H' M')
  | (refine k_rng1 ?k1 ?k2 ?_; (case k1 => omega); (case k2 => omega)) | (refine k_rng2 ?k1 ?k2 ?k3 ?k4 ?_; (case k1 => omega); (case k2 => omega); (case k3 => omega); (case k4 => omega))
  | (refine' k_lstAt ?k1 ?_; (case k1 => first | assumption | exact SqL.of (by walk_at "hp"))) | (refine' k_tupAt ?k1 ?_; (case k1 => first | assumption | exact SqT.of (by walk_at "hp")))
  | (refine' k_isXs ?k1 ?k2 ?_; (case k1 => assumption); (case k2 => walk_at "hp")) | (refine' k_isXo ?k1 ?k2 ?k3 ?_; (case k1 => assumption); (case k2 => walk_at "hp"); (case k3 => assumption)) | (refine' k_isXt ?k1 ?k2 ?k3 ?_; (case k1 => assumption); (case k2 => walk_at "hp"); (case k3 => assumption))
  | (refine' k_isX3 ?k1 ?k2 ?k3 ?k4 ?_; (case k1 => assumption); (case k2 => walk_at "hp"); (case k3 => walk_at "hp"); (case k4 => assumption)) | (refine' k_isX2 ?k1 ?k2 ?k3 ?k4 ?_; (case k1 => assumption); (case k2 => walk_at "hp"); (case k3 => walk_at "hp"); (case k4 => assumption))
  | (refine' k_tyL ?k1 ?_; (case k1 => walk_at "hp"))
  | (refine' k_appL0 ?k1 ?k2 ?_; (case k1 => assumption); (case k2 => walk_at "size"); intro H' M') | (refine' k_appL1 ?k1 ?k2 ?_; (case k1 => assumption); (case k2 => walk_at "size"); intro H' M') | (refine' k_appL2 ?k1 ?k2 ?_; (case k1 => assumption); (case k2 => walk_at "size"); intro H' M') | (refine' k_appL3 ?k1 ?k2 ?_; (case k1 => assumption); (case k2 => walk_at "size"); intro H' M')
  | (refine' k_revL0 ?k1 ?_; (case k1 => assumption); intro H' M') | (refine' k_revL1 ?k1 ?_; (case k1 => assumption); intro H' M')
  | (refine' k_isX0s ?k1 ?_; (case k1 => assumption)) | (refine' k_isX0o ?k1 ?k2 ?_; (case k1 => assumption); (case k2 => assumption)) | (refine' k_isX0t ?k1 ?k2 ?_; (case k1 => assumption); (case k2 => assumption)) | (refine' k_isX04 ?k1 ?k2 ?k3 ?_; (case k1 => assumption); (case k2 => walk_at "hp"); (case k3 => assumption))
  | (refine' k_isX4 ?k1 ?k2 ?k3 ?k4 ?_; (case k1 => assumption); (case k2 => walk_at "hp"); (case k3 => walk_at "hp"); (case k4 => assumption)) | (refine' k_ixT2 ?k1 ?k2 ?k3 ?_; (case k1 => walk_at "hp"); (case k2 => omega); (case k3 => omega); intro n' hn')
  | (refine k_iteNEq ?k1 ?_; (case k1 => (rw [Bool.eq_iff_iff]; first | (simp; done) | (simp; omega))))
  | (refine' k_xf ?k1 ?k2 ?_; (case k1 => walk_at "hp"); (case k2 => first | exact xd1 | exact xdH | exact xd2 (by decide +kernel)))
  | (refine' k_caught ?k1 ?_; (case k1 => assumption); intro a' ha')
  | refine k_asgT ?_ | refine k_gCons ?_ | refine k_gNil ?_ | refine k_par ?_ | refine k_two ?_ | refine k_isNn ?_ | refine k_isNi ?_ | refine k_notNn ?_ | refine k_notNi ?_ | refine k_isN ?_ | refine k_notN ?_
  | (refine' k_gTup ?k1 ?k2 ?_; (case k1 => walk_at "hp"); (case k2 => with_unfolding_all rfl))
  | (refine' k_isiT ?k1 ?k2 ?_; (case k1 => walk_at "hp"); (case k2 => assumption)) | (refine' k_isiL ?k1 ?k2 ?_; (case k1 => walk_at "hp"); (case k2 => assumption))
  | (refine' k_ixQ ?k1 ?k2 ?_; (case k1 => assumption); (case k2 => walk_at "look")) | (refine' k_lenQ ?k1 ?_; (case k1 => assumption))
  | (refine' k_xfB ?k1 ?k2 ?_; (case k1 => walk_at "hp"); (case k2 => first | exact xd1 | exact xdH | exact xd2 (by decide +kernel)))
  | (refine' k_all ?k1 ?_; (case k1 => walk_at "hp"))
  | (refine' k_tupleOf ?k1 ?k2 ?_; (case k1 => assumption); (case k2 => exact SqL.of (by walk_at "hp")); intro p' H' M')
  | (refine' k_listOf ?k1 ?k2 ?_; (case k1 => assumption); (case k2 => exact Or.inl (SqL.of (by walk_at "hp"))); intro p' H' M')
  | walk_at "use")
local macro_rules | `(tactic| walk_at "go") => `(tactic| repeat' (walk_at "go1"))

local macro_rules | `(tactic| walk_at "eq") => `(tactic| first | rfl | assumption | omega)
local macro_rules | `(tactic| walk_at "fld") => `(tactic| first | exact resF_place _ _ | exact resF_length _ _)
local macro_rules | `(tactic| walk_at "size") => `(tactic| first | exact sz (by first | omega | (simp only [List.length_map, List.length_range, List.length_append, List.length_cons, List.length_nil, Int.reduceSub, Int.reduceToNat, Int.reduceNeg]; omega)) | (exact Nat.lt_of_le_of_lt (m := 50000) (by first | omega | (simp only [List.length_map, List.length_range, List.length_append, List.length_cons, List.length_nil]; omega)) (by decide)))
structure Txt (prog : Program) (K : PySem.W.Frag) (mg : Str → Option Value) (C CO fO CD fD CA CU CT CI : Addr) : Prop where
  cl : Cls K C
  nP : NoAttr K C "place"
  nL : NoAttr K C "length"
  ca : PySem.W.findIn K (.ref C) "__class__" = some (some (.builtin "object.__class__"))
  cn : PySem.W.specialIn K (.builtin "object.__class__") "__get__" = some (some (.builtin "getset_descriptor.__get__"))
  ct : PySem.W.takesIn K (.builtin "object.__class__") = some true
  cm : PySem.W.mroIn K C (.type "object") = some true
  sf_Residue : PySem.W.selfFirst K C = true
  b_isinstance : mg "isinstance" = none
  b_int : mg "int" = none
  b_bool : mg "bool" = none
  b_len : mg "len" = none
  b_abs : mg "abs" = none
  b_min : mg "min" = none
  b_list : mg "list" = none
  b_range : mg "range" = none
  b_any : mg "any" = none
  g_Residue : mg "Residue" = some (.ref C)
  e_OutOfRange : PySem.ErrX.ErrTxt prog K mg "OutOfRange" CO fO ["value"]
  e_Disjoint : PySem.ErrX.ErrTxt prog K mg "Disjoint" CD fD ["divisor"]
  g_OutOfRange : mg "OutOfRange" = some (.ref CO)
  g_Disjoint : mg "Disjoint" = some (.ref CD)
  g_ArchiveError : mg "ArchiveError" = some (.ref CA)
  g_UnknownError : mg "UnknownError" = some (.ref CU)
  g_TextError : mg "TextError" = some (.ref CT)
  g_ImpossibleError : mg "ImpossibleError" = some (.ref CI)
  i1 : PySem.W.kitOne K (.type "int") (.type "int") = some true
  i2 : PySem.W.kitOne K (.type "int") (.type "bool") = some false
  ek : ExcK K CD
  xf_Disjoint : XfC K CD
  nx_Disjoint_divisor : PySem.W.findIn K (.ref CD) "divisor" = some none
  exm : PySem.W.exmOne K (.ref CD) (.ref CI) = some true
  k1 : PySem.W.kitOne K (.ref CD) (.ref CA) = some true
  k2 : PySem.W.kitAny K (.ref CD) [.ref CU, .ref CT, .ref CO] = some false
section
variable {P : Program} {w : World} {K : PySem.W.Frag} {mg : Str → Option Value} {base : Heap} {C CO fO CD fD CA CU CT CI : Addr}
def sp_isn : Sp := fun vs H Q _ => ∃ i : Int, vs = [.int i] ∧ Q (.bl true) H
theorem ok_isn {f : Addr} {fd : FuncData} (F : Fun K "_law_is_number" "_law_is_number" s__law_is_number f fd) (T : Txt P K mg C CO fO CD fD CA CU CT CI)  :
    FnOk P w K mg base (L2.CX P w) (0 + 1) f fd ["_law_value"] sp_isn := by
  refine okT F sc__law_is_number (fun vs H Q E h => ?_) (fun cdv A outer s H vs Q E hr tk h => ?_)
  · obtain ⟨i, rfl, _⟩ := h
    rfl
  obtain ⟨i, rfl, k⟩ := h
  have f1 := T.i1; have f2 := T.i2; have f6 := T.cl; have f7 := T.nP; have f8 := T.nL; have f9 := T.ca; have f10 := T.cn; have f11 := T.ct; have f12 := T.cm; have f13 := T.ek; have f14 := T.exm; have f15 := T.k1; have f16 := T.k2
  refine ⟨_, (pss_one (ps_ret (pe_and (pe_callB call_isi (by rfl) T.b_isinstance (by decide +kernel) (pa_cons (pv 0) (pa_cons (g_ty (n := "int") T.b_int (by decide +kernel)) pa_nil))) (pe_one (pe_not (pe_callB call_isi (by rfl) T.b_isinstance (by decide +kernel) (pa_cons (pv 0) (pa_cons (g_ty (n := "bool") T.b_bool (by decide +kernel)) pa_nil)))))))), ?_⟩
  simp only [cxK, st__law_is_number]
  walk_at "go"
  exact k
theorem use_isn {H : Hp} {Q : VK} {E : XK} {i : Int} (q : Q (.bl true) H) : sp_isn [.int i] H Q E := ⟨i, rfl, q⟩
theorem ok_init {f : Addr} {fd : FuncData} (F : Fun K "__init__" "Residue.__init__" s_Residue_init f fd) (T : Txt P K mg C CO fO CD fD CA CU CT CI)  :
    FnOk P w K mg base (L2.CX P w) (0 + 1) f fd ["self", "place", "length"] (sp_res C CO) := by
  refine okT F sc_Residue_init (fun vs H Q E h => ?_) (fun cdv A outer s H vs Q E hr tk h => ?_)
  · obtain ⟨x, dx, p, l, rfl, _⟩ := h
    rfl
  obtain ⟨x, dx, p, l, rfl, h1, k1, k2⟩ := h
  have f1 := T.i1; have f2 := T.i2; have f6 := T.cl; have f7 := T.nP; have f8 := T.nL; have f9 := T.ca; have f10 := T.cn; have f11 := T.ct; have f12 := T.cm; have f13 := T.ek; have f14 := T.exm; have f15 := T.k1; have f16 := T.k2
  refine ⟨_, (pss_cons (ps_if (pt_cmpR op_lt (pv 2) pe_int (nomark _)) (pss_one (ps_raise rfl tk (pmk_err T.e_OutOfRange (by decide) hr (pa_cons (pv 2) pa_nil)))) pss_nil)
      (pss_cons (ps_fld (pv 0) (pe_op op_mod (pv 1) (pv 2)) rfl)
      (pss_one (ps_fld (pv 0) (pv 2) rfl)))), ?_⟩
  simp only [cxK, st_Residue_init]
  walk_at "go"
  · exact fun d hd => k2 (by omega) d hd
  · refine ⟨x, C, dx, _, rfl, h1, f6, f7, (by decide), ?_⟩
    walk_at "go"
    refine ⟨x, C, dx, _, rfl, upd_same, f6, f8, (by show 1 < 1000; decide), ?_⟩
    walk_at "go"
    refine k1 (by omega) _ ?_ ?_
    · rw [upd_same, resF_put]
    · intro b o hb hne
      rw [upd_ne hne, upd_ne hne]; exact hb
theorem ok_contains {f : Addr} {fd : FuncData} (F : Fun K "__contains__" "Residue.__contains__" s_Residue_contains f fd) (T : Txt P K mg C CO fO CD fD CA CU CT CI)  :
    FnOk P w K mg base (L2.CX P w) (0 + 1) f fd ["self", "day"] (sp_resIn C) := by
  refine okT F sc_Residue_contains (fun vs H Q E h => ?_) (fun cdv A outer s H vs Q E hr tk h => ?_)
  · obtain ⟨a, dx, p, l, d, rfl, _⟩ := h
    rfl
  obtain ⟨a, dx, p, l, d, rfl, h1, hl, k⟩ := h
  have f1 := T.i1; have f2 := T.i2; have f6 := T.cl; have f7 := T.nP; have f8 := T.nL; have f9 := T.ca; have f10 := T.cn; have f11 := T.ct; have f12 := T.cm; have f13 := T.ek; have f14 := T.exm; have f15 := T.k1; have f16 := T.k2
  refine ⟨_, (pss_one (ps_ret (pe_cmpR op_eq (pe_op op_mod (pe_op op_sub (pv 1) (pe_fld (pv 0) rfl)) (pe_fld (pv 0) rfl)) pe_int (nomark _)))), ?_⟩
  simp only [cxK, st_Residue_contains]
  walk_at "go"
  exact k
theorem ok_eq {f : Addr} {fd : FuncData} (F : Fun K "__eq__" "Residue.__eq__" s_Residue_eq f fd) (T : Txt P K mg C CO fO CD fD CA CU CT CI)  :
    FnOk P w K mg base (L2.CX P w) (0 + 1) f fd ["self", "other"] (sp_resEq C) := by
  refine okT F sc_Residue_eq (fun vs H Q E h => ?_) (fun cdv A outer s H vs Q E hr tk h => ?_)
  · obtain ⟨a, dx, b, dy, p, l, p2, l2, rfl, _⟩ := h
    rfl
  obtain ⟨a, dx, b, dy, p, l, p2, l2, rfl, h1, h2, k⟩ := h
  have f1 := T.i1; have f2 := T.i2; have f6 := T.cl; have f7 := T.nP; have f8 := T.nL; have f9 := T.ca; have f10 := T.cn; have f11 := T.ct; have f12 := T.cm; have f13 := T.ek; have f14 := T.exm; have f15 := T.k1; have f16 := T.k2
  refine ⟨_, (pss_one (ps_ret (pe_and (pe_callB call_isi (by rfl) T.b_isinstance (by decide +kernel) (pa_cons (pv 1) (pa_cons (g_ref T.g_Residue) pa_nil))) (pe_and (pe_cmpR op_eq (pe_fld (pv 0) rfl) (pe_fld (pv 1) rfl) (nomark _)) (pe_one (pe_cmpR op_eq (pe_fld (pv 0) rfl) (pe_fld (pv 1) rfl) (nomark _))))))), ?_⟩
  simp only [cxK, st_Residue_eq]
  walk_at "go"
  · rw [decide_eq_true (by assumption), Bool.true_and] at k; exact k
  · rw [decide_eq_false (by assumption), Bool.false_and] at k; exact k
/-- the divisor and a factor -/
def sp_fac : Sp := fun vs H Q _ => ∃ a b : Int, vs = [.int a, .int b] ∧ 1 ≤ a ∧ 1 ≤ b ∧ a < 2 ^ 62 ∧ b < 2 ^ 62 ∧ ∀ (f : Int) p H', (∃ k, f * a = gI a b + k * b) → H p = none → Same H H' → H' p = some (.tup [.int (gI a b), .int f]) → Q (.ref p) H'
theorem ok_fac {f : Addr} {fd : FuncData} (F : Fun K "gcd_and_factor" "gcd_and_factor" s_gcd_and_factor f fd) (T : Txt P K mg C CO fO CD fD CA CU CT CI)  :
    FnOk P w K mg base (L2.CX P w) (0 + 1) f fd ["first", "second"] sp_fac := by
  refine okT F sc_gcd_and_factor (fun vs H Q E h => ?_) (fun cdv A outer s H vs Q E hr tk h => ?_)
  · obtain ⟨a, b, rfl, _⟩ := h
    rfl
  obtain ⟨a, b, rfl, ha, hb, ha2, hb2, k⟩ := h
  have f1 := T.i1; have f2 := T.i2; have f6 := T.cl; have f7 := T.nP; have f8 := T.nL; have f9 := T.ca; have f10 := T.cn; have f11 := T.ct; have f12 := T.cm; have f13 := T.ek; have f14 := T.exm; have f15 := T.k1; have f16 := T.k2
  refine ⟨_, (pss_cons (ps_set (i := 2) sc_gcd_and_factor.nd rfl (Or.inl rfl) pe_int)
      (pss_cons (ps_set (i := 3) sc_gcd_and_factor.nd rfl (Or.inl rfl) pe_int)
      (pss_cons (ps_while (passes_of rfl) (pt_cmpR op_ne (pv 1) pe_int (nomark _)) (pss_cons (ps_set (i := 4) sc_gcd_and_factor.nd rfl (Or.inl rfl) (pe_op op_fdivW (pv 0) (pv 1)))
      (pss_cons (ps_par (i := 0) (j := 1) (by rfl) sc_gcd_and_factor.nd rfl rfl (by decide) rfl rfl (pa_cons (pv 1) (pa_cons (pe_op op_sub (pv 0) (pe_op op_mulU (pv 4) (pv 1))) pa_nil)) (by rfl))
      (pss_one (ps_par (i := 2) (j := 3) (by rfl) sc_gcd_and_factor.nd rfl rfl (by decide) rfl rfl (pa_cons (pv 3) (pa_cons (pe_op op_sub (pv 2) (pe_op op_mulU (pv 4) (pv 3))) pa_nil)) (by rfl))))))
      (pss_one (ps_ret (pe_tup (pa_cons (pv 0) (pa_cons (pv 2) pa_nil)))))))), ?_⟩
  simp only [cxK, st_gcd_and_factor]
  have M : Mem H [] H [] [] := mem_start (by simp []) (by simp) (by simp)
  walk_at "go"
  refine k_while (fun σ' H' => ∃ (x y f o : Int) (q : Option V), σ' = [some (.int x), some (.int y), some (.int f), some (.int o), q] ∧ H' = H ∧ 0 ≤ x ∧ x < 2 ^ 62 ∧ 0 ≤ y ∧ y < 2 ^ 62 ∧ gI x y = gI a b ∧ (∃ k, x = f * a + k * b) ∧ ∃ k, y = o * a + k * b) (fun σ' H' => match σ' with | _ :: some (.int y) :: _ => y.toNat | _ => 0) ⟨_, _, _, _, _, rfl, rfl, by omega, by omega, by omega, by omega, rfl, ⟨0, by omega⟩, ⟨1, by omega⟩⟩ ?_
  rintro σ' H' ⟨x, y, f, o, q, rfl, rfl, hx0, hx1, hy0, hy1, hg, e1, e2⟩
  walk_at "go"
  · rename_i hne
    refine k_turn ?_
    have hq0 : 0 ≤ x / y := Int.ediv_nonneg hx0 hy0
    have hq1 : x / y ≤ x := Int.ediv_le_self _ hx0
    have em := Int.emod_add_mul_ediv x y
    rw [Int.mul_comm] at em
    have r0 := Int.emod_nonneg x hne
    have r1 := Int.emod_lt_of_pos x (show 0 < y by omega)
    walk_at "go"
    refine ⟨⟨_, _, _, _, _, rfl, rfl, hy0, hy1, by omega, by omega, by rw [gI_turn hx0 (by omega)]; exact hg, e2, fac_turn (by omega) e1 e2⟩, ?_⟩
    show (x - x / y * y).toNat < y.toNat
    omega
  · rename_i hc p H2 M2
    have hgx : gI a b = x := by
      rw [← hg, hc]; unfold gI
      show ((Nat.gcd x.toNat 0 : Nat) : Int) = x
      rw [Nat.gcd_zero_right]; omega
    obtain ⟨k1, hk1⟩ := e1
    refine k f p H2 ⟨-k1, ?_⟩ (M2.new _ List.mem_cons_self) (Same.of_keep M2) (by rw [hgx]; exact M2.getL List.mem_cons_self)
    rw [hgx, Int.neg_mul]; omega
theorem use_fac {B H : Hp} {ms : List Addr} {f l : List (Addr × HO)} {Q : VK} {E : XK} {a b : Int} (M : Mem B ms H f l) (h1 : 1 ≤ a) (h2 : 1 ≤ b) (h3 : a < 2 ^ 62) (h4 : b < 2 ^ 62) (k : ∀ (c : Int) p H', (∃ k, c * a = gI a b + k * b) → Mem B ms H' f ((p, .tup [.int (gI a b), .int c]) :: l) → Q (.ref p) H') : sp_fac [.int a, .int b] H Q E :=
  ⟨a, b, rfl, h1, h2, h3, h4, fun c p H' hc hp s hp' => k c p H' hc (M.sameNew s hp hp')⟩
/-- two residues -/
def sp_and (C CD : Addr) : Sp := fun vs H Q E => ∃ (a dx b dy : Addr) (p n q m : Int), vs = [.ref a, .ref b] ∧ H a = some (.ins C dx (resF p n)) ∧ H b = some (.ins C dy (resF q m)) ∧ (1 ≤ n ∧ n < 2 ^ 62 ∧ 1 ≤ m ∧ m < 2 ^ 62 ∧ 0 ≤ p ∧ p < n ∧ 0 ≤ q ∧ q < m) ∧
  (gI n m ∣ q - p → ∀ z x dz H', Both p n q m z → H x = none → Same H H' → H' x = some (.ins C dz (resF z (lI n m))) → Q (.ref x) H') ∧
  (¬ gI n m ∣ q - p → ∀ d H', H d = none → Same H H' → H' d = some (.xd [("divisor", .int (gI n m))]) → E (.ref CD) (some d) H')
local macro_rules | `(tactic| walk_at "use") => `(tactic| first
  | (refine' use_fac ?k1 ?k2 ?k3 ?k4 ?k5 ?_; (case k1 => assumption); (case k2 => omega); (case k3 => omega); (case k4 => omega); (case k5 => omega); intro c' p' H' hc' M')
  | (refine' use_res ?k1 ?k2 ?_; (case k1 => assumption); (case k2 => assumption); intro x' dx' H' M'))
theorem ok_and {f : Addr} {fd : FuncData} (F : Fun K "__and__" "Residue.__and__" s_Residue_and f fd) (T : Txt P K mg C CO fO CD fD CA CU CT CI) (c_Residue : Mak P w K mg base 1 "Residue" C (sp_res C CO)) (c_gcd_and_factor : Cal P w K mg base 1 "gcd_and_factor" sp_fac) :
    FnOk P w K mg base (L2.CX P w) (2 + 1) f fd ["self", "other"] (sp_and C CD) := by
  refine okT F sc_Residue_and (fun vs H Q E h => ?_) (fun cdv A outer s H vs Q E hr tk h => ?_)
  · obtain ⟨a, dx, b, dy, p, n, q, m, rfl, _⟩ := h
    rfl
  obtain ⟨a, dx, b, dy, p, n, q, m, rfl, h1, h2, ⟨hn1, hn2, hm1, hm2, hp0, hp1, hq0, hq1⟩, k1, k2⟩ := h
  have f1 := T.i1; have f2 := T.i2; have f6 := T.cl; have f7 := T.nP; have f8 := T.nL; have f9 := T.ca; have f10 := T.cn; have f11 := T.ct; have f12 := T.cm; have f13 := T.ek; have f14 := T.exm; have f15 := T.k1; have f16 := T.k2
  refine ⟨_, (pss_cons (ps_asg (c_call c_gcd_and_factor tk hr (by decide) (pa_cons (pe_fld (pv 0) rfl) (pa_cons (pe_fld (pv 1) rfl) pa_nil))) (pg_tup rfl (pgs_cons (pg_name (i := 2) sc_Residue_and.nd rfl (Or.inl rfl)) (pgs_cons (pg_name (i := 3) sc_Residue_and.nd rfl (Or.inl rfl)) pgs_nil))))
      (pss_cons (ps_set (i := 4) sc_Residue_and.nd rfl (Or.inl rfl) (pe_op op_sub (pe_fld (pv 1) rfl) (pe_fld (pv 0) rfl)))
      (pss_cons (ps_if (pt_cmpR op_ne (pe_op op_mod (pv 4) (pv 2)) pe_int (nomark _)) (pss_one (ps_raise rfl tk (pmk_err T.e_Disjoint (by decide) hr (pa_cons (pv 2) pa_nil)))) pss_nil)
      (pss_cons (ps_set (i := 5) sc_Residue_and.nd rfl (Or.inl rfl) (pe_op op_mulU (pe_op op_fdivW (pv 4) (pv 2)) (pv 3)))
      (pss_one (ps_ret (c_make c_Residue tk hr (by decide) (pa_cons (pe_op op_add (pe_fld (pv 0) rfl) (pe_op op_mulU (pv 5) (pe_fld (pv 0) rfl))) (pa_cons (pe_op op_mulU (pe_op op_fdivW (pe_fld (pv 0) rfl) (pv 2)) (pe_fld (pv 1) rfl)) pa_nil))))))))), ?_⟩
  simp only [cxK, st_Residue_and]
  have M : Mem H [] H [] [] := mem_start (by simp []) (by simp) (by simp)
  have hg1 := gI_pos (b := m) hn1
  have hg2 := gI_le (a := n) hm1
  have hd : ¬ (q - p) / gI n m ≤ -(2 ^ 64) ∧ (q - p) / gI n m < 2 ^ 64 := by
    have e := Int.emod_add_mul_ediv (q - p) (gI n m)
    have r0 := Int.emod_nonneg (q - p) (show gI n m ≠ 0 by omega)
    have r1 := Int.emod_lt_of_pos (q - p) (show 0 < gI n m by omega)
    constructor
    · intro z
      have := Int.mul_le_mul_of_nonneg_left z (show 0 ≤ gI n m by omega)
      omega
    · refine Int.ediv_lt_of_lt_mul (by omega) ?_
      omega
  obtain ⟨hd1, hd2⟩ := hd
  have hl : 1 ≤ n / gI n m * m := by rw [lI_len hn1 hm1]; exact lI_pos hn1 hm1
  walk_at "go"
  · rename_i hc
    rename_i M'
    exact fun d hd => k2 (fun z => hc (Int.emod_eq_zero_of_dvd z)) d _ ((Same.of_keep M').free hd) ((Same.of_keep M').trans (same_alloc hd)) upd_same
  · rename_i c1 p1 H1 hc1 M1 hc x2 dx2 H2 M2
    exact k1 (Int.dvd_of_emod_eq_zero hc) _ x2 dx2 H2 (both_and hn1 hm1 hc1 hc) (M2.new _ List.mem_cons_self) (Same.of_keep M2) (by rw [← lI_len hn1 hm1]; exact M2.getL List.mem_cons_self)
theorem use_and {B H : Hp} {ms : List Addr} {f l : List (Addr × HO)} {Q : VK} {E : XK} {a dx b dy : Addr} {p n q m : Int} (M : Mem B ms H f l) (h1 : H a = some (.ins C dx (resF p n))) (h2 : H b = some (.ins C dy (resF q m))) (hb : 1 ≤ n ∧ n < 2 ^ 62 ∧ 1 ≤ m ∧ m < 2 ^ 62 ∧ 0 ≤ p ∧ p < n ∧ 0 ≤ q ∧ q < m) (hd : gI n m ∣ q - p)
    (k : ∀ z x dz H', Both p n q m z → Mem B ms H' f ((x, .ins C dz (resF z (lI n m))) :: l) → Q (.ref x) H') : sp_and C CD [.ref a, .ref b] H Q E :=
  ⟨a, dx, b, dy, p, n, q, m, rfl, h1, h2, hb, fun _ z x dz H' hz hx s hx' => k z x dz H' hz (M.sameNew s hx hx'), fun z => absurd hd z⟩
theorem use_andE {B H : Hp} {ms : List Addr} {f l : List (Addr × HO)} {Q : VK} {E : XK} {a dx b dy : Addr} {p n q m : Int} (M : Mem B ms H f l) (h1 : H a = some (.ins C dx (resF p n))) (h2 : H b = some (.ins C dy (resF q m))) (hb : 1 ≤ n ∧ n < 2 ^ 62 ∧ 1 ≤ m ∧ m < 2 ^ 62 ∧ 0 ≤ p ∧ p < n ∧ 0 ≤ q ∧ q < m) (hd : ¬ gI n m ∣ q - p)
    (k : ∀ d H', Mem B ms H' f ((d, .xd [("divisor", .int (gI n m))]) :: l) → E (.ref CD) (some d) H') : sp_and C CD [.ref a, .ref b] H Q E :=
  ⟨a, dx, b, dy, p, n, q, m, rfl, h1, h2, hb, fun z => absurd z hd, fun _ d H' hx s hx' => k d H' (M.sameNew s hx hx')⟩
def sp_every (C : Addr) : Sp := fun vs H Q _ => vs = [] ∧ ∀ x dx H', H x = none → Same H H' → H' x = some (.ins C dx (resF 0 1)) → Q (.ref x) H'
local macro_rules | `(tactic| walk_at "use") => `(tactic| first
  | (refine' use_res ?k1 ?k2 ?_; (case k1 => assumption); (case k2 => omega); intro x' dx' H' M'))
theorem ok_every {f : Addr} {fd : FuncData} (F : Fun K "every" "Residue.every" s_Residue_every f fd) (T : Txt P K mg C CO fO CD fD CA CU CT CI) (c_Residue : Mak P w K mg base 1 "Residue" C (sp_res C CO)) :
    FnOk P w K mg base (L2.CX P w) (2 + 1) f fd [] (sp_every C) := by
  refine okT F sc_Residue_every (fun vs H Q E h => ?_) (fun cdv A outer s H vs Q E hr tk h => ?_)
  · obtain ⟨rfl, _⟩ := h
    rfl
  obtain ⟨rfl, k⟩ := h
  have f1 := T.i1; have f2 := T.i2; have f6 := T.cl; have f7 := T.nP; have f8 := T.nL; have f9 := T.ca; have f10 := T.cn; have f11 := T.ct; have f12 := T.cm; have f13 := T.ek; have f14 := T.exm; have f15 := T.k1; have f16 := T.k2
  refine ⟨_, (pss_one (ps_ret (c_make c_Residue tk hr (by decide) (pa_cons pe_int (pa_cons pe_int pa_nil))))), ?_⟩
  simp only [cxK, st_Residue_every]
  have M : Mem H [] H [] [] := mem_start (by simp []) (by simp) (by simp)
  walk_at "go"
  rename_i x dx H' M'
  exact k x dx H' (M'.new _ List.mem_cons_self) (Same.of_keep M') (M'.getL List.mem_cons_self)
theorem use_every {B H : Hp} {ms : List Addr} {f l : List (Addr × HO)} {Q : VK} {E : XK} (M : Mem B ms H f l) (k : ∀ x dx H', Mem B ms H' f ((x, .ins C dx (resF 0 1)) :: l) → Q (.ref x) H') : sp_every C [] H Q E :=
  ⟨rfl, fun x dx H' hx s hx' => k x dx H' (M.sameNew s hx hx')⟩
/-- xs are the residues rs -/
abbrev Rss (C : Addr) (H : Hp) : List V → List Pr → Prop := PG fun p r => ∃ dx, H p = some (.ins C dx (resF (r.1 % r.2) r.2))
theorem Rss.same {H H' : Hp} {xs : List V} {rs : List Pr} (h : Rss C H xs rs) (s : Same H H') : Rss C H' xs rs := h.mono fun p r ⟨dx, e⟩ => ⟨dx, s _ _ e⟩
abbrev allok (rs : List Pr) (i : Nat) : Prop := ∀ (j : Nat) (q : Pr), j < i → rs[j]? = some q → compat (rs.take j) q
/-- what the residues of a row give -/
def Outc (C CD : Addr) (rs : List Pr) (H : Hp) (Q : VK) (E : XK) : Prop :=
  (allok rs rs.length → ∀ z x dx H', Okr rs z → H x = none → Same H H' → H' x = some (.ins C dx (resF z (lf rs))) → Q (.ref x) H') ∧
  (∀ (k : Nat) (r : Pr), rs[k]? = some r → allok rs k → ¬ compat (rs.take k) r → ∀ d H', H d = none → Same H H' → H' d = some (.xd [("divisor", .int (gI (lf (rs.take k)) r.2))]) → E (.ref CD) (some d) H')
theorem Outc.up {rs : List Pr} {H H' : Hp} {Q : VK} {E : XK} (h : Outc C CD rs H Q E) (s : Same H H') : Outc C CD rs H' Q E :=
  ⟨fun a z x dx H2 hz hx s2 h2 => h.1 a z x dx H2 hz (s.free hx) (s.trans s2) h2, fun k r hr ha hc d H2 hd s2 h2 => h.2 k r hr ha hc d H2 (s.free hd) (s.trans s2) h2⟩
abbrev Sz (rs : List Pr) : Prop := rs.length ≤ 4 ∧ ∀ r ∈ rs, 1 ≤ r.2 ∧ r.2 ≤ 1000
def sp_meet0 (C CD : Addr) : Sp := fun vs H Q E => ∃ (p : Addr) (xs : List V) (rs : List Pr), vs = [.ref p] ∧ H p = some (.tup xs) ∧ Rss C H xs rs ∧ Sz rs ∧ Outc C CD rs H Q E
def sp_meet (C CD : Addr) : Sp := fun xs H Q E => ∃ rs : List Pr, Rss C H xs rs ∧ Sz rs ∧ Outc C CD rs H Q E
theorem meet_of {vs : List V} {H : Hp} {Q : VK} {E : XK} (h : sp_meet C CD vs H Q E) : starSp (sp_meet0 C CD) vs H Q E := by
  obtain ⟨rs, hr, hz, ho⟩ := h
  exact ⟨Nat.le_trans (by rw [hr.1]; exact hz.1) (by decide : 4 ≤ sizeLine), fun p hp => ⟨p, vs, rs, rfl, upd_same, hr.same (same_alloc hp), hz, ho.up (same_alloc hp)⟩⟩
theorem pow_le {n : Nat} (h : n ≤ 4) : (1000 : Int) ^ n ≤ 1000 ^ 4 := by
  have : n = 0 ∨ n = 1 ∨ n = 2 ∨ n = 3 ∨ n = 4 := by omega
  rcases this with rfl | rfl | rfl | rfl | rfl <;> decide
theorem st_meetS : StarSt "meet" "Residue.meet" s_Residue_meet "residues" := fun _ _ _ _ _ _ rest => match rest with | [] => rfl | _ :: _ => rfl
theorem ok_meet {f : Addr} {fd : FuncData} (F : Fun K "meet" "Residue.meet" s_Residue_meet f fd) (T : Txt P K mg C CO fO CD fD CA CU CT CI) (c_Residue_every : StaR P w K mg base 3 C "every" (sp_every C)) (c_Residue_and : Spc P w K mg base 3 C "__and__" (sp_and C CD)) : FnR P w K mg base (L2.CX P w) (3 + 1) f (sp_meet C CD) := by
  refine (okStar (sp := sp_meet0 C CD) F st_meetS sc_Residue_meet (fun cdv A outer s H vs Q E hr tk h => ?_)).imp fun vs H Q E h => meet_of h
  obtain ⟨p, xs, rs, rfl, hp, hx, ⟨hl4, hsz⟩, ho⟩ := h
  have f1 := T.i1; have f2 := T.i2; have f6 := T.cl; have f7 := T.nP; have f8 := T.nL; have f9 := T.ca; have f10 := T.cn; have f11 := T.ct; have f12 := T.cm; have f13 := T.ek; have f14 := T.exm; have f15 := T.k1; have f16 := T.k2
  refine ⟨_, (pss_cons (ps_set (i := 1) sc_Residue_meet.nd rfl (Or.inl rfl) (c_sta0R c_Residue_every tk hr (by decide) (g_ref T.g_Residue)))
      (pss_cons (ps_for (passes_of rfl) rfl (pi_tup (pv 0)) (pg_name (i := 2) sc_Residue_meet.nd rfl (Or.inl rfl)) (pss_one (ps_set (i := 1) sc_Residue_meet.nd rfl (Or.inl rfl) (c_opO c_Residue_and T.sf_Residue tk hr (by decide) (pv 1) (pv 2)))))
      (pss_one (ps_ret (pv 1))))), ?_⟩
  simp only [cxK, st_Residue_meet]
  have M : Mem H [] H [] [] := mem_start (by simp) (by simp) (by simp)
  have hs1 : ∀ i, ∀ r ∈ rs.take i, 1 ≤ r.2 := fun i r hr => (hsz r (List.mem_of_mem_take hr)).1
  walk_at "go"
  refine use_every M fun c0 dx0 H0 M0 => ?_
  walk_at "go"
  refine tup_loop (xs := xs) ⟨fun i σ' H' => ∃ (c dx : Addr) (z : Int) (l' : List (Addr × HO)) (v : Option V), σ' = [some (.ref p), some (.ref c), v] ∧ Mem H [] H' [] ((c, .ins C dx (resF z (lf (rs.take i)))) :: l') ∧ Okr (rs.take i) z ∧ allok rs i, ?_, ?_, ?_, ?_⟩
  · exact ⟨c0, dx0, 0, [], _, rfl, M0, ⟨by omega, by show (0 : Int) < 1; omega, fun r hr => (nomatch hr)⟩, fun j q hj => by omega⟩
  · rintro i σ' H' _ ⟨_, _, _, _, _, _, M', _, _⟩
    exact SqT.of (Same.of_keep M' _ _ hp)
  · rintro i x σ' H' hi ⟨c, dx, z, l', v, rfl, M', okz, hal⟩
    obtain ⟨r, a, hr, rfl, dy, ha⟩ := hx.get hi
    have hil := (List.getElem?_eq_some_iff.mp hi).1
    have hrl := hx.1
    have hrs := hsz r (List.mem_of_getElem? hr)
    have hlp := lf_pos (hs1 i)
    have hlt := lf_le (rs := rs.take i) fun r hr => hsz r (List.mem_of_mem_take hr)
    have hpw := pow_le (n := (rs.take i).length) (by rw [List.length_take]; omega)
    have ha' := Same.of_keep M' _ _ ha
    have hz0 := okz.z0
    have hz1 := okz.zl
    have hm0 := Int.emod_nonneg r.1 (show r.2 ≠ 0 by omega)
    have hm1 := Int.emod_lt_of_pos r.1 (show 0 < r.2 by omega)
    have hbd : 1 ≤ lf (rs.take i) ∧ lf (rs.take i) < 2 ^ 62 ∧ 1 ≤ r.2 ∧ r.2 < 2 ^ 62 ∧ 0 ≤ z ∧ z < lf (rs.take i) ∧ 0 ≤ r.1 % r.2 ∧ r.1 % r.2 < r.2 := ⟨hlp, by omega, by omega, by omega, hz0, hz1, hm0, hm1⟩
    have hci := compat_iff (hs1 i) (r := r) (by omega) okz
    walk_at "go"
    by_cases hc : compat (rs.take i) r
    · refine use_and M' (M'.getL List.mem_cons_self) ha' hbd (hci.mp hc) fun y x2 dz H2 hb M2 => ?_
      walk_at "go"
      refine ⟨x2, dz, y, _, _, rfl, by rw [lf_take hr]; exact M2, ?_, ?_⟩
      · rw [List.take_add_one, hr]; exact ok_next (hs1 i) okz hb
      · intro j q hj hq
        by_cases e : j = i
        · subst e
          rw [hr] at hq
          cases hq
          exact hc
        · exact hal j q (by omega) hq
    · refine use_andE M' (M'.getL List.mem_cons_self) ha' hbd (fun z => hc (hci.mpr z)) fun d H2 M2 => ?_
      exact ho.2 i r hr hal hc d H2 (M2.new _ List.mem_cons_self) (Same.of_keep M2) (M2.getL List.mem_cons_self)
  · rintro σ' H' ⟨c, dx, z, l', v, rfl, M', okz, hal⟩
    have hrl := hx.1
    rw [hrl, List.take_length] at okz M'
    rw [hrl] at hal
    walk_at "go"
    exact ho.1 hal z c dx H' okz (M'.new _ List.mem_cons_self) (Same.of_keep M') (M'.getL List.mem_cons_self)
end
end K01

set_option Elab.async false
set_option linter.all false
set_option maxRecDepth 100000
set_option maxHeartbeats 8000000
namespace K01
open PySem L2 MyL
local macro_rules | `(tactic| walk_at "mem") => `(tactic| first | exact List.mem_cons_self | (refine List.mem_cons_of_mem _ ?_; walk_at "mem"))
local macro_rules | `(tactic| walk_at "hp") => `(tactic| first | assumption | (refine' Mem.getL ?k1 ?k2; (case k1 => assumption); (case k2 => walk_at "mem")) | (refine' Mem.getF ?k1 ?k2; (case k1 => assumption); (case k2 => walk_at "mem")) | (refine' Mem.atB ?k1 ?k2; (case k1 => assumption); (case k2 => assumption)))
local macro_rules | `(tactic| walk_at "cond") => `(tactic| first | omega | assumption | exact mulR (by omega) (by omega) | exact mulL (by omega) (by omega) | exact divW (by omega) (by omega) | decide)
local macro_rules | `(tactic| walk_at "look") => `(tactic| first | assumption | with_unfolding_all rfl | exact atI_map (by omega) (by omega))
local macro_rules | `(tactic| walk_at "go1") => `(tactic| with_reducible first
  | refine k_seq ?_ | refine k_gName ?_ | refine k_asg ?_ | refine k_ret ?_ | refine k_ifS ?_ | refine k_drop ?_ | refine k_next ?_ | refine k_break ?_ | refine k_cont ?_ | refine k_retN ?_
  | (refine' k_var ?k1 ?_; (case k1 => with_unfolding_all rfl)) | refine k_c ?_ | refine k_op ?_ | refine k_un ?_ | refine k_test ?_ | refine k_B ?_ | refine k_bl ?_ | refine k_and ?_ | refine k_or ?_ | refine k_not ?_
  | refine k_andV ?_ | refine k_orV ?_ | refine k_notV ?_ | refine k_ifE ?_ | refine k_nil ?_ | refine k_cons ?_ | refine k_cb ?_ | refine k_callS ?_ | refine k_lst0 ?_ | refine k_tup0 ?_ | refine k_fld0 ?_ | refine k_sub0 ?_ | refine k_make0 ?_ | refine k_prop0 ?_ | refine k_sta0 ?_ | refine k_sta ?_ | refine k_bm ?_ | refine k_bm0 ?_ | refine k_chain ?_ | refine k_makeK0 ?_ | refine k_swapK ?_ | refine k_meth0 ?_ | refine k_ownN0 ?_ | refine k_ownO0 ?_ | refine k_sfld0 ?_ | refine k_jnil ?_ | refine k_jcons ?_ | refine k_fmt0 ?_ | refine k_sl0 ?_ | refine k_nopart ?_ | refine k_part ?_ | refine k_forR1 ?_ | refine k_forR2 ?_ | refine k_forL ?_ | refine k_forT ?_ | refine k_lcR1 ?_ | refine k_lcR2 ?_ | refine k_lcL ?_ | refine k_lcT ?_ | refine k_err0 ?_ | refine k_xf0 ?_ | refine k_errQ1 ?_ | refine k_errQ0 ?_ | refine k_errQ2 ?_ | refine k_errQ3 ?_
  | refine k_I0 ?_ | (refine k_I ?k1 ?_; (case k1 => walk_at "cond")) | refine k_U ?_ | refine k_eqI ?_ | refine k_neI ?_ | refine k_eqB ?_ | refine k_neB ?_ | refine k_eqS ?_ | refine k_neS ?_
  | refine k_int1 ?_ | refine k_abs1 ?_ | refine k_min2 ?_ | refine k_max2 ?_
  | (refine' k_lenM ?k1 ?_; (case k1 => walk_at "hp")) | (refine' k_lenL ?k1 ?_; (case k1 => walk_at "hp")) | (refine' k_lenT ?k1 ?_; (case k1 => walk_at "hp"))
  | (refine' k_lenS ?k1 ?_; (case k1 => assumption)) | (refine' k_ixS ?k1 ?k2 ?_; (case k1 => assumption); (case k2 => walk_at "look"))
  | (refine' k_ixL ?k1 ?k2 ?_; (case k1 => walk_at "hp"); (case k2 => walk_at "look")) | (refine' k_ixT ?k1 ?k2 ?_; (case k1 => walk_at "hp"); (case k2 => walk_at "look"))
  | (refine' k_ix4 ?k1 ?k2 ?k3 ?_; (case k1 => walk_at "hp"); (case k2 => omega); (case k3 => omega); intro n' hn')
  | (refine' k_ix3 ?k1 ?k2 ?k3 ?_; (case k1 => walk_at "hp"); (case k2 => omega); (case k3 => omega); intro n' hn')
  | (refine' k_ix2 ?k1 ?k2 ?k3 ?_; (case k1 => walk_at "hp"); (case k2 => omega); (case k3 => omega); intro n' hn')
  | (refine' k_fld ?k1 ?k2 ?k3 ?k4 ?_; (case k1 => walk_at "hp"); (case k2 => assumption); (case k3 => assumption); (case k4 => walk_at "fld"))
  | (refine' k_lst ?k1 ?k2 ?_; (case k1 => assumption); (case k2 => exact sz (by simp)); intro p' H' M')
  | (refine' k_tup ?k1 ?k2 ?_; (case k1 => assumption); (case k2 => exact sz (by simp)); intro p' H' M')
  | (refine' k_setF0 ?k1 ?k2 ?k3 ?_; (case k1 => assumption); (case k2 => simp); (case k3 => with_unfolding_all rfl); intro H' M'; try simp only [Int.reduceToNat, List.set_cons_succ, List.set_cons_zero] at M')
  | (refine' k_setL0 ?k1 ?k2 ?_; (case k1 => assumption); (case k2 => with_unfolding_all rfl); intro H' M'; try simp only [Int.reduceToNat, List.set_cons_succ, List.set_cons_zero] at M')
  | (refine' k_setL1 ?k1 ?k2 ?_; (case k1 => assumption); (case k2 => with_unfolding_all rfl); intro H' M'; try simp only [Int.reduceToNat, List.set_cons_succ, List.set_cons_zero] at M')
  | (refine' k_setL2 ?k1 ?k2 ?_; (case k1 => assumption); (case k2 => with_unfolding_all rfl); intro H' M'; try simp only [Int.reduceToNat, List.set_cons_succ, List.set_cons_zero] at M')
  | refine iteT ?_ | refine iteF ?_ | refine k_iteNE ?_ | refine k_iteNS ?_ | refine k_iteNT ?_ | refine k_iteNF ?_
  | (refine k_iteD ?_ ?_ <;> intro hc <;> first | (exfalso; omega) | skip)
  | (refine k_iteN ?_ ?_ <;> intro hc <;> first | (exfalso; omega) | skip)
  | (refine' k_ownN ?k1 ?_; (case k1 => walk_at "hp")) | (refine' k_ownO ?k1 ?k2 ?_; (case k1 => walk_at "hp"); (case k2 => walk_at "hp")) | (refine' k_ownEq ?k1 ?k2 ?_; (case k1 => walk_at "hp"); (case k2 => walk_at "hp"))
  | (refine' k_ownIn ?k1 ?_; (case k1 => walk_at "hp")) | (refine' k_ownU ?k1 ?_; (case k1 => walk_at "hp")) | (refine' k_ownStr ?k1 ?_; (case k1 => walk_at "hp"))
  | (refine' k_prop ?k1 ?_; (case k1 => walk_at "hp")) | (refine' k_ownNe ?k1 ?k2 ?_; (case k1 => walk_at "hp"); (case k2 => walk_at "hp")) | (refine' k_eqP ?k1 ?k2 ?_; (case k1 => walk_at "hp"); (case k2 => walk_at "hp")) | (refine' k_neP ?k1 ?k2 ?_; (case k1 => walk_at "hp"); (case k2 => walk_at "hp"))
  | (refine' k_isiO ?k1 ?k2 ?k3 ?k4 ?k5 ?k6 ?_; (case k1 => walk_at "hp"); (case k2 => assumption); (case k3 => assumption); (case k4 => assumption); (case k5 => assumption); (case k6 => assumption))
  | (refine' k_isiI ?k1 ?_; (case k1 => assumption))
  | (refine' k_jst ?k1 ?_; (case k1 => walk_at "size")) | (refine' k_fmtI ?k1 ?_; (case k1 => exact log2_64 (by omega) (by omega))) | (refine' k_strI ?k1 ?_; (case k1 => exact log2_64 (by omega) (by omega)))
  | (refine k_addS ?k1 ?_; (case k1 => walk_at "size")) | refine k_st ?_ | refine k_parti ?_
  | (refine' k_cat ?k1 ?k2 ?k3 ?k4 ?_; (case k1 => assumption); (case k2 => walk_at "hp"); (case k3 => walk_at "hp"); (case k4 => walk_at "size"); intro p' H' M')
  | (refine' k_slL ?k1 ?k2 ?_; (case k1 => assumption); (case k2 => first | assumption | exact SqL.of (by walk_at "hp")); intro p' H' M')
  | (refine k_rng1 ?k1 ?k2 ?_; (case k1 => omega); (case k2 => omega)) | (refine k_rng2 ?k1 ?k2 ?k3 ?k4 ?_; (case k1 => omega); (case k2 => omega); (case k3 => omega); (case k4 => omega))
  | (refine' k_lstAt ?k1 ?_; (case k1 => first | assumption | exact SqL.of (by walk_at "hp"))) | (refine' k_tupAt ?k1 ?_; (case k1 => first | assumption | exact SqT.of (by walk_at "hp")))
  | (refine' k_isXs ?k1 ?k2 ?_; (case k1 => assumption); (case k2 => walk_at "hp")) | (refine' k_isXo ?k1 ?k2 ?k3 ?_; (case k1 => assumption); (case k2 => walk_at "hp"); (case k3 => assumption)) | (refine' k_isXt ?k1 ?k2 ?k3 ?_; (case k1 => assumption); (case k2 => walk_at "hp"); (case k3 => assumption))
  | (refine' k_isX3 ?k1 ?k2 ?k3 ?k4 ?_; (case k1 => assumption); (case k2 => walk_at "hp"); (case k3 => walk_at "hp"); (case k4 => assumption)) | (refine' k_isX2 ?k1 ?k2 ?k3 ?k4 ?_; (case k1 => assumption); (case k2 => walk_at "hp"); (case k3 => walk_at "hp"); (case k4 => assumption))
  | (refine' k_tyL ?k1 ?_; (case k1 => walk_at "hp"))
  | (refine' k_appL0 ?k1 ?k2 ?_; (case k1 => assumption); (case k2 => walk_at "size"); intro H' M') | (refine' k_appL1 ?k1 ?k2 ?_; (case k1 => assumption); (case k2 => walk_at "size"); intro H' M') | (refine' k_appL2 ?k1 ?k2 ?_; (case k1 => assumption); (case k2 => walk_at "size"); intro H' M') | (refine' k_appL3 ?k1 ?k2 ?_; (case k1 => assumption); (case k2 => walk_at "size"); intro H' M')
  | (refine' k_revL0 ?k1 ?_; (case k1 => assumption); intro H' M') | (refine' k_revL1 ?k1 ?_; (case k1 => assumption); intro H' M')
  | (refine' k_isX0s ?k1 ?_; (case k1 => assumption)) | (refine' k_isX0o ?k1 ?k2 ?_; (case k1 => assumption); (case k2 => assumption)) | (refine' k_isX0t ?k1 ?k2 ?_; (case k1 => assumption); (case k2 => assumption)) | (refine' k_isX04 ?k1 ?k2 ?k3 ?_; (case k1 => assumption); (case k2 => walk_at "hp"); (case k3 => assumption))
  | (refine' k_isX4 ?k1 ?k2 ?k3 ?k4 ?_; (case k1 => assumption); (case k2 => walk_at "hp"); (case k3 => walk_at "hp"); (case k4 => assumption)) | (refine' k_ixT2 ?k1 ?k2 ?k3 ?_; (case k1 => walk_at "hp"); (case k2 => omega); (case k3 => omega); intro n' hn')
  | (refine k_iteNEq ?k1 ?_; (case k1 => (rw [Bool.eq_iff_iff]; first | (simp; done) | (simp; omega))))
  | (refine' k_xf ?k1 ?k2 ?_; (case k1 => walk_at "hp"); (case k2 => first | exact xd1 | exact xdH | exact xd2 (by decide +kernel)))
  | (refine' k_caught ?k1 ?_; (case k1 => assumption); intro a' ha')
  | refine k_asgT ?_ | refine k_gCons ?_ | refine k_gNil ?_ | refine k_par ?_ | refine k_two ?_ | refine k_isNn ?_ | refine k_isNi ?_ | refine k_notNn ?_ | refine k_notNi ?_ | refine k_isN ?_ | refine k_notN ?_
  | (refine' k_gTup ?k1 ?k2 ?_; (case k1 => walk_at "hp"); (case k2 => with_unfolding_all rfl))
  | (refine' k_isiT ?k1 ?k2 ?_; (case k1 => walk_at "hp"); (case k2 => assumption)) | (refine' k_isiL ?k1 ?k2 ?_; (case k1 => walk_at "hp"); (case k2 => assumption))
  | (refine' k_ixQ ?k1 ?k2 ?_; (case k1 => assumption); (case k2 => walk_at "look")) | (refine' k_lenQ ?k1 ?_; (case k1 => assumption))
  | (refine' k_xfB ?k1 ?k2 ?_; (case k1 => walk_at "hp"); (case k2 => first | exact xd1 | exact xdH | exact xd2 (by decide +kernel)))
  | (refine' k_all ?k1 ?_; (case k1 => walk_at "hp"))
  | (refine' k_tupleOf ?k1 ?k2 ?_; (case k1 => assumption); (case k2 => exact SqL.of (by walk_at "hp")); intro p' H' M')
  | (refine' k_listOf ?k1 ?k2 ?_; (case k1 => assumption); (case k2 => exact Or.inl (SqL.of (by walk_at "hp"))); intro p' H' M')
  | walk_at "use")
local macro_rules | `(tactic| walk_at "go") => `(tactic| repeat' (walk_at "go1"))

local macro_rules | `(tactic| walk_at "eq") => `(tactic| first | rfl | assumption | omega)
local macro_rules | `(tactic| walk_at "fld") => `(tactic| first | exact resF_place _ _ | exact resF_length _ _)
local macro_rules | `(tactic| walk_at "size") => `(tactic| first | exact sz (by first | omega | (simp only [List.length_map, List.length_range, List.length_append, List.length_cons, List.length_nil, Int.reduceSub, Int.reduceToNat, Int.reduceNeg]; omega)) | (exact Nat.lt_of_le_of_lt (m := 50000) (by first | omega | (simp only [List.length_map, List.length_range, List.length_append, List.length_cons, List.length_nil]; omega)) (by decide)))
section
variable {P : Program} {w : World} {K : PySem.W.Frag} {mg : Str → Option Value} {base : Heap} {C CO fO CD fD CA CU CT CI : Addr}
theorem _root_.MyL.Mem.atB0 {B H : Hp} {f l : List (Addr × HO)} {a : Addr} {o : HO} (M : Mem B [] H f l) (h : B a = some o) : H a = some o := M.keep a o h (by simp)
theorem gI_mod {x y : Int} (hx : 0 ≤ x) (hy : 0 < y) : gI y (x % y) = gI x y := by
  unfold gI
  rw [Int.toNat_emod hx (by omega), Nat.gcd_comm, ← Nat.gcd_rec, Nat.gcd_comm]
theorem gI_zero {x : Int} (hx : 0 ≤ x) : gI x 0 = x := by
  unfold gI
  show ((Nat.gcd x.toNat 0 : Nat) : Int) = x
  rw [Nat.gcd_zero_right]; omega
def sp_gcd : Sp := fun vs H Q _ => ∃ a b : Int, vs = [.int a, .int b] ∧ 0 ≤ a ∧ 0 ≤ b ∧ Q (.int (gI a b)) H
theorem ok_gcd {f : Addr} {fd : FuncData} (F : Fun K "_law_gcd" "_law_gcd" s__law_gcd f fd) (T : Txt P K mg C CO fO CD fD CA CU CT CI)  :
    FnOk P w K mg base (L2.CX P w) (0 + 1) f fd ["_law_first", "_law_second"] sp_gcd := by
  refine okT F sc__law_gcd (fun vs H Q E h => ?_) (fun cdv A outer s H vs Q E hr tk h => ?_)
  · obtain ⟨a, b, rfl, _⟩ := h
    rfl
  obtain ⟨a, b, rfl, ha, hb, k⟩ := h
  have f1 := T.i1; have f2 := T.i2; have f6 := T.cl; have f7 := T.nP; have f8 := T.nL; have f9 := T.ca; have f10 := T.cn; have f11 := T.ct; have f12 := T.cm; have f13 := T.ek; have f14 := T.exm; have f15 := T.k1; have f16 := T.k2
  refine ⟨_, (pss_cons (ps_while (passes_of rfl) (pt_cmpR op_ne (pv 1) pe_int (nomark _)) (pss_cons (ps_set (i := 2) sc__law_gcd.nd rfl (Or.inl rfl) (pe_op op_mod (pe_callTy b_int (by rfl) T.b_int (by decide +kernel) (pa_cons (pv 0) pa_nil)) (pv 1)))
      (pss_cons (ps_set (i := 0) sc__law_gcd.nd rfl (Or.inl rfl) (pv 1))
      (pss_one (ps_set (i := 1) sc__law_gcd.nd rfl (Or.inl rfl) (pv 2))))))
      (pss_one (ps_ret (pv 0)))), ?_⟩
  simp only [cxK, st__law_gcd]
  walk_at "go"
  refine k_while (fun σ' H' => ∃ (x y : Int) (r : Option V), σ' = [some (.int x), some (.int y), r] ∧ H' = H ∧ 0 ≤ x ∧ 0 ≤ y ∧ gI x y = gI a b) (fun σ' H' => match σ' with | _ :: some (.int y) :: _ => y.toNat | _ => 0) ⟨_, _, _, rfl, rfl, ha, hb, rfl⟩ ?_
  rintro σ' H' ⟨x, y, r, rfl, rfl, hx, hy, hg⟩
  walk_at "go"
  · refine k_turn ?_
    walk_at "go"
    have h1 := Int.emod_nonneg x (show y ≠ 0 by omega)
    have h2 := Int.emod_lt_of_pos x (show 0 < y by omega)
    exact ⟨⟨_, _, _, rfl, rfl, hy, h1, by rw [gI_mod hx (by omega)]; exact hg⟩, by show (x % y).toNat < y.toNat; omega⟩
  · rename_i hc
    rw [← hg, hc, gI_zero hx] at k
    exact k
theorem use_gcd {H : Hp} {Q : VK} {E : XK} {a b : Int} (ha : 0 ≤ a) (hb : 0 ≤ b) (q : Q (.int (gI a b)) H) : sp_gcd [.int a, .int b] H Q E := ⟨a, b, rfl, ha, hb, q⟩
local macro_rules | `(tactic| walk_at "use") => `(tactic| first
  | refine use_isn ?_
  | (refine' use_gcd ?k1 ?k2 ?_; (case k1 => omega); (case k2 => omega)))
def sp_lcm : Sp := fun vs H Q _ => ∃ a b : Int, vs = [.int a, .int b] ∧ 1 ≤ a ∧ 1 ≤ b ∧ b < 2 ^ 62 ∧ Q (.int (lI a b)) H
theorem ok_lcm {f : Addr} {fd : FuncData} (F : Fun K "_law_lcm" "_law_lcm" s__law_lcm f fd) (T : Txt P K mg C CO fO CD fD CA CU CT CI) (c__law_gcd : Cal P w K mg base 1 "_law_gcd" sp_gcd) :
    FnOk P w K mg base (L2.CX P w) (1 + 1) f fd ["_law_first", "_law_second"] sp_lcm := by
  refine okT F sc__law_lcm (fun vs H Q E h => ?_) (fun cdv A outer s H vs Q E hr tk h => ?_)
  · obtain ⟨a, b, rfl, _⟩ := h
    rfl
  obtain ⟨a, b, rfl, ha, hb, hb2, k⟩ := h
  have f1 := T.i1; have f2 := T.i2; have f6 := T.cl; have f7 := T.nP; have f8 := T.nL; have f9 := T.ca; have f10 := T.cn; have f11 := T.ct; have f12 := T.cm; have f13 := T.ek; have f14 := T.exm; have f15 := T.k1; have f16 := T.k2
  refine ⟨_, (pss_one (ps_ret (pe_op op_mulU (pv 0) (pe_op op_fdivW (pv 1) (c_call c__law_gcd tk hr (by decide) (pa_cons (pv 0) (pa_cons (pv 1) pa_nil))))))), ?_⟩
  simp only [cxK, st__law_lcm]
  have hg1 := gI_pos (b := b) ha
  have hg2 := gI_le (a := a) hb
  have h0 : 0 ≤ b / gI a b := Int.ediv_nonneg (by omega) (by omega)
  have h1 : b / gI a b ≤ b := Int.ediv_le_self _ (by omega)
  walk_at "go"
  exact k
theorem use_lcm {H : Hp} {Q : VK} {E : XK} {a b : Int} (ha : 1 ≤ a) (hb : 1 ≤ b) (hb2 : b < 2 ^ 62) (q : Q (.int (lI a b)) H) : sp_lcm [.int a, .int b] H Q E := ⟨a, b, rfl, ha, hb, hb2, q⟩
def sp_apart : Sp := fun vs H Q _ => ∃ (p q : Addr) (r s : Pr), vs = [.ref p, .ref q] ∧ H p = some (prO r) ∧ H q = some (prO s) ∧ 1 ≤ r.2 ∧ 1 ≤ s.2 ∧ Q (.bl (!decide ((r.1 - s.1) % gI r.2 s.2 = 0))) H
theorem ok_apart {f : Addr} {fd : FuncData} (F : Fun K "_law_apart" "_law_apart" s__law_apart f fd) (T : Txt P K mg C CO fO CD fD CA CU CT CI) (c__law_gcd : Cal P w K mg base 1 "_law_gcd" sp_gcd) :
    FnOk P w K mg base (L2.CX P w) (1 + 1) f fd ["_law_one", "_law_other"] sp_apart := by
  refine okT F sc__law_apart (fun vs H Q E h => ?_) (fun cdv A outer s H vs Q E hr tk h => ?_)
  · obtain ⟨p, q, r, s, rfl, _⟩ := h
    rfl
  obtain ⟨p, q, r, s, rfl, h1, h2, hr1, hs1, k⟩ := h
  have f1 := T.i1; have f2 := T.i2; have f6 := T.cl; have f7 := T.nP; have f8 := T.nL; have f9 := T.ca; have f10 := T.cn; have f11 := T.ct; have f12 := T.cm; have f13 := T.ek; have f14 := T.exm; have f15 := T.k1; have f16 := T.k2
  refine ⟨_, (pss_one (ps_ret (pe_cmpR op_ne (pe_op op_mod (pe_callTy b_int (by rfl) T.b_int (by decide +kernel) (pa_cons (pe_op op_sub (pe_ix ix_tup (pv 0) pe_int (fun _ _ => rfl)) (pe_ix ix_tup (pv 1) pe_int (fun _ _ => rfl))) pa_nil)) (c_call c__law_gcd tk hr (by decide) (pa_cons (pe_ix ix_tup (pv 0) pe_int (fun _ _ => rfl)) (pa_cons (pe_ix ix_tup (pv 1) pe_int (fun _ _ => rfl)) pa_nil)))) pe_int (nomark _)))), ?_⟩
  simp only [cxK, st__law_apart]
  have hg1 := gI_pos (b := s.2) hr1
  walk_at "go"
  exact k
theorem use_apart {H : Hp} {Q : VK} {E : XK} {p q : Addr} {r s : Pr} (h1 : H p = some (prO r)) (h2 : H q = some (prO s)) (hr : 1 ≤ r.2) (hs : 1 ≤ s.2) (k : Q (.bl (!decide ((r.1 - s.1) % gI r.2 s.2 = 0))) H) : sp_apart [.ref p, .ref q] H Q E := ⟨p, q, r, s, rfl, h1, h2, hr, hs, k⟩
def sp_is (C : Addr) : Sp := fun vs H Q _ => ∃ (a dx : Addr) (s n : Int), vs = [.ref a, .int s, .int n] ∧ H a = some (.ins C dx (resF (s % n) n)) ∧ 1 ≤ n ∧ Q (.bl true) H
theorem ok_is {f : Addr} {fd : FuncData} (F : Fun K "_law_is" "_law_is" s__law_is f fd) (T : Txt P K mg C CO fO CD fD CA CU CT CI) (c__law_is_number : Cal P w K mg base 1 "_law_is_number" sp_isn) :
    FnOk P w K mg base (L2.CX P w) (1 + 1) f fd ["_law_residue", "_law_spot", "_law_size"] (sp_is C) := by
  refine okT F sc__law_is (fun vs H Q E h => ?_) (fun cdv A outer s H vs Q E hr tk h => ?_)
  · obtain ⟨a, dx, s, n, rfl, _⟩ := h
    rfl
  obtain ⟨a, dx, s, n, rfl, h1, hn, k⟩ := h
  have f1 := T.i1; have f2 := T.i2; have f6 := T.cl; have f7 := T.nP; have f8 := T.nL; have f9 := T.ca; have f10 := T.cn; have f11 := T.ct; have f12 := T.cm; have f13 := T.ek; have f14 := T.exm; have f15 := T.k1; have f16 := T.k2
  refine ⟨_, (pss_cons (ps_if (pt_not (pt_val (pe_callB call_isi (by rfl) T.b_isinstance (by decide +kernel) (pa_cons (pv 0) (pa_cons (g_ref T.g_Residue) pa_nil))))) (pss_one (ps_ret pe_bl)) pss_nil)
      (pss_cons (ps_if (PW.pt (pw_or (pt_not (pt_val (c_call c__law_is_number tk hr (by decide) (pa_cons (pe_fld (pv 0) rfl) pa_nil)))) (pw_or1 (pt_not (pt_val (c_call c__law_is_number tk hr (by decide) (pa_cons (pe_fld (pv 0) rfl) pa_nil))))))) (pss_one (ps_ret pe_bl)) pss_nil)
      (pss_one (ps_ret (pe_and (pe_cmpR op_eq (pe_fld (pv 0) rfl) (pe_op op_mod (pe_callTy b_int (by rfl) T.b_int (by decide +kernel) (pa_cons (pv 1) pa_nil)) (pv 2)) (nomark _)) (pe_one (pe_cmpR op_eq (pe_fld (pv 0) rfl) (pv 2) (nomark _)))))))), ?_⟩
  simp only [cxK, st__law_is]
  walk_at "go"
  rw [decide_eq_true rfl]
  exact k
theorem use_is {H : Hp} {Q : VK} {E : XK} {a dx : Addr} {s n : Int} (h1 : H a = some (.ins C dx (resF (s % n) n))) (hn : 1 ≤ n) (k : Q (.bl true) H) : sp_is C [.ref a, .int s, .int n] H Q E := ⟨a, dx, s, n, rfl, h1, hn, k⟩
local macro_rules | `(tactic| walk_at "use") => `(tactic| first
  | refine use_isn ?_
  | (refine' use_gcd ?k1 ?k2 ?_; (case k1 => omega); (case k2 => omega))
  | (refine' use_lcm ?k1 ?k2 ?k3 ?_; (case k1 => omega); (case k2 => omega); (case k3 => omega)))
def sp_holds (C : Addr) : Sp := fun vs H Q _ => ∃ (a dx l : Addr) (z : Int) (xs : List V) (rs : List Pr), vs = [.ref a, .ref l] ∧ H a = some (.ins C dx (resF z (lf rs))) ∧ H l = some (.lst xs) ∧ Prs H xs rs ∧ Okr rs z ∧ (∀ r ∈ rs, 1 ≤ r.2 ∧ r.2 < 2 ^ 62) ∧ Q (.bl true) H
theorem ok_holds {f : Addr} {fd : FuncData} (F : Fun K "_law_holds" "_law_holds" s__law_holds f fd) (T : Txt P K mg C CO fO CD fD CA CU CT CI) (c__law_is_number : Cal P w K mg base 1 "_law_is_number" sp_isn) (c__law_lcm : Cal P w K mg base 2 "_law_lcm" sp_lcm) :
    FnOk P w K mg base (L2.CX P w) (2 + 1) f fd ["_law_residue", "_law_pool_here"] (sp_holds C) := by
  refine okT F sc__law_holds (fun vs H Q E h => ?_) (fun cdv A outer s H vs Q E hr tk h => ?_)
  · obtain ⟨a, dx, l, z, xs, rs, rfl, _⟩ := h
    rfl
  obtain ⟨a, dx, l, z, xs, rs, rfl, h1, h2, p1, ok, hsz, k⟩ := h
  have f1 := T.i1; have f2 := T.i2; have f6 := T.cl; have f7 := T.nP; have f8 := T.nL; have f9 := T.ca; have f10 := T.cn; have f11 := T.ct; have f12 := T.cm; have f13 := T.ek; have f14 := T.exm; have f15 := T.k1; have f16 := T.k2
  refine ⟨_, (pss_cons (ps_if (pt_not (pt_val (pe_callB call_isi (by rfl) T.b_isinstance (by decide +kernel) (pa_cons (pv 0) (pa_cons (g_ref T.g_Residue) pa_nil))))) (pss_one (ps_ret pe_bl)) pss_nil)
      (pss_cons (ps_if (PW.pt (pw_or (pt_not (pt_val (c_call c__law_is_number tk hr (by decide) (pa_cons (pe_fld (pv 0) rfl) pa_nil)))) (pw_or1 (pt_not (pt_val (c_call c__law_is_number tk hr (by decide) (pa_cons (pe_fld (pv 0) rfl) pa_nil))))))) (pss_one (ps_ret pe_bl)) pss_nil)
      (pss_cons (ps_set (i := 2) sc__law_holds.nd rfl (Or.inl rfl) pe_int)
      (pss_cons (ps_for (passes_of rfl) rfl (pi_list (pv 1)) (pg_name (i := 3) sc__law_holds.nd rfl (Or.inl rfl)) (pss_cons (ps_set (i := 2) sc__law_holds.nd rfl (Or.inl rfl) (c_call c__law_lcm tk hr (by decide) (pa_cons (pv 2) (pa_cons (pe_ix ix_tup (pv 3) pe_int (fun _ _ => rfl)) pa_nil))))
      (pss_one (ps_if (pt_cmpR op_ne (pe_op op_mod (pe_callTy b_int (by rfl) T.b_int (by decide +kernel) (pa_cons (pe_op op_sub (pe_fld (pv 0) rfl) (pe_ix ix_tup (pv 3) pe_int (fun _ _ => rfl))) pa_nil)) (pe_ix ix_tup (pv 3) pe_int (fun _ _ => rfl))) pe_int (nomark _)) (pss_one (ps_ret pe_bl)) pss_nil))))
      (pss_one (ps_ret (pe_and (pe_cmpR op_eq (pe_fld (pv 0) rfl) (pv 2) (nomark _)) (pe_one (pe_chain op_le op_lt pe_int (pe_fld (pv 0) rfl) (pv 2)))))))))), ?_⟩
  simp only [cxK, st__law_holds]
  walk_at "go"
  refine lst_loop (xs := xs) ⟨fun i σ' H' => ∃ v : Option V, σ' = [some (.ref a), some (.ref l), some (.int (lf (rs.take i))), v] ∧ H' = H, ?_, ?_, ?_, ?_⟩
  · exact ⟨_, rfl, rfl⟩
  · rintro i σ' H' _ ⟨_, _, rfl⟩
    exact SqL.of h2
  · rintro i x σ' H' hi ⟨v, rfl, rfl⟩
    obtain ⟨r, p, hr, rfl, hp⟩ := p1.get hi
    have hm := hsz r (List.mem_of_getElem? hr)
    have hl := lf_pos (rs := rs.take i) fun r hr => (hsz r (List.mem_of_mem_take hr)).1
    have hd := Int.emod_eq_zero_of_dvd (ok.d r (List.mem_of_getElem? hr))
    walk_at "go"
    all_goals first
      | (rename_i hc; exact absurd hd hc)
      | exact ⟨_, by rw [lf_take hr]; rfl, rfl⟩
  · rintro σ' H' ⟨v, rfl, rfl⟩
    have hz0 := ok.z0
    have hz1 := ok.zl
    rw [p1.1, List.take_length]
    walk_at "go"
    all_goals first
      | (rename_i hc; exact absurd rfl hc)
      | (rw [decide_eq_true hz1]; exact k)
theorem use_holds {H : Hp} {Q : VK} {E : XK} {a dx l : Addr} {z : Int} {xs : List V} {rs : List Pr} (h1 : H a = some (.ins C dx (resF z (lf rs)))) (h2 : H l = some (.lst xs)) (p : Prs H xs rs) (ok : Okr rs z) (hs : ∀ r ∈ rs, 1 ≤ r.2 ∧ r.2 < 2 ^ 62) (k : Q (.bl true) H) : sp_holds C [.ref a, .ref l] H Q E := ⟨a, dx, l, z, xs, rs, rfl, h1, h2, p, ok, hs, k⟩
abbrev told1 (x : Addr) : HO := .tup [.ref x, .bl true, .int 0]
abbrev told0 (g : Int) : HO := .tup [.non, .bl true, .int g]
def sp_lmeet (C : Addr) : Sp := fun vs H Q _ => ∃ (a dx b dy : Addr) (p n q m : Int), vs = [.ref a, .ref b] ∧ H a = some (.ins C dx (resF p n)) ∧ H b = some (.ins C dy (resF q m)) ∧ (1 ≤ n ∧ n < 2 ^ 62 ∧ 1 ≤ m ∧ m < 2 ^ 62 ∧ 0 ≤ p ∧ p < n ∧ 0 ≤ q ∧ q < m) ∧
  (gI n m ∣ q - p → ∀ z t x dz H', Both p n q m z → Mem H [] H' [] [(t, told1 x), (x, .ins C dz (resF z (lI n m)))] → Q (.ref t) H') ∧
  (¬ gI n m ∣ q - p → ∀ t H', Mem H [] H' [] [(t, told0 (gI n m))] → Q (.ref t) H')
theorem ok_lmeet {f : Addr} {fd : FuncData} (F : Fun K "_law_meet" "_law_meet" s__law_meet f fd) (T : Txt P K mg C CO fO CD fD CA CU CT CI) (c_Residue_and : Spc P w K mg base 3 C "__and__" (sp_and C CD)) :
    FnOk P w K mg base (L2.CX P w) (3 + 1) f fd ["_law_first", "_law_second"] (sp_lmeet C) := by
  refine okT F sc__law_meet (fun vs H Q E h => ?_) (fun cdv A outer s H vs Q E hr tk h => ?_)
  · obtain ⟨a, dx, b, dy, p, n, q, m, rfl, _⟩ := h
    rfl
  obtain ⟨a, dx, b, dy, p, n, q, m, rfl, h1, h2, hb, k1, k2⟩ := h
  have f1 := T.i1; have f2 := T.i2; have f6 := T.cl; have f7 := T.nP; have f8 := T.nL; have f9 := T.ca; have f10 := T.cn; have f11 := T.ct; have f12 := T.cm; have f13 := T.ek; have f14 := T.exm; have f15 := T.k1; have f16 := T.k2
  refine ⟨_, (pss_one (ps_try_as (i := 2) rfl rfl sc__law_meet.nd rfl rfl ⟨rfl, by decide, Or.inl T.g_ImpossibleError⟩ tk
        (fun W1 pn1 xe1 tk1 own1 => (pss_one (ps_ret (pe_tup (pa_cons (c_opO c_Residue_and T.sf_Residue tk1 hr (by decide) (pv 0) (pv 1)) (pa_cons pe_bl (pa_cons pe_int pa_nil)))))))
        (fun a0 oe0 cls0 d0 pn0 hz hf => (pss_cons (ps_if (PW.pt (pw_or (pt_not (pt_val (pe_callB (call_isX hz hf) (by rfl) T.b_isinstance (by decide +kernel) (pa_cons (pv 2) (pa_cons (g_ref T.g_Disjoint) pa_nil))))) (pw_or1 (pt_not (pt_val (pe_callB (call_isX hz hf) (by rfl) T.b_isinstance (by decide +kernel) (pa_cons (pv 2) (pa_cons (g_ref T.g_ArchiveError) pa_nil)))))))) (pss_one (ps_ret (pe_tup (pa_cons pe_non (pa_cons pe_bl (pa_cons pe_int pa_nil)))))) pss_nil)
      (pss_one (ps_ret (pe_tup (pa_cons pe_non (pa_cons (pe_not (pe_callB (call_isXT hz hf) (by rfl) T.b_isinstance (by decide +kernel) (pa_cons (pv 2) (pa_cons (pe_tup (pa_cons (g_ref T.g_UnknownError) (pa_cons (g_ref T.g_TextError) (pa_cons (g_ref T.g_OutOfRange) pa_nil)))) pa_nil)))) (pa_cons (pe_xf T.xf_Disjoint T.nx_Disjoint_divisor hz hf (pv 2)) pa_nil)))))))))), ?_⟩
  simp only [cxK, st__law_meet]
  have M : Mem H [] H [] [] := mem_start (by simp []) (by simp) (by simp)
  by_cases hd : gI n m ∣ q - p
  · walk_at "go"
    refine use_and M h1 h2 hb hd fun z x dz H2 hz M2 => ?_
    walk_at "go"
    rename_i t H3 M3
    exact k1 hd z t x dz H3 hz M3
  · walk_at "go"
    refine use_andE M h1 h2 hb hd fun d H2 M2 => ?_
    walk_at "go"
    rename_i t H3 M3
    exact k2 hd t H3 M3.one
theorem use_lmeet {B H : Hp} {ms : List Addr} {f l : List (Addr × HO)} {Q : VK} {E : XK} {a dx b dy : Addr} {p n q m : Int} (M : Mem B ms H f l) (h1 : H a = some (.ins C dx (resF p n))) (h2 : H b = some (.ins C dy (resF q m))) (hb : 1 ≤ n ∧ n < 2 ^ 62 ∧ 1 ≤ m ∧ m < 2 ^ 62 ∧ 0 ≤ p ∧ p < n ∧ 0 ≤ q ∧ q < m) (hd : gI n m ∣ q - p)
    (k : ∀ z t x dz H', Both p n q m z → Mem B ms H' f ((t, told1 x) :: (x, .ins C dz (resF z (lI n m))) :: l) → Q (.ref t) H') : sp_lmeet C [.ref a, .ref b] H Q E :=
  ⟨a, dx, b, dy, p, n, q, m, rfl, h1, h2, hb, fun _ z t x dz H' hz M2 => k z t x dz H' hz (M.comp0 M2), fun z => absurd hd z⟩
theorem use_lmeetE {B H : Hp} {ms : List Addr} {f l : List (Addr × HO)} {Q : VK} {E : XK} {a dx b dy : Addr} {p n q m : Int} (M : Mem B ms H f l) (h1 : H a = some (.ins C dx (resF p n))) (h2 : H b = some (.ins C dy (resF q m))) (hb : 1 ≤ n ∧ n < 2 ^ 62 ∧ 1 ≤ m ∧ m < 2 ^ 62 ∧ 0 ≤ p ∧ p < n ∧ 0 ≤ q ∧ q < m) (hd : ¬ gI n m ∣ q - p)
    (k : ∀ t H', Mem B ms H' f ((t, told0 (gI n m)) :: l) → Q (.ref t) H') : sp_lmeet C [.ref a, .ref b] H Q E :=
  ⟨a, dx, b, dy, p, n, q, m, rfl, h1, h2, hb, fun z => absurd z hd, fun _ t H' M2 => k t H' (M.comp0 M2)⟩
def sp_isdis : Sp := fun vs H Q _ => ∃ (t : Addr) (g : Int), vs = [.ref t, .int g] ∧ H t = some (told0 g) ∧ Q (.bl true) H
theorem ok_isdis {f : Addr} {fd : FuncData} (F : Fun K "_law_is_disjoint" "_law_is_disjoint" s__law_is_disjoint f fd) (T : Txt P K mg C CO fO CD fD CA CU CT CI) (c__law_is_number : Cal P w K mg base 1 "_law_is_number" sp_isn) :
    FnOk P w K mg base (L2.CX P w) (1 + 1) f fd ["_law_told", "_law_divisor"] sp_isdis := by
  refine okT F sc__law_is_disjoint (fun vs H Q E h => ?_) (fun cdv A outer s H vs Q E hr tk h => ?_)
  · obtain ⟨t, g, rfl, _⟩ := h
    rfl
  obtain ⟨t, g, rfl, h1, k⟩ := h
  have f1 := T.i1; have f2 := T.i2; have f6 := T.cl; have f7 := T.nP; have f8 := T.nL; have f9 := T.ca; have f10 := T.cn; have f11 := T.ct; have f12 := T.cm; have f13 := T.ek; have f14 := T.exm; have f15 := T.k1; have f16 := T.k2
  refine ⟨_, (pss_one (ps_ret (pe_and (pe_cmpR op_isN0 (pe_ix ix_tup (pv 0) pe_int (fun _ _ => rfl)) pe_non (nomark _)) (pe_and (pe_ix ix_tup (pv 0) pe_int (fun _ _ => rfl)) (pe_and (c_call c__law_is_number tk hr (by decide) (pa_cons (pe_ix ix_tup (pv 0) pe_int (fun _ _ => rfl)) pa_nil)) (pe_one (pe_cmpR op_eq (pe_ix ix_tup (pv 0) pe_int (fun _ _ => rfl)) (pv 1) (nomark _)))))))), ?_⟩
  simp only [cxK, st__law_is_disjoint]
  walk_at "go"
  rw [decide_eq_true rfl]
  exact k
theorem use_isdis {H : Hp} {Q : VK} {E : XK} {t : Addr} {g h : Int} (h1 : H t = some (told0 g)) (e : g = h) (k : Q (.bl true) H) : sp_isdis [.ref t, .int h] H Q E := by
  subst e; exact ⟨t, g, rfl, h1, k⟩
theorem len4 {xs : List V} (h : xs.length ≤ 4) : xs = [] ∨ (∃ a, xs = [a]) ∨ (∃ a b, xs = [a, b]) ∨ (∃ a b c, xs = [a, b, c]) ∨ ∃ a b c d, xs = [a, b, c, d] := by
  match xs, h with
  | [], _ => exact .inl rfl
  | [a], _ => exact .inr (.inl ⟨a, rfl⟩)
  | [a, b], _ => exact .inr (.inr (.inl ⟨a, b, rfl⟩))
  | [a, b, c], _ => exact .inr (.inr (.inr (.inl ⟨a, b, c, rfl⟩)))
  | [a, b, c, d], _ => exact .inr (.inr (.inr (.inr ⟨a, b, c, d, rfl⟩)))
  | _ :: _ :: _ :: _ :: _ :: _, h => simp at h
def sp_joined (C CD : Addr) : Sp := fun vs H Q E => ∃ (l : Addr) (xs : List V) (rs : List Pr), vs = [.ref l] ∧ H l = some (.lst xs) ∧ Rss C H xs rs ∧ Sz rs ∧ Outc C CD rs H Q E
theorem ok_joined {f : Addr} {fd : FuncData} (F : Fun K "_law_joined" "_law_joined" s__law_joined f fd) (T : Txt P K mg C CO fO CD fD CA CU CT CI) (c_Residue_meet : StaR P w K mg base 4 C "meet" (sp_meet C CD)) :
    FnOk P w K mg base (L2.CX P w) (4 + 1) f fd ["_law_ones"] (sp_joined C CD) := by
  refine okT F sc__law_joined (fun vs H Q E h => ?_) (fun cdv A outer s H vs Q E hr tk h => ?_)
  · obtain ⟨l, xs, rs, rfl, _⟩ := h
    rfl
  obtain ⟨l, xs, rs, rfl, h1, hx, hz, ho⟩ := h
  have f1 := T.i1; have f2 := T.i2; have f6 := T.cl; have f7 := T.nP; have f8 := T.nL; have f9 := T.ca; have f10 := T.cn; have f11 := T.ct; have f12 := T.cm; have f13 := T.ek; have f14 := T.exm; have f15 := T.k1; have f16 := T.k2
  refine ⟨_, (pss_cons (ps_if (pt_cmpR op_eq (pe_callB b_len (by rfl) T.b_len (by decide +kernel) (pa_cons (pv 0) pa_nil)) pe_int (nomark _)) (pss_one (ps_ret (c_sta0R c_Residue_meet tk hr (by decide) (g_ref T.g_Residue)))) pss_nil)
      (pss_cons (ps_if (pt_cmpR op_eq (pe_callB b_len (by rfl) T.b_len (by decide +kernel) (pa_cons (pv 0) pa_nil)) pe_int (nomark _)) (pss_one (ps_ret (c_staR c_Residue_meet tk hr (by decide) (g_ref T.g_Residue) (pa_cons (pe_ix ix_list (pv 0) pe_int (fun _ _ => rfl)) pa_nil)))) pss_nil)
      (pss_cons (ps_if (pt_cmpR op_eq (pe_callB b_len (by rfl) T.b_len (by decide +kernel) (pa_cons (pv 0) pa_nil)) pe_int (nomark _)) (pss_one (ps_ret (c_staR c_Residue_meet tk hr (by decide) (g_ref T.g_Residue) (pa_cons (pe_ix ix_list (pv 0) pe_int (fun _ _ => rfl)) (pa_cons (pe_ix ix_list (pv 0) pe_int (fun _ _ => rfl)) pa_nil))))) pss_nil)
      (pss_cons (ps_if (pt_cmpR op_eq (pe_callB b_len (by rfl) T.b_len (by decide +kernel) (pa_cons (pv 0) pa_nil)) pe_int (nomark _)) (pss_one (ps_ret (c_staR c_Residue_meet tk hr (by decide) (g_ref T.g_Residue) (pa_cons (pe_ix ix_list (pv 0) pe_int (fun _ _ => rfl)) (pa_cons (pe_ix ix_list (pv 0) pe_int (fun _ _ => rfl)) (pa_cons (pe_ix ix_list (pv 0) pe_int (fun _ _ => rfl)) pa_nil)))))) pss_nil)
      (pss_one (ps_ret (c_staR c_Residue_meet tk hr (by decide) (g_ref T.g_Residue) (pa_cons (pe_ix ix_list (pv 0) pe_int (fun _ _ => rfl)) (pa_cons (pe_ix ix_list (pv 0) pe_int (fun _ _ => rfl)) (pa_cons (pe_ix ix_list (pv 0) pe_int (fun _ _ => rfl)) (pa_cons (pe_ix ix_list (pv 0) pe_int (fun _ _ => rfl)) pa_nil))))))))))), ?_⟩
  simp only [cxK, st__law_joined]
  have hxl := hx.1
  have h4 := hz.1
  rcases len4 (xs := xs) (by omega) with e | ⟨a, e⟩ | ⟨a, b, e⟩ | ⟨a, b, c, e⟩ | ⟨a, b, c, d, e⟩
  · have hlen : xs.length = 0 := by rw [e]; rfl
    walk_at "go"
    exact ⟨rs, by rw [← e]; exact hx, hz, ho⟩
  · have hlen : xs.length = 1 := by rw [e]; rfl
    have hat0 : atI xs 0 = some a := by rw [e]; rfl
    walk_at "go"
    exact ⟨rs, by rw [← e]; exact hx, hz, ho⟩
  · have hlen : xs.length = 2 := by rw [e]; rfl
    have hat0 : atI xs 0 = some a := by rw [e]; rfl
    have hat1 : atI xs 1 = some b := by rw [e]; rfl
    walk_at "go"
    exact ⟨rs, by rw [← e]; exact hx, hz, ho⟩
  · have hlen : xs.length = 3 := by rw [e]; rfl
    have hat0 : atI xs 0 = some a := by rw [e]; rfl
    have hat1 : atI xs 1 = some b := by rw [e]; rfl
    have hat2 : atI xs 2 = some c := by rw [e]; rfl
    walk_at "go"
    exact ⟨rs, by rw [← e]; exact hx, hz, ho⟩
  · have hlen : xs.length = 4 := by rw [e]; rfl
    have hat0 : atI xs 0 = some a := by rw [e]; rfl
    have hat1 : atI xs 1 = some b := by rw [e]; rfl
    have hat2 : atI xs 2 = some c := by rw [e]; rfl
    have hat3 : atI xs 3 = some d := by rw [e]; rfl
    walk_at "go"
    exact ⟨rs, by rw [← e]; exact hx, hz, ho⟩
def sp_lrow (C : Addr) : Sp := fun vs H Q _ => ∃ (l : Addr) (xs : List V) (rs : List Pr), vs = [.ref l] ∧ H l = some (.lst xs) ∧ Rss C H xs rs ∧ Sz rs ∧
  (allok rs rs.length → ∀ z t x dz H', Okr rs z → Mem H [] H' [] [(t, told1 x), (x, .ins C dz (resF z (lf rs)))] → Q (.ref t) H') ∧
  (∀ (k : Nat) (r : Pr), rs[k]? = some r → allok rs k → ¬ compat (rs.take k) r → ∀ t H', Mem H [] H' [] [(t, told0 (gI (lf (rs.take k)) r.2))] → Q (.ref t) H')
theorem ok_lrow {f : Addr} {fd : FuncData} (F : Fun K "_law_row" "_law_row" s__law_row f fd) (T : Txt P K mg C CO fO CD fD CA CU CT CI) (c__law_joined : Cal P w K mg base 5 "_law_joined" (sp_joined C CD)) :
    FnOk P w K mg base (L2.CX P w) (5 + 1) f fd ["_law_ones"] (sp_lrow C) := by
  refine okT F sc__law_row (fun vs H Q E h => ?_) (fun cdv A outer s H vs Q E hr tk h => ?_)
  · obtain ⟨l, xs, rs, rfl, _⟩ := h
    rfl
  obtain ⟨l, xs, rs, rfl, h1, hx, hz, k1, k2⟩ := h
  have f1 := T.i1; have f2 := T.i2; have f6 := T.cl; have f7 := T.nP; have f8 := T.nL; have f9 := T.ca; have f10 := T.cn; have f11 := T.ct; have f12 := T.cm; have f13 := T.ek; have f14 := T.exm; have f15 := T.k1; have f16 := T.k2
  refine ⟨_, (pss_one (ps_try_as (i := 1) rfl rfl sc__law_row.nd rfl rfl ⟨rfl, by decide, Or.inl T.g_ImpossibleError⟩ tk
        (fun W1 pn1 xe1 tk1 own1 => (pss_one (ps_ret (pe_tup (pa_cons (c_call c__law_joined tk1 hr (by decide) (pa_cons (pv 0) pa_nil)) (pa_cons pe_bl (pa_cons pe_int pa_nil)))))))
        (fun a0 oe0 cls0 d0 pn0 hz hf => (pss_cons (ps_if (PW.pt (pw_or (pt_not (pt_val (pe_callB (call_isX hz hf) (by rfl) T.b_isinstance (by decide +kernel) (pa_cons (pv 1) (pa_cons (g_ref T.g_Disjoint) pa_nil))))) (pw_or1 (pt_not (pt_val (pe_callB (call_isX hz hf) (by rfl) T.b_isinstance (by decide +kernel) (pa_cons (pv 1) (pa_cons (g_ref T.g_ArchiveError) pa_nil)))))))) (pss_one (ps_ret (pe_tup (pa_cons pe_non (pa_cons pe_bl (pa_cons pe_int pa_nil)))))) pss_nil)
      (pss_one (ps_ret (pe_tup (pa_cons pe_non (pa_cons (pe_not (pe_callB (call_isXT hz hf) (by rfl) T.b_isinstance (by decide +kernel) (pa_cons (pv 1) (pa_cons (pe_tup (pa_cons (g_ref T.g_UnknownError) (pa_cons (g_ref T.g_TextError) (pa_cons (g_ref T.g_OutOfRange) pa_nil)))) pa_nil)))) (pa_cons (pe_xf T.xf_Disjoint T.nx_Disjoint_divisor hz hf (pv 1)) pa_nil)))))))))), ?_⟩
  simp only [cxK, st__law_row]
  have M : Mem H [] H [] [] := mem_start (by simp []) (by simp) (by simp)
  walk_at "go"
  refine ⟨l, xs, rs, rfl, h1, hx, hz, fun ha z x dx H2 okz hn s2 hx' => ?_, fun k r hr ha hc d H2 hn s2 hd => ?_⟩
  · have M2 := M.sameNew s2 hn hx'
    walk_at "go"
    rename_i t H3 M3
    exact k1 ha z t x dx H3 okz M3
  · have M2 := M.sameNew s2 hn hd
    walk_at "go"
    rename_i t H3 M3
    exact k2 k r hr ha hc t H3 M3.one
end
end K01

set_option Elab.async false
set_option linter.all false
set_option maxRecDepth 100000
set_option maxHeartbeats 8000000
namespace K01
open PySem L2 MyL
local macro_rules | `(tactic| walk_at "mem") => `(tactic| first | exact List.mem_cons_self | (refine List.mem_cons_of_mem _ ?_; walk_at "mem"))
local macro_rules | `(tactic| walk_at "hp") => `(tactic| first | assumption | (refine' Mem.getL ?k1 ?k2; (case k1 => assumption); (case k2 => walk_at "mem")) | (refine' Mem.getF ?k1 ?k2; (case k1 => assumption); (case k2 => walk_at "mem")) | (refine' Mem.atB ?k1 ?k2; (case k1 => assumption); (case k2 => assumption)))
local macro_rules | `(tactic| walk_at "cond") => `(tactic| first | omega | assumption | exact mulR (by omega) (by omega) | exact mulL (by omega) (by omega) | exact divW (by omega) (by omega) | decide)
local macro_rules | `(tactic| walk_at "look") => `(tactic| first | assumption | with_unfolding_all rfl | exact atI_map (by omega) (by omega))
local macro_rules | `(tactic| walk_at "go1") => `(tactic| with_reducible first
  | refine k_seq ?_ | refine k_gName ?_ | refine k_asg ?_ | refine k_ret ?_ | refine k_ifS ?_ | refine k_drop ?_ | refine k_next ?_ | refine k_break ?_ | refine k_cont ?_ | refine k_retN ?_
  | (refine' k_var ?k1 ?_; (case k1 => with_unfolding_all rfl)) | refine k_c ?_ | refine k_op ?_ | refine k_un ?_ | refine k_test ?_ | refine k_B ?_ | refine k_bl ?_ | refine k_and ?_ | refine k_or ?_ | refine k_not ?_
  | refine k_andV ?_ | refine k_orV ?_ | refine k_notV ?_ | refine k_ifE ?_ | refine k_nil ?_ | refine k_cons ?_ | refine k_cb ?_ | refine k_callS ?_ | refine k_lst0 ?_ | refine k_tup0 ?_ | refine k_fld0 ?_ | refine k_sub0 ?_ | refine k_make0 ?_ | refine k_prop0 ?_ | refine k_sta0 ?_ | refine k_sta ?_ | refine k_bm ?_ | refine k_bm0 ?_ | refine k_chain ?_ | refine k_makeK0 ?_ | refine k_swapK ?_ | refine k_meth0 ?_ | refine k_ownN0 ?_ | refine k_ownO0 ?_ | refine k_sfld0 ?_ | refine k_jnil ?_ | refine k_jcons ?_ | refine k_fmt0 ?_ | refine k_sl0 ?_ | refine k_nopart ?_ | refine k_part ?_ | refine k_forR1 ?_ | refine k_forR2 ?_ | refine k_forL ?_ | refine k_forT ?_ | refine k_lcR1 ?_ | refine k_lcR2 ?_ | refine k_lcL ?_ | refine k_lcT ?_ | refine k_err0 ?_ | refine k_xf0 ?_ | refine k_errQ1 ?_ | refine k_errQ0 ?_ | refine k_errQ2 ?_ | refine k_errQ3 ?_
  | refine k_I0 ?_ | (refine k_I ?k1 ?_; (case k1 => walk_at "cond")) | refine k_U ?_ | refine k_eqI ?_ | refine k_neI ?_ | refine k_eqB ?_ | refine k_neB ?_ | refine k_eqS ?_ | refine k_neS ?_
  | refine k_int1 ?_ | refine k_abs1 ?_ | refine k_min2 ?_ | refine k_max2 ?_
  | (refine' k_lenM ?k1 ?_; (case k1 => walk_at "hp")) | (refine' k_lenL ?k1 ?_; (case k1 => walk_at "hp")) | (refine' k_lenT ?k1 ?_; (case k1 => walk_at "hp"))
  | (refine' k_lenS ?k1 ?_; (case k1 => assumption)) | (refine' k_ixS ?k1 ?k2 ?_; (case k1 => assumption); (case k2 => walk_at "look"))
  | (refine' k_ixL ?k1 ?k2 ?_; (case k1 => walk_at "hp"); (case k2 => walk_at "look")) | (refine' k_ixT ?k1 ?k2 ?_; (case k1 => walk_at "hp"); (case k2 => walk_at "look"))
  | (refine' k_ix4 ?k1 ?k2 ?k3 ?_; (case k1 => walk_at "hp"); (case k2 => omega); (case k3 => omega); intro n' hn')
  | (refine' k_ix3 ?k1 ?k2 ?k3 ?_; (case k1 => walk_at "hp"); (case k2 => omega); (case k3 => omega); intro n' hn')
  | (refine' k_ix2 ?k1 ?k2 ?k3 ?_; (case k1 => walk_at "hp"); (case k2 => omega); (case k3 => omega); intro n' hn')
  | (refine' k_fld ?k1 ?k2 ?k3 ?k4 ?_; (case k1 => walk_at "hp"); (case k2 => assumption); (case k3 => assumption); (case k4 => walk_at "fld"))
  | (refine' k_lst ?k1 ?k2 ?_; (case k1 => assumption); (case k2 => exact sz (by simp)); intro p' H' M')
  | (refine' k_tup ?k1 ?k2 ?_; (case k1 => assumption); (case k2 => exact sz (by simp)); intro p' H' M')
  | (refine' k_setF0 ?k1 ?k2 ?k3 ?_; (case k1 => assumption); (case k2 => simp); (case k3 => with_unfolding_all rfl); intro H' M'; try simp only [Int.reduceToNat, List.set_cons_succ, List.set_cons_zero] at M')
  | (refine' k_setL0 ?k1 ?k2 ?_; (case k1 => assumption); (case k2 => with_unfolding_all rfl); intro H' M'; try simp only [Int.reduceToNat, List.set_cons_succ, List.set_cons_zero] at M')
  | (refine' k_setL1 ?k1 ?k2 ?_; (case k1 => assumption); (case k2 => with_unfolding_all rfl); intro H' M'; try simp only [Int.reduceToNat, List.set_cons_succ, List.set_cons_zero] at M')
  | (refine' k_setL2 ?k1 ?k2 ?_; (case k1 => assumption); (case k2 => with_unfolding_all rfl); intro H' M'; try simp only [Int.reduceToNat, List.set_cons_succ, List.set_cons_zero] at M')
  | refine iteT ?_ | refine iteF ?_ | refine k_iteNE ?_ | refine k_iteNS ?_ | refine k_iteNT ?_ | refine k_iteNF ?_
  | (refine k_iteD ?_ ?_ <;> intro hc <;> first | (exfalso; omega) | skip)
  | (refine k_iteN ?_ ?_ <;> intro hc <;> first | (exfalso; omega) | skip)
  | (refine' k_ownN ?k1 ?_; (case k1 => walk_at "hp")) | (refine' k_ownO ?k1 ?k2 ?_; (case k1 => walk_at "hp"); (case k2 => walk_at "hp")) | (refine' k_ownEq ?k1 ?k2 ?_; (case k1 => walk_at "hp"); (case k2 => walk_at "hp"))
  | (refine' k_ownIn ?k1 ?_; (case k1 => walk_at "hp")) | (refine' k_ownU ?k1 ?_; (case k1 => walk_at "hp")) | (refine' k_ownStr ?k1 ?_; (case k1 => walk_at "hp"))
  | (refine' k_prop ?k1 ?_; (case k1 => walk_at "hp")) | (refine' k_ownNe ?k1 ?k2 ?_; (case k1 => walk_at "hp"); (case k2 => walk_at "hp")) | (refine' k_eqP ?k1 ?k2 ?_; (case k1 => walk_at "hp"); (case k2 => walk_at "hp")) | (refine' k_neP ?k1 ?k2 ?_; (case k1 => walk_at "hp"); (case k2 => walk_at "hp"))
  | (refine' k_isiO ?k1 ?k2 ?k3 ?k4 ?k5 ?k6 ?_; (case k1 => walk_at "hp"); (case k2 => assumption); (case k3 => assumption); (case k4 => assumption); (case k5 => assumption); (case k6 => assumption))
  | (refine' k_isiI ?k1 ?_; (case k1 => assumption))
  | (refine' k_jst ?k1 ?_; (case k1 => walk_at "size")) | (refine' k_fmtI ?k1 ?_; (case k1 => exact log2_64 (by omega) (by omega))) | (refine' k_strI ?k1 ?_; (case k1 => exact log2_64 (by omega) (by omega)))
  | (refine k_addS ?k1 ?_; (case k1 => walk_at "size")) | refine k_st ?_ | refine k_parti ?_
  | (refine' k_cat ?k1 ?k2 ?k3 ?k4 ?_; (case k1 => assumption); (case k2 => walk_at "hp"); (case k3 => walk_at "hp"); (case k4 => walk_at "size"); intro p' H' M')
  | (refine' k_slL ?k1 ?k2 ?_; (case k1 => assumption); (case k2 => first | assumption | exact SqL.of (by walk_at "hp")); intro p' H' M')
  | (refine k_rng1 ?k1 ?k2 ?_; (case k1 => omega); (case k2 => omega)) | (refine k_rng2 ?k1 ?k2 ?k3 ?k4 ?_; (case k1 => omega); (case k2 => omega); (case k3 => omega); (case k4 => omega))
  | (refine' k_lstAt ?k1 ?_; (case k1 => first | assumption | exact SqL.of (by walk_at "hp"))) | (refine' k_tupAt ?k1 ?_; (case k1 => first | assumption | exact SqT.of (by walk_at "hp")))
  | (refine' k_isXs ?k1 ?k2 ?_; (case k1 => assumption); (case k2 => walk_at "hp")) | (refine' k_isXo ?k1 ?k2 ?k3 ?_; (case k1 => assumption); (case k2 => walk_at "hp"); (case k3 => assumption)) | (refine' k_isXt ?k1 ?k2 ?k3 ?_; (case k1 => assumption); (case k2 => walk_at "hp"); (case k3 => assumption))
  | (refine' k_isX3 ?k1 ?k2 ?k3 ?k4 ?_; (case k1 => assumption); (case k2 => walk_at "hp"); (case k3 => walk_at "hp"); (case k4 => assumption)) | (refine' k_isX2 ?k1 ?k2 ?k3 ?k4 ?_; (case k1 => assumption); (case k2 => walk_at "hp"); (case k3 => walk_at "hp"); (case k4 => assumption))
  | (refine' k_tyL ?k1 ?_; (case k1 => walk_at "hp"))
  | (refine' k_appL0 ?k1 ?k2 ?_; (case k1 => assumption); (case k2 => walk_at "size"); intro H' M') | (refine' k_appL1 ?k1 ?k2 ?_; (case k1 => assumption); (case k2 => walk_at "size"); intro H' M') | (refine' k_appL2 ?k1 ?k2 ?_; (case k1 => assumption); (case k2 => walk_at "size"); intro H' M') | (refine' k_appL3 ?k1 ?k2 ?_; (case k1 => assumption); (case k2 => walk_at "size"); intro H' M')
  | (refine' k_revL0 ?k1 ?_; (case k1 => assumption); intro H' M') | (refine' k_revL1 ?k1 ?_; (case k1 => assumption); intro H' M')
  | (refine' k_isX0s ?k1 ?_; (case k1 => assumption)) | (refine' k_isX0o ?k1 ?k2 ?_; (case k1 => assumption); (case k2 => assumption)) | (refine' k_isX0t ?k1 ?k2 ?_; (case k1 => assumption); (case k2 => assumption)) | (refine' k_isX04 ?k1 ?k2 ?k3 ?_; (case k1 => assumption); (case k2 => walk_at "hp"); (case k3 => assumption))
  | (refine' k_isX4 ?k1 ?k2 ?k3 ?k4 ?_; (case k1 => assumption); (case k2 => walk_at "hp"); (case k3 => walk_at "hp"); (case k4 => assumption)) | (refine' k_ixT2 ?k1 ?k2 ?k3 ?_; (case k1 => walk_at "hp"); (case k2 => omega); (case k3 => omega); intro n' hn')
  | (refine k_iteNEq ?k1 ?_; (case k1 => (rw [Bool.eq_iff_iff]; first | (simp; done) | (simp; omega))))
  | (refine' k_xf ?k1 ?k2 ?_; (case k1 => walk_at "hp"); (case k2 => first | exact xd1 | exact xdH | exact xd2 (by decide +kernel)))
  | (refine' k_caught ?k1 ?_; (case k1 => assumption); intro a' ha')
  | refine k_asgT ?_ | refine k_gCons ?_ | refine k_gNil ?_ | refine k_par ?_ | refine k_two ?_ | refine k_isNn ?_ | refine k_isNi ?_ | refine k_notNn ?_ | refine k_notNi ?_ | refine k_isN ?_ | refine k_notN ?_
  | (refine' k_gTup ?k1 ?k2 ?_; (case k1 => walk_at "hp"); (case k2 => with_unfolding_all rfl))
  | (refine' k_isiT ?k1 ?k2 ?_; (case k1 => walk_at "hp"); (case k2 => assumption)) | (refine' k_isiL ?k1 ?k2 ?_; (case k1 => walk_at "hp"); (case k2 => assumption))
  | (refine' k_ixQ ?k1 ?k2 ?_; (case k1 => assumption); (case k2 => walk_at "look")) | (refine' k_lenQ ?k1 ?_; (case k1 => assumption))
  | (refine' k_xfB ?k1 ?k2 ?_; (case k1 => walk_at "hp"); (case k2 => first | exact xd1 | exact xdH | exact xd2 (by decide +kernel)))
  | (refine' k_all ?k1 ?_; (case k1 => walk_at "hp"))
  | (refine' k_tupleOf ?k1 ?k2 ?_; (case k1 => assumption); (case k2 => exact SqL.of (by walk_at "hp")); intro p' H' M')
  | (refine' k_listOf ?k1 ?k2 ?_; (case k1 => assumption); (case k2 => exact Or.inl (SqL.of (by walk_at "hp"))); intro p' H' M')
  | walk_at "use")
local macro_rules | `(tactic| walk_at "go") => `(tactic| repeat' (walk_at "go1"))

local macro_rules | `(tactic| walk_at "eq") => `(tactic| first | rfl | assumption | omega)
local macro_rules | `(tactic| walk_at "fld") => `(tactic| first | exact resF_place _ _ | exact resF_length _ _)
local macro_rules | `(tactic| walk_at "size") => `(tactic| first | exact sz (by first | omega | (simp only [List.length_map, List.length_range, List.length_append, List.length_cons, List.length_nil, Int.reduceSub, Int.reduceToNat, Int.reduceNeg]; omega)) | (exact Nat.lt_of_le_of_lt (m := 50000) (by first | omega | (simp only [List.length_map, List.length_range, List.length_append, List.length_cons, List.length_nil]; omega)) (by decide)))
section
variable {P : Program} {w : World} {K : PySem.W.Frag} {mg : Str → Option Value} {base : Heap} {C CO fO CD fD CA CU CT CI : Addr}
theorem in_both {p n q m z d : Int} (hn : 1 ≤ n) (hm : 1 ≤ m) (h1 : n ∣ z - p) (h2 : m ∣ z - q) : (d - z) % lI n m = 0 ↔ (d - p) % n = 0 ∧ (d - q) % m = 0 := by
  rw [← Int.dvd_iff_emod_eq_zero, ← Int.dvd_iff_emod_eq_zero, ← Int.dvd_iff_emod_eq_zero]
  constructor
  · intro h
    have a := Int.dvd_add (Int.dvd_trans (lI_l n m) h) h1
    have b := Int.dvd_add (Int.dvd_trans (lI_r hn hm) h) h2
    rw [show d - z + (z - p) = d - p by omega] at a
    rw [show d - z + (z - q) = d - q by omega] at b
    exact ⟨a, b⟩
  · rintro ⟨a, b⟩
    have a2 := Int.dvd_sub a h1
    have b2 := Int.dvd_sub b h2
    rw [show d - p - (z - p) = d - z by omega] at a2
    rw [show d - q - (z - q) = d - z by omega] at b2
    exact lI_dvd hn hm a2 b2
local macro_rules | `(tactic| walk_at "use") => `(tactic| first
  | refine use_isn ?_
  | (refine' use_lcm ?k1 ?k2 ?k3 ?_; (case k1 => omega); (case k2 => omega); (case k3 => omega))
  | (refine' use_resIn ?k1 ?k2 ?_; (case k1 => walk_at "hp"); (case k2 => assumption)))
def sp_walk (C : Addr) : Sp := fun vs H Q _ => ∃ (a dx l p q : Addr) (z b : Int) (r s : Pr), vs = [.ref a, .ref l, .int b] ∧ H a = some (.ins C dx (resF z (lI r.2 s.2))) ∧ H l = some (.lst [.ref p, .ref q]) ∧ H p = some (prO r) ∧ H q = some (prO s) ∧ (1 ≤ r.2 ∧ r.2 < 2 ^ 62 ∧ 1 ≤ s.2 ∧ s.2 < 2 ^ 62) ∧ r.2 ∣ z - r.1 ∧ s.2 ∣ z - s.1 ∧ Q (.bl true) H
theorem ok_walk {f : Addr} {fd : FuncData} (F : Fun K "_law_walk" "_law_walk" s__law_walk f fd) (T : Txt P K mg C CO fO CD fD CA CU CT CI) (c__law_lcm : Cal P w K mg base 2 "_law_lcm" sp_lcm) (c_Residue_contains : Spc P w K mg base 1 C "__contains__" (sp_resIn C)) :
    FnOk P w K mg base (L2.CX P w) (2 + 1) f fd ["_law_residue", "_law_pool_here", "_law_begin"] (sp_walk C) := by
  refine okT F sc__law_walk (fun vs H Q E h => ?_) (fun cdv A outer s H vs Q E hr tk h => ?_)
  · obtain ⟨a, dx, l, p, q, z, b, r, s, rfl, _⟩ := h
    rfl
  obtain ⟨a, dx, l, p, q, z, b, r, s, rfl, h1, h2, h3, h4, ⟨hr1, hr2, hs1, hs2⟩, d1, d2, k⟩ := h
  have f1 := T.i1; have f2 := T.i2; have f6 := T.cl; have f7 := T.nP; have f8 := T.nL; have f9 := T.ca; have f10 := T.cn; have f11 := T.ct; have f12 := T.cm; have f13 := T.ek; have f14 := T.exm; have f15 := T.k1; have f16 := T.k2
  refine ⟨_, (pss_cons (ps_set (i := 3) sc__law_walk.nd rfl (Or.inl rfl) (c_call c__law_lcm tk hr (by decide) (pa_cons (pe_ix ix_tup (pe_ix ix_list (pv 1) pe_int (fun _ _ => rfl)) pe_int (fun _ _ => rfl)) (pa_cons (pe_ix ix_tup (pe_ix ix_list (pv 1) pe_int (fun _ _ => rfl)) pe_int (fun _ _ => rfl)) pa_nil))))
      (pss_cons (ps_if (pt_cmpR op_gt (pv 3) pe_int (nomark _)) (pss_one (ps_ret pe_bl)) pss_nil)
      (pss_cons (ps_for (passes_of rfl) rfl (pi_range1 (by rfl) T.b_range (pa_cons (pv 3) pa_nil)) (pg_name (i := 4) sc__law_walk.nd rfl (Or.inl rfl)) (pss_cons (ps_set (i := 5) sc__law_walk.nd rfl (Or.inl rfl) (pe_op op_add (pv 2) (pv 4)))
      (pss_cons (ps_set (i := 6) sc__law_walk.nd rfl (Or.inl rfl) (pe_and (pe_cmpR op_eq (pe_op op_mod (pe_callTy b_int (by rfl) T.b_int (by decide +kernel) (pa_cons (pe_op op_sub (pv 5) (pe_ix ix_tup (pe_ix ix_list (pv 1) pe_int (fun _ _ => rfl)) pe_int (fun _ _ => rfl))) pa_nil)) (pe_ix ix_tup (pe_ix ix_list (pv 1) pe_int (fun _ _ => rfl)) pe_int (fun _ _ => rfl))) pe_int (nomark _)) (pe_one (pe_cmpR op_eq (pe_op op_mod (pe_callTy b_int (by rfl) T.b_int (by decide +kernel) (pa_cons (pe_op op_sub (pv 5) (pe_ix ix_tup (pe_ix ix_list (pv 1) pe_int (fun _ _ => rfl)) pe_int (fun _ _ => rfl))) pa_nil)) (pe_ix ix_tup (pe_ix ix_list (pv 1) pe_int (fun _ _ => rfl)) pe_int (fun _ _ => rfl))) pe_int (nomark _)))))
      (pss_one (ps_if (pt_cmpR op_ne (pe_cmpR (c_in c_Residue_contains hr (by decide)) (pv 5) (pv 0) rfl) (pv 6) (nomark _)) (pss_one (ps_ret pe_bl)) pss_nil)))))
      (pss_one (ps_ret pe_bl))))), ?_⟩
  simp only [cxK, st__law_walk]
  have hlp := lI_pos hr1 hs1
  walk_at "go"
  · exact k
  rename_i hper
  refine rng_loop ⟨fun i σ' H' => ∃ v4 v5 v6 : Option V, σ' = [some (.ref a), some (.ref l), some (.int b), some (.int (lI r.2 s.2)), v4, v5, v6] ∧ H' = H, ?_, ?_, ?_⟩
  · exact ⟨_, _, _, rfl, rfl⟩
  · rintro i σ' H' hi ⟨v4, v5, v6, rfl, rfl⟩
    have hib := in_both (d := b + (0 + (i : Int))) hr1 hs1 d1 d2
    walk_at "go"
    · rename_i hc
      refine k_iteNEq (decide_eq_decide.mpr ?_) ?_
      · rw [hib]; exact ⟨fun h => h.2, fun h => ⟨hc, h⟩⟩
      walk_at "go"
      exact ⟨_, _, _, rfl, rfl⟩
    · rename_i hc
      refine k_iteNEq (decide_eq_false ?_) ?_
      · rw [hib]; exact fun h => hc h.1
      walk_at "go"
      exact ⟨_, _, _, rfl, rfl⟩
  · rintro σ' H' ⟨v4, v5, v6, rfl, rfl⟩
    walk_at "go"
    exact k
theorem use_walk {H : Hp} {Q : VK} {E : XK} {a dx l p q : Addr} {z b : Int} {r s : Pr} (h1 : H a = some (.ins C dx (resF z (lI r.2 s.2)))) (h2 : H l = some (.lst [.ref p, .ref q])) (h3 : H p = some (prO r)) (h4 : H q = some (prO s)) (hb : 1 ≤ r.2 ∧ r.2 < 2 ^ 62 ∧ 1 ≤ s.2 ∧ s.2 < 2 ^ 62) (d1 : r.2 ∣ z - r.1) (d2 : s.2 ∣ z - s.1) (k : Q (.bl true) H) : sp_walk C [.ref a, .ref l, .int b] H Q E :=
  ⟨a, dx, l, p, q, z, b, r, s, rfl, h1, h2, h3, h4, hb, d1, d2, k⟩
theorem gI_places {p n q m : Int} (hn : 1 ≤ n) (hm : 1 ≤ m) : gI n m ∣ q % m - p % n ↔ (p - q) % gI n m = 0 := by
  rw [← Int.dvd_iff_emod_eq_zero]
  have e1 := Int.emod_add_mul_ediv p n
  have e2 := Int.emod_add_mul_ediv q m
  have a1 : gI n m ∣ n * (p / n) := Int.dvd_mul_of_dvd_left (gI_l (by omega))
  have a2 : gI n m ∣ m * (q / m) := Int.dvd_mul_of_dvd_left (gI_r (by omega))
  have key : gI n m ∣ q % m - p % n ↔ gI n m ∣ q - p := by
    constructor
    · intro h
      have := Int.dvd_sub (Int.dvd_add h a2) a1
      rw [show q % m - p % n + m * (q / m) - n * (p / n) = q - p by omega] at this; exact this
    · intro h
      have := Int.dvd_add (Int.dvd_sub h a2) a1
      rw [show q - p - m * (q / m) + n * (p / n) = q % m - p % n by omega] at this; exact this
  rw [key]; exact dvd_flip
local macro_rules | `(tactic| walk_at "use") => `(tactic| first
  | refine use_isn ?_
  | (refine' use_res ?k1 ?k2 ?_; (case k1 => assumption); (case k2 => omega); intro x' dx' H' M')
  | (refine' use_gcd ?k1 ?k2 ?_; (case k1 => omega); (case k2 => omega))
  | (refine' use_apart ?k1 ?k2 ?k3 ?k4 ?_; (case k1 => walk_at "hp"); (case k2 => walk_at "hp"); (case k3 => omega); (case k4 => omega))
  | (refine' use_is ?k1 ?k2 ?_; (case k1 => walk_at "hp"); (case k2 => omega))
  | (refine' use_isdis ?k1 ?k2 ?_; (case k1 => walk_at "hp"); (case k2 => first | rfl | exact gI_comm _ _))
  | (refine' use_resEq ?k1 ?k2 ?_; (case k1 => walk_at "hp"); (case k2 => walk_at "hp")))
def sp_pair : Sp := fun vs H Q _ => ∃ (l p q : Addr) (b : Int) (r s : Pr), vs = [.ref l, .int b] ∧ H l = some (.lst [.ref p, .ref q]) ∧ H p = some (prO r) ∧ H q = some (prO s) ∧ (1 ≤ r.2 ∧ r.2 < 2 ^ 62 ∧ 1 ≤ s.2 ∧ s.2 < 2 ^ 62) ∧ ∀ H', Same H H' → Q (.bl true) H'
theorem ok_pair {f : Addr} {fd : FuncData} (F : Fun K "_law_pair" "_law_pair" s__law_pair f fd) (T : Txt P K mg C CO fO CD fD CA CU CT CI) (c_Residue : Mak P w K mg base 1 "Residue" C (sp_res C CO)) (c__law_meet : Cal P w K mg base 4 "_law_meet" (sp_lmeet C)) (c__law_apart : Cal P w K mg base 2 "_law_apart" sp_apart) (c__law_gcd : Cal P w K mg base 1 "_law_gcd" sp_gcd) (c__law_is_disjoint : Cal P w K mg base 2 "_law_is_disjoint" sp_isdis) (c__law_holds : Cal P w K mg base 3 "_law_holds" (sp_holds C)) (c__law_walk : Cal P w K mg base 3 "_law_walk" (sp_walk C)) (c_Residue_eq : Spc P w K mg base 1 C "__eq__" (sp_resEq C)) (c__law_is : Cal P w K mg base 2 "_law_is" (sp_is C)) :
    FnOk P w K mg base (L2.CX P w) (4 + 1) f fd ["_law_pool_here", "_law_begin"] sp_pair := by
  refine okT F sc__law_pair (fun vs H Q E h => ?_) (fun cdv A outer s H vs Q E hr tk h => ?_)
  · obtain ⟨l, p, q, b, r, s, rfl, _⟩ := h
    rfl
  obtain ⟨l, p, q, b, r, s, rfl, h1, h2, h3, ⟨hr1, hr2, hs1, hs2⟩, k⟩ := h
  have f1 := T.i1; have f2 := T.i2; have f6 := T.cl; have f7 := T.nP; have f8 := T.nL; have f9 := T.ca; have f10 := T.cn; have f11 := T.ct; have f12 := T.cm; have f13 := T.ek; have f14 := T.exm; have f15 := T.k1; have f16 := T.k2
  refine ⟨_, (pss_cons (ps_set (i := 2) sc__law_pair.nd rfl (Or.inl rfl) (c_make c_Residue tk hr (by decide) (pa_cons (pe_ix ix_tup (pe_ix ix_list (pv 0) pe_int (fun _ _ => rfl)) pe_int (fun _ _ => rfl)) (pa_cons (pe_ix ix_tup (pe_ix ix_list (pv 0) pe_int (fun _ _ => rfl)) pe_int (fun _ _ => rfl)) pa_nil))))
      (pss_cons (ps_set (i := 3) sc__law_pair.nd rfl (Or.inl rfl) (c_make c_Residue tk hr (by decide) (pa_cons (pe_ix ix_tup (pe_ix ix_list (pv 0) pe_int (fun _ _ => rfl)) pe_int (fun _ _ => rfl)) (pa_cons (pe_ix ix_tup (pe_ix ix_list (pv 0) pe_int (fun _ _ => rfl)) pe_int (fun _ _ => rfl)) pa_nil))))
      (pss_cons (ps_set (i := 4) sc__law_pair.nd rfl (Or.inl rfl) (c_call c__law_meet tk hr (by decide) (pa_cons (pv 2) (pa_cons (pv 3) pa_nil))))
      (pss_cons (ps_set (i := 5) sc__law_pair.nd rfl (Or.inl rfl) (c_call c__law_meet tk hr (by decide) (pa_cons (pv 3) (pa_cons (pv 2) pa_nil))))
      (pss_cons (ps_if (pt_val (c_call c__law_apart tk hr (by decide) (pa_cons (pe_ix ix_list (pv 0) pe_int (fun _ _ => rfl)) (pa_cons (pe_ix ix_list (pv 0) pe_int (fun _ _ => rfl)) pa_nil)))) (pss_cons (ps_set (i := 6) sc__law_pair.nd rfl (Or.inl rfl) (c_call c__law_gcd tk hr (by decide) (pa_cons (pe_ix ix_tup (pe_ix ix_list (pv 0) pe_int (fun _ _ => rfl)) pe_int (fun _ _ => rfl)) (pa_cons (pe_ix ix_tup (pe_ix ix_list (pv 0) pe_int (fun _ _ => rfl)) pe_int (fun _ _ => rfl)) pa_nil))))
      (pss_one (ps_if (PW.pt (pw_or (pt_not (pt_val (c_call c__law_is_disjoint tk hr (by decide) (pa_cons (pv 4) (pa_cons (pv 6) pa_nil))))) (pw_or1 (pt_not (pt_val (c_call c__law_is_disjoint tk hr (by decide) (pa_cons (pv 5) (pa_cons (pv 6) pa_nil)))))))) (pss_one (ps_ret pe_bl)) pss_nil))) (pss_cons (ps_if (PW.pt (pw_or (pt_not (pt_val (c_call c__law_holds tk hr (by decide) (pa_cons (pe_ix ix_tup (pv 4) pe_int (fun _ _ => rfl)) (pa_cons (pv 0) pa_nil))))) (pw_or1 (pt_not (pt_val (c_call c__law_walk tk hr (by decide) (pa_cons (pe_ix ix_tup (pv 4) pe_int (fun _ _ => rfl)) (pa_cons (pv 0) (pa_cons (pv 1) pa_nil))))))))) (pss_one (ps_ret pe_bl)) pss_nil)
      (pss_one (ps_if (PW.pt (pw_or (pt_not (pt_val (c_call c__law_holds tk hr (by decide) (pa_cons (pe_ix ix_tup (pv 5) pe_int (fun _ _ => rfl)) (pa_cons (pv 0) pa_nil))))) (pw_or1 (pt_not (pt_cmpR (c_eq c_Residue_eq hr (by decide)) (pe_ix ix_tup (pv 4) pe_int (fun _ _ => rfl)) (pe_ix ix_tup (pv 5) pe_int (fun _ _ => rfl)) (nomark _)))))) (pss_one (ps_ret pe_bl)) pss_nil))))
      (pss_cons (ps_set (i := 7) sc__law_pair.nd rfl (Or.inl rfl) (c_call c__law_meet tk hr (by decide) (pa_cons (pv 2) (pa_cons (pv 2) pa_nil))))
      (pss_cons (ps_if (PW.pt (pw_or (pt_not (pt_val (pe_callB call_isi (by rfl) T.b_isinstance (by decide +kernel) (pa_cons (pe_ix ix_tup (pv 7) pe_int (fun _ _ => rfl)) (pa_cons (g_ref T.g_Residue) pa_nil))))) (pw_or1 (pt_not (pt_cmpR (c_eq c_Residue_eq hr (by decide)) (pe_ix ix_tup (pv 7) pe_int (fun _ _ => rfl)) (pv 2) (nomark _)))))) (pss_one (ps_ret pe_bl)) pss_nil)
      (pss_one (ps_ret (pe_and (c_call c__law_is tk hr (by decide) (pa_cons (pv 2) (pa_cons (pe_ix ix_tup (pe_ix ix_list (pv 0) pe_int (fun _ _ => rfl)) pe_int (fun _ _ => rfl)) (pa_cons (pe_ix ix_tup (pe_ix ix_list (pv 0) pe_int (fun _ _ => rfl)) pe_int (fun _ _ => rfl)) pa_nil)))) (pe_one (c_call c__law_is tk hr (by decide) (pa_cons (pv 3) (pa_cons (pe_ix ix_tup (pe_ix ix_list (pv 0) pe_int (fun _ _ => rfl)) pe_int (fun _ _ => rfl)) (pa_cons (pe_ix ix_tup (pe_ix ix_list (pv 0) pe_int (fun _ _ => rfl)) pe_int (fun _ _ => rfl)) pa_nil))))))))))))))), ?_⟩
  simp only [cxK, st__law_pair]
  have M : Mem H [] H [] [] := mem_start (by simp []) (by simp) (by simp)
  have hp0 := Int.emod_nonneg r.1 (show r.2 ≠ 0 by omega)
  have hp1 := Int.emod_lt_of_pos r.1 (show 0 < r.2 by omega)
  have hq0 := Int.emod_nonneg s.1 (show s.2 ≠ 0 by omega)
  have hq1 := Int.emod_lt_of_pos s.1 (show 0 < s.2 by omega)
  have hbd : 1 ≤ r.2 ∧ r.2 < 2 ^ 62 ∧ 1 ≤ s.2 ∧ s.2 < 2 ^ 62 ∧ 0 ≤ r.1 % r.2 ∧ r.1 % r.2 < r.2 ∧ 0 ≤ s.1 % s.2 ∧ s.1 % s.2 < s.2 := ⟨hr1, hr2, hs1, hs2, hp0, hp1, hq0, hq1⟩
  have hbd2 : 1 ≤ s.2 ∧ s.2 < 2 ^ 62 ∧ 1 ≤ r.2 ∧ r.2 < 2 ^ 62 ∧ 0 ≤ s.1 % s.2 ∧ s.1 % s.2 < s.2 ∧ 0 ≤ r.1 % r.2 ∧ r.1 % r.2 < r.2 := ⟨hs1, hs2, hr1, hr2, hq0, hq1, hp0, hp1⟩
  have hbd3 : 1 ≤ r.2 ∧ r.2 < 2 ^ 62 ∧ 1 ≤ r.2 ∧ r.2 < 2 ^ 62 ∧ 0 ≤ r.1 % r.2 ∧ r.1 % r.2 < r.2 ∧ 0 ≤ r.1 % r.2 ∧ r.1 % r.2 < r.2 := ⟨hr1, hr2, hr1, hr2, hp0, hp1, hp0, hp1⟩
  have hgp := gI_places (p := r.1) (q := s.1) hr1 hs1
  walk_at "go"
  rename_i a dx H1 M1 c dy H2 M2
  -- the residue with itself, and what is left
  have hown : ∀ {H3 : Hp} {l3 : List (Addr × HO)} {Q2 : VK} {E2 : XK}, Mem H [] H3 [] l3 → (a, .ins C dx (resF (r.1 % r.2) r.2)) ∈ l3 → (∀ t x dz H4, Mem H [] H4 [] ((t, told1 x) :: (x, .ins C dz (resF (r.1 % r.2) r.2)) :: l3) → Q2 (.ref t) H4) → sp_lmeet C [.ref a, .ref a] H3 Q2 E2 := fun M3 hm k3 =>
    use_lmeet M3 (M3.getL hm) (M3.getL hm) hbd3 (by rw [Int.sub_self]; exact Int.dvd_zero _) fun z t x dz H4 hz M4 => by
      obtain ⟨e1, e2⟩ := both_self hr1 hp0 hp1 hz
      rw [e1, e2] at M4
      exact k3 t x dz H4 M4
  by_cases hd : gI r.2 s.2 ∣ s.1 % s.2 - r.1 % r.2
  · have hd2 : gI s.2 r.2 ∣ r.1 % r.2 - s.1 % s.2 := by rw [gI_comm]; exact dvd_flip.mp hd
    have hz0 := hgp.mp hd
    refine use_lmeet (dx := dx) (dy := dy) M2 (M2.getL (by simp)) (M2.getL (by simp)) hbd hd fun z t x dz H3 hz M3 => ?_
    walk_at "go"
    refine use_lmeet (dx := dy) (dy := dx) M3 (M3.getL (by simp)) (M3.getL (by simp)) hbd2 hd2 fun z2 t2 x2 dz2 H4 hz2 M4 => ?_
    have hzz := both_uniq hr1 hs1 hz hz2
    have h1' := M4.atB0 h1
    have h2' := M4.atB0 h2
    have h3' := M4.atB0 h3
    have hlen := lI_comm hr1 hs1
    have hlf : lf [r, s] = lI r.2 s.2 := by show lI (lI 1 r.2) s.2 = _; rw [lI_one hr1]
    have hokr : Okr [r, s] z := ⟨hz.z0, by rw [hlf]; exact hz.zl, fun y hy => by
      simp only [List.mem_cons, List.not_mem_nil, or_false] at hy
      rcases hy with rfl | rfl
      · exact dvd_mod.mp hz.d1
      · exact dvd_mod.mp hz.d2⟩
    have hprs : Prs H4 [.ref p, .ref q] [r, s] := (PG.one (R := fun p s => H4 p = some (prO s)) h2').append (PG.one h3')
    have hszs : ∀ y ∈ [r, s], 1 ≤ y.2 ∧ y.2 < 2 ^ 62 := fun y hy => by
      simp only [List.mem_cons, List.not_mem_nil, or_false] at hy
      rcases hy with rfl | rfl <;> constructor <;> assumption
    have hx4 : H4 x = some (.ins C dz (resF z (lf [r, s]))) := by rw [hlf]; exact M4.getL (by simp)
    have hx4' : H4 x = some (.ins C dz (resF z (lI r.2 s.2))) := M4.getL (by simp)
    have hx24 : H4 x2 = some (.ins C dz2 (resF z (lI r.2 s.2))) := by rw [hzz, hlen]; exact M4.getL (by simp)
    have hx24' : H4 x2 = some (.ins C dz2 (resF z (lf [r, s]))) := by rw [hlf]; exact hx24
    walk_at "go"
    refine use_holds hx4 h1' hprs hokr hszs ?_
    walk_at "go"
    refine use_walk hx4' h1' h2' h3' ⟨hr1, hr2, hs1, hs2⟩ (dvd_mod.mp hz.d1) (dvd_mod.mp hz.d2) ?_
    walk_at "go"
    refine use_holds hx24' h1' hprs hokr hszs ?_
    walk_at "go"
    rw [hlf, decide_eq_true rfl, decide_eq_true rfl, Bool.and_self]
    walk_at "go"
    refine hown M4 (by simp) fun t5 x5 dz5 H5 M5 => ?_
    have h15 := M5.atB0 h1
    have h25 := M5.atB0 h2
    have h35 := M5.atB0 h3
    walk_at "go"
    rw [decide_eq_true rfl, decide_eq_true rfl, Bool.and_self]
    walk_at "go"
    exact k _ (Same.of_keep M5)
  · have hd2 : ¬ gI s.2 r.2 ∣ r.1 % r.2 - s.1 % s.2 := by rw [gI_comm]; exact fun z => hd (dvd_flip.mp z)
    have hz0 : ¬ (r.1 - s.1) % gI r.2 s.2 = 0 := fun z => hd (hgp.mpr z)
    refine use_lmeetE (dx := dx) (dy := dy) M2 (M2.getL (by simp)) (M2.getL (by simp)) hbd hd fun t H3 M3 => ?_
    walk_at "go"
    refine use_lmeetE (dx := dy) (dy := dx) M3 (M3.getL (by simp)) (M3.getL (by simp)) hbd2 hd2 fun t2 H4 M4 => ?_
    have h1' := M4.atB0 h1
    have h2' := M4.atB0 h2
    have h3' := M4.atB0 h3
    walk_at "go"
    all_goals first
      | (rename_i hc; exact absurd hc hz0)
      | skip
    refine hown M4 (by simp) fun t5 x5 dz5 H5 M5 => ?_
    have h15 := M5.atB0 h1
    have h25 := M5.atB0 h2
    have h35 := M5.atB0 h3
    walk_at "go"
    rw [decide_eq_true rfl, decide_eq_true rfl, Bool.and_self]
    walk_at "go"
    exact k _ (Same.of_keep M5)
theorem use_pair {B H : Hp} {ms : List Addr} {f l : List (Addr × HO)} {Q : VK} {E : XK} {a p q : Addr} {b : Int} {r s : Pr} (M : Mem B ms H f l) (h1 : H a = some (.lst [.ref p, .ref q])) (h2 : H p = some (prO r)) (h3 : H q = some (prO s)) (hb : 1 ≤ r.2 ∧ r.2 < 2 ^ 62 ∧ 1 ≤ s.2 ∧ s.2 < 2 ^ 62) (k : ∀ H', Mem B ms H' f l → Q (.bl true) H') : sp_pair [.ref a, .int b] H Q E :=
  ⟨a, p, q, b, r, s, rfl, h1, h2, h3, hb, fun H' s => k H' (M.same s)⟩
end
end K01

set_option Elab.async false
set_option linter.all false
set_option maxRecDepth 100000
set_option maxHeartbeats 8000000
namespace K01
open PySem L2 MyL
local macro_rules | `(tactic| walk_at "mem") => `(tactic| first | exact List.mem_cons_self | (refine List.mem_cons_of_mem _ ?_; walk_at "mem"))
local macro_rules | `(tactic| walk_at "hp") => `(tactic| first | assumption | (refine' Mem.getL ?k1 ?k2; (case k1 => assumption); (case k2 => walk_at "mem")) | (refine' Mem.getF ?k1 ?k2; (case k1 => assumption); (case k2 => walk_at "mem")) | (refine' Mem.atB ?k1 ?k2; (case k1 => assumption); (case k2 => assumption)))
local macro_rules | `(tactic| walk_at "cond") => `(tactic| first | omega | assumption | exact mulR (by omega) (by omega) | exact mulL (by omega) (by omega) | exact divW (by omega) (by omega) | decide)
local macro_rules | `(tactic| walk_at "look") => `(tactic| first | assumption | with_unfolding_all rfl | exact atI_map (by omega) (by omega))
local macro_rules | `(tactic| walk_at "go1") => `(tactic| with_reducible first
  | refine k_seq ?_ | refine k_gName ?_ | refine k_asg ?_ | refine k_ret ?_ | refine k_ifS ?_ | refine k_drop ?_ | refine k_next ?_ | refine k_break ?_ | refine k_cont ?_ | refine k_retN ?_
  | (refine' k_var ?k1 ?_; (case k1 => with_unfolding_all rfl)) | refine k_c ?_ | refine k_op ?_ | refine k_un ?_ | refine k_test ?_ | refine k_B ?_ | refine k_bl ?_ | refine k_and ?_ | refine k_or ?_ | refine k_not ?_
  | refine k_andV ?_ | refine k_orV ?_ | refine k_notV ?_ | refine k_ifE ?_ | refine k_nil ?_ | refine k_cons ?_ | refine k_cb ?_ | refine k_callS ?_ | refine k_lst0 ?_ | refine k_tup0 ?_ | refine k_fld0 ?_ | refine k_sub0 ?_ | refine k_make0 ?_ | refine k_prop0 ?_ | refine k_sta0 ?_ | refine k_sta ?_ | refine k_bm ?_ | refine k_bm0 ?_ | refine k_chain ?_ | refine k_makeK0 ?_ | refine k_swapK ?_ | refine k_meth0 ?_ | refine k_ownN0 ?_ | refine k_ownO0 ?_ | refine k_sfld0 ?_ | refine k_jnil ?_ | refine k_jcons ?_ | refine k_fmt0 ?_ | refine k_sl0 ?_ | refine k_nopart ?_ | refine k_part ?_ | refine k_forR1 ?_ | refine k_forR2 ?_ | refine k_forL ?_ | refine k_forT ?_ | refine k_lcR1 ?_ | refine k_lcR2 ?_ | refine k_lcL ?_ | refine k_lcT ?_ | refine k_err0 ?_ | refine k_xf0 ?_ | refine k_errQ1 ?_ | refine k_errQ0 ?_ | refine k_errQ2 ?_ | refine k_errQ3 ?_
  | refine k_I0 ?_ | (refine k_I ?k1 ?_; (case k1 => walk_at "cond")) | refine k_U ?_ | refine k_eqI ?_ | refine k_neI ?_ | refine k_eqB ?_ | refine k_neB ?_ | refine k_eqS ?_ | refine k_neS ?_
  | refine k_int1 ?_ | refine k_abs1 ?_ | refine k_min2 ?_ | refine k_max2 ?_
  | (refine' k_lenM ?k1 ?_; (case k1 => walk_at "hp")) | (refine' k_lenL ?k1 ?_; (case k1 => walk_at "hp")) | (refine' k_lenT ?k1 ?_; (case k1 => walk_at "hp"))
  | (refine' k_lenS ?k1 ?_; (case k1 => assumption)) | (refine' k_ixS ?k1 ?k2 ?_; (case k1 => assumption); (case k2 => walk_at "look"))
  | (refine' k_ixL ?k1 ?k2 ?_; (case k1 => walk_at "hp"); (case k2 => walk_at "look")) | (refine' k_ixT ?k1 ?k2 ?_; (case k1 => walk_at "hp"); (case k2 => walk_at "look"))
  | (refine' k_ix4 ?k1 ?k2 ?k3 ?_; (case k1 => walk_at "hp"); (case k2 => omega); (case k3 => omega); intro n' hn')
  | (refine' k_ix3 ?k1 ?k2 ?k3 ?_; (case k1 => walk_at "hp"); (case k2 => omega); (case k3 => omega); intro n' hn')
  | (refine' k_ix2 ?k1 ?k2 ?k3 ?_; (case k1 => walk_at "hp"); (case k2 => omega); (case k3 => omega); intro n' hn')
  | (refine' k_fld ?k1 ?k2 ?k3 ?k4 ?_; (case k1 => walk_at "hp"); (case k2 => assumption); (case k3 => assumption); (case k4 => walk_at "fld"))
  | (refine' k_lst ?k1 ?k2 ?_; (case k1 => assumption); (case k2 => exact sz (by simp)); intro p' H' M')
  | (refine' k_tup ?k1 ?k2 ?_; (case k1 => assumption); (case k2 => exact sz (by simp)); intro p' H' M')
  | (refine' k_setF0 ?k1 ?k2 ?k3 ?_; (case k1 => assumption); (case k2 => simp); (case k3 => with_unfolding_all rfl); intro H' M'; try simp only [Int.reduceToNat, List.set_cons_succ, List.set_cons_zero] at M')
  | (refine' k_setL0 ?k1 ?k2 ?_; (case k1 => assumption); (case k2 => with_unfolding_all rfl); intro H' M'; try simp only [Int.reduceToNat, List.set_cons_succ, List.set_cons_zero] at M')
  | (refine' k_setL1 ?k1 ?k2 ?_; (case k1 => assumption); (case k2 => with_unfolding_all rfl); intro H' M'; try simp only [Int.reduceToNat, List.set_cons_succ, List.set_cons_zero] at M')
  | (refine' k_setL2 ?k1 ?k2 ?_; (case k1 => assumption); (case k2 => with_unfolding_all rfl); intro H' M'; try simp only [Int.reduceToNat, List.set_cons_succ, List.set_cons_zero] at M')
  | refine iteT ?_ | refine iteF ?_ | refine k_iteNE ?_ | refine k_iteNS ?_ | refine k_iteNT ?_ | refine k_iteNF ?_
  | (refine k_iteD ?_ ?_ <;> intro hc <;> first | (exfalso; omega) | skip)
  | (refine k_iteN ?_ ?_ <;> intro hc <;> first | (exfalso; omega) | skip)
  | (refine' k_ownN ?k1 ?_; (case k1 => walk_at "hp")) | (refine' k_ownO ?k1 ?k2 ?_; (case k1 => walk_at "hp"); (case k2 => walk_at "hp")) | (refine' k_ownEq ?k1 ?k2 ?_; (case k1 => walk_at "hp"); (case k2 => walk_at "hp"))
  | (refine' k_ownIn ?k1 ?_; (case k1 => walk_at "hp")) | (refine' k_ownU ?k1 ?_; (case k1 => walk_at "hp")) | (refine' k_ownStr ?k1 ?_; (case k1 => walk_at "hp"))
  | (refine' k_prop ?k1 ?_; (case k1 => walk_at "hp")) | (refine' k_ownNe ?k1 ?k2 ?_; (case k1 => walk_at "hp"); (case k2 => walk_at "hp")) | (refine' k_eqP ?k1 ?k2 ?_; (case k1 => walk_at "hp"); (case k2 => walk_at "hp")) | (refine' k_neP ?k1 ?k2 ?_; (case k1 => walk_at "hp"); (case k2 => walk_at "hp"))
  | (refine' k_isiO ?k1 ?k2 ?k3 ?k4 ?k5 ?k6 ?_; (case k1 => walk_at "hp"); (case k2 => assumption); (case k3 => assumption); (case k4 => assumption); (case k5 => assumption); (case k6 => assumption))
  | (refine' k_isiI ?k1 ?_; (case k1 => assumption))
  | (refine' k_jst ?k1 ?_; (case k1 => walk_at "size")) | (refine' k_fmtI ?k1 ?_; (case k1 => exact log2_64 (by omega) (by omega))) | (refine' k_strI ?k1 ?_; (case k1 => exact log2_64 (by omega) (by omega)))
  | (refine k_addS ?k1 ?_; (case k1 => walk_at "size")) | refine k_st ?_ | refine k_parti ?_
  | (refine' k_cat ?k1 ?k2 ?k3 ?k4 ?_; (case k1 => assumption); (case k2 => walk_at "hp"); (case k3 => walk_at "hp"); (case k4 => walk_at "size"); intro p' H' M')
  | (refine' k_slL ?k1 ?k2 ?_; (case k1 => assumption); (case k2 => first | assumption | exact SqL.of (by walk_at "hp")); intro p' H' M')
  | (refine k_rng1 ?k1 ?k2 ?_; (case k1 => omega); (case k2 => omega)) | (refine k_rng2 ?k1 ?k2 ?k3 ?k4 ?_; (case k1 => omega); (case k2 => omega); (case k3 => omega); (case k4 => omega))
  | (refine' k_lstAt ?k1 ?_; (case k1 => first | assumption | exact SqL.of (by walk_at "hp"))) | (refine' k_tupAt ?k1 ?_; (case k1 => first | assumption | exact SqT.of (by walk_at "hp")))
  | (refine' k_isXs ?k1 ?k2 ?_; (case k1 => assumption); (case k2 => walk_at "hp")) | (refine' k_isXo ?k1 ?k2 ?k3 ?_; (case k1 => assumption); (case k2 => walk_at "hp"); (case k3 => assumption)) | (refine' k_isXt ?k1 ?k2 ?k3 ?_; (case k1 => assumption); (case k2 => walk_at "hp"); (case k3 => assumption))
  | (refine' k_isX3 ?k1 ?k2 ?k3 ?k4 ?_; (case k1 => assumption); (case k2 => walk_at "hp"); (case k3 => walk_at "hp"); (case k4 => assumption)) | (refine' k_isX2 ?k1 ?k2 ?k3 ?k4 ?_; (case k1 => assumption); (case k2 => walk_at "hp"); (case k3 => walk_at "hp"); (case k4 => assumption))
  | (refine' k_tyL ?k1 ?_; (case k1 => walk_at "hp"))
  | (refine' k_appL0 ?k1 ?k2 ?_; (case k1 => assumption); (case k2 => walk_at "size"); intro H' M') | (refine' k_appL1 ?k1 ?k2 ?_; (case k1 => assumption); (case k2 => walk_at "size"); intro H' M') | (refine' k_appL2 ?k1 ?k2 ?_; (case k1 => assumption); (case k2 => walk_at "size"); intro H' M') | (refine' k_appL3 ?k1 ?k2 ?_; (case k1 => assumption); (case k2 => walk_at "size"); intro H' M')
  | (refine' k_revL0 ?k1 ?_; (case k1 => assumption); intro H' M') | (refine' k_revL1 ?k1 ?_; (case k1 => assumption); intro H' M')
  | (refine' k_isX0s ?k1 ?_; (case k1 => assumption)) | (refine' k_isX0o ?k1 ?k2 ?_; (case k1 => assumption); (case k2 => assumption)) | (refine' k_isX0t ?k1 ?k2 ?_; (case k1 => assumption); (case k2 => assumption)) | (refine' k_isX04 ?k1 ?k2 ?k3 ?_; (case k1 => assumption); (case k2 => walk_at "hp"); (case k3 => assumption))
  | (refine' k_isX4 ?k1 ?k2 ?k3 ?k4 ?_; (case k1 => assumption); (case k2 => walk_at "hp"); (case k3 => walk_at "hp"); (case k4 => assumption)) | (refine' k_ixT2 ?k1 ?k2 ?k3 ?_; (case k1 => walk_at "hp"); (case k2 => omega); (case k3 => omega); intro n' hn')
  | (refine k_iteNEq ?k1 ?_; (case k1 => (rw [Bool.eq_iff_iff]; first | (simp; done) | (simp; omega))))
  | (refine' k_xf ?k1 ?k2 ?_; (case k1 => walk_at "hp"); (case k2 => first | exact xd1 | exact xdH | exact xd2 (by decide +kernel)))
  | (refine' k_caught ?k1 ?_; (case k1 => assumption); intro a' ha')
  | refine k_asgT ?_ | refine k_gCons ?_ | refine k_gNil ?_ | refine k_par ?_ | refine k_two ?_ | refine k_isNn ?_ | refine k_isNi ?_ | refine k_notNn ?_ | refine k_notNi ?_ | refine k_isN ?_ | refine k_notN ?_
  | (refine' k_gTup ?k1 ?k2 ?_; (case k1 => walk_at "hp"); (case k2 => with_unfolding_all rfl))
  | (refine' k_isiT ?k1 ?k2 ?_; (case k1 => walk_at "hp"); (case k2 => assumption)) | (refine' k_isiL ?k1 ?k2 ?_; (case k1 => walk_at "hp"); (case k2 => assumption))
  | (refine' k_ixQ ?k1 ?k2 ?_; (case k1 => assumption); (case k2 => walk_at "look")) | (refine' k_lenQ ?k1 ?_; (case k1 => assumption))
  | (refine' k_xfB ?k1 ?k2 ?_; (case k1 => walk_at "hp"); (case k2 => first | exact xd1 | exact xdH | exact xd2 (by decide +kernel)))
  | (refine' k_all ?k1 ?_; (case k1 => walk_at "hp"))
  | (refine' k_tupleOf ?k1 ?k2 ?_; (case k1 => assumption); (case k2 => exact SqL.of (by walk_at "hp")); intro p' H' M')
  | (refine' k_listOf ?k1 ?k2 ?_; (case k1 => assumption); (case k2 => exact Or.inl (SqL.of (by walk_at "hp"))); intro p' H' M')
  | walk_at "use")
local macro_rules | `(tactic| walk_at "go") => `(tactic| repeat' (walk_at "go1"))

local macro_rules | `(tactic| walk_at "eq") => `(tactic| first | rfl | assumption | omega)
local macro_rules | `(tactic| walk_at "fld") => `(tactic| first | exact resF_place _ _ | exact resF_length _ _)
local macro_rules | `(tactic| walk_at "size") => `(tactic| first | exact sz (by first | omega | (simp only [List.length_map, List.length_range, List.length_append, List.length_cons, List.length_nil, Int.reduceSub, Int.reduceToNat, Int.reduceNeg]; omega)) | (exact Nat.lt_of_le_of_lt (m := 50000) (by first | omega | (simp only [List.length_map, List.length_range, List.length_append, List.length_cons, List.length_nil]; omega)) (by decide)))
section
variable {P : Program} {w : World} {K : PySem.W.Frag} {mg : Str → Option Value} {base : Heap} {C CO fO CD fD CA CU CT CI : Addr}
theorem k_any {H : Hp} {Q : VK} {p : Addr} {bs : List Bool} (h : H p = some (.lst (bs.map V.bl))) (q : Q (.bl (bs.any id)) H) : rAny K [.ref p] H Q := ⟨p, bs, rfl, SqL.of h, q⟩
def Told (C : Addr) (rs : List Pr) (o : HO) (l2 : List (Addr × HO)) : Prop :=
  (allok rs rs.length ∧ ∃ x dz z, o = told1 x ∧ Okr rs z ∧ l2 = [(x, .ins C dz (resF z (lf rs)))]) ∨ ∃ (k : Nat) (r : Pr), rs[k]? = some r ∧ allok rs k ∧ ¬ compat (rs.take k) r ∧ o = told0 (gI (lf (rs.take k)) r.2) ∧ l2 = []
theorem use_lrow {B H : Hp} {ms : List Addr} {f l : List (Addr × HO)} {Q : VK} {E : XK} {a : Addr} {xs : List V} {rs : List Pr} (M : Mem B ms H f l) (h1 : H a = some (.lst xs)) (hx : Rss C H xs rs) (hz : Sz rs) (k : ∀ t o l2 H', Told C rs o l2 → Mem B ms H' f ((t, o) :: (l2 ++ l)) → Q (.ref t) H') : sp_lrow C [.ref a] H Q E :=
  ⟨a, xs, rs, rfl, h1, hx, hz, fun ha z t x dz H' okz M2 => k t _ _ H' (.inl ⟨ha, x, dz, z, rfl, okz, rfl⟩) (M.comp0 M2), fun i r hr ha hc t H' M2 => k t _ _ H' (.inr ⟨i, r, hr, ha, hc, rfl, rfl⟩) (M.comp0 M2)⟩
abbrev apB (rs : List Pr) (r : Pr) (j : Nat) : Bool := !decide (((rs.getD j (0, 0)).1 - r.1) % gI (rs.getD j (0, 0)).2 r.2 = 0)
theorem any_good {rs : List Pr} {r : Pr} {i : Nat} (hi : i ≤ rs.length) (hc : compat (rs.take i) r) : ((List.range i).map (apB rs r)).any id = false := by
  rw [List.any_eq_false]
  intro b hb
  obtain ⟨j, hj, rfl⟩ := List.mem_map.mp hb
  rw [List.mem_range] at hj
  have hjl : j < rs.length := by omega
  have hm : rs[j] ∈ rs.take i := List.mem_take_iff_getElem.mpr ⟨j, by omega, rfl⟩
  have := Int.emod_eq_zero_of_dvd (hc _ hm)
  rw [apB, getD_of (List.getElem?_eq_getElem hjl), decide_eq_true this]
  exact Bool.false_ne_true
theorem any_bad {rs : List Pr} {r : Pr} {i : Nat} (hi : i ≤ rs.length) (hc : ¬ compat (rs.take i) r) : ((List.range i).map (apB rs r)).any id = true := by
  by_cases h : ((List.range i).map (apB rs r)).any id = true
  · exact h
  · refine absurd (fun q hq => ?_) hc
    obtain ⟨j, hj, e⟩ := List.mem_take_iff_getElem.mp hq
    have h2 : ((List.range i).map (apB rs r)).any id = false := by simpa using h
    rw [List.any_eq_false] at h2
    have h3 := h2 (apB rs r j) (List.mem_map_of_mem (List.mem_range.mpr (by omega)))
    have hjl : j < rs.length := by omega
    rw [apB, getD_of (List.getElem?_eq_getElem hjl), e] at h3
    have h4 : (q.1 - r.1) % gI q.2 r.2 = 0 := by
      by_cases z : (q.1 - r.1) % gI q.2 r.2 = 0
      · exact z
      · rw [decide_eq_false z] at h3; exact absurd rfl h3
    exact Int.dvd_of_emod_eq_zero h4
local macro_rules | `(tactic| walk_at "use") => `(tactic| first
  | refine use_isn ?_
  | (refine' use_res ?k1 ?k2 ?_; (case k1 => assumption); (case k2 => omega); intro x' dx' H' M')
  | (refine' use_gcd ?k1 ?k2 ?_; (case k1 => omega); (case k2 => omega))
  | (refine' use_lcm ?k1 ?k2 ?k3 ?_; (case k1 => omega); (case k2 => omega); (case k3 => omega))
  | (refine' use_apart ?k1 ?k2 ?k3 ?k4 ?_; (case k1 => walk_at "hp"); (case k2 => walk_at "hp"); (case k3 => omega); (case k4 => omega))
  | (refine' use_is ?k1 ?k2 ?_; (case k1 => walk_at "hp"); (case k2 => omega))
  | (refine' k_any ?k1 ?_; (case k1 => walk_at "hp")))
def sp_chain : Sp := fun vs H Q _ => ∃ (l : Addr) (xs : List V) (rs : List Pr), vs = [.ref l] ∧ H l = some (.lst xs) ∧ Prs H xs rs ∧ Sz rs ∧ ∀ H', Same H H' → Q (.bl true) H'
theorem ok_chain {f : Addr} {fd : FuncData} (F : Fun K "_law_chain" "_law_chain" s__law_chain f fd) (T : Txt P K mg C CO fO CD fD CA CU CT CI) (c_Residue : Mak P w K mg base 1 "Residue" C (sp_res C CO)) (c__law_row : Cal P w K mg base 6 "_law_row" (sp_lrow C)) (c__law_apart : Cal P w K mg base 2 "_law_apart" sp_apart) (c__law_is_disjoint : Cal P w K mg base 2 "_law_is_disjoint" sp_isdis) (c__law_gcd : Cal P w K mg base 1 "_law_gcd" sp_gcd) (c__law_lcm : Cal P w K mg base 2 "_law_lcm" sp_lcm) (c__law_holds : Cal P w K mg base 3 "_law_holds" (sp_holds C)) (c__law_is : Cal P w K mg base 2 "_law_is" (sp_is C)) :
    FnOk P w K mg base (L2.CX P w) (6 + 1) f fd ["_law_pool_here"] sp_chain := by
  refine okT F sc__law_chain (fun vs H Q E h => ?_) (fun cdv A outer s H vs Q E hr tk h => ?_)
  · obtain ⟨l, xs, rs, rfl, _⟩ := h
    rfl
  obtain ⟨l, xs, rs, rfl, h1, p1, hz, k⟩ := h
  have f1 := T.i1; have f2 := T.i2; have f6 := T.cl; have f7 := T.nP; have f8 := T.nL; have f9 := T.ca; have f10 := T.cn; have f11 := T.ct; have f12 := T.cm; have f13 := T.ek; have f14 := T.exm; have f15 := T.k1; have f16 := T.k2
  refine ⟨_, (pss_cons (ps_setLc (i := 1) (own := [("_law_one", 5)]) (g := gName 5) (tt := tYes) rfl sc__law_chain.nd rfl rfl (sw_true rfl rfl rfl (by decide +kernel)) (pi_list (pv 0)) (blkOk_by (own := [("_law_one", 5)]) (N := N__law_chain) (sc := defScope s__law_chain) (by decide +kernel)) (fun _ _ _ _ _ => pg_name (i := 5) sc__law_chain.nd rfl (Or.inl rfl)) (fun _ _ _ _ _ => pts_nil) (fun _ _ _ _ _ => (c_make c_Residue takes0 hr (by decide) (pa_cons (pe_ix (ix_tup : IxR _ (rIxT K)) (pv 5) pe_int (fun _ _ => rfl)) (pa_cons (pe_ix (ix_tup : IxR _ (rIxT K)) (pv 5) pe_int (fun _ _ => rfl)) pa_nil)))))
      (pss_cons (ps_set (i := 2) sc__law_chain.nd rfl (Or.inl rfl) (c_call c__law_row tk hr (by decide) (pa_cons (pe_callTy b_listOf (by rfl) T.b_list (by decide +kernel) (pa_cons (pv 1) pa_nil)) pa_nil)))
      (pss_cons (ps_set (i := 3) sc__law_chain.nd rfl (Or.inl rfl) pe_int)
      (pss_cons (ps_for (passes_of rfl) rfl (pi_range1 (by rfl) T.b_range (pa_cons (pe_callB b_len (by rfl) T.b_len (by decide +kernel) (pa_cons (pv 0) pa_nil)) pa_nil)) (pg_name (i := 4) sc__law_chain.nd rfl (Or.inr rfl)) (pss_cons (ps_if (pt_val (pe_callB (cr_any rfl) (by rfl) T.b_any (by decide +kernel) (pa_cons (pe_lc (own := [("_law_j", 6)]) (g := gName 6) (tt := tYes) rfl sc__law_chain.nd (pi_range1 (by rfl) T.b_range (pa_cons (pv 4) pa_nil)) (blkOk_by (own := [("_law_j", 6)]) (N := N__law_chain) (sc := defScope s__law_chain) (by decide +kernel)) (fun _ _ _ _ _ => pg_name (i := 6) sc__law_chain.nd rfl (Or.inl rfl)) (fun _ _ _ _ _ => pts_nil) (fun _ _ _ _ _ => (c_call c__law_apart takes0 hr (by decide) (pa_cons (pe_ix (ix_list : IxR _ (rIxL K)) (pv 0) (pv 6) (fun _ _ => rfl)) (pa_cons (pe_ix (ix_list : IxR _ (rIxL K)) (pv 0) (pv 4) (fun _ _ => rfl)) pa_nil))))) pa_nil))) (pss_one (ps_ret (c_call c__law_is_disjoint tk hr (by decide) (pa_cons (pv 2) (pa_cons (c_call c__law_gcd tk hr (by decide) (pa_cons (pv 3) (pa_cons (pe_ix ix_tup (pe_ix ix_list (pv 0) (pv 4) (fun _ _ => rfl)) pe_int (fun _ _ => rfl)) pa_nil))) pa_nil))))) pss_nil)
      (pss_one (ps_set (i := 3) sc__law_chain.nd rfl (Or.inl rfl) (c_call c__law_lcm tk hr (by decide) (pa_cons (pv 3) (pa_cons (pe_ix ix_tup (pe_ix ix_list (pv 0) (pv 4) (fun _ _ => rfl)) pe_int (fun _ _ => rfl)) pa_nil)))))))
      (pss_cons (ps_if (pt_not (pt_val (c_call c__law_holds tk hr (by decide) (pa_cons (pe_ix ix_tup (pv 2) pe_int (fun _ _ => rfl)) (pa_cons (pv 0) pa_nil))))) (pss_one (ps_ret pe_bl)) pss_nil)
      (pss_cons (ps_for (passes_of rfl) rfl (pi_range1 (by rfl) T.b_range (pa_cons (pe_callB b_len (by rfl) T.b_len (by decide +kernel) (pa_cons (pv 0) pa_nil)) pa_nil)) (pg_name (i := 4) sc__law_chain.nd rfl (Or.inr rfl)) (pss_one (ps_if (pt_not (pt_val (c_call c__law_is tk hr (by decide) (pa_cons (pe_ix ix_list (pv 1) (pv 4) (fun _ _ => rfl)) (pa_cons (pe_ix ix_tup (pe_ix ix_list (pv 0) (pv 4) (fun _ _ => rfl)) pe_int (fun _ _ => rfl)) (pa_cons (pe_ix ix_tup (pe_ix ix_list (pv 0) (pv 4) (fun _ _ => rfl)) pe_int (fun _ _ => rfl)) pa_nil)))))) (pss_one (ps_ret pe_bl)) pss_nil)))
      (pss_one (ps_ret pe_bl)))))))), ?_⟩
  simp only [cxK, st__law_chain]
  have M : Mem H [] H [] [] := mem_start (by simp []) (by simp) (by simp)
  obtain ⟨hl4, hsz⟩ := hz
  have hxl := p1.1
  walk_at "go"
  refine lcL_new (O := fun x o => ∀ p r, x = .ref p → H p = some (prO r) → ∃ dx, o = .ins C dx (resF (r.1 % r.2) r.2)) (xs := xs) M (fun H' l' M' => SqL.of (M'.atB0 h1)) (by omega) (fun x => rfl) ?_ ?_
  · intro x H' l' R hx M' kR
    obtain ⟨i, hi, e⟩ := List.mem_iff_getElem.mp hx
    have hi2 := List.getElem?_eq_getElem hi
    rw [e] at hi2
    obtain ⟨r, p, hr, rfl, hp⟩ := p1.get hi2
    have hp' := M'.atB0 hp
    have hrs := hsz r (List.mem_of_getElem? hr)
    walk_at "go"
    rename_i y dy H4 M4
    refine kR y _ H4 ?_ M4
    intro p2 r2 e2 h2
    cases e2
    rw [hp] at h2
    have e3 : r.1 = r2.1 ∧ r.2 = r2.2 := by
      have := HO.tup.inj (Option.some.inj h2)
      simp at this
      exact this
    rw [e3.1, e3.2]
    exact ⟨dy, rfl⟩
  intro D zs H2 hzl hO M2
  have pz : PG (fun p r => ∃ dx, (p, HO.ins C dx (resF (r.1 % r.2) r.2)) ∈ zs) (zs.map fun z => V.ref z.1) rs := by
    refine ⟨by rw [List.length_map, hzl]; exact hxl, fun i x r hx hr => ?_⟩
    rw [List.getElem?_map] at hx
    have hil : i < xs.length := by rw [hxl]; exact (List.getElem?_eq_some_iff.mp hr).1
    obtain ⟨r', p, hr', e, hp⟩ := p1.get (List.getElem?_eq_getElem hil)
    rw [hr] at hr'
    cases hr'
    cases hzi : zs[i]? with
    | none => rw [hzi] at hx; cases hx
    | some z =>
      rw [hzi] at hx
      cases hx
      obtain ⟨dx, e2⟩ := hO i _ z (List.getElem?_eq_getElem hil) hzi p r e hp
      refine ⟨z.1, rfl, dx, ?_⟩
      rw [← e2]
      exact List.mem_of_getElem? hzi
  walk_at "go"
  rename_i D2 H3 M3
  refine use_lrow M3 (M3.getL List.mem_cons_self) (pz.mono fun p r ⟨dx, hm⟩ => ⟨dx, M3.getL (by simp [hm])⟩) ⟨hl4, hsz⟩ fun t o l2 H4 hT M4 => ?_
  walk_at "go"
  have hs1 : ∀ i, ∀ r ∈ rs.take i, 1 ≤ r.2 := fun i r hr => (hsz r (List.mem_of_mem_take hr)).1
  refine rng_loop ⟨fun i σ' H' => ∃ (l' : List (Addr × HO)) (v4 : Option V), σ' = [some (.ref l), some (.ref D), some (.ref t), some (.int (lf (rs.take i))), v4, none, none] ∧ Mem H [] H' [] l' ∧ (t, o) ∈ l' ∧ (D, .lst (zs.map fun z => V.ref z.1)) ∈ l' ∧ (∀ z ∈ zs, z ∈ l') ∧ (∀ z ∈ l2, z ∈ l') ∧ allok rs i, ?_, ?_, ?_⟩
  · exact ⟨_, _, rfl, M4, List.mem_cons_self, by simp, fun z hz => by simp [hz], fun z hz => by simp [hz], fun j q hj => by omega⟩
  · rintro i σ' H' hi ⟨l', v4, rfl, M', ht, hD, hzs, hl2, hal⟩
    have hil : i < xs.length := by simpa using hi
    have hi2 := List.getElem?_eq_getElem hil
    obtain ⟨r, p, hr, e, hp⟩ := p1.get hi2
    have hat : atI xs (0 + (i : Int)) = some (.ref p) := by rw [← e]; exact atI_nat0 hi2
    have hrs := hsz r (List.mem_of_getElem? hr)
    have hlp := lf_pos (hs1 i)
    have h1' := M'.atB0 h1
    have hp' := M'.atB0 hp
    have e0 : (0 + (i : Int)).toNat = i := by omega
    walk_at "go"
    rw [e0]
    refine lcR_pure M' (fun j => .bl (apB rs r j)) (by omega) (fun x => rfl) ?_ ?_
    · intro j H5 D5 R hj M5 kR
      have hj2 := List.getElem?_eq_getElem (show j < xs.length by omega)
      obtain ⟨rj, pj, hrj, ej, hpj⟩ := p1.get hj2
      have hatj : atI xs (0 + (j : Int)) = some (.ref pj) := by rw [← ej]; exact atI_nat0 hj2
      have hrsj := hsz rj (List.mem_of_getElem? hrj)
      have h15 := M5.atB0 h1
      have hp5 := M5.atB0 hp
      have hpj5 := M5.atB0 hpj
      rw [apB, getD_of hrj] at kR
      walk_at "go"
      exact kR _ M5
    intro D5 H5 M5
    rw [show (List.range i).map (fun j => V.bl (apB rs r j)) = ((List.range i).map (apB rs r)).map V.bl by rw [List.map_map]; rfl] at M5
    have h15 := M5.atB0 h1
    have hp5 := M5.atB0 hp
    walk_at "go"
    by_cases hc : compat (rs.take i) r
    · rw [any_good (by omega) hc]
      walk_at "go"
      refine ⟨_, _, by rw [lf_take hr]; rfl, M5, List.mem_cons_of_mem _ ht, List.mem_cons_of_mem _ hD, fun z hz => List.mem_cons_of_mem _ (hzs z hz), fun z hz => List.mem_cons_of_mem _ (hl2 z hz), ?_⟩
      intro j q hj hq
      by_cases ej : j = i
      · subst ej
        rw [hr] at hq
        cases hq
        exact hc
      · exact hal j q (by omega) hq
    · rw [any_bad (by omega) hc]
      walk_at "go"
      have ho : o = told0 (gI (lf (rs.take i)) r.2) := by
        rcases hT with ⟨ha, _⟩ | ⟨k0, r0, hr0, ha0, hc0, e5, _⟩
        · exact absurd (ha i r (by omega) hr) hc
        · have : k0 = i := by
            rcases Nat.lt_trichotomy k0 i with z | z | z
            · exact absurd (hal k0 r0 z hr0) hc0
            · exact z
            · exact absurd (ha0 i r z hr) hc
          subst this
          rw [hr] at hr0
          cases hr0
          exact e5
      refine use_isdis (by rw [← ho]; exact M5.getL (List.mem_cons_of_mem _ ht)) rfl ?_
      exact k _ (Same.of_keep M5)
  · rintro σ' H' ⟨l', v4, rfl, M', ht, hD, hzs, hl2, hal⟩
    have hxn : ((xs.length : Int)).toNat = rs.length := by omega
    rw [hxn] at hal
    obtain ⟨x, dz, z, e5, okz, e6⟩ : ∃ x dz z, o = told1 x ∧ Okr rs z ∧ l2 = [(x, .ins C dz (resF z (lf rs)))] := by
      rcases hT with ⟨_, h⟩ | ⟨k0, r0, hr0, ha0, hc0, _, _⟩
      · exact h
      · exact absurd (hal k0 r0 (List.getElem?_eq_some_iff.mp hr0).1 hr0) hc0
    have ht' := M'.getL ht
    rw [e5] at ht'
    have hx' := M'.getL (hl2 (x, .ins C dz (resF z (lf rs))) (by rw [e6]; simp))
    have h1' := M'.atB0 h1
    walk_at "go"
    refine use_holds hx' h1' (p1.same (Same.of_keep M')) okz (fun r hr => ⟨(hsz r hr).1, by have := (hsz r hr).2; omega⟩) ?_
    walk_at "go"
    refine rng_loop ⟨fun i σ' H2 => ∃ (v3 v4 : Option V), σ' = [some (.ref l), some (.ref D), some (.ref t), v3, v4, none, none] ∧ H2 = H', ?_, ?_, ?_⟩
    · exact ⟨_, _, rfl, rfl⟩
    · rintro i σ' H2 hi ⟨v3, v4, rfl, rfl⟩
      have hil : i < xs.length := by simpa using hi
      have hi2 := List.getElem?_eq_getElem hil
      obtain ⟨r, p, hr, e, hp⟩ := p1.get hi2
      have hat : atI xs (0 + (i : Int)) = some (.ref p) := by rw [← e]; exact atI_nat0 hi2
      have hp' := M'.atB0 hp
      have hrs := hsz r (List.mem_of_getElem? hr)
      have hil2 : i < (zs.map fun z => V.ref z.1).length := by rw [List.length_map]; omega
      obtain ⟨r', p2, hr2, e2, dx2, hm2⟩ := pz.get (List.getElem?_eq_getElem hil2)
      rw [hr] at hr2
      cases hr2
      have hat2 : atI (zs.map fun z => V.ref z.1) (0 + (i : Int)) = some (.ref p2) := by rw [← e2]; exact atI_nat0 (List.getElem?_eq_getElem hil2)
      have hp2 := M'.getL (hzs _ hm2)
      have hD' := M'.getL hD
      walk_at "go"
      exact ⟨_, _, rfl, rfl⟩
    · rintro σ' H2 ⟨v3, v4, rfl, rfl⟩
      walk_at "go"
      exact k _ (Same.of_keep M')
theorem use_chain {B H : Hp} {ms : List Addr} {f l : List (Addr × HO)} {Q : VK} {E : XK} {a : Addr} {xs : List V} {rs : List Pr} (M : Mem B ms H f l) (h1 : H a = some (.lst xs)) (p : Prs H xs rs) (hz : Sz rs) (k : ∀ H', Mem B ms H' f l → Q (.bl true) H') : sp_chain [.ref a] H Q E :=
  ⟨a, xs, rs, rfl, h1, p, hz, fun H' s => k H' (M.same s)⟩
end
end K01

set_option Elab.async false
set_option linter.all false
set_option maxRecDepth 100000
set_option maxHeartbeats 8000000
namespace K01
open PySem L2 MyL
local macro_rules | `(tactic| walk_at "mem") => `(tactic| first | exact List.mem_cons_self | (refine List.mem_cons_of_mem _ ?_; walk_at "mem"))
local macro_rules | `(tactic| walk_at "hp") => `(tactic| first | assumption | (refine' Mem.getL ?k1 ?k2; (case k1 => assumption); (case k2 => walk_at "mem")) | (refine' Mem.getF ?k1 ?k2; (case k1 => assumption); (case k2 => walk_at "mem")) | (refine' Mem.atB ?k1 ?k2; (case k1 => assumption); (case k2 => assumption)))
local macro_rules | `(tactic| walk_at "cond") => `(tactic| first | omega | assumption | exact mulR (by omega) (by omega) | exact mulL (by omega) (by omega) | exact divW (by omega) (by omega) | decide)
local macro_rules | `(tactic| walk_at "look") => `(tactic| first | assumption | with_unfolding_all rfl | exact atI_map (by omega) (by omega))
local macro_rules | `(tactic| walk_at "go1") => `(tactic| with_reducible first
  | refine k_seq ?_ | refine k_gName ?_ | refine k_asg ?_ | refine k_ret ?_ | refine k_ifS ?_ | refine k_drop ?_ | refine k_next ?_ | refine k_break ?_ | refine k_cont ?_ | refine k_retN ?_
  | (refine' k_var ?k1 ?_; (case k1 => with_unfolding_all rfl)) | refine k_c ?_ | refine k_op ?_ | refine k_un ?_ | refine k_test ?_ | refine k_B ?_ | refine k_bl ?_ | refine k_and ?_ | refine k_or ?_ | refine k_not ?_
  | refine k_andV ?_ | refine k_orV ?_ | refine k_notV ?_ | refine k_ifE ?_ | refine k_nil ?_ | refine k_cons ?_ | refine k_cb ?_ | refine k_callS ?_ | refine k_lst0 ?_ | refine k_tup0 ?_ | refine k_fld0 ?_ | refine k_sub0 ?_ | refine k_make0 ?_ | refine k_prop0 ?_ | refine k_sta0 ?_ | refine k_sta ?_ | refine k_bm ?_ | refine k_bm0 ?_ | refine k_chain ?_ | refine k_makeK0 ?_ | refine k_swapK ?_ | refine k_meth0 ?_ | refine k_ownN0 ?_ | refine k_ownO0 ?_ | refine k_sfld0 ?_ | refine k_jnil ?_ | refine k_jcons ?_ | refine k_fmt0 ?_ | refine k_sl0 ?_ | refine k_nopart ?_ | refine k_part ?_ | refine k_forR1 ?_ | refine k_forR2 ?_ | refine k_forL ?_ | refine k_forT ?_ | refine k_lcR1 ?_ | refine k_lcR2 ?_ | refine k_lcL ?_ | refine k_lcT ?_ | refine k_err0 ?_ | refine k_xf0 ?_ | refine k_errQ1 ?_ | refine k_errQ0 ?_ | refine k_errQ2 ?_ | refine k_errQ3 ?_
  | refine k_I0 ?_ | (refine k_I ?k1 ?_; (case k1 => walk_at "cond")) | refine k_U ?_ | refine k_eqI ?_ | refine k_neI ?_ | refine k_eqB ?_ | refine k_neB ?_ | refine k_eqS ?_ | refine k_neS ?_
  | refine k_int1 ?_ | refine k_abs1 ?_ | refine k_min2 ?_ | refine k_max2 ?_
  | (refine' k_lenM ?k1 ?_; (case k1 => walk_at "hp")) | (refine' k_lenL ?k1 ?_; (case k1 => walk_at "hp")) | (refine' k_lenT ?k1 ?_; (case k1 => walk_at "hp"))
  | (refine' k_lenS ?k1 ?_; (case k1 => assumption)) | (refine' k_ixS ?k1 ?k2 ?_; (case k1 => assumption); (case k2 => walk_at "look"))
  | (refine' k_ixL ?k1 ?k2 ?_; (case k1 => walk_at "hp"); (case k2 => walk_at "look")) | (refine' k_ixT ?k1 ?k2 ?_; (case k1 => walk_at "hp"); (case k2 => walk_at "look"))
  | (refine' k_ix4 ?k1 ?k2 ?k3 ?_; (case k1 => walk_at "hp"); (case k2 => omega); (case k3 => omega); intro n' hn')
  | (refine' k_ix3 ?k1 ?k2 ?k3 ?_; (case k1 => walk_at "hp"); (case k2 => omega); (case k3 => omega); intro n' hn')
  | (refine' k_ix2 ?k1 ?k2 ?k3 ?_; (case k1 => walk_at "hp"); (case k2 => omega); (case k3 => omega); intro n' hn')
  | (refine' k_fld ?k1 ?k2 ?k3 ?k4 ?_; (case k1 => walk_at "hp"); (case k2 => assumption); (case k3 => assumption); (case k4 => walk_at "fld"))
  | (refine' k_lst ?k1 ?k2 ?_; (case k1 => assumption); (case k2 => exact sz (by simp)); intro p' H' M')
  | (refine' k_tup ?k1 ?k2 ?_; (case k1 => assumption); (case k2 => exact sz (by simp)); intro p' H' M')
  | (refine' k_setF0 ?k1 ?k2 ?k3 ?_; (case k1 => assumption); (case k2 => simp); (case k3 => with_unfolding_all rfl); intro H' M'; try simp only [Int.reduceToNat, List.set_cons_succ, List.set_cons_zero] at M')
  | (refine' k_setL0 ?k1 ?k2 ?_; (case k1 => assumption); (case k2 => with_unfolding_all rfl); intro H' M'; try simp only [Int.reduceToNat, List.set_cons_succ, List.set_cons_zero] at M')
  | (refine' k_setL1 ?k1 ?k2 ?_; (case k1 => assumption); (case k2 => with_unfolding_all rfl); intro H' M'; try simp only [Int.reduceToNat, List.set_cons_succ, List.set_cons_zero] at M')
  | (refine' k_setL2 ?k1 ?k2 ?_; (case k1 => assumption); (case k2 => with_unfolding_all rfl); intro H' M'; try simp only [Int.reduceToNat, List.set_cons_succ, List.set_cons_zero] at M')
  | refine iteT ?_ | refine iteF ?_ | refine k_iteNE ?_ | refine k_iteNS ?_ | refine k_iteNT ?_ | refine k_iteNF ?_
  | (refine k_iteD ?_ ?_ <;> intro hc <;> first | (exfalso; omega) | skip)
  | (refine k_iteN ?_ ?_ <;> intro hc <;> first | (exfalso; omega) | skip)
  | (refine' k_ownN ?k1 ?_; (case k1 => walk_at "hp")) | (refine' k_ownO ?k1 ?k2 ?_; (case k1 => walk_at "hp"); (case k2 => walk_at "hp")) | (refine' k_ownEq ?k1 ?k2 ?_; (case k1 => walk_at "hp"); (case k2 => walk_at "hp"))
  | (refine' k_ownIn ?k1 ?_; (case k1 => walk_at "hp")) | (refine' k_ownU ?k1 ?_; (case k1 => walk_at "hp")) | (refine' k_ownStr ?k1 ?_; (case k1 => walk_at "hp"))
  | (refine' k_prop ?k1 ?_; (case k1 => walk_at "hp")) | (refine' k_ownNe ?k1 ?k2 ?_; (case k1 => walk_at "hp"); (case k2 => walk_at "hp")) | (refine' k_eqP ?k1 ?k2 ?_; (case k1 => walk_at "hp"); (case k2 => walk_at "hp")) | (refine' k_neP ?k1 ?k2 ?_; (case k1 => walk_at "hp"); (case k2 => walk_at "hp"))
  | (refine' k_isiO ?k1 ?k2 ?k3 ?k4 ?k5 ?k6 ?_; (case k1 => walk_at "hp"); (case k2 => assumption); (case k3 => assumption); (case k4 => assumption); (case k5 => assumption); (case k6 => assumption))
  | (refine' k_isiI ?k1 ?_; (case k1 => assumption))
  | (refine' k_jst ?k1 ?_; (case k1 => walk_at "size")) | (refine' k_fmtI ?k1 ?_; (case k1 => exact log2_64 (by omega) (by omega))) | (refine' k_strI ?k1 ?_; (case k1 => exact log2_64 (by omega) (by omega)))
  | (refine k_addS ?k1 ?_; (case k1 => walk_at "size")) | refine k_st ?_ | refine k_parti ?_
  | (refine' k_cat ?k1 ?k2 ?k3 ?k4 ?_; (case k1 => assumption); (case k2 => walk_at "hp"); (case k3 => walk_at "hp"); (case k4 => walk_at "size"); intro p' H' M')
  | (refine' k_slL ?k1 ?k2 ?_; (case k1 => assumption); (case k2 => first | assumption | exact SqL.of (by walk_at "hp")); intro p' H' M')
  | (refine k_rng1 ?k1 ?k2 ?_; (case k1 => omega); (case k2 => omega)) | (refine k_rng2 ?k1 ?k2 ?k3 ?k4 ?_; (case k1 => omega); (case k2 => omega); (case k3 => omega); (case k4 => omega))
  | (refine' k_lstAt ?k1 ?_; (case k1 => first | assumption | exact SqL.of (by walk_at "hp"))) | (refine' k_tupAt ?k1 ?_; (case k1 => first | assumption | exact SqT.of (by walk_at "hp")))
  | (refine' k_isXs ?k1 ?k2 ?_; (case k1 => assumption); (case k2 => walk_at "hp")) | (refine' k_isXo ?k1 ?k2 ?k3 ?_; (case k1 => assumption); (case k2 => walk_at "hp"); (case k3 => assumption)) | (refine' k_isXt ?k1 ?k2 ?k3 ?_; (case k1 => assumption); (case k2 => walk_at "hp"); (case k3 => assumption))
  | (refine' k_isX3 ?k1 ?k2 ?k3 ?k4 ?_; (case k1 => assumption); (case k2 => walk_at "hp"); (case k3 => walk_at "hp"); (case k4 => assumption)) | (refine' k_isX2 ?k1 ?k2 ?k3 ?k4 ?_; (case k1 => assumption); (case k2 => walk_at "hp"); (case k3 => walk_at "hp"); (case k4 => assumption))
  | (refine' k_tyL ?k1 ?_; (case k1 => walk_at "hp"))
  | (refine' k_appL0 ?k1 ?k2 ?_; (case k1 => assumption); (case k2 => walk_at "size"); intro H' M') | (refine' k_appL1 ?k1 ?k2 ?_; (case k1 => assumption); (case k2 => walk_at "size"); intro H' M') | (refine' k_appL2 ?k1 ?k2 ?_; (case k1 => assumption); (case k2 => walk_at "size"); intro H' M') | (refine' k_appL3 ?k1 ?k2 ?_; (case k1 => assumption); (case k2 => walk_at "size"); intro H' M')
  | (refine' k_revL0 ?k1 ?_; (case k1 => assumption); intro H' M') | (refine' k_revL1 ?k1 ?_; (case k1 => assumption); intro H' M')
  | (refine' k_isX0s ?k1 ?_; (case k1 => assumption)) | (refine' k_isX0o ?k1 ?k2 ?_; (case k1 => assumption); (case k2 => assumption)) | (refine' k_isX0t ?k1 ?k2 ?_; (case k1 => assumption); (case k2 => assumption)) | (refine' k_isX04 ?k1 ?k2 ?k3 ?_; (case k1 => assumption); (case k2 => walk_at "hp"); (case k3 => assumption))
  | (refine' k_isX4 ?k1 ?k2 ?k3 ?k4 ?_; (case k1 => assumption); (case k2 => walk_at "hp"); (case k3 => walk_at "hp"); (case k4 => assumption)) | (refine' k_ixT2 ?k1 ?k2 ?k3 ?_; (case k1 => walk_at "hp"); (case k2 => omega); (case k3 => omega); intro n' hn')
  | (refine k_iteNEq ?k1 ?_; (case k1 => (rw [Bool.eq_iff_iff]; first | (simp; done) | (simp; omega))))
  | (refine' k_xf ?k1 ?k2 ?_; (case k1 => walk_at "hp"); (case k2 => first | exact xd1 | exact xdH | exact xd2 (by decide +kernel)))
  | (refine' k_caught ?k1 ?_; (case k1 => assumption); intro a' ha')
  | refine k_asgT ?_ | refine k_gCons ?_ | refine k_gNil ?_ | refine k_par ?_ | refine k_two ?_ | refine k_isNn ?_ | refine k_isNi ?_ | refine k_notNn ?_ | refine k_notNi ?_ | refine k_isN ?_ | refine k_notN ?_
  | (refine' k_gTup ?k1 ?k2 ?_; (case k1 => walk_at "hp"); (case k2 => with_unfolding_all rfl))
  | (refine' k_isiT ?k1 ?k2 ?_; (case k1 => walk_at "hp"); (case k2 => assumption)) | (refine' k_isiL ?k1 ?k2 ?_; (case k1 => walk_at "hp"); (case k2 => assumption))
  | (refine' k_ixQ ?k1 ?k2 ?_; (case k1 => assumption); (case k2 => walk_at "look")) | (refine' k_lenQ ?k1 ?_; (case k1 => assumption))
  | (refine' k_xfB ?k1 ?k2 ?_; (case k1 => walk_at "hp"); (case k2 => first | exact xd1 | exact xdH | exact xd2 (by decide +kernel)))
  | (refine' k_all ?k1 ?_; (case k1 => walk_at "hp"))
  | (refine' k_tupleOf ?k1 ?k2 ?_; (case k1 => assumption); (case k2 => exact SqL.of (by walk_at "hp")); intro p' H' M')
  | (refine' k_listOf ?k1 ?k2 ?_; (case k1 => assumption); (case k2 => exact Or.inl (SqL.of (by walk_at "hp"))); intro p' H' M')
  | walk_at "use")
local macro_rules | `(tactic| walk_at "go") => `(tactic| repeat' (walk_at "go1"))

local macro_rules | `(tactic| walk_at "eq") => `(tactic| first | rfl | assumption | omega)
local macro_rules | `(tactic| walk_at "fld") => `(tactic| first | exact resF_place _ _ | exact resF_length _ _)
local macro_rules | `(tactic| walk_at "size") => `(tactic| first | exact sz (by first | omega | (simp only [List.length_map, List.length_range, List.length_append, List.length_cons, List.length_nil, Int.reduceSub, Int.reduceToNat, Int.reduceNeg]; omega)) | (exact Nat.lt_of_le_of_lt (m := 50000) (by first | omega | (simp only [List.length_map, List.length_range, List.length_append, List.length_cons, List.length_nil]; omega)) (by decide)))
section
variable {P : Program} {w : World} {K : PySem.W.Frag} {mg : Str → Option Value} {base : Heap} {C CO fO CD fD CA CU CT CI : Addr}
theorem ok_draw {f : Addr} {fd : FuncData} (F : Fun K "_law_draw" "_law_draw" s__law_draw f fd) (T : Txt P K mg C CO fO CD fD CA CU CT CI)  :
    FnOk P w K mg base (L2.CX P w) (0 + 1) f fd ["_law_box_here", "_law_size"] sp_draw := by
  refine okT F sc__law_draw (fun vs H Q E h => ?_) (fun cdv A outer s H vs Q E hr tk h => ?_)
  · obtain ⟨bx, sc, ns, pos, big, turn, seed, size, rfl, _⟩ := h
    rfl
  obtain ⟨bx, sc, ns, pos, big, turn, seed, size, rfl, h1, h2, hne, hpos, hbig, hs1, hs2, k⟩ := h
  have f1 := T.i1; have f2 := T.i2; have f6 := T.cl; have f7 := T.nP; have f8 := T.nL; have f9 := T.ca; have f10 := T.cn; have f11 := T.ct; have f12 := T.cm; have f13 := T.ek; have f14 := T.exm; have f15 := T.k1; have f16 := T.k2
  refine ⟨_, (pss_cons (ps_set (i := 2) sc__law_draw.nd rfl (Or.inl rfl) (pe_ix ix_list (pv 0) pe_int (fun _ _ => rfl)))
      (pss_cons (ps_asg (pe_op op_add (pv 2) pe_int) (pg_sub (pv 0) pe_int set_list))
      (pss_cons (ps_set (i := 3) sc__law_draw.nd rfl (Or.inl rfl) (pe_ix ix_list (pv 0) pe_int (fun _ _ => rfl)))
      (pss_cons (ps_if (PW.pt (pw_and (pt_cmpR op_eq (pe_ix ix_list (pv 0) pe_int (fun _ _ => rfl)) pe_int (nomark _)) (pw_and1 (pt_cmpR op_lt (pe_ix ix_list (pv 0) pe_int (fun _ _ => rfl)) (pe_callB b_len (by rfl) T.b_len (by decide +kernel) (pa_cons (pe_ix ix_list (pv 0) pe_int (fun _ _ => rfl)) pa_nil)) (nomark _))))) (pss_cons (ps_set (i := 3) sc__law_draw.nd rfl (Or.inl rfl) (pe_callTy b_int (by rfl) T.b_int (by decide +kernel) (pa_cons (pe_ix ix_list (pe_ix ix_list (pv 0) pe_int (fun _ _ => rfl)) (pe_ix ix_list (pv 0) pe_int (fun _ _ => rfl)) (fun _ _ => rfl)) pa_nil)))
      (pss_cons (ps_asg (pe_op op_add (pe_ix ix_list (pv 0) pe_int (fun _ _ => rfl)) pe_int) (pg_sub (pv 0) pe_int set_list))
      (pss_one (ps_if (pt_cmpR op_ge (pe_callB b_abs (by rfl) T.b_abs (by decide +kernel) (pa_cons (pv 3) pa_nil)) (pe_powC (n := 1000000000000000000)) (nomark _)) (pss_one (ps_asg (pe_callB b_abs (by rfl) T.b_abs (by decide +kernel) (pa_cons (pv 3) pa_nil)) (pg_sub (pv 0) pe_int set_list))) pss_nil)))) pss_nil)
      (pss_cons (ps_if (pt_cmpR op_gt (pe_ix ix_list (pv 0) pe_int (fun _ _ => rfl)) pe_int (nomark _)) (pss_cons (ps_set (i := 4) sc__law_draw.nd rfl (Or.inl rfl) (pe_callTy b_int (by rfl) T.b_int (by decide +kernel) (pa_cons (pe_ix ix_list (pv 0) pe_int (fun _ _ => rfl)) pa_nil)))
      (pss_cons (ps_asg (pe_op op_fdivW (pv 4) (pv 1)) (pg_sub (pv 0) pe_int set_list))
      (pss_one (ps_ret (pe_op op_mod (pv 4) (pv 1)))))) pss_nil)
      (pss_cons (ps_set (i := 5) sc__law_draw.nd rfl (Or.inl rfl) (pe_op op_mod (pe_callTy b_int (by rfl) T.b_int (by decide +kernel) (pa_cons (pe_op op_add (pe_op op_add (pe_op op_mulU (pv 3) pe_int) (pe_op op_mulU (pv 2) pe_int)) pe_int) pa_nil)) pe_int))
      (pss_cons (ps_set (i := 6) sc__law_draw.nd rfl (Or.inl rfl) (pe_op op_mod (pe_callTy b_int (by rfl) T.b_int (by decide +kernel) (pa_cons (pe_op op_add (pe_op op_add (pe_op op_mulU (pv 5) (pv 5)) (pe_op op_mulU (pv 3) pe_int)) (pe_op op_mulU (pv 2) pe_int)) pa_nil)) pe_int))
      (pss_one (ps_ret (pe_op op_mod (pe_callTy b_int (by rfl) T.b_int (by decide +kernel) (pa_cons (pe_op op_add (pe_op op_add (pv 6) (pe_op op_mulU pe_int (pv 5))) (pe_op op_mulU pe_int (pv 3))) pa_nil)) (pv 1))))))))))), ?_⟩
  simp only [cxK, st__law_draw]
  have M : Mem H [bx] H [(bx, boxO sc pos big turn seed), (sc, .lst (ns.map V.int))] [] := mem_start (by simp [h1, h2]) (by simp [hne]) (by simp)
  walk_at "go"
  all_goals first
    | (refine k _ _ _ _ _ (Int.emod_nonneg _ (by omega)) (Int.emod_lt_of_pos _ (by omega)) ?_ ?_ (Mem.keeps (by assumption)) (Mem.getF (by assumption) (by walk_at "mem")) <;> first | omega | exact Int.ediv_nonneg (by omega) (by omega) | exact Int.ediv_nonneg (by split <;> omega) (by omega))
theorem ok_box {f : Addr} {fd : FuncData} (F : Fun K "_law_box" "_law_box" s__law_box f fd) (T : Txt P K mg C CO fO CD fD CA CU CT CI)  :
    FnOk P w K mg base (L2.CX P w) (0 + 1) f fd ["_law_script"] (sp_box K) := by
  refine okT F sc__law_box (fun vs H Q E h => ?_) (fun cdv A outer s H vs Q E hr tk h => ?_)
  · obtain ⟨a, ns, rfl, _⟩ := h
    rfl
  obtain ⟨a, ns, rfl, hS, hlen, k⟩ := h
  have f1 := T.i1; have f2 := T.i2; have f6 := T.cl; have f7 := T.nP; have f8 := T.nL; have f9 := T.ca; have f10 := T.cn; have f11 := T.ct; have f12 := T.cm; have f13 := T.ek; have f14 := T.exm; have f15 := T.k1; have f16 := T.k2
  refine ⟨_, (pss_cons (ps_set (i := 1) sc__law_box.nd rfl (Or.inl rfl) pe_int)
      (pss_cons (ps_for (passes_of rfl) rfl (pi_range1 (by rfl) T.b_range (pa_cons (pe_callB (b_min2 rfl) (by rfl) T.b_min (by decide +kernel) (pa_cons pe_int (pa_cons (pe_callB b_len (by rfl) T.b_len (by decide +kernel) (pa_cons (pv 0) pa_nil)) pa_nil))) pa_nil)) (pg_name (i := 2) sc__law_box.nd rfl (Or.inl rfl)) (pss_one (ps_set (i := 1) sc__law_box.nd rfl (Or.inl rfl) (pe_op op_add (pv 1) (pe_op op_mulU (pe_op op_mod (pe_callTy b_int (by rfl) T.b_int (by decide +kernel) (pa_cons (pe_ix ix_list (pv 0) (pv 2) (fun _ _ => rfl)) pa_nil)) pe_int) (pe_op op_add (pv 2) pe_int))))))
      (pss_one (ps_ret (pe_lst (pa_cons (pe_slice sl_list (pv 0) po_none (po_some pe_int)) (pa_cons pe_int (pa_cons pe_int (pa_cons pe_int (pa_cons (pv 1) pa_nil)))))))))), ?_⟩
  simp only [cxK, st__law_box]
  have M : Mem H [] H [] [] := mem_start (by simp []) (by simp) (by simp)
  have e : (if (ns.length : Int) < 63 then (ns.length : Int) else 63) = ns.length := by split <;> omega
  walk_at "go"
  rw [e]
  walk_at "go"
  refine rng_loop ⟨fun i σ' H' => ∃ (sd : Int) (v : Option V), σ' = [some (.ref a), some (.int sd), v] ∧ H' = H, ⟨_, _, rfl, rfl⟩, ?_, ?_⟩
  · rintro i σ' H' hi ⟨sd, v, rfl, rfl⟩
    walk_at "go"
    exact ⟨_, _, rfl, rfl⟩
  · rintro σ' H' ⟨sd, v, rfl, rfl⟩
    walk_at "go"
    rename_i sc H1 M1 bx H2 M2
    rw [cut_all (by simp; omega)] at M2
    refine k bx sc sd H2 (M2.new _ List.mem_cons_self) (M2.new (sc, .lst (ns.map V.int)) (by simp)) ?_ (Same.of_keep M2) (M2.getL (by simp)) (M2.getL (by simp))
    have nd := M2.nd
    simp at nd
    exact nd
theorem mulb {f d F : Int} (h1 : 1 ≤ f) (h2 : f ≤ F) (h0 : 0 ≤ d) (hd : d < 40) : 1 ≤ f * (1 + d) ∧ f * (1 + d) ≤ F * 40 := by
  have a := Int.mul_le_mul h1 (show 1 ≤ 1 + d by omega) (by omega) (by omega)
  have b := Int.mul_le_mul h2 (show 1 + d ≤ 40 by omega) (by omega) (by omega)
  omega
local macro_rules | `(tactic| walk_at "use") => `(tactic| with_reducible first
  | (refine' use_draw ?k1 ?k2 ?k3 ?k4 ?k5 ?k6 ?_; (case k1 => assumption); (case k2 => simp); (case k3 => omega); (case k4 => omega); (case k5 => omega); (case k6 => omega); intro d' pos' big' turn' H' a1' a2' a3' a4' M'))
theorem mulb2 {f d : Int} (h1 : 1 ≤ f) (h2 : f ≤ 10 ^ 15) (h0 : 0 ≤ d) (hd : d < 40) : f * (1 + d) < 2 ^ 64 := by
  have := (mulb h1 h2 h0 hd).2
  omega
abbrev mx (most : Int) : Int := if most < 10 then 10 else most
abbrev ArMost (as : List V) : Prop := ∃ most : Int, as = [.int most] ∧ 1 ≤ most ∧ most ≤ 10 ^ 15
def RFac (as : List V) (v : V) (l2 : List (Addr × HO)) : Prop := ∃ d : Int, v = .int d ∧ l2 = [] ∧ 1 ≤ d ∧ ∀ most : Int, as = [.int most] → 1 ≤ most → d ≤ mx most
theorem ok_factor {f : Addr} {fd : FuncData} (F : Fun K "_law_factor" "_law_factor" s__law_factor f fd) (T : Txt P K mg C CO fO CD fD CA CU CT CI) (c__law_draw : Cal P w K mg base 1 "_law_draw" sp_draw) :
    FnOk P w K mg base (L2.CX P w) (1 + 1) f fd ["_law_box_here", "_law_most"] (sp_drawn ArMost RFac) := by
  refine okT F sc__law_factor (fun vs H Q E h => ?_) (fun cdv A outer s H vs Q E hr tk h => ?_)
  · obtain ⟨bx, sc, ns, pos, big, turn, seed, as, rfl, ⟨most, rfl, _⟩, _⟩ := h
    rfl
  obtain ⟨bx, sc, ns, pos, big, turn, seed, as, rfl, ⟨most, rfl, hm1, hm2⟩, h1, h2, hne, hpos, hbig, k⟩ := h
  have f1 := T.i1; have f2 := T.i2; have f6 := T.cl; have f7 := T.nP; have f8 := T.nL; have f9 := T.ca; have f10 := T.cn; have f11 := T.ct; have f12 := T.cm; have f13 := T.ek; have f14 := T.exm; have f15 := T.k1; have f16 := T.k2
  refine ⟨_, (pss_cons (ps_set (i := 2) sc__law_factor.nd rfl (Or.inl rfl) (c_call c__law_draw tk hr (by decide) (pa_cons (pv 0) (pa_cons pe_int pa_nil))))
      (pss_cons (ps_if (pt_cmpR op_eq (pv 2) pe_int (nomark _)) (pss_one (ps_ret (pe_op op_add pe_int (c_call c__law_draw tk hr (by decide) (pa_cons (pv 0) (pa_cons pe_int pa_nil)))))) pss_nil)
      (pss_cons (ps_if (pt_cmpR op_eq (pv 2) pe_int (nomark _)) (pss_one (ps_ret (pe_op op_add pe_int (c_call c__law_draw tk hr (by decide) (pa_cons (pv 0) (pa_cons (pv 1) pa_nil)))))) pss_nil)
      (pss_one (ps_ret pe_int))))), ?_⟩
  simp only [cxK, st__law_factor]
  have M : Mem H [bx] H [(bx, boxO sc pos big turn seed), (sc, .lst (ns.map V.int))] [] := mem_start (by simp [h1, h2]) (by simp [hne]) (by simp)
  walk_at "go"
  all_goals
    rename_i M9
    refine k _ _ _ _ _ _ ⟨_, rfl, rfl, by omega, fun m e h => ?_⟩ ?_ ?_ (Mem.none (by assumption))
    · cases e
      show _ ≤ if _ < _ then _ else _
      split <;> omega
    all_goals assumption
theorem use_factor {B H : Hp} {ms : List Addr} {f l : List (Addr × HO)} {Q : VK} {E : XK} {bx sc : Addr} {ns : List Int} {pos big turn seed most : Int} (M : Mem B ms H ((bx, boxO sc pos big turn seed) :: (sc, .lst (ns.map V.int)) :: f) l) (hm : bx ∈ ms) (h0 : 0 ≤ pos) (h1 : 0 ≤ big) (h2 : 1 ≤ most) (h3 : most ≤ 10 ^ 15)
    (k : ∀ (d pos' big' turn' : Int) H', 1 ≤ d → d ≤ mx most → 0 ≤ pos' → 0 ≤ big' → Mem B ms H' ((bx, boxO sc pos' big' turn' seed) :: (sc, .lst (ns.map V.int)) :: f) l → Q (.int d) H') : sp_drawn ArMost RFac [.ref bx, .int most] H Q E :=
  use_drawn M hm h0 h1 ⟨most, rfl, h2, h3⟩ (by
    rintro v l2 pos' big' turn' H' ⟨d, rfl, rfl, a1, a2⟩ a3 a4 M'
    exact k d pos' big' turn' H' a1 (a2 most rfl h2) a3 a4 M')
abbrev ArPool (as : List V) : Prop := ∃ cnt most : Int, as = [.int cnt, .int most] ∧ 0 ≤ cnt ∧ cnt ≤ 4 ∧ 1 ≤ most ∧ most ≤ 10 ^ 15
def RPool (as : List V) (v : V) (l2 : List (Addr × HO)) : Prop := ∃ (p : Addr) (xs : List V) (rs : List Pr) (zs : List (Addr × HO)), v = .ref p ∧ l2 = (p, .lst xs) :: zs ∧ PrL zs xs rs ∧ ∀ cnt most : Int, as = [.int cnt, .int most] → xs.length = cnt.toNat ∧ ∀ r ∈ rs, 1 ≤ r.2 ∧ r.2 ≤ mx most * 40
local macro_rules | `(tactic| walk_at "use") => `(tactic| with_reducible first
  | (refine' use_factor ?k1 ?k2 ?k3 ?k4 ?k5 ?k6 ?_; (case k1 => assumption); (case k2 => simp); (case k3 => omega); (case k4 => omega); (case k5 => omega); (case k6 => omega); intro d' pos' big' turn' H' a1' a2' a3' a4' M')
  | (refine' use_draw ?k1 ?k2 ?k3 ?k4 ?k5 ?k6 ?_; (case k1 => assumption); (case k2 => simp); (case k3 => omega); (case k4 => omega); (case k5 => first | omega | exact (mulb (by assumption) (by assumption) (by assumption) (by omega)).1); (case k6 => first | omega | exact mulb2 (by assumption) (by assumption) (by assumption) (by omega)); intro d' pos' big' turn' H' a1' a2' a3' a4' M'))
local macro_rules | `(tactic| walk_at "cond") => `(tactic| first | omega | assumption | exact mulR (by omega) (by omega) | exact mulL (by omega) (by omega) | exact divW (by omega) (by omega) | exact mulR (by omega) (by exact mulb2 (by assumption) (by assumption) (by assumption) (by omega)) | decide)
theorem ok_pool {f : Addr} {fd : FuncData} (F : Fun K "_law_pool" "_law_pool" s__law_pool f fd) (T : Txt P K mg C CO fO CD fD CA CU CT CI) (c__law_draw : Cal P w K mg base 1 "_law_draw" sp_draw) (c__law_factor : Cal P w K mg base 2 "_law_factor" (sp_drawn ArMost RFac)) :
    FnOk P w K mg base (L2.CX P w) (2 + 1) f fd ["_law_box_here", "_law_count", "_law_most"] (sp_drawn ArPool RPool) := by
  refine okT F sc__law_pool (fun vs H Q E h => ?_) (fun cdv A outer s H vs Q E hr tk h => ?_)
  · obtain ⟨bx, sc, ns, pos, big, turn, seed, as, rfl, ⟨cnt, most, rfl, _⟩, _⟩ := h
    rfl
  obtain ⟨bx, sc, ns, pos, big, turn, seed, as, rfl, ⟨cnt, most, rfl, hc0, hc4, hm1, hm2⟩, h1, h2, hne, hpos, hbig, k⟩ := h
  have f1 := T.i1; have f2 := T.i2; have f6 := T.cl; have f7 := T.nP; have f8 := T.nL; have f9 := T.ca; have f10 := T.cn; have f11 := T.ct; have f12 := T.cm; have f13 := T.ek; have f14 := T.exm; have f15 := T.k1; have f16 := T.k2
  refine ⟨_, (pss_cons (ps_set (i := 3) sc__law_pool.nd rfl (Or.inl rfl) (c_call c__law_factor tk hr (by decide) (pa_cons (pv 0) (pa_cons (pv 2) pa_nil))))
      (pss_cons (ps_set (i := 4) sc__law_pool.nd rfl (Or.inl rfl) (pe_ix ix_list (pe_lst (pa_cons pe_int (pa_cons pe_int pa_nil))) (c_call c__law_draw tk hr (by decide) (pa_cons (pv 0) (pa_cons pe_int pa_nil))) (fun _ _ => rfl)))
      (pss_cons (ps_set (i := 5) sc__law_pool.nd rfl (Or.inl rfl) (pe_ix ix_list (pe_lst (pa_cons pe_int (pa_cons pe_int (pa_cons (pe_powC (n := 1000000000)) (pa_cons (pe_powC (n := 100000000000000000)) pa_nil))))) (c_call c__law_draw tk hr (by decide) (pa_cons (pv 0) (pa_cons pe_int pa_nil))) (fun _ _ => rfl)))
      (pss_cons (ps_set (i := 6) sc__law_pool.nd rfl (Or.inl rfl) (pe_op op_sub (c_call c__law_draw tk hr (by decide) (pa_cons (pv 0) (pa_cons (pe_op op_add (pe_op op_mulU pe_int (pv 5)) pe_int) pa_nil))) (pv 5)))
      (pss_cons (ps_set (i := 7) sc__law_pool.nd rfl (Or.inl rfl) (c_call c__law_draw tk hr (by decide) (pa_cons (pv 0) (pa_cons pe_int pa_nil))))
      (pss_cons (ps_set (i := 8) sc__law_pool.nd rfl (Or.inl rfl) (c_call c__law_draw tk hr (by decide) (pa_cons (pv 0) (pa_cons pe_int pa_nil))))
      (pss_cons (ps_set (i := 9) sc__law_pool.nd rfl (Or.inl rfl) (pe_lst pa_nil))
      (pss_cons (ps_for (passes_of rfl) rfl (pi_range1 (by rfl) T.b_range (pa_cons (pv 1) pa_nil)) (pg_name (i := 10) sc__law_pool.nd rfl (Or.inl rfl)) (pss_cons (ps_set (i := 11) sc__law_pool.nd rfl (Or.inl rfl) (pe_op op_mulU (pv 3) (pe_op op_add pe_int (c_call c__law_draw tk hr (by decide) (pa_cons (pv 0) (pa_cons (pv 4) pa_nil))))))
      (pss_cons (ps_set (i := 12) sc__law_pool.nd rfl (Or.inl rfl) (pv 6))
      (pss_cons (ps_if (pt_cmpR op_gt (pv 7) pe_int (nomark _)) (pss_one (ps_set (i := 12) sc__law_pool.nd rfl (Or.inl rfl) (c_call c__law_draw tk hr (by decide) (pa_cons (pv 0) (pa_cons (pv 11) pa_nil))))) pss_nil)
      (pss_cons (ps_if (PW.pt (pw_and (pt_cmpR op_eq (pv 7) pe_int (nomark _)) (pw_and1 (pt_cmpR op_eq (pv 10) (pv 8) (nomark _))))) (pss_one (ps_set (i := 12) sc__law_pool.nd rfl (Or.inl rfl) (pe_op op_add (pv 12) pe_int))) pss_nil)
      (pss_one (ps_expr (pe_bm PySem.F.plainAttrs_list PySem.F.slot_list_append PySem.F.type_list_append mt_append (pv 9) (pa_cons (pe_tup (pa_cons (pe_op op_add (pv 12) (pe_op op_mulU (pv 11) (pe_op op_sub (c_call c__law_draw tk hr (by decide) (pa_cons (pv 0) (pa_cons pe_int pa_nil))) pe_int))) (pa_cons (pv 11) pa_nil))) pa_nil)))))))))
      (pss_one (ps_ret (pv 9))))))))))), ?_⟩
  simp only [cxK, st__law_pool]
  have M : Mem H [bx] H [(bx, boxO sc pos big turn seed), (sc, .lst (ns.map V.int))] [] := mem_start (by simp [h1, h2]) (by simp [hne]) (by simp)
  walk_at "go"
  rename_i fac _ _ _ _ hf1 hf2 _ _ _ _ _ _ dt _ _ _ _ _ _ _ _ _ top htop _ _ _ _ _ _ _ _ _ _ _ _ _ reach hreach com _ _ _ _ _ _ _ _ _ loose _ _ _ _ _ _ _ _ _ offk _ _ _ _ _ _ _ _ _ p0 H0 M0
  have hf3 : fac ≤ 10 ^ 15 := by
    have : mx most ≤ 10 ^ 15 := by
      show (if most < 10 then (10 : Int) else most) ≤ 10 ^ 15
      split <;> omega
    omega
  refine rng_loop ⟨fun i σ' H' => ∃ (xs : List V) (rs : List Pr) (zs : List (Addr × HO)) (v10 v11 v12 : Option V) (pos big turn : Int), σ' = [some (.ref bx), some (.int cnt), some (.int most), some (.int fac), some (.int top), some (.int reach), some (.int (com - reach)), some (.int loose), some (.int offk), some (.ref p0), v10, v11, v12] ∧ xs.length = i ∧ 0 ≤ pos ∧ 0 ≤ big ∧
      Mem H [bx] H' [(bx, boxO sc pos big turn seed), (sc, .lst (ns.map V.int))] ((p0, .lst xs) :: zs) ∧ PrL zs xs rs ∧ ∀ r ∈ rs, 1 ≤ r.2 ∧ r.2 ≤ mx most * 40, ?_, ?_, ?_⟩
  · refine ⟨[], [], [], _, _, _, _, _, _, rfl, rfl, ?_, ?_, M0.one, PG.nil, (fun s h => nomatch h)⟩ <;> assumption
  · rintro i σ' H' hi ⟨xs, rs, zs, v10, v11, v12, pos, big, turn, rfl, hl, hp0, hb0, M', pz, hss⟩
    have hfin : ∀ {tp : Addr} {d s : Int} {pos' big' turn' : Int} {H2 : Hp}, 1 ≤ s ∧ s ≤ mx most * 40 → 0 ≤ pos' → 0 ≤ big' → Mem H [bx] H2 [(bx, boxO sc pos' big' turn' seed), (sc, .lst (ns.map V.int))] ((tp, .tup [.int d, .int s]) :: (p0, .lst (xs ++ [.ref tp])) :: zs) → ∀ v10 v11 v12 : Option V,
        ∃ (xs : List V) (rs : List Pr) (zs : List (Addr × HO)) (w10 w11 w12 : Option V) (pos big turn : Int), [some (.ref bx), some (.int cnt), some (.int most), some (.int fac), some (.int top), some (.int reach), some (.int (com - reach)), some (.int loose), some (.int offk), some (.ref p0), v10, v11, v12] = [some (.ref bx), some (.int cnt), some (.int most), some (.int fac), some (.int top), some (.int reach), some (.int (com - reach)), some (.int loose), some (.int offk), some (.ref p0), w10, w11, w12] ∧ xs.length = i + 1 ∧ 0 ≤ pos ∧ 0 ≤ big ∧
          Mem H [bx] H2 [(bx, boxO sc pos big turn seed), (sc, .lst (ns.map V.int))] ((p0, .lst xs) :: zs) ∧ PrL zs xs rs ∧ ∀ r ∈ rs, 1 ≤ r.2 ∧ r.2 ≤ mx most * 40 := fun {tp d s _ _ _ H2} hs a b M5 v10 v11 v12 =>
      ⟨_, rs ++ [(d, s)], _, _, _, _, _, _, _, rfl, by rw [List.length_append, hl]; rfl, a, b, M5.front1, (pz.more fun z hz => List.mem_cons_of_mem _ hz).append (PG.one List.mem_cons_self), fun t ht => by
        rcases List.mem_append.mp ht with h | h
        · exact hss t h
        · rw [List.mem_singleton.mp h]; exact hs⟩
    walk_at "go"
    all_goals
      refine' hfin ?h1 ?h2 ?h3 ?h4 _ _ _
      case h4 => assumption
      case h1 => exact mulb hf1 hf2 (by assumption) (by omega)
      case h2 => assumption
      case h3 => assumption
  · rintro σ' H' ⟨xs, rs, zs, v10, v11, v12, pos, big, turn, rfl, hl, hp0, hb0, M', pz, hss⟩
    walk_at "go"
    exact k _ _ _ _ _ _ ⟨p0, xs, rs, zs, rfl, rfl, pz, fun c m e => by cases e; exact ⟨hl, hss⟩⟩ hp0 hb0 M'
local macro_rules | `(tactic| walk_at "use") => `(tactic| with_reducible first
  | (refine' use_draw ?k1 ?k2 ?k3 ?k4 ?k5 ?k6 ?_; (case k1 => assumption); (case k2 => simp); (case k3 => omega); (case k4 => omega); (case k5 => omega); (case k6 => omega); intro d' pos' big' turn' H' a1' a2' a3' a4' M'))
theorem two_of {xs : List V} {rs : List Pr} {zs : List (Addr × HO)} (h : PrL zs xs rs) (hl : xs.length = 2) : ∃ p q r s, xs = [.ref p, .ref q] ∧ rs = [r, s] ∧ (p, prO r) ∈ zs ∧ (q, prO s) ∈ zs := by
  have h2 := h.1
  match xs, rs, hl, h2 with
  | [x, y], [r, s], _, _ =>
    obtain ⟨p, e1, m1⟩ := h.2 0 x r rfl rfl
    obtain ⟨q, e2, m2⟩ := h.2 1 y s rfl rfl
    exact ⟨p, q, r, s, by rw [e1, e2], rfl, m1, m2⟩
theorem ok_law {f : Addr} {fd : FuncData} (F : Fun K "law" "law" s_law f fd) (T : Txt P K mg C CO fO CD fD CA CU CT CI) (c__law_box : Cal P w K mg base 1 "_law_box" (sp_box K)) (c__law_pool : Cal P w K mg base 3 "_law_pool" (sp_drawn ArPool RPool)) (c__law_draw : Cal P w K mg base 1 "_law_draw" sp_draw) (c__law_pair : Cal P w K mg base 5 "_law_pair" sp_pair) (c__law_chain : Cal P w K mg base 7 "_law_chain" sp_chain) :
    FnOk P w K mg base (L2.CX P w) (7 + 1) f fd ["_law_script"] (spLaw K) := by
  refine okT F sc_law (fun vs H Q E h => ?_) (fun cdv A outer s H vs Q E hr tk h => ?_)
  · obtain ⟨a, ns, rfl, _⟩ := h
    rfl
  obtain ⟨a, ns, rfl, hS, hlen, k⟩ := h
  have f1 := T.i1; have f2 := T.i2; have f6 := T.cl; have f7 := T.nP; have f8 := T.nL; have f9 := T.ca; have f10 := T.cn; have f11 := T.ct; have f12 := T.cm; have f13 := T.ek; have f14 := T.exm; have f15 := T.k1; have f16 := T.k2
  refine ⟨_, (pss_cons (ps_set (i := 1) sc_law.nd rfl (Or.inl rfl) (c_call c__law_box tk hr (by decide) (pa_cons (pv 0) pa_nil)))
      (pss_cons (ps_set (i := 2) sc_law.nd rfl (Or.inl rfl) (c_call c__law_pool tk hr (by decide) (pa_cons (pv 1) (pa_cons pe_int (pa_cons (pe_powC (n := 1000000000000000)) pa_nil)))))
      (pss_cons (ps_set (i := 3) sc_law.nd rfl (Or.inl rfl) (pe_op op_sub (c_call c__law_draw tk hr (by decide) (pa_cons (pv 1) (pa_cons pe_int pa_nil))) pe_int))
      (pss_cons (ps_if (pt_not (pt_val (c_call c__law_pair tk hr (by decide) (pa_cons (pv 2) (pa_cons (pv 3) pa_nil))))) (pss_one (ps_ret pe_bl)) pss_nil)
      (pss_cons (ps_set (i := 4) sc_law.nd rfl (Or.inl rfl) (c_call c__law_draw tk hr (by decide) (pa_cons (pv 1) (pa_cons pe_int pa_nil))))
      (pss_one (ps_ret (c_call c__law_chain tk hr (by decide) (pa_cons (c_call c__law_pool tk hr (by decide) (pa_cons (pv 1) (pa_cons (pv 4) (pa_cons pe_int pa_nil)))) pa_nil))))))))), ?_⟩
  simp only [cxK, st_law]
  walk_at "go"
  refine ⟨a, ns, rfl, hS, hlen, fun bx sc seed H1 hbx hsc hne _ hb hs => ?_⟩
  have M : Mem H1 [bx] H1 [(bx, boxO sc 0 0 0 seed), (sc, .lst (ns.map V.int))] [] := mem_start (by simp [hb, hs]) (by simp [hne]) (by simp)
  walk_at "go"
  refine use_drawn M (by simp) (by omega) (by omega) ⟨2, 1000000000000000, rfl, by omega, by omega, by omega, by omega⟩ ?_
  rintro v l2 pos2 big2 turn2 H2 ⟨p, xs, rs, zs, rfl, rfl, pz, hres⟩ hp2 hb2 M2
  obtain ⟨hxl, hrs⟩ := hres 2 1000000000000000 rfl
  obtain ⟨p1, q1, r1, s1, rfl, rfl, m1, m2⟩ := two_of pz hxl
  have hr1 := hrs r1 (by simp)
  have hs1 := hrs s1 (by simp)
  have hmx : mx 1000000000000000 = 1000000000000000 := rfl
  rw [hmx] at hr1 hs1
  simp only [List.cons_append, List.append_nil] at M2
  walk_at "go"
  rename_i d pos3 big3 turn3 H3 a1 a2 a3 a4 M3
  refine use_pair M3 (M3.getL List.mem_cons_self) (M3.getL (List.mem_cons_of_mem _ m1)) (M3.getL (List.mem_cons_of_mem _ m2)) ⟨by omega, by omega, by omega, by omega⟩ fun H4 M4 => ?_
  walk_at "go"
  rename_i many pos5 big5 turn5 H5 b1 b2 b3 b4 M5
  refine use_drawn M5 (by simp) b3 b4 ⟨many, 25, rfl, by omega, by omega, by omega, by omega⟩ ?_
  rintro v l2 pos6 big6 turn6 H6 ⟨p6, xs6, rs6, zs6, rfl, rfl, pz6, hres6⟩ hp6 hb6 M6
  obtain ⟨hxl6, hrs6⟩ := hres6 many 25 rfl
  have hl6 := pz6.1
  have hmx6 : mx 25 = 25 := rfl
  rw [hmx6] at hrs6
  simp only [List.cons_append] at M6
  walk_at "go"
  refine use_chain M6 (M6.getL List.mem_cons_self) (PrL.prs M6 (pz6.more fun z hz => by simp [hz])) ⟨by omega, fun r hr => ⟨(hrs6 r hr).1, by have := (hrs6 r hr).2; omega⟩⟩ fun H7 M7 => ?_
  exact k _
end
end K01

set_option Elab.async false
set_option linter.all false
set_option maxRecDepth 100000
set_option maxHeartbeats 8000000
namespace K01
open PySem L2 MyL
abbrev PR : Program := PySem.Challenge.rw_fittingpasts_k01_residue_meet.prog
abbrev s_OutOfRange : Stmt := inClass (top 7) 0
theorem e_OutOfRange : PySem.ErrX.ErrSt PR "OutOfRange.__init__" s_OutOfRange ["value"] :=
  ⟨_, _, _, _, _, _, _, _, _, _, rfl, fun _ => rfl, rfl, rfl, rfl, rfl, rfl, rfl, by decide +kernel, rfl, rfl, rfl, by decide +kernel, by decide +kernel, (.cons (by decide +kernel) .nil), fun _ _ _ _ _ _ us hl => match us, hl with | [_, _], _ => rfl⟩
abbrev s_Disjoint : Stmt := inClass (top 6) 0
theorem e_Disjoint : PySem.ErrX.ErrSt PR "Disjoint.__init__" s_Disjoint ["divisor"] :=
  ⟨_, _, _, _, _, _, _, _, _, _, rfl, fun _ => rfl, rfl, rfl, rfl, rfl, rfl, rfl, by decide +kernel, rfl, rfl, rfl, by decide +kernel, by decide +kernel, (.cons (by decide +kernel) .nil), fun _ _ _ _ _ _ us hl => match us, hl with | [_, _], _ => rfl⟩
theorem b_Residue_init : BindsSt "__init__" "Residue.__init__" s_Residue_init ["self", "place", "length"] := fun _ _ _ _ _ _ us hl => match us, hl with | [_, _, _], _ => rfl
theorem b_Residue_eq : BindsSt "__eq__" "Residue.__eq__" s_Residue_eq ["self", "other"] := fun _ _ _ _ _ _ us hl => match us, hl with | [_, _], _ => rfl
theorem b_Residue_contains : BindsSt "__contains__" "Residue.__contains__" s_Residue_contains ["self", "day"] := fun _ _ _ _ _ _ us hl => match us, hl with | [_, _], _ => rfl
theorem b_Residue_and : BindsSt "__and__" "Residue.__and__" s_Residue_and ["self", "other"] := fun _ _ _ _ _ _ us hl => match us, hl with | [_, _], _ => rfl
theorem b_Residue_every : BindsSt "every" "Residue.every" s_Residue_every [] := fun _ _ _ _ _ _ us hl => match us, hl with | [], _ => rfl
theorem b_gcd_and_factor : BindsSt "gcd_and_factor" "gcd_and_factor" s_gcd_and_factor ["first", "second"] := fun _ _ _ _ _ _ us hl => match us, hl with | [_, _], _ => rfl
theorem b__law_box : BindsSt "_law_box" "_law_box" s__law_box ["_law_script"] := fun _ _ _ _ _ _ us hl => match us, hl with | [_], _ => rfl
theorem b__law_draw : BindsSt "_law_draw" "_law_draw" s__law_draw ["_law_box_here", "_law_size"] := fun _ _ _ _ _ _ us hl => match us, hl with | [_, _], _ => rfl
theorem b__law_is_number : BindsSt "_law_is_number" "_law_is_number" s__law_is_number ["_law_value"] := fun _ _ _ _ _ _ us hl => match us, hl with | [_], _ => rfl
theorem b__law_gcd : BindsSt "_law_gcd" "_law_gcd" s__law_gcd ["_law_first", "_law_second"] := fun _ _ _ _ _ _ us hl => match us, hl with | [_, _], _ => rfl
theorem b__law_lcm : BindsSt "_law_lcm" "_law_lcm" s__law_lcm ["_law_first", "_law_second"] := fun _ _ _ _ _ _ us hl => match us, hl with | [_, _], _ => rfl
theorem b__law_factor : BindsSt "_law_factor" "_law_factor" s__law_factor ["_law_box_here", "_law_most"] := fun _ _ _ _ _ _ us hl => match us, hl with | [_, _], _ => rfl
theorem b__law_pool : BindsSt "_law_pool" "_law_pool" s__law_pool ["_law_box_here", "_law_count", "_law_most"] := fun _ _ _ _ _ _ us hl => match us, hl with | [_, _, _], _ => rfl
theorem b__law_is : BindsSt "_law_is" "_law_is" s__law_is ["_law_residue", "_law_spot", "_law_size"] := fun _ _ _ _ _ _ us hl => match us, hl with | [_, _, _], _ => rfl
theorem b__law_holds : BindsSt "_law_holds" "_law_holds" s__law_holds ["_law_residue", "_law_pool_here"] := fun _ _ _ _ _ _ us hl => match us, hl with | [_, _], _ => rfl
theorem b__law_apart : BindsSt "_law_apart" "_law_apart" s__law_apart ["_law_one", "_law_other"] := fun _ _ _ _ _ _ us hl => match us, hl with | [_, _], _ => rfl
theorem b__law_meet : BindsSt "_law_meet" "_law_meet" s__law_meet ["_law_first", "_law_second"] := fun _ _ _ _ _ _ us hl => match us, hl with | [_, _], _ => rfl
theorem b__law_is_disjoint : BindsSt "_law_is_disjoint" "_law_is_disjoint" s__law_is_disjoint ["_law_told", "_law_divisor"] := fun _ _ _ _ _ _ us hl => match us, hl with | [_, _], _ => rfl
theorem b__law_joined : BindsSt "_law_joined" "_law_joined" s__law_joined ["_law_ones"] := fun _ _ _ _ _ _ us hl => match us, hl with | [_], _ => rfl
theorem b__law_row : BindsSt "_law_row" "_law_row" s__law_row ["_law_ones"] := fun _ _ _ _ _ _ us hl => match us, hl with | [_], _ => rfl
theorem b__law_walk : BindsSt "_law_walk" "_law_walk" s__law_walk ["_law_residue", "_law_pool_here", "_law_begin"] := fun _ _ _ _ _ _ us hl => match us, hl with | [_, _, _], _ => rfl
theorem b__law_pair : BindsSt "_law_pair" "_law_pair" s__law_pair ["_law_pool_here", "_law_begin"] := fun _ _ _ _ _ _ us hl => match us, hl with | [_, _], _ => rfl
theorem b__law_chain : BindsSt "_law_chain" "_law_chain" s__law_chain ["_law_pool_here"] := fun _ _ _ _ _ _ us hl => match us, hl with | [_], _ => rfl
theorem b_law : BindsSt "law" "law" s_law ["_law_script"] := fun _ _ _ _ _ _ us hl => match us, hl with | [_], _ => rfl
theorem all_mk {w : World} {K : PySem.W.Frag} {h : Heap} {mg : Str → Option Value} {C CO fO CD fD CA CU CT CI : Addr} (X : K.In h) (G : h.Ns mainGlobals mg)
    (a_Residue : PySem.W.nsIn K mainGlobals "Residue" = some (some (.ref C)))
    (a_OutOfRange : PySem.W.nsIn K mainGlobals "OutOfRange" = some (some (.ref CO)))
    (a_Disjoint : PySem.W.nsIn K mainGlobals "Disjoint" = some (some (.ref CD)))
    (a_ArchiveError : PySem.W.nsIn K mainGlobals "ArchiveError" = some (some (.ref CA)))
    (a_UnknownError : PySem.W.nsIn K mainGlobals "UnknownError" = some (some (.ref CU)))
    (a_TextError : PySem.W.nsIn K mainGlobals "TextError" = some (some (.ref CT)))
    (a_ImpossibleError : PySem.W.nsIn K mainGlobals "ImpossibleError" = some (some (.ref CI)))
    (z_isinstance : PySem.W.nsIn K mainGlobals "isinstance" = some none)
    (z_int : PySem.W.nsIn K mainGlobals "int" = some none)
    (z_bool : PySem.W.nsIn K mainGlobals "bool" = some none)
    (z_len : PySem.W.nsIn K mainGlobals "len" = some none)
    (z_abs : PySem.W.nsIn K mainGlobals "abs" = some none)
    (z_min : PySem.W.nsIn K mainGlobals "min" = some none)
    (z_list : PySem.W.nsIn K mainGlobals "list" = some none)
    (z_range : PySem.W.nsIn K mainGlobals "range" = some none)
    (z_any : PySem.W.nsIn K mainGlobals "any" = some none)
    (cl_Residue : Cls K C)
    (na_Residue_place : NoAttr K C "place")
    (na_Residue_length : NoAttr K C "length")
    (mk_Residue : PySem.W.makesIn K C = true)
    (kc_Residue : PySem.W.keepIn K (.ref C) = true)
    (ca_Residue : PySem.W.findIn K (.ref C) "__class__" = some (some (.builtin "object.__class__")))
    (cm_Residue : PySem.W.mroIn K C (.type "object") = some true)
    (cn : PySem.W.specialIn K (.builtin "object.__class__") "__get__" = some (some (.builtin "getset_descriptor.__get__")))
    (ct : PySem.W.takesIn K (.builtin "object.__class__") = some true)
    (sf_Residue : PySem.W.selfFirst K C = true)
    (er_OutOfRange : PySem.ErrX.ErrTxt PR K mg "OutOfRange" CO fO ["value"])
    (er_Disjoint : PySem.ErrX.ErrTxt PR K mg "Disjoint" CD fD ["divisor"])
    (ek_D : ExcK K CD)
    (xf_Disjoint : XfC K CD)
    (nx_Disjoint_divisor : PySem.W.findIn K (.ref CD) "divisor" = some none)
    (exm : PySem.W.exmOne K (.ref CD) (.ref CI) = some true)
    (k1 : PySem.W.kitOne K (.ref CD) (.ref CA) = some true)
    (k2 : PySem.W.kitAny K (.ref CD) [.ref CU, .ref CT, .ref CO] = some false)
    (m_Residue_init : MethAt K C "__init__" "Residue.__init__" s_Residue_init)
    (m_Residue_eq : MethAt K C "__eq__" "Residue.__eq__" s_Residue_eq)
    (m_Residue_contains : MethAt K C "__contains__" "Residue.__contains__" s_Residue_contains)
    (m_Residue_and : MethAt K C "__and__" "Residue.__and__" s_Residue_and)
    (s_every : StaAt K C "every" "Residue.every" s_Residue_every)
    (s_meet : StaAt K C "meet" "Residue.meet" s_Residue_meet)
    (d_gcd_and_factor : DefAt K mg "gcd_and_factor" "gcd_and_factor" s_gcd_and_factor)
    (d__law_box : DefAt K mg "_law_box" "_law_box" s__law_box)
    (d__law_draw : DefAt K mg "_law_draw" "_law_draw" s__law_draw)
    (d__law_is_number : DefAt K mg "_law_is_number" "_law_is_number" s__law_is_number)
    (d__law_gcd : DefAt K mg "_law_gcd" "_law_gcd" s__law_gcd)
    (d__law_lcm : DefAt K mg "_law_lcm" "_law_lcm" s__law_lcm)
    (d__law_factor : DefAt K mg "_law_factor" "_law_factor" s__law_factor)
    (d__law_pool : DefAt K mg "_law_pool" "_law_pool" s__law_pool)
    (d__law_is : DefAt K mg "_law_is" "_law_is" s__law_is)
    (d__law_holds : DefAt K mg "_law_holds" "_law_holds" s__law_holds)
    (d__law_apart : DefAt K mg "_law_apart" "_law_apart" s__law_apart)
    (d__law_meet : DefAt K mg "_law_meet" "_law_meet" s__law_meet)
    (d__law_is_disjoint : DefAt K mg "_law_is_disjoint" "_law_is_disjoint" s__law_is_disjoint)
    (d__law_joined : DefAt K mg "_law_joined" "_law_joined" s__law_joined)
    (d__law_row : DefAt K mg "_law_row" "_law_row" s__law_row)
    (d__law_walk : DefAt K mg "_law_walk" "_law_walk" s__law_walk)
    (d__law_pair : DefAt K mg "_law_pair" "_law_pair" s__law_pair)
    (d__law_chain : DefAt K mg "_law_chain" "_law_chain" s__law_chain)
    (d_law : DefAt K mg "law" "law" s_law) :
    DefAt K mg "law" "law" s_law ∧ ∀ {f : Addr} {fd : FuncData}, Fun K "law" "law" s_law f fd → ∀ base : Heap, FnOk PR w K mg base (L2.CX PR w) 8 f fd ["_law_script"] (spLaw K) := by
  have z := fun {n : Str} (e : PySem.W.nsIn K mainGlobals n = some none) => PySem.W.mg_none_of X G e
  have y := fun {n : Str} {v : Value} (e : PySem.W.nsIn K mainGlobals n = some (some v)) => PySem.W.mg_of X G e
  have T : Txt PR K mg C CO fO CD fD CA CU CT CI := ⟨cl_Residue, na_Residue_place, na_Residue_length, ca_Residue, cn, ct, cm_Residue, sf_Residue, z z_isinstance, z z_int, z z_bool, z z_len, z z_abs, z z_min, z z_list, z z_range, z z_any, y a_Residue, er_OutOfRange, er_Disjoint, y a_OutOfRange, y a_Disjoint, y a_ArchiveError, y a_UnknownError, y a_TextError, y a_ImpossibleError, kit_ty (by decide +kernel), kit_ty (by decide +kernel), ek_D, xf_Disjoint, nx_Disjoint_divisor, exm, k1, k2⟩
  refine ⟨d_law, fun {f fd} F base => ?_⟩
  have c_Residue : Mak PR w K mg base 1 "Residue" C (sp_res C CO) := mak_of m_Residue_init T.g_Residue mk_Residue kc_Residue b_Residue_init fun F => ok_init F T
  have c_Residue_contains : Spc PR w K mg base 1 C "__contains__" (sp_resIn C) := spc_of m_Residue_contains b_Residue_contains fun F => ok_contains F T
  have c_Residue_eq : Spc PR w K mg base 1 C "__eq__" (sp_resEq C) := spc_of m_Residue_eq b_Residue_eq fun F => ok_eq F T
  have c_gcd_and_factor : Cal PR w K mg base 1 "gcd_and_factor" sp_fac := cal_of d_gcd_and_factor b_gcd_and_factor fun F => ok_fac F T
  have c_Residue_and : Spc PR w K mg base 3 C "__and__" (sp_and C CD) := spc_of m_Residue_and b_Residue_and fun F => ok_and F T c_Residue c_gcd_and_factor
  have c_Residue_every : StaR PR w K mg base 3 C "every" (sp_every C) := staR_of s_every b_Residue_every fun F => ok_every F T c_Residue
  have c_Residue_meet : StaR PR w K mg base 4 C "meet" (sp_meet C CD) := staS_of s_meet fun F => ok_meet F T c_Residue_every c_Residue_and
  have c__law_is_number : Cal PR w K mg base 1 "_law_is_number" sp_isn := cal_of d__law_is_number b__law_is_number fun F => ok_isn F T 
  have c__law_gcd : Cal PR w K mg base 1 "_law_gcd" sp_gcd := cal_of d__law_gcd b__law_gcd fun F => ok_gcd F T 
  have c__law_lcm : Cal PR w K mg base 2 "_law_lcm" sp_lcm := cal_of d__law_lcm b__law_lcm fun F => ok_lcm F T c__law_gcd
  have c__law_apart : Cal PR w K mg base 2 "_law_apart" sp_apart := cal_of d__law_apart b__law_apart fun F => ok_apart F T c__law_gcd
  have c__law_is : Cal PR w K mg base 2 "_law_is" (sp_is C) := cal_of d__law_is b__law_is fun F => ok_is F T c__law_is_number
  have c__law_holds : Cal PR w K mg base 3 "_law_holds" (sp_holds C) := cal_of d__law_holds b__law_holds fun F => ok_holds F T c__law_is_number c__law_lcm
  have c__law_meet : Cal PR w K mg base 4 "_law_meet" (sp_lmeet C) := cal_of d__law_meet b__law_meet fun F => ok_lmeet F T c_Residue_and
  have c__law_is_disjoint : Cal PR w K mg base 2 "_law_is_disjoint" sp_isdis := cal_of d__law_is_disjoint b__law_is_disjoint fun F => ok_isdis F T c__law_is_number
  have c__law_joined : Cal PR w K mg base 5 "_law_joined" (sp_joined C CD) := cal_of d__law_joined b__law_joined fun F => ok_joined F T c_Residue_meet
  have c__law_row : Cal PR w K mg base 6 "_law_row" (sp_lrow C) := cal_of d__law_row b__law_row fun F => ok_lrow F T c__law_joined
  have c__law_walk : Cal PR w K mg base 3 "_law_walk" (sp_walk C) := cal_of d__law_walk b__law_walk fun F => ok_walk F T c__law_lcm c_Residue_contains
  have c__law_pair : Cal PR w K mg base 5 "_law_pair" sp_pair := cal_of d__law_pair b__law_pair fun F => ok_pair F T c_Residue c__law_meet c__law_apart c__law_gcd c__law_is_disjoint c__law_holds c__law_walk c_Residue_eq c__law_is
  have c__law_chain : Cal PR w K mg base 7 "_law_chain" sp_chain := cal_of d__law_chain b__law_chain fun F => ok_chain F T c_Residue c__law_row c__law_apart c__law_is_disjoint c__law_gcd c__law_lcm c__law_holds c__law_is
  have c__law_box : Cal PR w K mg base 1 "_law_box" (sp_box K) := cal_of d__law_box b__law_box fun F => ok_box F T 
  have c__law_draw : Cal PR w K mg base 1 "_law_draw" sp_draw := cal_of d__law_draw b__law_draw fun F => ok_draw F T 
  have c__law_factor : Cal PR w K mg base 2 "_law_factor" (sp_drawn ArMost RFac) := cal_of d__law_factor b__law_factor fun F => ok_factor F T c__law_draw
  have c__law_pool : Cal PR w K mg base 3 "_law_pool" (sp_drawn ArPool RPool) := cal_of d__law_pool b__law_pool fun F => ok_pool F T c__law_draw c__law_factor
  exact ok_law F T c__law_box c__law_pool c__law_draw c__law_pair c__law_chain
end K01

set_option Elab.async false
set_option linter.all false
open PySem PySem.W PyProof.Rows L2 MyL K01
set_option maxRecDepth 100000 in
set_option maxHeartbeats 0 in
theorem PySem.Challenge.cw_fittingpasts_k01_residue_meet_holds : PySem.Challenge.rw_fittingpasts_k01_residue_meet.Holds := by
  w_on; o_law; k_head; (case hw => w_witness2)
  k_fill
  refine law_walk (l := PySem.Challenge.rw_fittingpasts_k01_residue_meet) (k := 8) (x := "_law_script") (st := s_law) rfl rfl ⟨rfl, by decide, by decide⟩ (fun w h Y => PySem.W.kIn_of Y) (fun _ _ _ _ _ _ _ _ => .of_eq rfl) ?F
  case F =>
    intro w mg h KX G
    refine' K01.all_mk KX G ?a_Residue ?a_OutOfRange ?a_Disjoint ?a_ArchiveError ?a_UnknownError ?a_TextError ?a_ImpossibleError ?z_isinstance ?z_int ?z_bool ?z_len ?z_abs ?z_min ?z_list ?z_range ?z_any ?cl_Residue ?na_Residue_place ?na_Residue_length ?mk_Residue ?kc_Residue ?ca_Residue ?cm_Residue ?cn ?ct ?sf_Residue ?er_OutOfRange ?er_Disjoint ?ek_D ?xf_Disjoint ?nx_Disjoint_divisor ?exm ?k1 ?k2 ?m_Residue_init ?m_Residue_eq ?m_Residue_contains ?m_Residue_and ?s_every ?s_meet ?d_gcd_and_factor ?d__law_box ?d__law_draw ?d__law_is_number ?d__law_gcd ?d__law_lcm ?d__law_factor ?d__law_pool ?d__law_is ?d__law_holds ?d__law_apart ?d__law_meet ?d__law_is_disjoint ?d__law_joined ?d__law_row ?d__law_walk ?d__law_pair ?d__law_chain ?d_law
    (case a_Residue => k_is)
    (case a_OutOfRange => k_is)
    (case a_Disjoint => k_is)
    (case a_ArchiveError => k_is)
    (case a_UnknownError => k_is)
    (case a_TextError => k_is)
    (case a_ImpossibleError => k_is)
    (case z_isinstance => k_is)
    (case z_int => k_is)
    (case z_bool => k_is)
    (case z_len => k_is)
    (case z_abs => k_is)
    (case z_min => k_is)
    (case z_list => k_is)
    (case z_range => k_is)
    (case z_any => k_is)
    (case cl_Residue => refine' ⟨?a, ?b, ?c, ?d⟩; (case a => k_is); (case b => k_is); (case c => k_is); (case d => k_is))
    (case na_Residue_place => unfold NoAttr; k_is)
    (case na_Residue_length => unfold NoAttr; k_is)
    (case mk_Residue => k_is)
    (case kc_Residue => k_is)
    (case ca_Residue => k_is)
    (case cm_Residue => k_is)
    (case cn => k_is)
    (case ct => k_is)
    (case sf_Residue => k_is)
    (case er_OutOfRange => refine' PySem.ErrX.err_mk KX G e_OutOfRange ?g1 ?g2 ?g3 ?g4 ?g5 ?g6 ?g7 ?g8 ?g9 ?h1 ?h2 ?h3 ?h4 ?h5 ?h6 ?h7 ?h8 ?h9 ?i1 ?i2 ?i3; (case g1 => k_is); (case g2 => k_is); (case g3 => k_is); (case g4 => decide +kernel); (case g5 => k_is); (case g6 => (intro f hf; simp only [List.mem_cons, List.not_mem_nil, or_false] at hf; rcases hf with rfl; all_goals k_is)); (case g7 => k_is); (case g8 => k_is); (case g9 => k_is); (case h1 => k_is); (case h2 => k_is); (case h3 => k_is); (case h4 => k_is); (case h5 => ks_is); (case h6 => k_is); (case h7 => k_is); (case h8 => k_is); (case h9 => k_is); (case i1 => rfl); (case i2 => decide +kernel); (case i3 => k_is))
    (case er_Disjoint => refine' PySem.ErrX.err_mk KX G e_Disjoint ?g1 ?g2 ?g3 ?g4 ?g5 ?g6 ?g7 ?g8 ?g9 ?h1 ?h2 ?h3 ?h4 ?h5 ?h6 ?h7 ?h8 ?h9 ?i1 ?i2 ?i3; (case g1 => k_is); (case g2 => k_is); (case g3 => k_is); (case g4 => decide +kernel); (case g5 => k_is); (case g6 => (intro f hf; simp only [List.mem_cons, List.not_mem_nil, or_false] at hf; rcases hf with rfl; all_goals k_is)); (case g7 => k_is); (case g8 => k_is); (case g9 => k_is); (case h1 => k_is); (case h2 => k_is); (case h3 => k_is); (case h4 => k_is); (case h5 => ks_is); (case h6 => k_is); (case h7 => k_is); (case h8 => k_is); (case h9 => k_is); (case i1 => rfl); (case i2 => decide +kernel); (case i3 => k_is))
    (case ek_D => refine' PySem.ErrX.exck_mk ?a ?b ?c ?d ?e ?f ?g ?h; (case a => kernel_rfl); (case b => k_is); (case c => k_is); (case d => k_is); (case e => k_is); (case f => k_is); (case g => k_is); (case h => k_is))
    (case xf_Disjoint => refine' ⟨?a, ?b, ?c, ?d⟩; (case a => k_is); (case b => k_is); (case c => k_is); (case d => k_is))
    (case nx_Disjoint_divisor => k_is)
    (case exm => kernel_rfl)
    (case k1 => kernel_rfl)
    (case k2 => kernel_rfl)
    (case m_Residue_init => refine' gmeth (st := s_Residue_init) ?a ?i ?l ?c ?k; (case a => k_is); (case i => k_is); (case l => k_is); (case c => k_is); (case k => k_is))
    (case m_Residue_eq => refine' gmeth (st := s_Residue_eq) ?a ?i ?l ?c ?k; (case a => k_is); (case i => k_is); (case l => k_is); (case c => k_is); (case k => k_is))
    (case m_Residue_contains => refine' gmeth (st := s_Residue_contains) ?a ?i ?l ?c ?k; (case a => k_is); (case i => k_is); (case l => k_is); (case c => k_is); (case k => k_is))
    (case m_Residue_and => refine' gmeth (st := s_Residue_and) ?a ?i ?l ?c ?k; (case a => k_is); (case i => k_is); (case l => k_is); (case c => k_is); (case k => k_is))
    (case s_every => refine' gsta (st := s_Residue_every) ?a ?b ?c ?d ?l ?e ?f; (case a => k_is); (case b => k_is); (case c => k_is); (case d => k_is); (case l => k_is); (case e => k_is); (case f => k_is))
    (case s_meet => refine' gsta (st := s_Residue_meet) ?a ?b ?c ?d ?l ?e ?f; (case a => k_is); (case b => k_is); (case c => k_is); (case d => k_is); (case l => k_is); (case e => k_is); (case f => k_is))
    (case d_gcd_and_factor => refine' gdef (st := s_gcd_and_factor) KX G ?a ?l ?c ?k; (case a => k_is); (case l => k_is); (case c => k_is); (case k => k_is))
    (case d__law_box => refine' gdef (st := s__law_box) KX G ?a ?l ?c ?k; (case a => k_is); (case l => k_is); (case c => k_is); (case k => k_is))
    (case d__law_draw => refine' gdef (st := s__law_draw) KX G ?a ?l ?c ?k; (case a => k_is); (case l => k_is); (case c => k_is); (case k => k_is))
    (case d__law_is_number => refine' gdef (st := s__law_is_number) KX G ?a ?l ?c ?k; (case a => k_is); (case l => k_is); (case c => k_is); (case k => k_is))
    (case d__law_gcd => refine' gdef (st := s__law_gcd) KX G ?a ?l ?c ?k; (case a => k_is); (case l => k_is); (case c => k_is); (case k => k_is))
    (case d__law_lcm => refine' gdef (st := s__law_lcm) KX G ?a ?l ?c ?k; (case a => k_is); (case l => k_is); (case c => k_is); (case k => k_is))
    (case d__law_factor => refine' gdef (st := s__law_factor) KX G ?a ?l ?c ?k; (case a => k_is); (case l => k_is); (case c => k_is); (case k => k_is))
    (case d__law_pool => refine' gdef (st := s__law_pool) KX G ?a ?l ?c ?k; (case a => k_is); (case l => k_is); (case c => k_is); (case k => k_is))
    (case d__law_is => refine' gdef (st := s__law_is) KX G ?a ?l ?c ?k; (case a => k_is); (case l => k_is); (case c => k_is); (case k => k_is))
    (case d__law_holds => refine' gdef (st := s__law_holds) KX G ?a ?l ?c ?k; (case a => k_is); (case l => k_is); (case c => k_is); (case k => k_is))
    (case d__law_apart => refine' gdef (st := s__law_apart) KX G ?a ?l ?c ?k; (case a => k_is); (case l => k_is); (case c => k_is); (case k => k_is))
    (case d__law_meet => refine' gdef (st := s__law_meet) KX G ?a ?l ?c ?k; (case a => k_is); (case l => k_is); (case c => k_is); (case k => k_is))
    (case d__law_is_disjoint => refine' gdef (st := s__law_is_disjoint) KX G ?a ?l ?c ?k; (case a => k_is); (case l => k_is); (case c => k_is); (case k => k_is))
    (case d__law_joined => refine' gdef (st := s__law_joined) KX G ?a ?l ?c ?k; (case a => k_is); (case l => k_is); (case c => k_is); (case k => k_is))
    (case d__law_row => refine' gdef (st := s__law_row) KX G ?a ?l ?c ?k; (case a => k_is); (case l => k_is); (case c => k_is); (case k => k_is))
    (case d__law_walk => refine' gdef (st := s__law_walk) KX G ?a ?l ?c ?k; (case a => k_is); (case l => k_is); (case c => k_is); (case k => k_is))
    (case d__law_pair => refine' gdef (st := s__law_pair) KX G ?a ?l ?c ?k; (case a => k_is); (case l => k_is); (case c => k_is); (case k => k_is))
    (case d__law_chain => refine' gdef (st := s__law_chain) KX G ?a ?l ?c ?k; (case a => k_is); (case l => k_is); (case c => k_is); (case k => k_is))
    (case d_law => refine' gdef (st := s_law) KX G ?a ?l ?c ?k; (case a => k_is); (case l => k_is); (case c => k_is); (case k => k_is))
#print axioms PySem.Challenge.cw_fittingpasts_k01_residue_meet_holds

