import PyProof.Rows.All
import Wide.All
import OpenK.AllK
import Wide.FinOn
import KE.KExcSuper
import HandS.Exc
import HandS.ExcInit
import KE.KOpsOwn
import KE.KCallOwn
import KE.KExcIs
import HandS.ForExc
import HandS.ForMost
import HandS.HotCalls
import HandS.More
import HandS.SlotsOwn
import HandS.MakeKw
import HandS.IsInst
import HandS.ExcField
import HandS.Wide
import HandS.FStr
import HandS.EndBits
import HandS.Property
import HandS.ClsMeth
import HandS.ExcOwn
import PySem.Challenge.RW_fittingpasts_k17_stay_parts
set_option Elab.async false
set_option linter.all false
set_option maxRecDepth 100000
set_option maxHeartbeats 4000000
/-! An own error whose body of __init__ is super().__init__('..') and then self.f = f for each field f. -/
namespace PySem
namespace ErrX
open PySem.W PySem.Calls PyProof.Rows PySem.HandSPX
/-- self.f = f for each name -/
inductive Asgs : List Str → List Stmt → Prop
  | nil : Asgs [] []
  | cons {f : Str} {fs : List Str} {r : List Stmt} {q1 q2 q3 q4 : Pos} : (f == ("__debug__" : Str)) = false → Asgs fs r → Asgs (f :: fs) (.Assign [.Attribute (.Name "self" q1) f q2] (.Name f q3) q4 :: r)
/-- what the written part says of the error's class at C and of its __init__ at fI -/
structure ErrTxt (prog : Program) (K : Frag) (mg : Str → Option Value) (x : Str) (C fI : Addr) (fs : List Str) : Prop where
  gC : mg x = some (.ref C)
  gS : mg "super" = none
  cls : ∃ nm q N bs bm sn sub ab col dd k0 k1 k2 k3 k5, K.lookup C = some (excClassObj nm q C N bs bm true sn sub ab col dd k0 k1 k2 k3 k5 "ValueError.__new__") ∧ refsVE bm = true
  sa : findIn K (.ref C) "__setattr__" = some (some (.builtin "object.__setattr__"))
  no : ∀ f ∈ fs, findIn K (.ref C) f = some none
  iC : findIn K (.ref C) "__init__" = some (some (.ref fI))
  tC : typeIn K (.ref fI) = some (.type "function")
  kC : keepIn K (.ref C) = true
  exC : subIn K (.ref C) (.type "BaseException") = some true
  veC : subIn K (.ref C) (.type "ValueError") = some true
  tyC : typeIn K (.ref C) = some (.type "type")
  op : nsIn K cStatics "thirdparty.any" = some none
  al : ks_superIn K C C "__init__" = some (some (.builtin "ValueError.__init__"))
  slf : mroIn K C (.ref C) = some true
  fn : ∃ (oc : Value) (od : Option Addr) (qual : Str) (params : Arguments) (scope : Scope) (rest : List Stmt) (doc pm : Value) (an : Option Addr) (cda : Addr) (ct : Value) (cc : Addr) (osl : Array (Option Value)) (txt : Str) (j : Nat) (p0 p1 p2 p3 p4 p5 : Pos) (ar : Arg)
      (ccl : Value) (cdd : Option Addr) (vs : Array Value) (ccs : Array (Option Value)) (file : Str) (tf : Tok) (cl : Value) (cld : Option Addr) (csl : Array (Option Value)),
    K.lookup fI = some ⟨oc, od, .func (ksFn "__init__" qual params (.Expr (.Call (.Attribute (.Call (.Name "super" p0) [] [] p1) "__init__" p2) [.Constant (.str txt) j p3] [] p4) p5 :: rest) scope .none .none doc pm an (.ref cda) ct cc), osl⟩ ∧ codeIn K (.ref cda) qual = true ∧
    K.lookup cda = some ⟨ccl, cdd, .fields vs, ccs⟩ ∧ vs[2]? = some (.str file tf) ∧ ((prog.main.file : Str) == file) = true ∧ K.lookup cc = some ⟨cl, cld, .cell (some (.ref C)), csl⟩ ∧
    (∀ env : Env, eval (.Call (.Attribute (.Call (.Name "super" p0) [] [] p1) "__init__" p2) [.Constant (.str txt) j p3] [] p4) env = (do
      let ov ← attributeBase (.Call (.Name "super" p0) [] [] p1) "__init__" env (eval (.Call (.Name "super" p0) [] [] p1) env)
      standAt p2.atName
      let (f, first) ← holding [ov] (getMethod ov "__init__" (do return (← importBound (.Call (.Name "super" p0) [] [] p1) env).getD true))
      callWith p4 f first (backTo p4 (starEach [.Constant (.str txt) j p3] env)) [])) ∧
    (prog.main.scope.names.lookup ("super" : Str)).isSome = false ∧
    (params.posonlyargs ++ params.args).head? = some ar ∧ ar.arg = "self" ∧
    scope.kind = .function ∧ scope.isCoroutine = false ∧ scope.isGenerator = false ∧ (∀ x ∈ scope.names, x.2 ≠ .cell) ∧ scope.names.lookup ("super" : Str) = some .globalImplicit ∧ scope.names.lookup ("__class__" : Str) = some .free ∧
    scope.names.lookup ("self" : Str) = some .local ∧ (∀ f ∈ fs, scope.names.lookup f = some .local) ∧ (("self" : Str) :: fs).Nodup ∧
    Asgs fs rest ∧ ∀ us : List Value, us.length = fs.length + 1 → bindArgs (ksFn "__init__" qual params (.Expr (.Call (.Attribute (.Call (.Name "super" p0) [] [] p1) "__init__" p2) [.Constant (.str txt) j p3] [] p4) p5 :: rest) scope .none .none doc pm an (.ref cda) ct cc) ⟨us, []⟩ = pure (((("self" : Str) :: fs)).zip us)

theorem lookup_rev : ∀ {l : List (Str × Value)} {x : Str} {v : Value}, (l.map (·.1)).Nodup → l.lookup x = some v → l.reverse.lookup x = some v := by
  intro l x v nd h
  have key : ∀ (m : List (Str × Value)), (m.map (·.1)).Nodup → (x, v) ∈ m → m.lookup x = some v := by
    intro m
    induction m with
    | nil => intro _ h; cases h
    | cons p m ih =>
      intro nd h
      obtain ⟨y, u⟩ := p
      rw [List.map_cons, List.nodup_cons] at nd
      rcases List.mem_cons.mp h with e | e
      · cases e; simp [List.lookup]
      · have hne : (x == y) = false := by
          rw [beq_eq_false_iff_ne]
          rintro rfl
          exact nd.1 (List.mem_map_of_mem (f := (·.1)) e)
        simp [List.lookup, hne]
        exact ih nd.2 e
  refine key _ ?_ (List.mem_reverse.mpr (PySem.mem_of_lookup h))
  rw [List.map_reverse]
  exact List.pairwise_reverse.mpr (nd.imp Ne.symm)

/-- what stands at the exception behind the stores: the fields so far (the last one first) -/
def DictOf (x : Addr) (n : Nat) (h : Heap) (fl : List (Str × Value)) (dv : Option Addr) : Prop :=
  match fl with
  | [] => dv = none
  | _ => ∃ dx, dv = some dx ∧ n ≤ dx ∧ dx ≠ x ∧ ∃ mA, h.Ns1 dx mA ∧ (∀ y, mA y = fl.lookup y)
theorem dictOf_cons {x : Addr} {n : Nat} {h : Heap} {fl : List (Str × Value)} {dv : Option Addr} {f : Str} {v : Value} : DictOf x n h ((f, v) :: fl) dv = ∃ dx, dv = some dx ∧ n ≤ dx ∧ dx ≠ x ∧ ∃ mA, h.Ns1 dx mA ∧ (∀ y, mA y = ((f, v) :: fl).lookup y) := rfl
abbrev excD (C t : Addr) (d : Option Addr) : Obj := { cls := .ref C, dict := d, data := .fields #[.ref t, .none, .none, .none, .bool false, .none] }
theorem lookup_ite (f y : Str) (v : Value) (fl : List (Str × Value)) : ((f, v) :: fl).lookup y = if y = f then some v else fl.lookup y := by
  by_cases h : y = f
  · subst h; simp [List.lookup]
  · have e : (y == f) = false := by simpa using h
    rw [if_neg h]; simp [List.lookup, e]
section
variable {prog : Program} {w : World} {A : Around} {E : Value → Shared → Prop} {K : Frag} {mg : Str → Option Value} {C fI : Addr}
theorem run_asgs {env : Env} {x t0 : Addr} {n : Nat} {m : Str → Option Value} {cd : ClassData} (hcd : clsIn K C = some cd) (hmr : refsVE cd.mro = true) (hh : cd.hasDict = true) (sa : findIn K (.ref C) "__setattr__" = some (some (.builtin "object.__setattr__")))
    (hnx : K.lookup x = none) (hk : env.scope.kind = .function) (hself : env.kindOf "self" = some .local) (mself : m "self" = some (.ref x)) (hLx : env.locals ≠ x) (hLn : env.locals < n) {Q : Flow → Shared → Prop} :
    ∀ {fs : List Str} {rest : List Stmt} {vs : List Value} {fl : List (Str × Value)} {dv : Option Addr} {s : Shared}, Asgs fs rest → vs.length = fs.length → (∀ p ∈ fs.zip vs, m p.1 = some p.2 ∧ env.kindOf p.1 = some .local ∧ findIn K (.ref C) p.1 = some none) → fl.length + fs.length ≤ 900 →
    K.In s.heap → s.heap.Ns env.locals m → s.heap.get? x = some (excD C t0 dv) → n ≤ s.heap.objs.size → DictOf x n s.heap fl dv → (∀ dx, dv = some dx → K.lookup dx = none ∧ dx ≠ env.locals) →
    (∀ h' tk dv', (∀ b o, b ≠ x → some b ≠ dv → s.heap.get? b = some o → h'.get? b = some o) → h'.get? x = some (excD C t0 dv') → DictOf x n h' ((fs.zip vs).reverse ++ fl) dv' → Q .next { s with heap := h', toks := tk }) →
    wpAny (model prog w) A (execs rest env) Q E s := by
  intro fs
  induction fs with
  | nil =>
    intro rest vs fl dv s ha hl _ _ _ _ hx _ hd _ hq
    cases ha
    refine wpAny_execs_nil ?_
    have := hq s.heap s.toks dv (fun b o _ _ e => e) hx (by simpa using hd)
    exact this
  | cons f fs ih =>
    intro rest vs fl dv s ha hl hm hz X hn hx hsz hd hdv hq
    cases ha with
    | cons hdb ha' =>
    cases vs with
    | nil => cases hl
    | cons v vs =>
    have hl' : vs.length = fs.length := by simpa using hl
    obtain ⟨mv, kv, nov⟩ := hm (f, v) (by simp)
    have hm' : ∀ p ∈ fs.zip vs, m p.1 = some p.2 ∧ env.kindOf p.1 = some .local ∧ findIn K (.ref C) p.1 = some none := fun p hp => hm p (by simp [hp])
    have hz' : fl.length + (fs.length + 1) ≤ 900 := by simpa using hz
    refine wpAny_execs_cons (plainObj_wpAny_Assign_Attribute ?_ (by rfl))
    refine wpAny_Name (wpAny_loadName_local hk kv hn mv ?_) hdb
    refine wpAny_Name (wpAny_loadName_local hk hself hn mself ?_) (by decide)
    show wpAny _ _ (setAttr (.ref x) f v) _ _ _
    obtain ⟨hp, g, d, tk, os⟩ := s
    cases fl with
    | nil =>
      have e0 : dv = none := hd
      subst e0
      refine set_plain X (ox := excD C t0 none) (od := none) ⟨hx, rfl, rfl, trivial⟩ sa ?_
      refine exc_osa X hx hcd hmr hh nov (fun h' tk' dx k dn dne hx' hn' => ?_)
      have ndl : ∀ {b o}, hp.get? b = some o → b ≠ dx := fun {b o} q => Nat.ne_of_lt (Nat.lt_of_lt_of_le (Heap.lt_size q) dn)
      have hnL : h'.Ns env.locals m := by
        obtain ⟨o, es, ep, ho, r⟩ := hn
        exact ⟨o, es, ep, k _ o hLx ho, r⟩
      have hsz' : n ≤ h'.objs.size := by
        have := Heap.lt_size (show h'.get? x = some _ from hx')
        obtain ⟨o, es, ep, ho, r⟩ := hn'
        have z := Heap.lt_size ho
        exact Nat.le_of_lt (Nat.lt_of_le_of_lt (Nat.le_trans hsz dn) z)
      have X' : K.In h' := fun a o e => k a o (fun z => by rw [z, hnx] at e; cases e) (X a o e)
      refine ih (fl := [(f, v)]) (dv := some dx) (s := ⟨h', g, d, tk', os⟩) ha' hl' hm' (by simp; omega) X' hnL hx' hsz' ?_ ?_ ?_
      · refine ⟨dx, rfl, Nat.le_trans hsz dn, dne, _, hn', fun y => ?_⟩
        rw [lookup_ite]
        rfl
      · intro dx' e
        cases e
        refine ⟨?_, ?_⟩
        · cases q : K.lookup dx with
          | none => rfl
          | some o => exact absurd (Heap.lt_size (X _ _ q)) (Nat.not_lt.mpr dn)
        · exact Ne.symm (Nat.ne_of_lt (Nat.lt_of_lt_of_le hLn (Nat.le_trans hsz dn)))
      · intro h2 tk2 dv2 k2 hx2 hd2
        refine hq h2 tk2 dv2 (fun b o hb _ e => k2 b o hb (fun z => ndl e (Option.some.inj z)) (k b o hb e)) hx2 ?_
        simpa using hd2
    | cons p0 fl =>
      obtain ⟨dx, rfl, dn, dne, mA, hns, hmA⟩ := hd
      obtain ⟨nK, nL⟩ := hdv dx rfl
      have hw : Within mA ((p0 :: fl).map (·.1)) := fun y hy => by
        rw [hmA y] at hy
        cases q : (p0 :: fl).lookup y with
        | none => exact absurd q hy
        | some u => exact List.mem_map_of_mem (f := (·.1)) (PySem.mem_of_lookup q)
      obtain ⟨oD, _, _, hoD, _, _⟩ := hns.count hw
      refine set_plain X (ox := excD C t0 (some dx)) (od := some oD) ⟨hx, rfl, rfl, hoD⟩ sa ?_
      refine PySem.OEX.osa_old X hx hns hw (by rw [List.length_map]; simp at hz' ⊢; omega) hcd hmr hh nov (fun h' tk' k hn' => ?_)
      have hnL : h'.Ns env.locals m := by
        obtain ⟨o, es, ep, ho, r⟩ := hn
        exact ⟨o, es, ep, k _ o (Ne.symm nL) ho, r⟩
      have hx' : h'.get? x = some (excD C t0 (some dx)) := k _ _ (Ne.symm dne) hx
      have hsz' : n ≤ h'.objs.size := by
        obtain ⟨o, es, ep, ho, r⟩ := hn'
        have z := Heap.lt_size ho
        exact Nat.le_of_lt (Nat.lt_of_le_of_lt dn z)
      have X' : K.In h' := fun a o e => k a o (fun z => by rw [z, nK] at e; cases e) (X a o e)
      refine ih (fl := (f, v) :: p0 :: fl) (dv := some dx) (s := ⟨h', g, d, tk', os⟩) ha' hl' hm' (by simp at hz' ⊢; omega) X' hnL hx' hsz' ?_ hdv ?_
      · refine ⟨dx, rfl, dn, dne, _, hn', fun y => ?_⟩
        rw [lookup_ite, hmA y]
      · intro h2 tk2 dv2 k2 hx2 hd2
        refine hq h2 tk2 dv2 (fun b o hb hb2 e => k2 b o hb hb2 (k b o (fun z => hb2 (by rw [z])) e)) hx2 ?_
        simpa using hd2
end
end ErrX
end PySem

set_option Elab.async false
set_option linter.all false
set_option maxRecDepth 100000
set_option maxHeartbeats 4000000
namespace PySem
namespace ErrX
open PySem.W PySem.Calls PyProof.Rows PySem.HandSPX
section
variable {prog : Program} {w : World} {A : Around} {E : Value → Shared → Prop} {K : Frag} {mg : Str → Option Value} {C fI : Addr} {R : Result → Shared → Prop}
/-- the call of super().__init__ as a wrapper -/
theorem call_mw {h : Heap} {g : Array GenState} {d : Drawn} {t : Nat} {os : OsState} {nm q : Str} {N : Addr} {bs bm : List Value} {hdct : Bool} {sn : List Str} {sub : List Value} {ab : Bool} {col : Option Bool} {dd : Option Addr} {k0 k1 k2 k3 k5 : Option Value} {u e t0 : Addr} {rest : List Value} {Q : Value → Shared → Prop}
    (hC : h.get? C = some (excClassObj nm q C N bs bm hdct sn sub ab col dd k0 k1 k2 k3 k5 "ValueError.__new__")) (he : h.get? e = some (excO C t0)) (hu : h.get? u = some (kxs_mw "ValueError.__init__" e)) (hrest : rest.length ≤ sizeLine)
    (hq : ∀ h' t1, (∀ b o, b ≠ e → h.get? b = some o → h'.get? b = some o) → h'.get? e = some (excO C t1) → Q .none ⟨h', g, d, t, os⟩) :
    wpAny (model prog w) A (call (.ref u) rest) Q E ⟨h, g, d, t, os⟩ := by
  refine wpAny_call (codeAny_of_tree ?_)
  show wpAny _ A.in1 (callAny (.ref u) ⟨rest, []⟩) _ _ _
  simp only [callAny]
  refine wpAny_bind (wpAny_load hu ?_)
  simp only [kxs_mw, show (Value.type "method-wrapper" == Value.type "method" || Value.type "method-wrapper" == Value.type "builtin_function_or_method" || Value.type "method-wrapper" == Value.type "method-wrapper") = true by decide, if_true]
  refine KFB.if_so (by decide) ?_
  refine wpAny_bind (check_bound_init PySem.F.excBase_ValueError.toExcCallFacts hC he rfl ?_)
  refine wpAny_bind (wpAny_pure (wpAny_pure ?_))
  refine ⟨plainId_quiet PySem.F.excBase_ValueError.init.plain _, codeAny_builtin PySem.F.excBase_ValueError.initEntry ?_⟩
  exact exc_init_tree (cls := .ref C) (t0 := t0) (dv := none) (c2 := .none) (c3 := .none) (b4 := .bool false) he hrest fun h' k e' _ => hq h' _ k e'
theorem str_size (v : Value) : [v].length ≤ sizeLine := by
  rw [sizeLine_eq]
  exact (by decide : 1 ≤ 16777216)
theorem run_init {x0 : Str} {fs : List Str} (T : ErrTxt prog K mg x0 C fI fs) (hfs : fs.length ≤ 100) {s : Shared} {x t0 : Addr} {vs : List Value} (hl : vs.length = fs.length) (X : K.In s.heap) (hlim : s.heap.NoLimit) (hg : s.heap.Ns mainGlobals mg)
    (hb : ∃ mb, s.heap.Ns builtinsNs mb ∧ ∀ y : Str, y ≠ "__name__" → mb y = bootBuiltins y) (hx : s.heap.get? x = some (excO C t0)) (hnx : K.lookup x = none) (hroom : A.depth < recursionLimit)
    (hq : ∀ h' tk t1 dv, (∀ b o, b ≠ x → s.heap.get? b = some o → h'.get? b = some o) → h'.get? x = some (excD C t1 dv) → DictOf x s.heap.objs.size h' (fs.zip vs).reverse dv → R (.ok (.ret .none)) { s with heap := h', toks := tk }) :
    codeAny (model prog w) A (.call (.ref fI) ⟨.ref x :: vs, []⟩) R s := by
  obtain ⟨oc, od, qual, params, scope, rest, doc, pm, an, cda, ct, cc, osl, txt, j, p0, p1, p2, p3, p4, p5, ar, ccl, cdd, cvs, ccs, file, tf, cl, cld, csl, lf, hcd, lcd, hvs, hfile, lcc, heq, htop, hhd, hself, hk, hco, hgen, hcell, hks, hkc, hks1, hkf, nd, hasg, hbind⟩ := T.fn
  obtain ⟨nm, q, N, bs, bm, sn, sub, ab, col, dd, k0, k1, k2, k3, k5, hC, hbm⟩ := T.cls
  have hcl : clsIn K C = some { name := nm, bases := bs, mro := .ref C :: bm, ns := N, qualname := q, hasDict := true, slotNames := sn, subclasses := sub, abstract := ab, collection := col, hasDel := false } := by unfold clsIn; rw [hC] <;> rfl
  have hxn : s.heap.objs.size ≠ x := Nat.ne_of_gt (Heap.lt_size hx)
  have hal := T.al
  unfold ks_superIn at hal
  rw [hcl] at hal
  refine ks_codeAny_call_defAt (binds := ((("self" : Str) :: fs)).zip (.ref x :: vs)) hroom (X _ _ lf) rfl hlim (codeRec_of X hcd) rfl (BindsTo.of_eq (hbind _ (by simp [hl]))) hcell (fun y hy => ?_) (fun h1 hn1 k1' => ?_) hco hgen hk
  · have := (List.of_mem_zip (show (y.1, y.2) ∈ _ from hy)).1
    rcases List.mem_cons.mp this with e | e
    · rw [e]; exact hks1
    · exact hkf _ e
  obtain ⟨hp, g, d, tk, os⟩ := s
  dsimp only at *
  have X1 : K.In h1 := X.keeps k1'
  have hx1 := k1' _ _ hx
  have mself : (fun y => (((("self" : Str) :: fs)).zip (.ref x :: vs)).reverse.lookup y) "self" = some (Value.ref x) := by
    refine lookup_rev ?_ (by simp [List.zip_cons_cons, List.lookup])
    rw [List.map_fst_zip (by simp [hl])]
    exact nd
  have mfs : ∀ p ∈ fs.zip vs, (fun y => (((("self" : Str) :: fs)).zip (.ref x :: vs)).reverse.lookup y) p.1 = some p.2 ∧ (ksEnv qual scope hp.objs.size fI (.ref cda) cc).kindOf p.1 = some .local ∧ findIn K (.ref C) p.1 = some none := by
    intro p hp'
    have hpf := (List.of_mem_zip (show (p.1, p.2) ∈ _ from hp')).1
    refine ⟨lookup_rev ?_ ?_, hkf _ hpf, T.no _ hpf⟩
    · rw [List.map_fst_zip (by simp [hl])]
      exact nd
    · have key : ∀ (m : List (Str × Value)), (m.map (·.1)).Nodup → p ∈ m → m.lookup p.1 = some p.2 := by
        intro m
        induction m with
        | nil => intro _ h; cases h
        | cons r m ih =>
          intro nd h
          obtain ⟨y, u⟩ := r
          rw [List.map_cons, List.nodup_cons] at nd
          rcases List.mem_cons.mp h with e | e
          · rw [e]; simp [List.lookup]
          · have hne : (p.1 == y) = false := by
              rw [beq_eq_false_iff_ne]
              rintro rfl
              exact nd.1 (List.mem_map_of_mem (f := (·.1)) e)
            simp [List.lookup, hne]
            exact ih nd.2 e
      refine key _ ?_ (by rw [List.zip_cons_cons]; exact List.mem_cons_of_mem _ hp')
      rw [List.map_fst_zip (by simp [hl])]
      exact nd
  generalize hm : (fun y => (((("self" : Str) :: fs)).zip (.ref x :: vs)).reverse.lookup y) = m at hn1 mself mfs
  have J : InstAt h1 x (excO C t0) C none := ⟨hx1, rfl, rfl, trivial⟩
  obtain ⟨oD, hD1, hD2⟩ : ∃ oD, h1.get? C = some oD ∧ ∃ cd, oD.data = .cls cd := ⟨_, X1 _ _ hC, _, rfl⟩
  obtain ⟨cdD, hD2⟩ := hD2
  obtain ⟨mb, hb1, hb2⟩ := hb
  have hint : interactive (callEnv (ksFn "__init__" qual params (.Expr (.Call (.Attribute (.Call (.Name "super" p0) [] [] p1) "__init__" p2) [.Constant (.str txt) j p3] [] p4) p5 :: rest) scope .none .none doc pm an (.ref cda) ct cc) hp.objs.size fI) = false := by
    show (scope.kind == .module && _) = false
    rw [hk]
    rfl
  -- super().__init__('..')
  refine ks_wpAt_execs_cons (ks_wpAt_Expr_any (ks_wpAt_MethodCall ?_ (heq _)) hint)
  refine ks_wpAt_super_base (env := ksEnv qual scope hp.objs.size fI (.ref cda) cc) hks hkc (by decide) rfl (X1 _ _ lf) rfl hhd rfl (X1 _ _ lcd) rfl hvs hfile htop ?_
  refine ks_loadName_global hk hks (loadGlobal_builtin (env := ksEnv qual scope hp.objs.size fI (.ref cda) cc) (hg.keeps k1') T.gS (hb1.keeps k1') ((hb2 _ (by decide)).trans (by decide +kernel : bootBuiltins "super" = some (.type "super"))) ⟨rfl, ?_⟩)
  refine wpAny_loadName_free hk hkc rfl ⟨_, X1 _ _ lcc, rfl⟩ ?_
  rw [hself]
  refine wpAny_loadName_local hk hks1 hn1 mself ?_
  refine ks_wpAny_isType_cls hD1 hD2 ⟨rfl, ?_⟩
  refine ks_wpAny_call_super hD1 hD2 J.at_ J.cls (fun c e => ?_) (looks_mroIn X1 T.slf) (fun h2 hso k2 => ?_)
  · cases e
  have X2 : K.In h2 := X1.keeps k2
  have hx2 := k2 _ _ hx1
  have J2 : InstAt h2 x (excO C t0) C none := ⟨hx2, rfl, rfl, trivial⟩
  refine kxs_getMethod (l₀ := Value.ref C :: bm) kxs_ValueError hso (looks_opaque X2 T.op) ?_ rfl X2 hal (J2.type.andThen (looks_subIn X2 T.veC)) (fun z => by rw [z, hC] at hnx; cases hnx) (by decide) ?_
  · exact fun A Q E s k q => wpAny_bind ((looks_clsIn X2 hcl) A _ E s k (wpAny_pure q))
  have hmw : (h2.push (kxs_mw "ValueError.__init__" x)).get? h2.objs.size = some (kxs_mw "ValueError.__init__" x) := Heap.get?_push_at rfl rfl
  have k3' : ∀ b o, h2.get? b = some o → (h2.push (kxs_mw "ValueError.__init__" x)).get? b = some o := fun b o e => Heap.get?_push_of_some _ e
  refine kxs_callWith (i := "ValueError.__init__") (x := x) (by rfl) ?_
  refine evalArgs_plain (spliced_cons (Constant_str (k := j) (pos := p3) (spliced_nil ?_)))
  refine ⟨hmw, ?_⟩
  refine call_mw (k3' _ _ (X2 _ _ hC)) (k3' _ _ hx2) hmw (str_size _) fun h4 t4 k4 hx4 => ?_
  have kA : ∀ b o, b ≠ x → h1.get? b = some o → h4.get? b = some o := fun b o hb e => k4 b o hb (k3' b o (k2 b o e))
  have X4 : K.In h4 := fun a o e => kA a o (fun z => by rw [z, hnx] at e; cases e) (X1 a o e)
  have hnL : h4.Ns hp.objs.size m := by
    obtain ⟨o, es, ep, ho, r⟩ := hn1
    exact ⟨o, es, ep, kA _ o hxn ho, r⟩
  have hs4 : hp.objs.size < h4.objs.size := by
    obtain ⟨o, es, ep, ho, r⟩ := hnL
    exact Heap.lt_size ho
  refine wpAt_of_wpAny ?_
  refine run_asgs (env := ksEnv qual scope hp.objs.size fI (.ref cda) cc) (n := hp.objs.size + 1) (fl := []) (dv := none) (s := ⟨h4, g, d, _, os⟩) hcl (show refsVE (.ref C :: bm) = true from hbm) rfl T.sa hnx hk hks1 mself hxn (Nat.lt_succ_self _) hasg hl mfs (by simp; omega) X4 hnL hx4 hs4 rfl (fun dx e => nomatch e) ?_
  intro h' tk' dv' k' hx' hd'
  refine hq h' tk' t4 dv' (fun b o hb e => k' b o hb (fun z => nomatch z) (kA b o hb (k1' b o e))) hx' ?_
  rw [List.append_nil] at hd'
  cases hz : (fs.zip vs).reverse with
  | nil =>
    rw [hz] at hd'
    exact hd'
  | cons p r =>
    rw [hz] at hd'
    obtain ⟨dx, e, dn, r⟩ := hd'
    exact ⟨dx, e, Nat.le_of_succ_le dn, r⟩
/-- what is made by C(..) -/
structure Made (h h' : Heap) (e C : Addr) (dv : Option Addr) (fl : List (Str × Value)) : Prop where
  keep : ∀ b o, h.get? b = some o → h'.get? b = some o
  new : h.objs.size ≤ e
  obj : ∃ t1, h'.get? e = some (excD C t1 dv)
  dct : DictOf e h.objs.size h' fl dv
theorem run_made {x0 : Str} {fs : List Str} (T : ErrTxt prog K mg x0 C fI fs) (hfs : fs.length ≤ 100) {s : Shared} {vs : List Value} (hl : vs.length = fs.length) (X : K.In s.heap) (hlim : s.heap.NoLimit) (hg : s.heap.Ns mainGlobals mg)
    (hb : ∃ mb, s.heap.Ns builtinsNs mb ∧ ∀ y : Str, y ≠ "__name__" → mb y = bootBuiltins y) (hroom : A.depth + 1 < recursionLimit)
    (hq : ∀ h' tk e dv, Made s.heap h' e C dv (fs.zip vs).reverse → R (.ok (.ret (.ref e))) { s with heap := h', toks := tk }) :
    codeAny (model prog w) A (.call (.ref C) ⟨vs, []⟩) R s := by
  obtain ⟨nm, q, N, bs, bm, sn, sub, ab, col, dd, k0, k1, k2, k3, k5, hC, hbm⟩ := T.cls
  obtain ⟨hp, g, dr, tk, os⟩ := s
  have k : ∀ b o, hp.get? b = some o → ((hp.push (kdv_tup vs)).push (excO C hp.objs.size)).get? b = some o := fun b o e => Heap.get?_push_of_some _ (Heap.get?_push_of_some _ e)
  have hget : ((hp.push (kdv_tup vs)).push (excO C hp.objs.size)).get? (hp.objs.size + 1) = some (excO C hp.objs.size) := by heap_get
  have hnx : K.lookup (hp.objs.size + 1) = none := by
    cases e : K.lookup (hp.objs.size + 1) with
    | none => rfl
    | some o =>
      have z : hp.get? (hp.objs.size + 1) = some o := X _ _ e
      exact absurd (Nat.lt_of_succ_lt (Heap.lt_size z)) (Nat.lt_irrefl _)
  obtain ⟨mb, hb1, hb2⟩ := hb
  have hvl : vs.length ≤ sizeLine := by rw [hl, sizeLine_eq]; omega
  refine call_own PySem.F.excBase_ValueError (fun X => refsVE_contains X bm hbm) (X _ _ hC) (looks_findIn X T.iC) (fun self => bind_fn X self T.tC) hvl ?_
  refine run_init (s := ⟨(hp.push (kdv_tup vs)).push (excO C hp.objs.size), g, dr, tk, os⟩) T hfs hl (X.keeps k) (hlim.keeps k) (hg.keeps k) ⟨mb, hb1.keeps k, hb2⟩ hget hnx ?_ fun h' tk' t1 dv k' hx hd => ?_
  · show A.depth + 1 < recursionLimit
    exact hroom
  · have old : ∀ b o, hp.get? b = some o → h'.get? b = some o := fun b o e => k' b o (Nat.ne_of_lt (Nat.lt_succ_of_lt (Heap.lt_size e))) (k b o e)
    refine ⟨rfl, hq h' tk' (hp.objs.size + 1) dv ⟨old, Nat.le_succ _, ⟨_, hx⟩, ?_⟩⟩
    cases hz : (fs.zip vs).reverse with
    | nil =>
      rw [hz] at hd
      exact hd
    | cons p r =>
      rw [hz] at hd
      obtain ⟨dx, e, dn, r⟩ := hd
      refine ⟨dx, e, Nat.le_trans ?_ dn, r⟩
      simp only [Heap.size_push]
      exact Nat.le_trans (Nat.le_succ _) (Nat.le_succ _)
end
end ErrX
end PySem
namespace L2
open PySem PySem.Spec PyProof.Rows
theorem relO_zip {vs : List V} {us : List Value} (r : Vals vs us) : ∀ (fs : List Str), fs.length = vs.length → ∀ f, RelO ((fs.zip vs).lookup f) ((fs.zip us).lookup f) := by
  induction r with
  | nil => intro fs h f; simp; trivial
  | cons rv rr ih =>
    intro fs h f
    cases fs with
    | nil => cases h
    | cons g fs =>
      rw [List.zip_cons_cons, List.zip_cons_cons, lookup_put, PySem.ErrX.lookup_ite]
      by_cases e : f = g
      · rw [if_pos e, if_pos e]; exact rv
      · rw [if_neg e, if_neg e]; exact ih fs (by simpa using h) f
theorem vals_reverse {vs : List V} {us : List Value} (r : Vals vs us) : Vals vs.reverse us.reverse := by
  induction r with
  | nil => exact .nil
  | cons rv rr ih =>
    rw [List.reverse_cons, List.reverse_cons]
    exact Vals.append ih (.cons rv .nil)
section
variable {X : Cx} {C fI : Addr}
/-- C(e, ..), an own error with the fields fs -/
def errQ (C : Addr) (fs : List Str) (vs : List V) (H1 : Hp) (Q : XK) : Prop :=
  match fs with
  | [] => Q (.ref C) none H1
  | f :: r => ∀ d, H1 d = none → Q (.ref C) (some d) (upd H1 d (.xd ((f :: r).reverse.zip vs.reverse)))
def tMkErr (C : Addr) (fs : List Str) (ta : TA) : St → Hp → XK → Prop := fun σ H Q => ta σ H fun vs H1 => vs.length = fs.length ∧ errQ C fs vs H1 Q
theorem mk_err_end {x0 : Str} {fs : List Str} {pins : List (Addr × Obj)} {σ : St} {H1 : Hp} {Q : XK} {s1 : Shared} {us : List Value} {vs : List V} (T : PySem.ErrX.ErrTxt X.prog X.K X.mg x0 C fI fs) (hfs : fs.length ≤ 100) {k : Nat} (hr : Room k X.A)
    (I1 : Inv X pins σ H1 s1) (r1 : Vals vs us) (hl : vs.length = fs.length) (q : errQ C fs vs H1 Q) :
    wpAny (model X.prog X.w) X.A (call (.ref C) us) (MkP X pins σ Q) X.xe s1 := by
  have hlim := I1.nolimit
  obtain ⟨mb, hb1, hb2⟩ := I1.mod.blt
  have hul : us.length = fs.length := by rw [← r1.length]; exact hl
  obtain ⟨hp, g, dr, tk, os⟩ := s1
  refine wpAny_call (PySem.ErrX.run_made (A := X.A) T hfs hul I1.kIn hlim (I1.mod.glob.keeps I1.bk) ⟨mb, hb1.keeps I1.bk, hb2⟩ (by have := hr.dp; omega) fun h' tk' e dv M => ?_)
  show MkP X pins σ Q (.ref e) ⟨h', g, dr, tk', os⟩
  obtain ⟨t1, hoe⟩ := M.obj
  have hzip : (fs.zip us).reverse = fs.reverse.zip us.reverse := by
    have hz := List.reverse_zipWith (f := Prod.mk) (l := fs) (l' := us) (by rw [hul])
    simpa [List.zip] using hz
  have hd := M.dct
  rw [hzip] at hd
  cases fs with
  | nil =>
    have e0 : dv = none := by simpa [PySem.ErrX.DictOf] using hd
    subst e0
    obtain ⟨G', g1, g2⟩ := restrict h' fun b => decide (b ≠ e)
    have gk : ∀ b, b ≠ e → G'.get? b = h'.get? b := fun b hb => g1 b (decide_eq_true hb)
    have ge : G'.get? e = none := g2 e (by simp)
    have old : ∀ b o, hp.get? b = some o → G'.get? b = some o := fun b o q => (gk b (Nat.ne_of_lt (Nat.lt_of_lt_of_le (Heap.lt_size q) M.new))).trans (M.keep b o q)
    have J : Inv X pins σ H1 ⟨G', g, dr, tk', os⟩ := I1.kept (t' := tk') old
    refine ⟨e, _, _, ⟨G', g, dr, tk', os⟩, _, .ref C, none, rfl, J, fun b o q => ?_, ge, hoe, ⟨rfl, rfl⟩, rfl, rfl, I1.hok.fresh M.new, rfl, I1.bare, raises_own T.exC T.tyC, q⟩
    by_cases hb : b = e
    · have q' : G'.get? b = some o := q
      rw [hb, ge] at q'; cases q'
    · exact (gk b hb).symm.trans q
  | cons f fs =>
    have hne : ∃ p r, (f :: fs).reverse.zip us.reverse = p :: r := by
      cases hz : (f :: fs).reverse.zip us.reverse with
      | nil =>
        have := congrArg List.length hz
        rw [List.length_zip, List.length_reverse, List.length_reverse, hul] at this
        simp at this
      | cons p r => exact ⟨p, r, rfl⟩
    obtain ⟨p, r, hne⟩ := hne
    rw [hne] at hd
    obtain ⟨d, e0, dn, dne, mA, hns, hmA⟩ := hd
    subst e0
    rw [← hne] at hmA
    obtain ⟨G', g1, g2⟩ := restrict h' fun b => decide (b ≠ e)
    have gk : ∀ b, b ≠ e → G'.get? b = h'.get? b := fun b hb => g1 b (decide_eq_true hb)
    have ge : G'.get? e = none := g2 e (by simp)
    have old : ∀ b o, hp.get? b = some o → G'.get? b = some o := fun b o q => (gk b (Nat.ne_of_lt (Nat.lt_of_lt_of_le (Heap.lt_size q) M.new))).trans (M.keep b o q)
    have ob : ObjOk X.prog X.w (upd H1 d (.xd ((f :: fs).reverse.zip vs.reverse))) G' d (.xd ((f :: fs).reverse.zip vs.reverse)) :=
      ⟨mA, hns.at (fun o q => (gk d dne).trans q), fun y => by rw [hmA y]; exact relO_zip (vals_reverse r1) _ (by rw [List.length_reverse, List.length_reverse, hl]) y⟩
    have J : Inv X pins σ (upd H1 d (.xd ((f :: fs).reverse.zip vs.reverse))) ⟨G', g, dr, tk', os⟩ := I1.laid (t' := tk') old dn ob
    refine ⟨e, _, _, ⟨G', g, dr, tk', os⟩, _, .ref C, some d, rfl, J, fun b o q => ?_, ge, hoe, ⟨rfl, rfl⟩, rfl, rfl, ?_, rfl, I1.bare, raises_own T.exC T.tyC, q d (I1.hok.fresh dn)⟩
    · by_cases hb : b = e
      · have q' : G'.get? b = some o := q
        rw [hb, ge] at q'; cases q'
      · exact (gk b hb).symm.trans q
    · rw [upd_ne (Ne.symm dne)]
      exact I1.hok.fresh M.new
theorem pmk_err {x0 : Str} {fs : List Str} {a : Expr} {es : List Expr} {ta : TA} {p pos : Pos} {k : Nat} (T : PySem.ErrX.ErrTxt X.prog X.K X.mg x0 C fI fs) (hfs : fs.length ≤ 100) (hr : Room k X.A) (ha : PA X (a :: es) ta) (hg : Gl X x0 := by rfl) (hdb : (x0 == ("__debug__" : Str)) = false := by decide)
    (he : starEach (a :: es) X.env = (false, eval a X.env) :: starEach es X.env := by rfl) (hpl : (backTo pos (starEach es X.env)).any (·.1) = false := by rfl) :
    PMk X (.Call (.Name x0 p) (a :: es) [] pos) (tMkErr C fs ta) := by
  intro pins s σ H Q I h
  refine wpAny_Call_Name_kw (ld_glob I hg T.gC ?_ hdb)
  refine PySem.W.callWith_K (h₀ := X.base) I.ok.mod.kin T.kC (thn (ha.run pos pins s σ H _ I h) fun us s1 hh => ?_) he hpl
  obtain ⟨vs, H1, I1, r1, hl, q⟩ := hh
  exact ⟨I1.kIn, mk_err_end T hfs hr I1 r1 hl q⟩
theorem pmk_err0 {x0 : Str} {p pos : Pos} {k : Nat} (T : PySem.ErrX.ErrTxt X.prog X.K X.mg x0 C fI []) (hr : Room k X.A) (hg : Gl X x0 := by rfl) (hdb : (x0 == ("__debug__" : Str)) = false := by decide) :
    PMk X (.Call (.Name x0 p) [] [] pos) (tMkErr C [] tNil) := by
  intro pins s σ H Q I h
  obtain ⟨hl, q⟩ := h
  refine wpAny_Call_Name_kw (ld_glob I hg T.gC ?_ hdb)
  exact PySem.W.callWith_K0 I.kIn T.kC (mk_err_end (us := []) (vs := []) T (Nat.zero_le _) hr I .nil rfl q)
end
end L2

set_option Elab.async false
set_option linter.all false
set_option maxRecDepth 100000
set_option maxHeartbeats 4000000
/-! Calls, makings and operators by defs of one's own, each as one rule. -/
namespace MyL
open PySem PySem.Spec PyProof.Rows L2
/-- a def of the module by its name -/
structure Cal (P : Program) (w : World) (K : PySem.W.Frag) (mg : Str → Option Value) (base : Heap) (k : Nat) (x : Str) (sp : Sp) : Prop where
  ex : ∃ (f : Addr) (fd : FuncData) (ps : List Str), mg x = some (.ref f) ∧ PySem.W.keepIn K (.ref f) = true ∧ Binds K fd ps [] ∧ FnOk P w K mg base (L2.CX P w) k f fd ps sp
/-- a class of the module by its name, made by its __init__ -/
structure Mak (P : Program) (w : World) (K : PySem.W.Frag) (mg : Str → Option Value) (base : Heap) (k : Nat) (x : Str) (C : Addr) (sp : Sp) : Prop where
  ex : ∃ (f : Addr) (fd : FuncData) (ps : List Str), mg x = some (.ref C) ∧ Mk K C f ∧ Binds K fd ps [] ∧ FnOk P w K mg base (L2.CX P w) k f fd ps sp
/-- a method of the class at C -/
structure Met (P : Program) (w : World) (K : PySem.W.Frag) (mg : Str → Option Value) (base : Heap) (k : Nat) (C : Addr) (m : Str) (sp : Sp) : Prop where
  ex : ∃ (f : Addr) (fd : FuncData) (ps : List Str), Cls K C ∧ Meth K C m f ∧ Binds K fd ps [] ∧ FnOk P w K mg base (L2.CX P w) k f fd ps sp
section
variable {P : Program} {w : World} {K : PySem.W.Frag} {mg : Str → Option Value} {base : Heap} {k : Nat} {x m : Str} {C : Addr} {sp : Sp}
theorem raw0 {CX : CXT} {f : Addr} {fd : FuncData} {ps : List Str} (F : FnOk P w K mg base CX k f fd ps sp) (hb : Binds K fd ps []) : FnR P w K mg base CX k f sp := by
  have h := F.raw hb (dvs := []) .nil
  intro A outer s H us vs Q E hr e0 r hs
  exact h A outer s H us vs Q E hr e0 r (by show sp (vs ++ []) H Q E; rw [List.append_nil]; exact hs)
end
section
variable {X : Cx} {W : WX} {pins : List (Addr × Obj)} {σ : L2.St} {H : Hp} {s : Shared} {k : Nat} {f C : Addr} {sp : Sp} {Q : VK} {us : List Value} {vs : List V}
/-- the callee runs below the running body, what it raises goes to W -/
theorem run_S {A : Around} (F : FnR X.prog X.w X.K X.mg X.base (L2.CX X.prog X.w) k f sp) (tk : Takes X W) (hr : Room k A) (e0 : Env0 X.prog X.w X.K X.mg X.base A X.stack s H) (I : Inv X pins σ H s) (r : Vals vs us) (h : sp vs H Q (WE W σ)) :
    codeAny (model X.prog X.w) A (.call (.ref f) ⟨us, []⟩) (fun r s' => match r with | .ok (.ret v) => EP X pins σ Q v s' | .ok _ => False | .error e => X.xe e s') s := by
  refine codeAny_mono (F A X.stack s H us vs Q (WE W σ) hr e0 r h) fun r s' hq => ?_
  match r, hq with
  | .error e, hq => exact passAt tk σ pins H s e s' I hq
  | .ok (.ret u), hq => exact I.after hq
  | .ok .next, hq => exact hq.elim
  | .ok .brk, hq => exact hq.elim
  | .ok .cont, hq => exact hq.elim
/-- C(..) with what __init__ raises going to W -/
theorem make_S {fd : FuncData} {ps : List Str} (M : Mk X.K C f) (F : FnOk X.prog X.w X.K X.mg X.base (L2.CX X.prog X.w) k f fd ps sp) (tk : Takes X W) (hr : Room (k + 1) X.A) (hb : Binds X.K fd ps []) (I : Inv X pins σ H s) (r : Vals vs us)
    (h : ∀ x dx, H x = none → H dx = none → dx ≠ x → sp (.ref x :: vs) (upd (upd H dx (.own x)) x (.ins C dx [])) (fun v H2 => v = .non ∧ Q (.ref x) H2) (WE W σ)) :
    wpAny (model X.prog X.w) X.A (call (.ref C) us) (EP X pins σ Q) X.xe s := by
  have hq := h (s.heap.objs.size + 1) s.heap.objs.size (I.hok.fresh (Nat.le_succ _)) (I.hok.fresh (Nat.le_refl _)) (Nat.ne_of_lt (Nat.lt_succ_self _))
  have I2 := Inv.made (C := C) I
  have r2 : Vals (V.ref (s.heap.objs.size + 1) :: vs) (Value.ref (s.heap.objs.size + 1) :: us) := .cons rfl r
  have hl : (Value.ref (s.heap.objs.size + 1) :: us ++ []).length = ps.length := by
    rw [List.append_nil, ← r2.length]; exact F.len _ _ _ _ hq
  have hbd := hb _ (Value.ref (s.heap.objs.size + 1) :: us) I2.kIn hl
  rw [List.append_nil] at hbd
  refine wpAny_call (make_map (f := f) I.kIn M.makes M.init (beq_iff_eq.mp M.fn) (codeAny_mono (F.run _ X.stack _ _ ⟨Value.ref (s.heap.objs.size + 1) :: us, []⟩ _ _ _ (WE W σ) (hr.make C us [])
    (I2.env0.make C us []) hbd r2 hq) fun r s' hq' => ?_))
  match r, hq' with
  | .error e, hq' => exact passAt tk σ pins _ _ e s' I2 hq'
  | .ok (.ret u), hq' =>
    obtain ⟨v, H', I3, rv, ev, q3⟩ := I2.after hq'
    subst ev
    exact ⟨rv, ⟨V.ref (s.heap.objs.size + 1), H', I3, rfl, q3⟩⟩
  | .ok .next, hq' => exact hq'.elim
  | .ok .brk, hq' => exact hq'.elim
  | .ok .cont, hq' => exact hq'.elim
end
/-! ### the rules -/
def tMakeS (C : Addr) (sp : Sp) (W : WX) (t : TA) : TE := fun σ H Q => t σ H fun vs H1 => ∀ x dx, H1 x = none → H1 dx = none → dx ≠ x → sp (.ref x :: vs) (upd (upd H1 dx (.own x)) x (.ins C dx [])) (fun v H2 => v = .non ∧ Q (.ref x) H2) (WE W σ)
def tMethS (C : Addr) (m : Str) (sp : Sp) (W : WX) (ta : TE) (t : TA) : TE := fun σ H Q => ta σ H fun x H1 => ∃ a dx fs, x = .ref a ∧ H1 a = some (.ins C dx fs) ∧ fs.lookup m = none ∧ t σ H1 fun vs H2 => sp (.ref a :: vs) H2 Q (WE W σ)
section
variable {X : Cx} {W : WX} {k j : Nat} {C : Addr} {sp : Sp} {x m : Str} {p pos apos : Pos} {e o : Expr} {es : List Expr} {ta : TE} {t : TA}
theorem c_call (c : Cal X.prog X.w X.K X.mg X.base k x sp) (tk : Takes X W) (hr : Room j X.A) (hk : k ≤ j) (ha : PA X (e :: es) t) (hg : Gl X x := by rfl)
    (hdb : (x == ("__debug__" : Str)) = false := by decide) (he : starEach (e :: es) X.env = (false, eval e X.env) :: starEach es X.env := by rfl) (hpl : (backTo pos (starEach es X.env)).any (·.1) = false := by rfl) :
    PE X (.Call (.Name x p) (e :: es) [] pos) (tCallS sp (WE W) t) := by
  obtain ⟨f, fd, ps, hm, kp, b, F⟩ := c.ex
  exact pe_callS F (hr.mono hk) hg hm kp b (fun σ => passAt tk σ) ha hdb he hpl
theorem c_call0 (c : Cal X.prog X.w X.K X.mg X.base k x sp) (tk : Takes X W) (hr : Room j X.A) (hk : k ≤ j) (hg : Gl X x := by rfl)
    (hdb : (x == ("__debug__" : Str)) = false := by decide) : PE X (.Call (.Name x p) [] [] pos) (tCallS sp (WE W) tNil) := by
  obtain ⟨f, fd, ps, hm, kp, b, F⟩ := c.ex
  refine ⟨fun pins s σ H Q I h => ?_⟩
  exact wpAny_Call_Name_kw (ld_glob I hg hm (PySem.W.callWith_K0 I.kIn kp (run_fnS (E := WE W) (us := []) F (hr.mono hk) b (passAt tk σ) I .nil h)) hdb)
theorem c_make (c : Mak X.prog X.w X.K X.mg X.base k x C sp) (tk : Takes X W) (hr : Room j X.A) (hk : k + 1 ≤ j) (ha : PA X (e :: es) t) (hg : Gl X x := by rfl)
    (hdb : (x == ("__debug__" : Str)) = false := by decide) (he : starEach (e :: es) X.env = (false, eval e X.env) :: starEach es X.env := by rfl) (hpl : (backTo pos (starEach es X.env)).any (·.1) = false := by rfl) :
    PE X (.Call (.Name x p) (e :: es) [] pos) (tMakeS C sp W t) := by
  obtain ⟨f, fd, ps, hm, M, b, F⟩ := c.ex
  refine ⟨fun pins s σ H Q I h => ?_⟩
  refine wpAny_Call_Name_kw (ld_glob I hg hm ?_ hdb)
  refine PySem.W.callWith_K (h₀ := X.base) I.ok.mod.kin M.kp (thn (ha.run pos pins s σ H _ I h) fun us s1 hh => ?_) he hpl
  obtain ⟨vs, H1, I1, r, q⟩ := hh
  exact ⟨I1.kIn, make_S M F tk (hr.mono hk) b I1 r q⟩
theorem c_meth {pl : Sem Bool} (c : Met X.prog X.w X.K X.mg X.base k C m sp) (tk : Takes X W) (hr : Room j X.A) (hk : k ≤ j) (ho : PE X o ta) (ha : PA X (e :: es) t)
    (hst : starEach (e :: es) X.env = (false, eval e X.env) :: starEach es X.env := by rfl) (hpl : (backTo pos (starEach es X.env)).any (·.1) = false := by rfl)
    (ht : eval (.Call (.Attribute o m apos) (e :: es) [] pos) X.env = (do
      let ov ← eval o X.env
      standAt apos.atName
      let (f, first) ← holding [ov] (getMethod ov m pl)
      callWith pos f first (backTo pos (starEach (e :: es) X.env)) (backToKw pos (keywordEach [] X.env))) := by rfl) :
    PE X (.Call (.Attribute o m apos) (e :: es) [] pos) (tMethS C m sp W ta t) := by
  obtain ⟨f, fd, ps, cl, hm, b, F⟩ := c.ex
  refine ⟨fun pins s σ H Q I h => ?_⟩
  refine PySem.W.methodCall_KW (pl := pl) (thn (ho.run pins s σ H _ I h) fun u s1 hh => ?_) ht
  obtain ⟨x, H1, I1, rx, a, dx, fs, ex, ea, l, q⟩ := hh
  subst ex
  obtain rfl : u = Value.ref a := rx
  refine getmeth_ok I1 ea cl hm l ?_
  refine PySem.W.callWith_K (first := [.ref a]) (h₀ := X.base) I.ok.mod.kin hm.kp (thn (ha.run pos pins s1 σ H1 _ I1 q) fun us s2 hh => ?_) hst hpl
  obtain ⟨vs, H2, I2, r, q2⟩ := hh
  exact ⟨I2.kIn, run_fnS (E := WE W) (us := .ref a :: us) (vs := .ref a :: vs) F (hr.mono hk) b (passAt tk σ) I2 (.cons rfl r) q2⟩
theorem c_meth0 {pl : Sem Bool} (c : Met X.prog X.w X.K X.mg X.base k C m sp) (tk : Takes X W) (hr : Room j X.A) (hk : k ≤ j) (ho : PE X o ta)
    (ht : eval (.Call (.Attribute o m apos) [] [] pos) X.env = (do
      let ov ← eval o X.env
      standAt apos.atName
      let (f, first) ← holding [ov] (getMethod ov m pl)
      callWith pos f first (backTo pos (starEach [] X.env)) (backToKw pos (keywordEach [] X.env))) := by rfl) :
    PE X (.Call (.Attribute o m apos) [] [] pos) (tMethS C m sp W ta tNil) := by
  obtain ⟨f, fd, ps, cl, hm, b, F⟩ := c.ex
  refine ⟨fun pins s σ H Q I h => ?_⟩
  refine PySem.W.methodCall_KW (pl := pl) (thn (ho.run pins s σ H _ I h) fun u s1 hh => ?_) ht
  obtain ⟨x, H1, I1, rx, a, dx, fs, ex, ea, l, q⟩ := hh
  subst ex
  obtain rfl : u = Value.ref a := rx
  refine getmeth_ok I1 ea cl hm l ?_
  exact PySem.W.callWith_K0 (first := [.ref a]) I1.kIn hm.kp (run_fnS (E := WE W) (us := [.ref a]) (vs := [.ref a]) F (hr.mono hk) b (passAt tk σ) I1 (.cons rfl .nil) q)
end
/-! ### operators by own methods -/
/-- the class at C has the def for the special name at f -/
structure Spc (P : Program) (w : World) (K : PySem.W.Frag) (mg : Str → Option Value) (base : Heap) (k : Nat) (C : Addr) (m : Str) (sp : Sp) : Prop where
  ex : ∃ f : Addr, PySem.W.findIn K (.ref C) m = some (some (.ref f)) ∧ PySem.W.isFn K (.ref f) = true ∧ FnR P w K mg base (L2.CX P w) k f sp
/-- a + n and the like, n a whole number -/
structure NumC (K : PySem.W.Frag) (C : Addr) (op : Operator) : Prop where
  sf : PySem.W.selfFirst K C = true
  r : PySem.W.findIn K (.ref C) (dunderR op.info.2) = some none
  it : PySem.W.subIn K (.type "int") (.ref C) = some false
  i1 : ∃ fo, PySem.W.findIn K (.type "int") (PySem.dunder op.info.2) = some fo
  i2 : ∃ ro, PySem.W.findIn K (.type "int") (dunderR op.info.2) = some ro
def tOwnN (C : Addr) (sp : Sp) (W : WX) (ta tb : TE) : TE := fun σ H Q => ta σ H fun x H1 => tb σ H1 fun y H2 => ∃ a dx fs j, x = .ref a ∧ y = .int j ∧ H2 a = some (.ins C dx fs) ∧ sp [.ref a, .int j] H2 Q (WE W σ)
def tOwnO (C : Addr) (sp : Sp) (W : WX) (ta tb : TE) : TE := fun σ H Q => ta σ H fun x H1 => tb σ H1 fun y H2 => ∃ a dx fs b dy gs, x = .ref a ∧ y = .ref b ∧ H2 a = some (.ins C dx fs) ∧ H2 b = some (.ins C dy gs) ∧ sp [.ref a, .ref b] H2 Q (WE W σ)
def rOwnEq (C : Addr) (sp : Sp) : R2 := fun x y H Q => ∃ a dx fs b dy gs, x = .ref a ∧ y = .ref b ∧ H a = some (.ins C dx fs) ∧ H b = some (.ins C dy gs) ∧ sp [.ref a, .ref b] H (fun v H' => ∃ c, v = .bl c ∧ Q v H') (fun _ _ _ => False)
def rOwnIn (C : Addr) (sp : Sp) : R2 := fun y x H Q => ∃ a dx fs, x = .ref a ∧ H a = some (.ins C dx fs) ∧ sp [.ref a, y] H (fun v H' => ∃ c, v = .bl c ∧ Q v H') (fun _ _ _ => False)
def rOwnU (C : Addr) (sp : Sp) : V → Hp → VK → Prop := fun x H Q => ∃ a dx fs, x = .ref a ∧ H a = some (.ins C dx fs) ∧ sp [.ref a] H Q (fun _ _ _ => False)
def rOwnStr (C : Addr) (sp : Sp) : List V → Hp → VK → Prop := fun xs H Q => ∃ a dx fs, xs = [.ref a] ∧ H a = some (.ins C dx fs) ∧ sp [.ref a] H (fun v H' => ∃ z, v = .str z ∧ Q v H') (fun _ _ _ => False)
section
variable {X : Cx} {W : WX} {k j : Nat} {C : Addr} {sp : Sp} {a b : Expr} {ta tb : TE} {pos : Pos}
theorem c_opN {op : Operator} (c : Spc X.prog X.w X.K X.mg X.base k C (PySem.dunder op.info.2) sp) (n : NumC X.K C op) (tk : Takes X W) (hr : Room j X.A) (hk : k ≤ j) (ha : PE X a ta) (hb : PE X b tb) : PE X (.BinOp a op b pos) (tOwnN C sp W ta tb) := by
  obtain ⟨f, hs, hf, F⟩ := c.ex
  obtain ⟨fo, h1⟩ := n.i1
  obtain ⟨ro, h2⟩ := n.i2
  refine ⟨fun pins s σ H Q I h => wpAny_BinOp (binT ha hb I h fun v u s2 x y H2 I2 rx ry q => ?_)⟩
  obtain ⟨p, dx, fs, i, rfl, rfl, hp, hsp⟩ := q
  obtain rfl : v = Value.ref p := rx
  obtain ⟨t, rfl⟩ := ry
  obtain ⟨mA, J, _⟩ := ins_get I2.hok hp
  obtain ⟨od, J, _⟩ := J.look
  obtain ⟨m, hF⟩ := I2.fr
  refine PySem.W.ksp_binT (T := "int") (rc := none) hF I2.ok.mod.kin J rfl n.sf hs hf n.r (.inl rfl) h1 h2 n.it ?_
  refine wpAny_mono (wpAny_call (run_S (us := [.ref p, .int i t]) (vs := [.ref p, .int i]) F tk (hr.mono hk) I2.env0 I2 (.cons rfl (.cons ⟨t, rfl⟩ .nil)) hsp)) (fun w s' z => ?_) fun _ _ x => x
  obtain ⟨z', H', I', rz, qz⟩ := z
  exact SlX.cmpback rz ⟨z', H', I', rz, qz⟩
theorem c_opO {op : Operator} (c : Spc X.prog X.w X.K X.mg X.base k C (PySem.dunder op.info.2) sp) (sf : PySem.W.selfFirst X.K C = true) (tk : Takes X W) (hr : Room j X.A) (hk : k ≤ j) (ha : PE X a ta) (hb : PE X b tb) : PE X (.BinOp a op b pos) (tOwnO C sp W ta tb) := by
  obtain ⟨f, hs, hf, F⟩ := c.ex
  refine ⟨fun pins s σ H Q I h => wpAny_BinOp (binT ha hb I h fun v u s2 x y H2 I2 rx ry q => ?_)⟩
  obtain ⟨p, dx, fs, p2, dy, gs, rfl, rfl, hp, hp2, hsp⟩ := q
  obtain rfl : v = Value.ref p := rx
  obtain rfl : u = Value.ref p2 := ry
  obtain ⟨mA, J, _⟩ := ins_get I2.hok hp
  obtain ⟨od, J, _⟩ := J.look
  obtain ⟨mB, J', _⟩ := ins_get I2.hok hp2
  obtain ⟨od', J', _⟩ := J'.look
  obtain ⟨m, hF⟩ := I2.fr
  refine PySem.W.binop_K hF I2.ok.mod.kin J J'.type sf hs hf ?_
  refine wpAny_mono (wpAny_call (run_S (us := [.ref p, .ref p2]) (vs := [.ref p, .ref p2]) F tk (hr.mono hk) I2.env0 I2 (.cons rfl (.cons rfl .nil)) hsp)) (fun w s' z => ?_) fun _ _ x => x
  obtain ⟨z', H', I', rz, qz⟩ := z
  exact SlX.cmpback rz ⟨z', H', I', rz, qz⟩
theorem c_eq (c : Spc X.prog X.w X.K X.mg X.base k C "__eq__" sp) (hr : Room j X.A) (hk : k ≤ j) : OpR X (compareOp .Eq) (rOwnEq C sp) := by
  intro pins s σ H x y v u Q I rx ry h
  obtain ⟨f, hs, hf, F⟩ := c.ex
  obtain ⟨p, dx, fs, p2, dy, gs, rfl, rfl, hp, hp2, hsp⟩ := h
  obtain rfl : v = Value.ref p := rx
  obtain rfl : u = Value.ref p2 := ry
  obtain ⟨mA, J, _⟩ := ins_get I.hok hp
  obtain ⟨od, J, _⟩ := J.look
  obtain ⟨mB, J', _⟩ := ins_get I.hok hp2
  obtain ⟨od', J', _⟩ := J'.look
  obtain ⟨m, hF⟩ := I.fr
  show wpAny _ _ (richCompare .Eq (.ref p) (.ref p2)) _ _ _
  refine PySem.W.cmp_K (op := .Eq) (tb := .ref C) hr.units0 hF I.ok.mod.kin J J'.type (by simp [PySem.W.notFirst]) hs hf ?_
  refine wpAny_mono (wpAny_call (run_S (W := fun _ _ _ _ => False) (us := [.ref p, .ref p2]) (vs := [.ref p, .ref p2]) F takes0 (hr.mono hk) I.env0 I (.cons rfl (.cons rfl .nil)) hsp)) (fun w s' z => ?_) fun _ _ x => x
  obtain ⟨z', H', I', rz, c, ec, qz⟩ := z
  exact SlX.cmpback rz ⟨z', H', I', rz, qz⟩
theorem c_in (c : Spc X.prog X.w X.K X.mg X.base k C "__contains__" sp) (hr : Room j X.A) (hk : k ≤ j) : OpR X (compareOp .In) (rOwnIn C sp) := by
  intro pins s σ H y x u v Q I ry rx h
  obtain ⟨f, hs, hf, F⟩ := c.ex
  obtain ⟨p, dx, fs, rfl, hp, hsp⟩ := h
  obtain rfl : v = Value.ref p := rx
  obtain ⟨mA, J, _⟩ := ins_get I.hok hp
  obtain ⟨od, J, _⟩ := J.look
  obtain ⟨m, hF⟩ := I.fr
  refine PySem.W.in_K hF I.ok.mod.kin J hs hf ?_
  refine wpAny_mono (wpAny_call (run_S (W := fun _ _ _ _ => False) (us := [.ref p, u]) (vs := [.ref p, y]) F takes0 (hr.mono hk) I.env0 I (.cons rfl (.cons ry .nil)) hsp)) (fun w s' z => ?_) fun _ _ x => x
  obtain ⟨z', H', I', rz, c, ec, qz⟩ := z
  subst ec
  obtain rfl : w = Value.bool c := rz
  exact wpAny_truthy_bool ⟨.bl c, H', I', rfl, qz⟩
theorem c_neg (c : Spc X.prog X.w X.K X.mg X.base k C "__neg__" sp) (hr : Room j X.A) (hk : k ≤ j) : UnR X (unaryOp .USub) (rOwnU C sp) := by
  intro pins s σ H x v Q I rx h
  obtain ⟨f, hs, hf, F⟩ := c.ex
  obtain ⟨p, dx, fs, rfl, hp, hsp⟩ := h
  obtain rfl : v = Value.ref p := rx
  obtain ⟨mA, J, _⟩ := ins_get I.hok hp
  obtain ⟨od, J, _⟩ := J.look
  obtain ⟨m, hF⟩ := I.fr
  exact PySem.W.ksp_neg hF I.ok.mod.kin J hs hf (wpAny_call (run_S (W := fun _ _ _ _ => False) (us := [.ref p]) (vs := [.ref p]) F takes0 (hr.mono hk) I.env0 I (.cons rfl .nil) hsp))
theorem c_str (c : Spc X.prog X.w X.K X.mg X.base k C "__str__" sp) (hr : Room j X.A) (hk : k + 2 ≤ j) : CallR X (.type "str") (rOwnStr C sp) := by
  intro pins s σ H xs us Q I r h
  obtain ⟨f, hs, hf, F⟩ := c.ex
  obtain ⟨p, dx, fs, rfl, hp, hsp⟩ := h
  obtain ⟨u, rfl, ru⟩ := r.one
  obtain rfl : u = Value.ref p := ru
  obtain ⟨mA, J, _⟩ := ins_get I.hok hp
  obtain ⟨od, J, _⟩ := J.look
  have hr2 : Room k X.A.in1.in1 := (show Room (k + 1) X.A.in1 from Room.in1 (hr.mono hk)).in1
  refine PySem.W.kso_call hr2.units0 I.kIn J hs hf ?_
  refine wpAny_mono (wpAny_call (run_S (W := fun _ _ _ _ => False) (us := [.ref p]) (vs := [.ref p]) F takes0 hr2 I.env0.in1.in1 I (.cons rfl .nil) hsp)) (fun w s' z => ?_) fun _ _ x => x
  obtain ⟨z', H', I', rz, y, ey, qz⟩ := z
  subst ey
  obtain ⟨t, rfl⟩ := rz
  exact ⟨.str y, H', I', ⟨t, rfl⟩, qz⟩
end
end MyL

set_option Elab.async false
set_option linter.all false
set_option maxRecDepth 100000
set_option maxHeartbeats 4000000
/-! Defs that raise nothing and run whatever is handled; isinstance of a caught error. -/
namespace MyL
open PySem PySem.Spec PyProof.Rows L2
/-- a def that lets nothing out, wherever it is called -/
def FnQ (P : Program) (w : World) (K : PySem.W.Frag) (mg : Str → Option Value) (base : Heap) (k : Nat) (f : Addr) (sp : Sp) : Prop :=
  ∀ (A : Around) (outer : List Env) (s : Shared) (H : Hp) (us : List Value) (vs : List V) (Q : VK), L2H.RoomH k A → Env0 P w K mg base A outer s H → Vals vs us → sp vs H Q (fun _ _ _ => False) →
    codeAny (model P w) A (.call (.ref f) ⟨us, []⟩) (CR (fun _ _ _ _ _ _ => False) outer P w H s Q (fun _ _ _ => False)) s
structure CalQ (P : Program) (w : World) (K : PySem.W.Frag) (mg : Str → Option Value) (base : Heap) (k : Nat) (x : Str) (sp : Sp) : Prop where
  ex : ∃ f : Addr, mg x = some (.ref f) ∧ PySem.W.keepIn K (.ref f) = true ∧ FnQ P w K mg base k f sp
def cxQ (P : Program) (w : World) (K : PySem.W.Frag) (mg : Str → Option Value) (base : Heap) (N : List Str) (qual : Str) (scope : Scope) (f : Addr) (cd : Value) (A : Around) (outer : List Env) (s : Shared) (H : Hp) : Cx :=
  { cxOf (fun _ _ _ _ _ _ => False) P w K mg base N qual scope f cd A outer s H (fun _ _ _ => False) with calm := false, xe := fun _ _ => False }
theorem inv_startQ {P : Program} {w : World} {K : PySem.W.Frag} {mg : Str → Option Value} {base : Heap} {N ps : List Str} {qual : Str} {scope : Scope} {f : Addr} {cd : Value} {A : Around} {outer : List Env} {s s1 : Shared} {H : Hp} {us : List Value} {vs : List V}
    (S : FnScope N ps scope) (e0 : Env0 P w K mg base A outer s H) (hl : vs.length = ps.length) (r : Vals vs us)
    (x : InCallC s s.heap.objs.size (bindL (envOfC qual scope s.heap.objs.size f cd).kindOf (ps.zip us) fun _ => none) (cellsFrom (s.heap.objs.size + 1) scope.names []) (bindC (envOfC qual scope s.heap.objs.size f cd).kindOf (ps.zip us) fun _ => none) s1) :
    Inv (cxQ P w K mg base N qual scope f cd A outer s H) [] (start N vs) H s1 := by
  have I := inv_start (CX := fun _ _ _ _ _ _ => False) (E := fun _ _ _ => False) (A := { A with handled := none }) (N := N) S rfl ⟨e0.frames, e0.mod, e0.bs, e0.bsz, e0.funs, e0.frf, e0.hok, e0.bare⟩ hl r x
  exact ⟨⟨I.ok.mod, I.ok.kind, I.ok.glob, I.ok.blt, I.ok.above, I.ok.inj, I.ok.has, I.ok.cab, fun z => Bool.noConfusion (show false = true from z), Around.frames_deeper e0.frames, I.ok.stk, I.ok.exf, I.ok.bs, I.ok.bsz, I.ok.noex, I.ok.exfs, I.ok.funs, I.ok.frf⟩,
    I.os, I.bare, I.base, I.loc, I.cell, I.free, I.freeC, I.pin, I.hok, I.len⟩
section
variable {P : Program} {w : World} {K : PySem.W.Frag} {mg : Str → Option Value} {base : Heap}
theorem Fun.okQ {x qual : Str} {st : Stmt} {f : Addr} {fd : FuncData} {N ps : List Str} {k : Nat} {sp : Sp} (F : L2.Fun K x qual st f fd) (S : FnScope N ps (defScope st)) (hb : Binds K fd ps []) (len : ∀ vs H Q E, sp vs H Q E → vs.length = ps.length)
    (hbody : ∀ (cdv : Value) (A : Around) (outer : List Env) (s : Shared) (H : Hp) (vs : List V) (Q : VK), L2H.RoomH k (A.deeper (envOfC qual (defScope st) s.heap.objs.size f cdv)) → sp vs H Q (fun _ _ _ => False) →
      ∃ t, PSs (cxQ P w K mg base N qual (defScope st) f cdv A outer s H) (defBody st) t ∧ t { nx := fun _ H' => Q .non H', rt := Q } (start N vs) H) : FnQ P w K mg base (k + 1) f sp := by
  obtain ⟨oc, od, kV, doc, pm, an, cdv, ct, osl, rfl, lk, hcd⟩ := F.ex
  intro A outer s H us vs Q hr e0 r hsp
  have hl := len _ _ _ _ hsp
  have KX : K.In s.heap := e0.mod.kin.keeps fun b o e => (e0.bs b o e).1
  have lim : s.heap.NoLimit := e0.mod.nolimit.keeps fun b o e => (e0.bs b o e).1
  have hb' := hb s us KX (by rw [List.append_nil, ← r.length]; exact hl)
  rw [List.append_nil] at hb'
  refine codeAny_call_function hr.depth (KX _ _ lk) rfl S.co S.gen rfl (PySem.W.codeRec_of KX hcd) (hb' _ _ _ _ ?_)
  refine wpAny_newFunctionEnv_cells S.kind (fun y hy => ?_) fun env he s1 x => ?_
  · rcases S.par y.1 (List.of_mem_zip (show (y.1, y.2) ∈ _ from hy)).1 with q | q
    · exact .inl q
    · exact .inr ⟨q, PySem.W.cellsFrom_some _ _ _ (.inl q)⟩
  subst he
  refine ⟨lim.keeps x.toInCall.keep, codeAny_func ?_⟩
  obtain ⟨t, ht, hq⟩ := hbody cdv A outer s H vs Q (hr.deeper _) hsp
  have I : Inv (cxQ P w K mg base N qual (defScope st) f cdv A outer s H) [] (start N vs) H s1 := inv_startQ S e0 hl r x
  refine wpAny_mono (ht.run [] s1 (start N vs) H _ I hq) (fun fl s' hs => ?_) fun e s' hs => (show False from hs).elim
  match fl, hs with
  | .ret u, hs =>
    obtain ⟨v, σ', H', J, rv, q⟩ := hs
    exact ⟨v, H', J.os, J.bare, J.base, J.hok, rv, q⟩
  | .next, hs =>
    obtain ⟨σ', H', J, q⟩ := hs
    exact ⟨.non, H', J.os, J.bare, J.base, J.hok, rfl, q⟩
  | .brk, hs =>
    obtain ⟨_, _, _, q⟩ := hs
    exact q.elim
  | .cont, hs =>
    obtain ⟨_, _, _, q⟩ := hs
    exact q.elim
end
theorem roomQ {j : Nat} {A : Around} (r : Room j A) (h : Option Value) : L2H.RoomH j (A.mark h) := ⟨r.dp, r.un⟩
section
variable {X : Cx} {k j : Nat} {sp : Sp} {x : Str} {p pos : Pos} {e : Expr} {es : List Expr} {t : TA}
theorem q_call (c : CalQ X.prog X.w X.K X.mg X.base k x sp) (hr : L2H.RoomH j X.A) (hk : k ≤ j) (ha : PA X (e :: es) t) (hg : Gl X x := by rfl)
    (hdb : (x == ("__debug__" : Str)) = false := by decide) (he : starEach (e :: es) X.env = (false, eval e X.env) :: starEach es X.env := by rfl) (hpl : (backTo pos (starEach es X.env)).any (·.1) = false := by rfl) :
    PE X (.Call (.Name x p) (e :: es) [] pos) (tCallS sp (fun _ _ _ _ => False) t) := by
  obtain ⟨f, hm, kp, F⟩ := c.ex
  refine ⟨fun pins s σ H Q I h => ?_⟩
  refine wpAny_Call_Name_kw (ld_glob I hg hm ?_ hdb)
  refine PySem.W.callWith_K (h₀ := X.base) I.ok.mod.kin kp (thn (ha.run pos pins s σ H _ I h) fun us s1 hh => ?_) he hpl
  obtain ⟨vs, H1, I1, r, q⟩ := hh
  refine ⟨I1.kIn, wpAny_call (codeAny_mono (F X.A X.stack s1 H1 us vs Q (hr.mono hk) I1.env0 r q) fun r s' hq => ?_)⟩
  match r, hq with
  | .error e, hq => exact (show False from hq).elim
  | .ok (.ret u), hq => exact I1.after hq
  | .ok .next, hq => exact hq.elim
  | .ok .brk, hq => exact hq.elim
  | .ok .cont, hq => exact hq.elim
end
/-! ### isinstance of the caught error -/
structure ExcK (K : PySem.W.Frag) (D : Addr) : Prop where
  cl : (PySem.W.clsIn K D).isSome = true
  ga : PySem.W.findIn K (.ref D) "__getattribute__" = some (some (.builtin "BaseException.__getattribute__"))
  gg : PySem.W.findIn K (.ref D) "__getattr__" = some none
  sb : PySem.W.subIn K (.ref D) (.type "BaseException") = some true
  ca : PySem.W.findIn K (.ref D) "__class__" = some (some (.builtin "object.__class__"))
  cn : PySem.W.specialIn K (.builtin "object.__class__") "__get__" = some (some (.builtin "getset_descriptor.__get__"))
  ct : PySem.W.takesIn K (.builtin "object.__class__") = some true
  cm : PySem.W.mroIn K D (.type "object") = some true
def DOk (H : Hp) : Option Addr → Prop
  | none => True
  | some dd => ∃ fs, H dd = some (.xd fs)
def rIsX (K : PySem.W.Frag) (cls : Value) (d : Option Addr) (a : Addr) : List V → Hp → VK → Prop := fun xs H Q => ∃ (D : Addr) (c : V) (cv : Value) (b : Bool), cls = .ref D ∧ ExcK K D ∧ DOk H d ∧ xs = [.ref a, c] ∧ ClsV c cv ∧ PySem.W.kitOne K (.ref D) cv = some b ∧ Q (.bl b) H
def rIsXT (K : PySem.W.Frag) (cls : Value) (d : Option Addr) (a : Addr) : List V → Hp → VK → Prop := fun xs H Q => ∃ (D tp : Addr) (cs : List V) (us : List Value) (b : Bool), cls = .ref D ∧ ExcK K D ∧ DOk H d ∧ xs = [.ref a, .ref tp] ∧ H tp = some (.tup cs) ∧ Paired ClsV cs us ∧ PySem.W.kitAny K (.ref D) us = some b ∧ Q (.bl b) H
section
variable {X : Cx} {a D : Addr} {oe : Obj} {cls : Value} {d : Option Addr} {pn pins : List (Addr × Obj)} {σ : L2.St} {H : Hp} {s : Shared}
theorem exc_inst (hz : Zc (.ref D) d oe) (hf : ∃ vs, oe.data = .fields vs) (hd : DOk H d) (I : Inv (X.suite a ((a, oe) :: pn)) pins σ H s) : ∃ od, PySem.W.InstAt s.heap a oe D od := by
  obtain ⟨hget, _⟩ := I.pin (a, oe) (List.mem_append_left _ List.mem_cons_self)
  obtain ⟨vs, hv⟩ := hf
  have hnc : PySem.W.notCls oe = true := by
    unfold PySem.W.notCls
    rw [hv]
  cases d with
  | none =>
    refine ⟨none, hget, hz.1, hnc, ?_⟩
    rw [hz.2]
    trivial
  | some dd =>
    obtain ⟨fs, hx⟩ := hd
    have hx : ObjOk X.prog X.w H s.heap dd (.xd fs) := I.hok dd _ hx
    obtain ⟨mA, hns, _⟩ := hx
    obtain ⟨od, ho, _⟩ := lookIn_ns hns
    refine ⟨some od, hget, hz.1, hnc, ?_⟩
    rw [hz.2]
    exact ho
theorem call_isX (hz : Zc cls d oe) (hf : ∃ vs, oe.data = .fields vs) : CallR (X.suite a ((a, oe) :: pn)) (.builtin "isinstance") (rIsX X.K cls d a) := by
  intro pins s σ H xs us Q I r h
  obtain ⟨D, c, cv, b, rfl, C, hd, rfl, hc, e, q⟩ := h
  obtain ⟨od, J⟩ := exc_inst hz hf hd I
  match us, r with
  | [u1, u2], .cons r1 (.cons r2 .nil) =>
    obtain rfl : u1 = Value.ref a := r1
    have e2 := hc.eq r2
    subst e2
    exact PySem.W.kia_one (PySem.W.kitx_exc C.cl C.ga C.gg C.sb C.ca C.cn C.ct C.cm) I.kIn J e (fun z => nomatch z) fun tk => ⟨.bl b, H, I.tok tk, rfl, q⟩
theorem call_isXT (hz : Zc cls d oe) (hf : ∃ vs, oe.data = .fields vs) : CallR (X.suite a ((a, oe) :: pn)) (.builtin "isinstance") (rIsXT X.K cls d a) := by
  intro pins s σ H xs us Q I r h
  obtain ⟨D, tp, cs, ws, b, rfl, C, hd, rfl, hT, k, e, q⟩ := h
  obtain ⟨od, J⟩ := exc_inst hz hf hd I
  match us, r with
  | [u1, u2], .cons r1 (.cons r2 .nil) =>
    obtain rfl : u1 = Value.ref a := r1
    obtain rfl : u2 = Value.ref tp := r2
    obtain ⟨_, its, rv, o, h1, h2, n, h3⟩ := (show ObjOk X.prog X.w H s.heap tp (.tup cs) from I.hok tp _ hT)
    have e3 := ClsV.all k rv
    subst e3
    obtain ⟨oc, od', dt, sl⟩ := o
    simp only at h2 h3
    subst h2 h3
    exact PySem.W.kia_tup (PySem.W.kitx_exc C.cl C.ga C.gg C.sb C.ca C.cn C.ct C.cm) I.kIn J h1 e (fun z => nomatch z) fun tk => ⟨.bl b, H, I.tok tk, rfl, q⟩
end
end MyL

set_option Elab.async false
set_option linter.all false
set_option maxRecDepth 100000
set_option maxHeartbeats 4000000
/-! What is known of the heap, and readings taken apart step by step. -/
namespace MyL
open PySem L2
/-- behind B, of which only the objects at ms may have changed: H holds f (handed in) and l (made here) -/
structure Mem (B : Hp) (ms : List Addr) (H : Hp) (f l : List (Addr × HO)) : Prop where
  atF : ∀ p ∈ f, H p.1 = some p.2
  atL : ∀ p ∈ l, H p.1 = some p.2
  nd : ((l ++ f).map (·.1)).Nodup
  keep : ∀ a o, B a = some o → a ∉ ms → H a = some o
  tr : ∀ m ∈ ms, H m ≠ none
  new : ∀ p ∈ l, B p.1 = none
theorem Same.of_keep {B H : Hp} {f l : List (Addr × HO)} (M : Mem B [] H f l) : Same B H := fun a o h => M.keep a o h (by simp)
theorem mem_start {H : Hp} {ms : List Addr} {f : List (Addr × HO)} (h : ∀ p ∈ f, H p.1 = some p.2) (nd : (f.map (·.1)).Nodup) (tr : ∀ m ∈ ms, m ∈ f.map (·.1)) : Mem H ms H f [] :=
  ⟨h, (fun _ h => nomatch h), by simpa using nd, fun _ _ h _ => h, (fun m hm z => by
    obtain ⟨p, hp, e⟩ := List.mem_map.mp (tr m hm)
    have := h p hp
    rw [e, z] at this; cases this), (fun _ h => nomatch h)⟩
section
variable {B H H' : Hp} {ms : List Addr} {f l : List (Addr × HO)} {p a : Addr} {o o' : HO}
theorem Mem.fresh (M : Mem B ms H f l) (h : H p = none) : B p = none := by
  cases e : B p with
  | none => rfl
  | some u =>
    by_cases hm : p ∈ ms
    · exact absurd h (M.tr p hm)
    · rw [M.keep p u e hm] at h; cases h
theorem Mem.ne (M : Mem B ms H f l) (h : H p = none) : p ∉ (l ++ f).map (·.1) := fun hm => by
  obtain ⟨q, hq, e⟩ := List.mem_map.mp hm
  rcases List.mem_append.mp hq with z | z
  · have := M.atL q z; rw [e, h] at this; cases this
  · have := M.atF q z; rw [e, h] at this; cases this
theorem Mem.same (M : Mem B ms H f l) (s : Same H H') : Mem B ms H' f l :=
  ⟨fun p hp => s _ _ (M.atF p hp), fun p hp => s _ _ (M.atL p hp), M.nd, fun a o h hm => s _ _ (M.keep a o h hm), fun m hm => by
    cases e : H m with
    | none => exact absurd e (M.tr m hm)
    | some o => rw [s _ _ e]; exact (fun z => nomatch z), M.new⟩
theorem same_alloc (h : H p = none) : Same H (upd H p o) := fun a u e => by
  rw [upd_ne (ne_of_none e h)]; exact e
theorem Mem.sameNew (M : Mem B ms H f l) (s : Same H H') (h : H p = none) (h' : H' p = some o) : Mem B ms H' f ((p, o) :: l) :=
  let M' := M.same s
  ⟨M'.atF, fun q hq => by
    rcases List.mem_cons.mp hq with rfl | hq
    · exact h'
    · exact M'.atL q hq, by
      show (p :: ((l ++ f).map (·.1))).Nodup
      exact List.nodup_cons.mpr ⟨M.ne h, M.nd⟩, M'.keep, M'.tr, fun q hq => by
    rcases List.mem_cons.mp hq with rfl | hq
    · exact M.fresh h
    · exact M.new q hq⟩
theorem Mem.alloc (M : Mem B ms H f l) (h : H p = none) : Mem B ms (upd H p o) f ((p, o) :: l) := M.sameNew (same_alloc h) h upd_same
/-- something that stands in the heap is known of, too -/
theorem Mem.drop {q : Addr × HO} (M : Mem B ms H f (q :: l)) : Mem B ms H f l :=
  ⟨M.atF, fun p hp => M.atL p (List.mem_cons_of_mem _ hp), by
    have := M.nd
    rw [List.cons_append, List.map_cons, List.nodup_cons] at this
    exact this.2, M.keep, M.tr, fun p hp => M.new p (List.mem_cons_of_mem _ hp)⟩
theorem Mem.setL {l1 l2 : List (Addr × HO)} (M : Mem B ms H f (l1 ++ (a, o) :: l2)) : Mem B ms (upd H a o') f (l1 ++ (a, o') :: l2) := by
  have nd := M.nd
  have hne : ∀ q ∈ l1 ++ l2 ++ f, q.1 ≠ a := by
    have e : ((l1 ++ (a, o) :: l2 ++ f).map (·.1)) = l1.map (·.1) ++ a :: (l2 ++ f).map (·.1) := by simp
    rw [e, List.nodup_append] at nd
    obtain ⟨_, n2, n3⟩ := nd
    rw [List.nodup_cons] at n2
    intro q hq z
    rw [List.append_assoc] at hq
    rcases List.mem_append.mp hq with hq | hq
    · exact n3 _ (List.mem_map_of_mem hq) _ List.mem_cons_self z
    · exact n2.1 (by rw [← z]; exact List.mem_map_of_mem hq)
  have hB : B a = none := M.new (a, o) (by simp)
  refine ⟨fun q hq => ?_, fun q hq => ?_, by simpa using nd, fun b u h hm => ?_, fun m hm z => ?_, fun q hq => ?_⟩
  · rw [upd_ne (hne q (by simp [hq]))]; exact M.atF q hq
  · rcases List.mem_append.mp hq with h | h
    · rw [upd_ne (hne q (by simp [h]))]; exact M.atL q (by simp [h])
    · rcases List.mem_cons.mp h with rfl | h
      · exact upd_same
      · rw [upd_ne (hne q (by simp [h]))]; exact M.atL q (by simp [h])
  · rw [upd_ne (ne_of_none h hB)]; exact M.keep b u h hm
  · by_cases e : m = a
    · rw [e, upd_same] at z; cases z
    · rw [upd_ne e] at z; exact M.tr m hm z
  · rcases List.mem_append.mp hq with h | h
    · exact M.new q (by simp [h])
    · rcases List.mem_cons.mp h with rfl | h
      · exact hB
      · exact M.new q (by simp [h])
theorem Mem.setF {f1 f2 : List (Addr × HO)} (M : Mem B ms H (f1 ++ (a, o) :: f2) l) (ha : a ∈ ms) : Mem B ms (upd H a o') (f1 ++ (a, o') :: f2) l := by
  have nd := M.nd
  have hne : ∀ q ∈ l ++ f1 ++ f2, q.1 ≠ a := by
    have e : ((l ++ (f1 ++ (a, o) :: f2)).map (·.1)) = (l ++ f1).map (·.1) ++ a :: f2.map (·.1) := by simp
    rw [e, List.nodup_append] at nd
    obtain ⟨_, n2, n3⟩ := nd
    rw [List.nodup_cons] at n2
    intro q hq z
    rcases List.mem_append.mp hq with hq | hq
    · exact n3 _ (List.mem_map_of_mem hq) _ List.mem_cons_self z
    · exact n2.1 (by rw [← z]; exact List.mem_map_of_mem hq)
  refine ⟨fun q hq => ?_, fun q hq => ?_, by simpa using nd, fun b u h hm => ?_, fun m hm z => ?_, M.new⟩
  · rcases List.mem_append.mp hq with h | h
    · rw [upd_ne (hne q (by simp [h]))]; exact M.atF q (by simp [h])
    · rcases List.mem_cons.mp h with rfl | h
      · exact upd_same
      · rw [upd_ne (hne q (by simp [h]))]; exact M.atF q (by simp [h])
  · rw [upd_ne (hne q (by simp [hq]))]; exact M.atL q hq
  · rw [upd_ne (fun z => hm (by rw [z]; exact ha))]; exact M.keep b u h hm
  · by_cases e : m = a
    · rw [e, upd_same] at z; cases z
    · rw [upd_ne e] at z; exact M.tr m hm z
/-- all but the objects at ms is as it was -/
def Keep (ms : List Addr) (H H' : Hp) : Prop := (∀ a o, H a = some o → a ∉ ms → H' a = some o) ∧ ∀ m ∈ ms, H' m ≠ none
theorem Mem.keeps (M : Mem B ms H f l) : Keep ms B H := ⟨M.keep, M.tr⟩
theorem Mem.getF (M : Mem B ms H f l) (h : (a, o) ∈ f) : H a = some o := M.atF _ h
theorem Mem.getL (M : Mem B ms H f l) (h : (a, o) ∈ l) : H a = some o := M.atL _ h
/-- behind a call that may have changed the first of what was handed in -/
theorem Mem.call1 {f : List (Addr × HO)} (M : Mem B ms H ((a, o) :: f) l) (ha : a ∈ ms) (k : Keep [a] H H') (h' : H' a = some o') : Mem B ms H' ((a, o') :: f) l := by
  have nd := M.nd
  have hne : ∀ q ∈ l ++ f, q.1 ≠ a := by
    rw [List.map_append, List.map_cons, List.nodup_append] at nd
    obtain ⟨_, n2, n3⟩ := nd
    rw [List.nodup_cons] at n2
    intro q hq z
    rcases List.mem_append.mp hq with hq | hq
    · exact n3 _ (List.mem_map.mpr ⟨q, hq, rfl⟩) _ List.mem_cons_self z
    · exact n2.1 (List.mem_map.mpr ⟨q, hq, z⟩)
  refine ⟨fun q hq => ?_, fun q hq => ?_, by simpa using nd, fun b u h hm => ?_, fun m hm z => ?_, M.new⟩
  · rcases List.mem_cons.mp hq with rfl | h
    · exact h'
    · exact k.1 _ _ (M.atF q (by simp [h])) (by simpa using hne q (by simp [h]))
  · exact k.1 _ _ (M.atL q hq) (by simpa using hne q (by simp [hq]))
  · exact k.1 _ _ (M.keep b u h hm) (by intro z; rw [List.mem_singleton] at z; exact hm (by rw [z]; exact ha))
  · cases e : H m with
    | none => exact M.tr m hm e
    | some u =>
      by_cases hma : m = a
      · rw [hma, h'] at z; cases z
      · rw [k.1 _ _ e (by simpa using hma)] at z; cases z
end
/-! ### steps -/
section
variable {n : L2.St → Hp → Prop} {r : VK} {b c : L2.St → Hp → Prop} {σ : L2.St} {H : Hp} {t u : TS} {te ta tb : TE} {tt tu : TT} {Q : VK} {QB : Bool → Hp → Prop} {QA : List V → Hp → Prop} {v : V} {i : Nat} {tA : TA}
theorem k_seq (h : t ⟨u ⟨n, r, b, c⟩, r, b, c⟩ σ H) : tSeq t u ⟨n, r, b, c⟩ σ H := h
theorem k_next (h : n σ H) : tNext ⟨n, r, b, c⟩ σ H := h
theorem k_break (h : b σ H) : tBreak ⟨n, r, b, c⟩ σ H := h
theorem k_cont (h : c σ H) : tCont ⟨n, r, b, c⟩ σ H := h
theorem k_asg (h : te σ H fun v H1 => n (σ.set i (some v)) H1) : tAsg te (gName i) ⟨n, r, b, c⟩ σ H := h
theorem k_ret (h : te σ H r) : tRet te ⟨n, r, b, c⟩ σ H := h
theorem k_retN (h : r .non H) : tRetN ⟨n, r, b, c⟩ σ H := h
theorem k_drop (h : te σ H fun _ H1 => n σ H1) : tDrop te ⟨n, r, b, c⟩ σ H := h
theorem k_ifS (h : tt σ H fun k H1 => if k = true then t ⟨n, r, b, c⟩ σ H1 else u ⟨n, r, b, c⟩ σ H1) : tIfS tt t u ⟨n, r, b, c⟩ σ H := h
theorem k_var (h : σ[i]? = some (some v)) (q : Q v H) : tVar i σ H Q := ⟨v, h, q⟩
theorem k_c (q : Q v H) : tC v σ H Q := q
theorem k_op {rr : R2} (h : ta σ H fun x H1 => tb σ H1 fun y H2 => rr x y H2 Q) : tOp rr ta tb σ H Q := h
theorem k_un {ru : V → Hp → VK → Prop} (h : ta σ H fun x H1 => ru x H1 Q) : tUn ru ta σ H Q := h
theorem k_test (h : te σ H fun x H' => ∃ k, x = .bl k ∧ QB k H') : tTest te σ H QB := h
theorem k_B (h : te σ H fun x H' => ∃ k, x = .bl k ∧ QB k H') : tB te σ H QB := h
theorem k_bl {k : Bool} {PB : Bool → Prop} (h : PB k) : ∃ k', V.bl k = .bl k' ∧ PB k' := ⟨k, rfl, h⟩
theorem k_and (h : tt σ H fun k H1 => if k = true then tu σ H1 QB else QB false H1) : tAnd tt tu σ H QB := h
theorem k_or (h : tt σ H fun k H1 => if k = true then QB true H1 else tu σ H1 QB) : tOr tt tu σ H QB := h
theorem k_not (h : tt σ H fun k H1 => QB (!k) H1) : tNot tt σ H QB := h
theorem k_andV (h : ta σ H fun x H1 => ∃ k, x = .bl k ∧ if k = true then tb σ H1 Q else Q (.bl false) H1) : tAndV ta tb σ H Q := h
theorem k_orV (h : ta σ H fun x H1 => ∃ k, x = .bl k ∧ if k = true then Q (.bl true) H1 else tb σ H1 Q) : tOrV ta tb σ H Q := h
theorem k_notV (h : ta σ H fun x H1 => ∃ k, x = .bl k ∧ Q (.bl (!k)) H1) : tNotV ta σ H Q := h
theorem k_ifE (h : tt σ H fun k H1 => if k = true then ta σ H1 Q else tb σ H1 Q) : tIf tt ta tb σ H Q := h
theorem k_nil (h : QA [] H) : tNil σ H QA := h
theorem k_cons (h : te σ H fun x H1 => tA σ H1 fun xs H2 => QA (x :: xs) H2) : tCons te tA σ H QA := h
theorem k_cb {rc : List V → Hp → VK → Prop} (h : tA σ H fun vs H1 => rc vs H1 Q) : tCB rc tA σ H Q := h
theorem k_callS {sp : Sp} {E : L2.St → XK} (h : tA σ H fun vs H1 => sp vs H1 Q (E σ)) : tCallS sp E tA σ H Q := h
theorem k_I {C : Int → Int → Prop} {g : Int → Int → V} {x y : Int} (hc : C x y) (q : Q (g x y) H) : rI C g (.int x) (.int y) H Q := ⟨x, y, rfl, rfl, hc, q⟩
theorem k_I0 {g : Int → Int → V} {x y : Int} (q : Q (g x y) H) : rI0 g (.int x) (.int y) H Q := ⟨x, y, rfl, rfl, q⟩
theorem k_U {g : Int → V} {x : Int} (q : Q (g x) H) : rU g (.int x) H Q := ⟨x, rfl, q⟩
theorem k_eqI {x y : Int} (q : Q (.bl (decide (x = y))) H) : rEq (.int x) (.int y) H Q := ⟨rfl, by
  have e : decide (V.int x = V.int y) = decide (x = y) := by
    by_cases h : x = y
    · subst h; simp
    · rw [decide_eq_false h, decide_eq_false (fun z => h (V.int.inj z))]
  rw [e]; exact q⟩
theorem k_neI {x y : Int} (q : Q (.bl (!decide (x = y))) H) : rNe (.int x) (.int y) H Q := ⟨rfl, by
  have e : decide (V.int x = V.int y) = decide (x = y) := by
    by_cases h : x = y
    · subst h; simp
    · rw [decide_eq_false h, decide_eq_false (fun z => h (V.int.inj z))]
  rw [e]; exact q⟩
theorem k_eqB {x y : Bool} (q : Q (.bl (x == y)) H) : rEq (.bl x) (.bl y) H Q := ⟨rfl, by
  have e : decide (V.bl x = V.bl y) = (x == y) := by cases x <;> cases y <;> simp
  rw [e]; exact q⟩
theorem k_neB {x y : Bool} (q : Q (.bl (!(x == y))) H) : rNe (.bl x) (.bl y) H Q := ⟨rfl, by
  have e : decide (V.bl x = V.bl y) = (x == y) := by cases x <;> cases y <;> simp
  rw [e]; exact q⟩
theorem k_eqS {x y : Str} (q : Q (.bl (decide (x = y))) H) : rEq (.str x) (.str y) H Q := ⟨rfl, by
  have e : decide (V.str x = V.str y) = decide (x = y) := by
    by_cases h : x = y
    · subst h; simp
    · rw [decide_eq_false h, decide_eq_false (fun z => h (V.str.inj z))]
  rw [e]; exact q⟩
theorem k_neS {x y : Str} (q : Q (.bl (!decide (x = y))) H) : rNe (.str x) (.str y) H Q := ⟨rfl, by
  have e : decide (V.str x = V.str y) = decide (x = y) := by
    by_cases h : x = y
    · subst h; simp
    · rw [decide_eq_false h, decide_eq_false (fun z => h (V.str.inj z))]
  rw [e]; exact q⟩
theorem k_iteD {p : Prop} [Decidable p] {A Z : Prop} (h1 : p → A) (h2 : ¬ p → Z) : if decide p = true then A else Z := by
  by_cases h : p
  · rw [if_pos (decide_eq_true h)]; exact h1 h
  · rw [if_neg (by simpa using h)]; exact h2 h
theorem k_iteN {p : Prop} [Decidable p] {A Z : Prop} (h1 : ¬ p → A) (h2 : p → Z) : if (!decide p) = true then A else Z := by
  by_cases h : p
  · rw [if_neg (by simpa using h)]; exact h2 h
  · rw [if_pos (by simpa using h)]; exact h1 h
theorem k_iteB {k : Bool} {A Z : Prop} (h1 : k = true → A) (h2 : k = false → Z) : if k = true then A else Z := by
  cases k with
  | true => rw [if_pos rfl]; exact h1 rfl
  | false => rw [if_neg Bool.false_ne_true]; exact h2 rfl
/-- new things -/
def newL (xs : List V) (H : Hp) (Q : VK) : Prop := xs.length ≤ sizeLine ∧ ∀ p, H p = none → Q (.ref p) (upd H p (.lst xs))
def newT (xs : List V) (H : Hp) (Q : VK) : Prop := xs.length ≤ sizeLine ∧ ∀ p, H p = none → Q (.ref p) (upd H p (.tup xs))
theorem k_lst {B : Hp} {ms : List Addr} {f l : List (Addr × HO)} {xs : List V} (M : Mem B ms H f l) (hl : xs.length ≤ sizeLine) (k : ∀ p H', Mem B ms H' f ((p, .lst xs) :: l) → Q (.ref p) H') : newL xs H Q :=
  ⟨hl, fun p hp => k p _ (M.alloc hp)⟩
theorem k_tup {B : Hp} {ms : List Addr} {f l : List (Addr × HO)} {xs : List V} (M : Mem B ms H f l) (hl : xs.length ≤ sizeLine) (k : ∀ p H', Mem B ms H' f ((p, .tup xs) :: l) → Q (.ref p) H') : newT xs H Q :=
  ⟨hl, fun p hp => k p _ (M.alloc hp)⟩
theorem k_lst0 (h : tA σ H fun xs H1 => newL xs H1 Q) : tLst tA σ H Q := h
theorem k_tup0 (h : tA σ H fun xs H1 => newT xs H1 Q) : tTup tA σ H Q := h
/-- an attribute -/
theorem k_fld0 {K : PySem.W.Frag} {f : Str} (h : ta σ H fun x H1 => ∃ a C dx fs v, x = .ref a ∧ H1 a = some (.ins C dx fs) ∧ Cls K C ∧ NoAttr K C f ∧ fs.lookup f = some v ∧ Q v H1) : tFld K ta f σ H Q := h
theorem k_fld {K : PySem.W.Frag} {f : Str} {a C dx : Addr} {fs : List (Str × V)} {v : V} (h : H a = some (.ins C dx fs)) (hc : Cls K C) (hn : NoAttr K C f) (hl : fs.lookup f = some v) {PV : V → Prop} (q : PV v) :
    ∃ a' C' dx' fs' v', V.ref a = .ref a' ∧ H a' = some (.ins C' dx' fs') ∧ Cls K C' ∧ NoAttr K C' f ∧ fs'.lookup f = some v' ∧ PV v' := ⟨a, C, dx, fs, v, rfl, h, hc, hn, hl, q⟩
/-- an item -/
theorem k_ixL {K : PySem.W.Frag} {p : Addr} {xs : List V} {j : Int} {v : V} (h : H p = some (.lst xs)) (ha : atI xs j = some v) (q : Q v H) : rIxL K (.ref p) (.int j) H Q := ⟨p, xs, j, v, rfl, rfl, SqL.of h, ha, q⟩
theorem k_ixT {K : PySem.W.Frag} {p : Addr} {xs : List V} {j : Int} {v : V} (h : H p = some (.tup xs)) (ha : atI xs j = some v) (q : Q v H) : rIxT K (.ref p) (.int j) H Q := ⟨p, xs, j, v, rfl, rfl, SqT.of h, ha, q⟩
end
end MyL

set_option Elab.async false
set_option linter.all false
set_option maxRecDepth 100000
set_option maxHeartbeats 4000000
namespace MyL
open PySem PySem.Spec PyProof.Rows L2
section
variable {X : Cx} {e a b : Expr} {t t' ta tb : TE} {pos : Pos}
theorem pe_imp (h : PE X e t) (hi : ∀ σ H Q, t' σ H Q → t σ H Q) : PE X e t' := ⟨fun pins s σ H Q I q => h.run pins s σ H Q I (hi _ _ _ q)⟩
/-- a * b -/
def CMulU (i j : Int) : Prop := CMul i j ∨ CMulW i j
theorem op_mulU : OpR X (binaryOp .Mult) (rI CMulU fun i j => .int (i * j)) := by
  intro pins s σ H x y v u Q I rx ry h
  obtain ⟨i, j, ex, ey, hc, q⟩ := h
  rcases hc with hc | hc
  · exact op_mul pins s σ H x y v u Q I rx ry ⟨i, j, ex, ey, hc, q⟩
  · exact op_mulW pins s σ H x y v u Q I rx ry ⟨i, j, ex, ey, hc, q⟩
/-- a written power -/
theorem pe_powC {i j n : Int} {k1 k2 : Nat} {p1 p2 : Pos} (hc : CPow i j := by unfold CPow; decide) (hv : i ^ j.toNat = n := by decide +kernel) : PE X (.BinOp (.Constant (.int i) k1 p1) .Pow (.Constant (.int j) k2 p2) pos) (tC (.int n)) :=
  pe_imp (pe_op op_pow pe_int pe_int) fun σ H Q q => ⟨i, j, rfl, rfl, hc, by show Q (.int (i ^ j.toNat)) H; rw [hv]; exact q⟩
/-- a written number below zero -/
theorem pe_negC {i : Int} {k1 : Nat} {p1 : Pos} : PE X (.UnaryOp .USub (.Constant (.int i) k1 p1) pos) (tC (.int (-i))) :=
  pe_imp (pe_un un_neg pe_int) fun σ H Q q => ⟨i, rfl, q⟩
end
section
variable {P : Program} {w : World} {K : PySem.W.Frag} {mg : Str → Option Value} {base : Heap}
/-- a def that may raise, by its body; what leaves the frame is the caller's wish -/
theorem okT {x qual : Str} {st : Stmt} {f : Addr} {fd : FuncData} {N ps : List Str} {k : Nat} {sp : Sp} (F : L2.Fun K x qual st f fd) (S : FnScope N ps (defScope st)) (len : ∀ vs H Q E, sp vs H Q E → vs.length = ps.length)
    (hbody : ∀ (cdv : Value) (A : Around) (outer : List Env) (s : Shared) (H : Hp) (vs : List V) (Q : VK) (E : XK), Room k (A.deeper (envOfC qual (defScope st) s.heap.objs.size f cdv)) →
      Takes (cxOf (L2.CX P w) P w K mg base N qual (defScope st) f cdv A outer s H E) (fun c d _ H => E c d H) → sp vs H Q E →
      ∃ t, PSs (cxOf (L2.CX P w) P w K mg base N qual (defScope st) f cdv A outer s H E) (defBody st) t ∧ t ⟨fun _ H' => Q .non H', Q, fun _ _ => False, fun _ _ => False⟩ (start N vs) H) : FnOk P w K mg base (L2.CX P w) (k + 1) f fd ps sp :=
  F.okX S len fun cdv A outer s H vs Q E hr h => hbody cdv A outer s H vs Q E hr (takes_of rfl rfl rfl rfl) h
end
/-! ### built-ins of one argument -/
def rInt1 : List V → Hp → VK → Prop := fun xs H Q => ∃ i, xs = [.int i] ∧ Q (.int i) H
def rAbs1 : List V → Hp → VK → Prop := fun xs H Q => ∃ i : Int, xs = [.int i] ∧ Q (.int (if i < 0 then -i else i)) H
def rStrI : List V → Hp → VK → Prop := fun xs H Q => ∃ i : Int, xs = [.int i] ∧ i.natAbs.log2 < 1920 ∧ Q (.str (toString i)) H
def rLenQ (K : PySem.W.Frag) : List V → Hp → VK → Prop := fun xs H Q => ∃ p ys, xs = [.ref p] ∧ (SqL K H p ys ∨ SqT K H p ys) ∧ Q (.int ys.length) H
def rMin2 : List V → Hp → VK → Prop := fun xs H Q => ∃ i j : Int, xs = [.int i, .int j] ∧ Q (.int (if j < i then j else i)) H
def rMax2 : List V → Hp → VK → Prop := fun xs H Q => ∃ i j : Int, xs = [.int i, .int j] ∧ Q (.int (if j > i then j else i)) H
section
variable {X : Cx}
theorem b_int : CallR X (.type "int") rInt1 := fun pins s σ H xs us Q I r h => call_int1 pins s σ H xs us Q I r (.inl h)
theorem b_abs : CallR X (.builtin "abs") rAbs1 := call_abs
theorem b_strI : CallR X (.type "str") rStrI := call_str_int
theorem b_len : CallR X (.builtin "len") (rLenQ X.K) := call_len_seq
theorem b_min2 (hc : X.calm = true) : CallR X (.builtin "min") rMin2 := call_min2 hc
theorem b_max2 (hc : X.calm = true) : CallR X (.builtin "max") rMax2 := call_max2 hc
end
section
variable {H : Hp} {Q : VK} {i j : Int} {K : PySem.W.Frag}
theorem k_int1 (q : Q (.int i) H) : rInt1 [.int i] H Q := ⟨i, rfl, q⟩
theorem k_abs1 (q : Q (.int (if i < 0 then -i else i)) H) : rAbs1 [.int i] H Q := ⟨i, rfl, q⟩
theorem k_strI (h : i.natAbs.log2 < 1920) (q : Q (.str (toString i)) H) : rStrI [.int i] H Q := ⟨i, rfl, h, q⟩
theorem k_lenL {p : Addr} {ys : List V} (h : H p = some (.lst ys)) (q : Q (.int ys.length) H) : rLenQ K [.ref p] H Q := ⟨p, ys, rfl, .inl (SqL.of h), q⟩
theorem k_lenT {p : Addr} {ys : List V} (h : H p = some (.tup ys)) (q : Q (.int ys.length) H) : rLenQ K [.ref p] H Q := ⟨p, ys, rfl, .inr (SqT.of h), q⟩
theorem k_min2 (q : Q (.int (if j < i then j else i)) H) : rMin2 [.int i, .int j] H Q := ⟨i, j, rfl, q⟩
theorem k_max2 (q : Q (.int (if j > i then j else i)) H) : rMax2 [.int i, .int j] H Q := ⟨i, j, rfl, q⟩
/-- isinstance of numbers and truths -/
theorem k_isiI {c : String} {b : Bool} (e : PySem.W.kitOne K (.type "int") (.type c) = some b) (q : Q (.bl b) H) : rIsi K [.int i, .ty c] H Q := ⟨_, _, _, _, b, rfl, .ty c, .base (.int i), e, q⟩
/-- the rest of a division -/
theorem k_mod {x y : Int} {g : Int → Int → V} {C : Int → Int → Prop} (hc : C x y) (q : Q (g x y) H) : rI C g (.int x) (.int y) H Q := ⟨x, y, rfl, rfl, hc, q⟩
/-- xs[j] = v, xs made here or handed in to be changed -/
theorem k_sub0 {σ : L2.St} {n : L2.St → Hp → Prop} {r : VK} {b c : L2.St → Hp → Prop} {te to ti : TE} {ts : TSet} (h : te σ H fun v H1 => to σ H1 fun o H2 => ti σ H2 fun i H3 => ts o i v H3 fun H4 => n σ H4) : tAsg te (gSub to ti ts) ⟨n, r, b, c⟩ σ H := h
theorem k_setL {QH : Hp → Prop} {p : Addr} {xs : List V} {k : Int} {jn : Nat} {v : V} (h : H p = some (.lst xs)) (hi : ixN xs.length k = some jn) (q : QH (upd H p (.lst (xs.set jn v)))) : rSetL (.ref p) (.int k) v H QH := ⟨p, xs, k, jn, rfl, rfl, h, hi, q⟩
end
end MyL

set_option Elab.async false
set_option linter.all false
set_option maxRecDepth 100000
set_option maxHeartbeats 4000000
namespace MyL
open PySem L2
/-! ### the steps of a reading, as one word -/
theorem k_iteNT {A Z : Prop} (h : Z) : if (!true) = true then A else Z := h
theorem k_iteNF {A Z : Prop} (h : A) : if (!false) = true then A else Z := h
theorem divW {i j : Int} (h : 0 < j) (h2 : j < 2 ^ 64) : CDivW i j := ⟨h, by
  have e : j.natAbs < 2 ^ 64 := by omega
  exact Nat.lt_of_le_of_lt (Nat.log2_lt (by omega) |>.mpr e |> Nat.le_of_lt) (by decide)⟩
theorem cxK {CX : CXT} {P : Program} {w : World} {K : PySem.W.Frag} {mg : Str → Option Value} {base : Heap} {N : List Str} {qual : Str} {scope : Scope} {f : Addr} {cd : Value} {A : Around} {outer : List Env} {s : Shared} {H : Hp} {E : XK} : (cxOf CX P w K mg base N qual scope f cd A outer s H E).K = K := rfl
theorem cxQK {P : Program} {w : World} {K : PySem.W.Frag} {mg : Str → Option Value} {base : Heap} {N : List Str} {qual : Str} {scope : Scope} {f : Addr} {cd : Value} {A : Around} {outer : List Env} {s : Shared} {H : Hp} : (cxQ P w K mg base N qual scope f cd A outer s H).K = K := rfl
theorem mulL {i j : Int} (h : -(2 ^ 64) < i) (h2 : i < 2 ^ 64) : CMulU i j := .inl (.inl ⟨h, h2⟩)
theorem mulR {i j : Int} (h : -(2 ^ 64) < j) (h2 : j < 2 ^ 64) : CMulU i j := .inl (.inr ⟨h, h2⟩)
theorem atI_map {ns : List Int} {j : Int} (h0 : 0 ≤ j) (h1 : j < ns.length) : atI (ns.map V.int) j = some (.int (ns.getD j.toNat 0)) := by
  have hj : j.toNat < ns.length := by omega
  unfold atI ixN
  rw [List.length_map, if_pos h0, if_pos h1]
  simp [hj]
theorem k_lenM {K : PySem.W.Frag} {H : Hp} {Q : VK} {p : Addr} {ns : List Int} (h : H p = some (.lst (ns.map V.int))) (q : Q (.int ns.length) H) : rLenQ K [.ref p] H Q := ⟨p, _, rfl, .inl (SqL.of h), by rw [List.length_map]; exact q⟩
theorem sz {n : Nat} (h : n ≤ 100000) : n ≤ sizeLine := Nat.le_trans h (by decide)
section
variable {B H : Hp} {ms : List Addr} {f l : List (Addr × HO)} {QH : Hp → Prop} {p : Addr} {xs : List V} {k : Int} {jn : Nat} {v : V} {x0 x1 x2 x3 : Addr × HO}
theorem k_setF0 (M : Mem B ms H ((p, .lst xs) :: f) l) (hm : p ∈ ms) (hi : ixN xs.length k = some jn) (q : ∀ H', Mem B ms H' ((p, .lst (xs.set jn v)) :: f) l → QH H') : rSetL (.ref p) (.int k) v H QH :=
  ⟨p, xs, k, jn, rfl, rfl, M.getF List.mem_cons_self, hi, q _ (Mem.setF (f1 := []) M hm)⟩
theorem k_setL0 (M : Mem B ms H f ((p, .lst xs) :: l)) (hi : ixN xs.length k = some jn) (q : ∀ H', Mem B ms H' f ((p, .lst (xs.set jn v)) :: l) → QH H') : rSetL (.ref p) (.int k) v H QH :=
  ⟨p, xs, k, jn, rfl, rfl, M.getL List.mem_cons_self, hi, q _ (Mem.setL (l1 := []) M)⟩
theorem k_setL1 (M : Mem B ms H f (x0 :: (p, .lst xs) :: l)) (hi : ixN xs.length k = some jn) (q : ∀ H', Mem B ms H' f (x0 :: (p, .lst (xs.set jn v)) :: l) → QH H') : rSetL (.ref p) (.int k) v H QH :=
  ⟨p, xs, k, jn, rfl, rfl, M.getL (by simp), hi, q _ (Mem.setL (l1 := [x0]) M)⟩
theorem k_setL2 (M : Mem B ms H f (x0 :: x1 :: (p, .lst xs) :: l)) (hi : ixN xs.length k = some jn) (q : ∀ H', Mem B ms H' f (x0 :: x1 :: (p, .lst (xs.set jn v)) :: l) → QH H') : rSetL (.ref p) (.int k) v H QH :=
  ⟨p, xs, k, jn, rfl, rfl, M.getL (by simp), hi, q _ (Mem.setL (l1 := [x0, x1]) M)⟩
end

section
variable {B H H' : Hp} {ms : List Addr} {f l : List (Addr × HO)} {p a : Addr} {o o' u : HO}
theorem Mem.call1New {f : List (Addr × HO)} (M : Mem B ms H ((a, o) :: f) l) (ha : a ∈ ms) (k : Keep [a] H H') (h' : H' a = some o') (hn : H p = none) (hp : H' p = some u) : Mem B ms H' ((a, o') :: f) ((p, u) :: l) := by
  have M1 := M.call1 ha k h'
  have hpa : p ≠ a := fun z => by
    have := M.getF (a := a) (o := o) List.mem_cons_self
    rw [← z, hn] at this; cases this
  have hne : p ∉ (l ++ (a, o') :: f).map (·.1) := by
    have h := M.ne hn
    simpa using h
  refine ⟨M1.atF, fun q hq => ?_, ?_, M1.keep, M1.tr, fun q hq => ?_⟩
  · rcases List.mem_cons.mp hq with rfl | hq
    · exact hp
    · exact M1.atL q hq
  · show (p :: ((l ++ (a, o') :: f).map (·.1))).Nodup
    exact List.nodup_cons.mpr ⟨hne, M1.nd⟩
  · rcases List.mem_cons.mp hq with rfl | hq
    · exact M.fresh hn
    · exact M.new q hq
theorem Keep.of_same (h : Same H H') : Keep [] H H' := ⟨fun a o e _ => h a o e, fun _ h => nomatch h⟩
end
section
variable {K : PySem.W.Frag} {H : Hp} {Q : VK} {p : Addr} {j a b c d e g : Int}
theorem k_ix2 (h : H p = some (.lst [.int a, .int b])) (h0 : 0 ≤ j) (h1 : j < 2) (q : ∀ n, n = a ∨ n = b → Q (.int n) H) : rIxL K (.ref p) (.int j) H Q := by
  obtain rfl | rfl : j = 0 ∨ j = 1 := by omega
  · exact ⟨p, _, _, _, rfl, rfl, SqL.of h, rfl, q _ (by simp)⟩
  · exact ⟨p, _, _, _, rfl, rfl, SqL.of h, rfl, q _ (by simp)⟩
theorem k_ix3 (h : H p = some (.lst [.int a, .int b, .int c])) (h0 : 0 ≤ j) (h1 : j < 3) (q : ∀ n, n = a ∨ n = b ∨ n = c → Q (.int n) H) : rIxL K (.ref p) (.int j) H Q := by
  obtain rfl | rfl | rfl : j = 0 ∨ j = 1 ∨ j = 2 := by omega
  · exact ⟨p, _, _, _, rfl, rfl, SqL.of h, rfl, q _ (by simp)⟩
  · exact ⟨p, _, _, _, rfl, rfl, SqL.of h, rfl, q _ (by simp)⟩
  · exact ⟨p, _, _, _, rfl, rfl, SqL.of h, rfl, q _ (by simp)⟩
theorem k_ix4 (h : H p = some (.lst [.int a, .int b, .int c, .int d])) (h0 : 0 ≤ j) (h1 : j < 4) (q : ∀ n, n = a ∨ n = b ∨ n = c ∨ n = d → Q (.int n) H) : rIxL K (.ref p) (.int j) H Q := by
  obtain rfl | rfl | rfl | rfl : j = 0 ∨ j = 1 ∨ j = 2 ∨ j = 3 := by omega
  · exact ⟨p, _, _, _, rfl, rfl, SqL.of h, rfl, q _ (by simp)⟩
  · exact ⟨p, _, _, _, rfl, rfl, SqL.of h, rfl, q _ (by simp)⟩
  · exact ⟨p, _, _, _, rfl, rfl, SqL.of h, rfl, q _ (by simp)⟩
  · exact ⟨p, _, _, _, rfl, rfl, SqL.of h, rfl, q _ (by simp)⟩
end
end MyL

set_option Elab.async false
set_option linter.all false
set_option maxRecDepth 100000
set_option maxHeartbeats 4000000
namespace MyL
open PySem L2
section
variable {n : L2.St → Hp → Prop} {r : VK} {b c : L2.St → Hp → Prop} {σ : L2.St} {H : Hp} {te ta tb : TE} {Q : VK} {tA : TA} {K : PySem.W.Frag} {C : Addr} {sp : Sp} {W : WX}
/-- C(..), its values at hand -/
def newO (C : Addr) (sp : Sp) (vs : List V) (H : Hp) (Q : VK) (E : XK) : Prop := ∀ x dx, H x = none → H dx = none → dx ≠ x → sp (.ref x :: vs) (upd (upd H dx (.own x)) x (.ins C dx [])) (fun v H2 => v = .non ∧ Q (.ref x) H2) E
theorem k_make0 (h : tA σ H fun vs H1 => newO C sp vs H1 Q (WE W σ)) : tMakeS C sp W tA σ H Q := h
theorem k_meth0 {m : Str} (h : ta σ H fun x H1 => ∃ a dx fs, x = .ref a ∧ H1 a = some (.ins C dx fs) ∧ fs.lookup m = none ∧ tA σ H1 fun vs H2 => sp (.ref a :: vs) H2 Q (WE W σ)) : tMethS C m sp W ta tA σ H Q := h
theorem k_meth {m : Str} {a dx : Addr} {fs : List (Str × V)} {PQ : Addr → Prop} (h : H a = some (.ins C dx fs)) (hl : fs.lookup m = none) (q : PQ a) : ∃ a' dx' fs', V.ref a = .ref a' ∧ H a' = some (.ins C dx' fs') ∧ fs'.lookup m = none ∧ PQ a' := ⟨a, dx, fs, rfl, h, hl, q⟩
theorem k_ownN0 (h : ta σ H fun x H1 => tb σ H1 fun y H2 => ∃ a dx fs j, x = .ref a ∧ y = .int j ∧ H2 a = some (.ins C dx fs) ∧ sp [.ref a, .int j] H2 Q (WE W σ)) : tOwnN C sp W ta tb σ H Q := h
theorem k_ownO0 (h : ta σ H fun x H1 => tb σ H1 fun y H2 => ∃ a dx fs b dy gs, x = .ref a ∧ y = .ref b ∧ H2 a = some (.ins C dx fs) ∧ H2 b = some (.ins C dy gs) ∧ sp [.ref a, .ref b] H2 Q (WE W σ)) : tOwnO C sp W ta tb σ H Q := h
theorem k_ownN {a dx : Addr} {fs : List (Str × V)} {j : Int} {E : XK} (h : H a = some (.ins C dx fs)) (q : sp [.ref a, .int j] H Q E) : ∃ a' dx' fs' j', V.ref a = .ref a' ∧ V.int j = .int j' ∧ H a' = some (.ins C dx' fs') ∧ sp [.ref a', .int j'] H Q E := ⟨a, dx, fs, j, rfl, rfl, h, q⟩
theorem k_ownO {a dx b dy : Addr} {fs gs : List (Str × V)} {E : XK} (h : H a = some (.ins C dx fs)) (h2 : H b = some (.ins C dy gs)) (q : sp [.ref a, .ref b] H Q E) : ∃ a' dx' fs' b' dy' gs', V.ref a = .ref a' ∧ V.ref b = .ref b' ∧ H a' = some (.ins C dx' fs') ∧ H b' = some (.ins C dy' gs') ∧ sp [.ref a', .ref b'] H Q E := ⟨a, dx, fs, b, dy, gs, rfl, rfl, h, h2, q⟩
theorem k_ownEq {a dx b dy : Addr} {fs gs : List (Str × V)} (h : H a = some (.ins C dx fs)) (h2 : H b = some (.ins C dy gs)) (q : sp [.ref a, .ref b] H (fun v H' => ∃ c, v = .bl c ∧ Q v H') (fun _ _ _ => False)) : rOwnEq C sp (.ref a) (.ref b) H Q := ⟨a, dx, fs, b, dy, gs, rfl, rfl, h, h2, q⟩
theorem k_ownIn {a dx : Addr} {fs : List (Str × V)} {y : V} (h : H a = some (.ins C dx fs)) (q : sp [.ref a, y] H (fun v H' => ∃ c, v = .bl c ∧ Q v H') (fun _ _ _ => False)) : rOwnIn C sp y (.ref a) H Q := ⟨a, dx, fs, rfl, h, q⟩
theorem k_ownU {a dx : Addr} {fs : List (Str × V)} (h : H a = some (.ins C dx fs)) (q : sp [.ref a] H Q (fun _ _ _ => False)) : rOwnU C sp (.ref a) H Q := ⟨a, dx, fs, rfl, h, q⟩
theorem k_ownStr {a dx : Addr} {fs : List (Str × V)} (h : H a = some (.ins C dx fs)) (q : sp [.ref a] H (fun v H' => ∃ z, v = .str z ∧ Q v H') (fun _ _ _ => False)) : rOwnStr C sp [.ref a] H Q := ⟨a, dx, fs, rfl, h, q⟩
theorem k_st {z : Str} {PS : Str → Prop} (q : PS z) : ∃ z', V.str z = .str z' ∧ PS z' := ⟨z, rfl, q⟩
/-- isinstance of an instance and its own class -/
theorem k_isiO {a dx : Addr} {fs : List (Str × V)} (h : H a = some (.ins C dx fs)) (cl : Cls K C) (ha : PySem.W.findIn K (.ref C) "__class__" = some (some (.builtin "object.__class__"))) (hn : PySem.W.specialIn K (.builtin "object.__class__") "__get__" = some (some (.builtin "getset_descriptor.__get__")))
    (ht : PySem.W.takesIn K (.builtin "object.__class__") = some true) (hm : PySem.W.mroIn K C (.type "object") = some true) (q : Q (.bl true) H) : rIsi K [.ref a, .ref C] H Q :=
  ⟨_, _, _, _, true, rfl, .own C, .base (.ins h cl ha hn ht hm), by simp [PySem.W.kitOne], q⟩
/-- self.f = e -/
theorem k_sfld0 {f : Str} (h : te σ H fun y H1 => ta σ H1 fun x H2 => ∃ a C dx fs, x = .ref a ∧ H2 a = some (.ins C dx fs) ∧ Cls K C ∧ NoAttr K C f ∧ fs.length < 1000 ∧ n σ (upd H2 a (.ins C dx (putF f y fs)))) : sFld K ta te f ⟨n, r, b, c⟩ σ H := h
theorem k_sfld {f : Str} {a dx : Addr} {fs : List (Str × V)} {y : V} {PQ : Hp → Prop} (h : H a = some (.ins C dx fs)) (cl : Cls K C) (na : NoAttr K C f) (hl : fs.length < 1000) (q : PQ (upd H a (.ins C dx (putF f y fs)))) :
    ∃ a' C' dx' fs', V.ref a = .ref a' ∧ H a' = some (.ins C' dx' fs') ∧ Cls K C' ∧ NoAttr K C' f ∧ fs'.length < 1000 ∧ PQ (upd H a' (.ins C' dx' (putF f y fs'))) := ⟨a, C, dx, fs, rfl, h, cl, na, hl, q⟩
/-- f'..' -/
theorem k_jnil {acc : Str} {QS : Str → Hp → Prop} (q : QS acc H) : tJs [] acc σ H QS := q
theorem k_jcons {t : TE} {ts : List TE} {acc : Str} {QS : Str → Hp → Prop} (q : t σ H fun x H1 => ∃ y : Str, x = .str y ∧ (acc ++ y).length ≤ sizeLine ∧ tJs ts (acc ++ y) σ H1 QS) : tJs (t :: ts) acc σ H QS := q
theorem k_jst {acc y : Str} {PS : Str → Prop} (h : (acc ++ y).length ≤ sizeLine) (q : PS y) : ∃ y' : Str, V.str y = .str y' ∧ (acc ++ y').length ≤ sizeLine ∧ PS y' := ⟨y, rfl, h, q⟩
theorem k_fmt0 (q : te σ H fun x H1 => (∃ y : Str, x = .str y ∧ y.length ≤ sizeLine ∧ Q (.str y) H1) ∨ ∃ i : Int, x = .int i ∧ i.natAbs.log2 < 1920 ∧ Q (.str (toString i)) H1) : tFmt te σ H Q := q
theorem k_fmtI {i : Int} {P1 : Str → Prop} {P2 : Int → Prop} (h : i.natAbs.log2 < 1920) (q : P2 i) : (∃ y : Str, V.int i = .str y ∧ y.length ≤ sizeLine ∧ P1 y) ∨ ∃ i' : Int, V.int i = .int i' ∧ i'.natAbs.log2 < 1920 ∧ P2 i' := .inr ⟨i, rfl, h, q⟩
theorem k_fmtS {z : Str} {P1 : Str → Prop} {P2 : Int → Prop} (h : z.length ≤ sizeLine) (q : P1 z) : (∃ y : Str, V.str z = .str y ∧ y.length ≤ sizeLine ∧ P1 y) ∨ ∃ i' : Int, V.str z = .int i' ∧ i'.natAbs.log2 < 1920 ∧ P2 i' := .inl ⟨z, rfl, h, q⟩
theorem k_addS {x y : Str} {P2 : Str → Str → Prop} (h : x.length + y.length ≤ sizeLine) (q : P2 x y) : ∃ i j, V.str x = .str i ∧ V.str y = .str j ∧ i.length + j.length ≤ sizeLine ∧ P2 i j := ⟨x, y, rfl, rfl, h, q⟩
/-- xs + ys -/
theorem k_cat {B : Hp} {ms : List Addr} {f l : List (Addr × HO)} {p q : Addr} {xs ys : List V} (M : Mem B ms H f l) (h1 : H p = some (.lst xs)) (h2 : H q = some (.lst ys)) (hl : xs.length + ys.length ≤ sizeLine) (k : ∀ a H', Mem B ms H' f ((a, .lst (xs ++ ys)) :: l) → Q (.ref a) H') : rCat (.ref p) (.ref q) H Q :=
  ⟨p, q, xs, ys, rfl, rfl, h1, h2, hl, fun a ha => k a _ (M.alloc ha)⟩
/-- xs[a:b] -/
theorem k_sl0 {rr : V → Option Int → Option Int → Hp → VK → Prop} {tl th : TO} (h : te σ H fun x H1 => tl σ H1 fun l H2 => th σ H2 fun u H3 => rr x l u H3 Q) : tSl rr te tl th σ H Q := h
theorem k_slL {B : Hp} {ms : List Addr} {f l : List (Addr × HO)} {p : Addr} {xs : List V} {lo hi : Option Int} (M : Mem B ms H f l) (h1 : SqL K H p xs) (k : ∀ a H', Mem B ms H' f ((a, .lst (cutV xs lo hi)) :: l) → Q (.ref a) H') : rSlL K (.ref p) lo hi H Q :=
  ⟨p, xs, rfl, h1, fun a ha => k a _ (M.alloc ha)⟩
theorem k_nopart {QO : Option Int → Hp → Prop} (q : QO none H) : tNoPart σ H QO := q
theorem k_part {QO : Option Int → Hp → Prop} (q : te σ H fun x H1 => ∃ i, x = .int i ∧ QO (some i) H1) : tPart te σ H QO := q
theorem k_parti {i : Int} {PQ : Int → Prop} (q : PQ i) : ∃ i', V.int i = .int i' ∧ PQ i' := ⟨i, rfl, q⟩
end
section
variable {σ : L2.St} {H : Hp} {tA : TA} {C : Addr} {fs : List Str} {X : XK} {f g h : Str} {v u t : V}
theorem k_err0 (q : tA σ H fun vs H1 => vs.length = fs.length ∧ errQ C fs vs H1 X) : tMkErr C fs tA σ H X := q
theorem k_errQ0 (q : X (.ref C) none H) : ([] : List V).length = ([] : List Str).length ∧ errQ C [] [] H X := ⟨rfl, q⟩
theorem k_errQ1 (q : ∀ d, H d = none → X (.ref C) (some d) (upd H d (.xd [(f, v)]))) : [v].length = [f].length ∧ errQ C [f] [v] H X := ⟨rfl, q⟩
theorem k_errQ2 (q : ∀ d, H d = none → X (.ref C) (some d) (upd H d (.xd [(g, u), (f, v)]))) : [v, u].length = [f, g].length ∧ errQ C [f, g] [v, u] H X := ⟨rfl, q⟩
theorem k_errQ3 (q : ∀ d, H d = none → X (.ref C) (some d) (upd H d (.xd [(h, t), (g, u), (f, v)]))) : [v, u, t].length = [f, g, h].length ∧ errQ C [f, g, h] [v, u, t] H X := ⟨rfl, q⟩
end
/-- a class of the module, as a value -/
theorem g_ref {X : Cx} {x : Str} {C : Addr} {pos : Pos} (hm : X.mg x = some (.ref C)) (hg : Gl X x := by rfl) (hd : (x == ("__debug__" : Str)) = false := by decide) : PE X (.Name x pos) (tC (.ref C)) := pe_glob (v := .ref C) hg hm rfl hd
/-- a built-in class, as a value -/
theorem g_ty {X : Cx} {x : Str} {n : String} {pos : Pos} (hm : X.mg x = none) (hv : bootBuiltins x = some (.type n)) (hg : Gl X x := by rfl) (hn : x ≠ "__name__" := by decide) (hd : (x == ("__debug__" : Str)) = false := by decide) : PE X (.Name x pos) (tC (.ty n)) := pe_bltn (v := .ty n) hg hm hv rfl hn hd
theorem log2_64 {i : Int} (h : -(2 ^ 64) < i) (h2 : i < 2 ^ 64) : i.natAbs.log2 < 1920 := by
  by_cases e : i.natAbs = 0
  · rw [e]; decide
  · exact Nat.lt_of_lt_of_le ((Nat.log2_lt e).mpr (show i.natAbs < 2 ^ 64 by omega)) (by decide)
theorem strI_len {i : Int} (h : -(2 ^ 64) < i) (h2 : i < 2 ^ 64) : (Str.ofString (toString i)).length ≤ 31 := by
  rw [PySem.ofString_length]
  exact int_text_length_le10 (k := 30) (by decide) (by omega)
end MyL

set_option Elab.async false
set_option linter.all false
set_option maxRecDepth 100000
set_option maxHeartbeats 4000000
/-! Loops by a word between two turns. -/
namespace MyL
open PySem L2
/-- for k in a range that begins at lo and has n turns -/
def RngLoop (lo : Int) (n : Nat) (g : TG) (tb : TS) (nx : L2.St → Hp → Prop) (rt : VK) (σ : L2.St) (H : Hp) : Prop :=
  ∃ Pv : Nat → L2.St → Hp → Prop, Pv 0 σ H ∧ (∀ i σ' H', i < n → Pv i σ' H' → g (.int (lo + i)) σ' H' fun σ2 H2 => tb ⟨Pv (i + 1), rt, nx, Pv (i + 1)⟩ σ2 H2) ∧ ∀ σ' H', Pv n σ' H' → nx σ' H'
/-- for x in a list of xs -/
def LstLoop (K : PySem.W.Frag) (a : Addr) (xs : List V) (g : TG) (tb : TS) (nx : L2.St → Hp → Prop) (rt : VK) (σ : L2.St) (H : Hp) : Prop :=
  ∃ Pv : Nat → L2.St → Hp → Prop, Pv 0 σ H ∧ (∀ i σ' H', i ≤ xs.length → Pv i σ' H' → SqL K H' a xs) ∧ (∀ i x σ' H', xs[i]? = some x → Pv i σ' H' → g x σ' H' fun σ2 H2 => tb ⟨Pv (i + 1), rt, nx, Pv (i + 1)⟩ σ2 H2) ∧ ∀ σ' H', Pv xs.length σ' H' → nx σ' H'
def TupLoop (K : PySem.W.Frag) (a : Addr) (xs : List V) (g : TG) (tb : TS) (nx : L2.St → Hp → Prop) (rt : VK) (σ : L2.St) (H : Hp) : Prop :=
  ∃ Pv : Nat → L2.St → Hp → Prop, Pv 0 σ H ∧ (∀ i σ' H', i ≤ xs.length → Pv i σ' H' → SqT K H' a xs) ∧ (∀ i x σ' H', xs[i]? = some x → Pv i σ' H' → g x σ' H' fun σ2 H2 => tb ⟨Pv (i + 1), rt, nx, Pv (i + 1)⟩ σ2 H2) ∧ ∀ σ' H', Pv xs.length σ' H' → nx σ' H'
/-- a comprehension over a range, over a list -/
def LcR (lo : Int) (n : Nat) (g : TG) (tt : TT) (te : TE) (vs : List Nat) (σ : L2.St) (H : Hp) (Q : VK) : Prop :=
  ∀ D, H D = none → ∃ Pv : Nat → Hp → Prop, Pv 0 (upd H D (.lst [])) ∧ (∀ i H', i < n → Pv i H' → g (.int (lo + i)) (wipe σ vs) H' fun σ2 H2 => wipe σ2 vs = wipe σ vs ∧ tt σ2 H2 fun b H3 =>
    if b = true then te σ2 H3 fun y H4 => ∃ acc, H4 D = some (.lst acc) ∧ acc.length < sizeLine ∧ Pv (i + 1) (upd H4 D (.lst (acc ++ [y]))) else Pv (i + 1) H3) ∧ ∀ H', Pv n H' → Q (.ref D) H'
def LcL (K : PySem.W.Frag) (a : Addr) (xs : List V) (g : TG) (tt : TT) (te : TE) (vs : List Nat) (σ : L2.St) (H : Hp) (Q : VK) : Prop :=
  ∀ D, H D = none → ∃ Pv : Nat → Hp → Prop, Pv 0 (upd H D (.lst [])) ∧ (∀ i H', i ≤ xs.length → Pv i H' → SqL K H' a xs) ∧ (∀ i x H', xs[i]? = some x → Pv i H' → g x (wipe σ vs) H' fun σ2 H2 => wipe σ2 vs = wipe σ vs ∧ tt σ2 H2 fun b H3 =>
    if b = true then te σ2 H3 fun y H4 => ∃ acc, H4 D = some (.lst acc) ∧ acc.length < sizeLine ∧ Pv (i + 1) (upd H4 D (.lst (acc ++ [y]))) else Pv (i + 1) H3) ∧ ∀ H', Pv xs.length H' → Q (.ref D) H'
def iJ (J : It) : TI := fun _ H R => R J H
section
variable {nx : L2.St → Hp → Prop} {rt : VK} {bk ct : L2.St → Hp → Prop} {σ : L2.St} {H : Hp} {tb : TS} {g : TG} {te tl : TE} {tt : TT} {Q : VK} {tA : TA} {K : PySem.W.Frag} {D : Ends} {vs : List Nat}
theorem k_forR1 (h : tA σ H fun vs H1 => ∃ j : Int, vs = [.int j] ∧ -(2 ^ 62) ≤ j ∧ j < 2 ^ 62 ∧ tFor (iJ (Itr 0 j.toNat)) g tb D σ H1) : tFor (iRng1 tA) g tb D σ H := h
theorem k_forR2 (h : tA σ H fun vs H1 => ∃ i j : Int, vs = [.int i, .int j] ∧ (-(2 ^ 62) ≤ i ∧ i < 2 ^ 62 ∧ -(2 ^ 62) ≤ j ∧ j < 2 ^ 62) ∧ tFor (iJ (Itr i (j - i).toNat)) g tb D σ H1) : tFor (iRng2 tA) g tb D σ H := h
theorem k_forL (h : tl σ H fun x H1 => ∃ a, x = .ref a ∧ (∃ xs, SqL K H1 a xs) ∧ tFor (iJ (Itl K a)) g tb D σ H1) : tFor (iList K tl) g tb D σ H := h
theorem k_forT (h : tl σ H fun x H1 => ∃ a, x = .ref a ∧ (∃ xs, SqT K H1 a xs) ∧ tFor (iJ (Itt K a)) g tb D σ H1) : tFor (iTup K tl) g tb D σ H := h
theorem k_lcR1 (h : tA σ H fun zs H1 => ∃ j : Int, zs = [.int j] ∧ -(2 ^ 62) ≤ j ∧ j < 2 ^ 62 ∧ tLc (iJ (Itr 0 j.toNat)) g tt te vs σ H1 Q) : tLc (iRng1 tA) g tt te vs σ H Q := h
theorem k_lcR2 (h : tA σ H fun zs H1 => ∃ i j : Int, zs = [.int i, .int j] ∧ (-(2 ^ 62) ≤ i ∧ i < 2 ^ 62 ∧ -(2 ^ 62) ≤ j ∧ j < 2 ^ 62) ∧ tLc (iJ (Itr i (j - i).toNat)) g tt te vs σ H1 Q) : tLc (iRng2 tA) g tt te vs σ H Q := h
theorem k_lcL (h : tl σ H fun x H1 => ∃ a, x = .ref a ∧ (∃ xs, SqL K H1 a xs) ∧ tLc (iJ (Itl K a)) g tt te vs σ H1 Q) : tLc (iList K tl) g tt te vs σ H Q := h
theorem k_rng1 {n : Int} {PR : Int → Prop} (h1 : -(2 ^ 62) ≤ n) (h2 : n < 2 ^ 62) (q : PR n) : ∃ j : Int, [V.int n] = [.int j] ∧ -(2 ^ 62) ≤ j ∧ j < 2 ^ 62 ∧ PR j := ⟨n, rfl, h1, h2, q⟩
theorem k_rng2 {m n : Int} {PR : Int → Int → Prop} (h1 : -(2 ^ 62) ≤ m) (h2 : m < 2 ^ 62) (h3 : -(2 ^ 62) ≤ n) (h4 : n < 2 ^ 62) (q : PR m n) : ∃ i j : Int, [V.int m, V.int n] = [.int i, .int j] ∧ (-(2 ^ 62) ≤ i ∧ i < 2 ^ 62 ∧ -(2 ^ 62) ≤ j ∧ j < 2 ^ 62) ∧ PR i j := ⟨m, n, rfl, ⟨h1, h2, h3, h4⟩, q⟩
theorem k_lstAt {p : Addr} {xs : List V} {PR : Addr → Prop} (h : SqL K H p xs) (q : PR p) : ∃ a, V.ref p = .ref a ∧ (∃ xs, SqL K H a xs) ∧ PR a := ⟨p, rfl, ⟨xs, h⟩, q⟩
theorem k_tupAt {p : Addr} {xs : List V} {PR : Addr → Prop} (h : SqT K H p xs) (q : PR p) : ∃ a, V.ref p = .ref a ∧ (∃ xs, SqT K H a xs) ∧ PR a := ⟨p, rfl, ⟨xs, h⟩, q⟩
theorem rng_loop {lo : Int} {n : Nat} (h : RngLoop lo n g tb nx rt σ H) : tFor (iJ (Itr lo n)) g tb ⟨nx, rt, bk, ct⟩ σ H := by
  obtain ⟨Pv, h0, hs, hd⟩ := h
  exact for_range (D := ⟨nx, rt, bk, ct⟩) Pv h0 hs hd
theorem lst_loop {a : Addr} {xs : List V} (h : LstLoop K a xs g tb nx rt σ H) : tFor (iJ (Itl K a)) g tb ⟨nx, rt, bk, ct⟩ σ H := by
  obtain ⟨Pv, h0, hl, hs, hd⟩ := h
  exact for_list (D := ⟨nx, rt, bk, ct⟩) Pv h0 hl hs hd
theorem tup_loop {a : Addr} {xs : List V} (h : TupLoop K a xs g tb nx rt σ H) : tFor (iJ (Itt K a)) g tb ⟨nx, rt, bk, ct⟩ σ H := by
  obtain ⟨Pv, h0, hl, hs, hd⟩ := h
  exact for_tup (D := ⟨nx, rt, bk, ct⟩) Pv h0 hl hs hd
theorem lc_rng {lo : Int} {n : Nat} (h : LcR lo n g tt te vs σ H Q) : tLc (iJ (Itr lo n)) g tt te vs σ H Q := fun D hD => by
  obtain ⟨Pv, h0, hs, hd⟩ := h D hD
  exact lc_range Pv h0 hs hd
theorem lc_lst {a : Addr} {xs : List V} (h : LcL K a xs g tt te vs σ H Q) : tLc (iJ (Itl K a)) g tt te vs σ H Q := fun D hD => by
  obtain ⟨Pv, h0, hl, hs, hd⟩ := h D hD
  exact lc_list Pv h0 hl hs hd
theorem k_iteNE {x : Bool} {A Z : Prop} (h : Z) : if (!(x == x)) = true then A else Z := by
  rw [if_neg (by simp)]; exact h
theorem k_iteNS {z : Str} {A Z : Prop} (h : Z) : if (!decide (z = z)) = true then A else Z := by
  rw [if_neg (by simp)]; exact h
theorem k_gName {i : Nat} {v : V} {QG : L2.St → Hp → Prop} (q : QG (σ.set i (some v)) H) : gName i v σ H QG := q
theorem Mem.one {B : Hp} {ms : List Addr} {f l : List (Addr × HO)} {x : Addr × HO} (M : Mem B ms H f (x :: l)) : Mem B ms H f [x] := by
  refine ⟨M.atF, fun p hp => M.atL p (by simp at hp; simp [hp]), ?_, M.keep, M.tr, fun p hp => M.new p (by simp at hp; simp [hp])⟩
  have nd := M.nd
  simp only [List.cons_append, List.map_cons, List.nodup_cons, List.map_append, List.nil_append, List.nodup_append, List.mem_append, List.append_eq] at nd ⊢
  exact ⟨fun z => nd.1 (.inr z), nd.2.2.1⟩
theorem Mem.none {B : Hp} {ms : List Addr} {f l : List (Addr × HO)} (M : Mem B ms H f l) : Mem B ms H f [] := by
  refine ⟨M.atF, (fun p hp => nomatch hp), ?_, M.keep, M.tr, (fun p hp => nomatch hp)⟩
  have nd := M.nd
  rw [List.map_append, List.nodup_append] at nd
  simpa using nd.2.1
/-- a comprehension over a range without a test, whose element is reckoned and makes nothing -/
theorem lcR_pure {B : Hp} {ms : List Addr} {f l : List (Addr × HO)} {lo : Int} {n j : Nat} (M : Mem B ms H f l) (v : Nat → V) (hn : n ≤ 50000) (hw : ∀ x, wipe ((wipe σ vs).set j (some x)) vs = wipe σ vs)
    (he : ∀ (i : Nat) H' D (R : VK), i < n → Mem B ms H' f ((D, .lst ((List.range i).map v)) :: l) → (∀ H4, Mem B ms H4 f ((D, .lst ((List.range i).map v)) :: l) → R (v i) H4) → te ((wipe σ vs).set j (some (.int (lo + i)))) H' R)
    (k : ∀ D H', Mem B ms H' f ((D, .lst ((List.range n).map v)) :: l) → Q (.ref D) H') : tLc (iJ (Itr lo n)) (gName j) tYes te vs σ H Q := by
  refine lc_rng fun D hD => ⟨fun i H' => Mem B ms H' f ((D, .lst ((List.range i).map v)) :: l), M.alloc hD, fun i H' hi M' => ⟨hw _, ?_⟩, fun H' M' => k D H' M'⟩
  refine iteT (B := Mem B ms H' f ((D, .lst ((List.range (i + 1)).map v)) :: l)) (he i H' D _ hi M' fun H4 M4 => ⟨_, M4.getL List.mem_cons_self, ?_, ?_⟩)
  · rw [List.length_map, List.length_range]; exact Nat.lt_of_lt_of_le hi (Nat.le_trans hn (by decide))
  · dsimp only; rw [List.range_succ, List.map_append]; exact Mem.setL (l1 := []) M4
/-- .. over a list -/
theorem lcL_pure {B : Hp} {ms : List Addr} {f l : List (Addr × HO)} {a : Addr} {xs : List V} {j : Nat} (M : Mem B ms H f l) (hx : ∀ H', Mem B ms H' f l → SqL K H' a xs) (v : Nat → V) (hn : xs.length ≤ 50000) (hw : ∀ x, wipe ((wipe σ vs).set j (some x)) vs = wipe σ vs)
    (he : ∀ (i : Nat) x H' D (R : VK), xs[i]? = some x → Mem B ms H' f ((D, .lst ((List.range i).map v)) :: l) → (∀ H4, Mem B ms H4 f ((D, .lst ((List.range i).map v)) :: l) → R (v i) H4) → te ((wipe σ vs).set j (some x)) H' R)
    (k : ∀ D H', Mem B ms H' f ((D, .lst ((List.range xs.length).map v)) :: l) → Q (.ref D) H') : tLc (iJ (Itl K a)) (gName j) tYes te vs σ H Q := by
  refine lc_lst (xs := xs) fun D hD => ⟨fun i H' => Mem B ms H' f ((D, .lst ((List.range i).map v)) :: l), M.alloc hD, fun i H' _ M' => hx H' M'.drop, fun i x H' hi M' => ⟨hw _, ?_⟩, fun H' M' => k D H' M'⟩
  refine iteT (B := Mem B ms H' f ((D, .lst ((List.range (i + 1)).map v)) :: l)) (he i x H' D _ hi M' fun H4 M4 => ⟨_, M4.getL List.mem_cons_self, ?_, ?_⟩)
  · rw [List.length_map, List.length_range]; exact Nat.lt_of_lt_of_le (List.getElem?_eq_some_iff.mp hi).1 (Nat.le_trans hn (by decide))
  · dsimp only; rw [List.range_succ, List.map_append]; exact Mem.setL (l1 := []) M4
end
end MyL

set_option Elab.async false
set_option linter.all false
set_option maxRecDepth 100000
set_option maxHeartbeats 4000000
/-! What is asked of a caught error, step by step. -/
namespace MyL
open PySem L2
section
variable {K : PySem.W.Frag} {H : Hp} {Q : VK} {D a dd C1 C2 C3 : Addr} {fs : List (Str × V)} {b : Bool} {σ : L2.St} {te : TE} {f : Str} {v : V}
theorem k_isXo (hD : ExcK K D) (hd : H dd = some (.xd fs)) (e : PySem.W.kitOne K (.ref D) (.ref C1) = some b) (q : Q (.bl b) H) : rIsX K (.ref D) (some dd) a [.ref a, .ref C1] H Q := ⟨D, _, _, b, rfl, hD, ⟨fs, hd⟩, rfl, .own C1, e, q⟩
theorem k_isXs (hD : ExcK K D) (hd : H dd = some (.xd fs)) (q : Q (.bl true) H) : rIsX K (.ref D) (some dd) a [.ref a, .ref D] H Q := k_isXo hD hd (by simp [PySem.W.kitOne]) q
theorem k_isXt {n : String} (hD : ExcK K D) (hd : H dd = some (.xd fs)) (e : PySem.W.kitOne K (.ref D) (.type n) = some b) (q : Q (.bl b) H) : rIsX K (.ref D) (some dd) a [.ref a, .ty n] H Q := ⟨D, _, _, b, rfl, hD, ⟨fs, hd⟩, rfl, .ty n, e, q⟩
theorem k_isX3 {tp : Addr} (hD : ExcK K D) (hd : H dd = some (.xd fs)) (ht : H tp = some (.tup [.ref C1, .ref C2, .ref C3])) (e : PySem.W.kitAny K (.ref D) [.ref C1, .ref C2, .ref C3] = some b) (q : Q (.bl b) H) : rIsXT K (.ref D) (some dd) a [.ref a, .ref tp] H Q :=
  ⟨D, tp, _, _, b, rfl, hD, ⟨fs, hd⟩, rfl, ht, .cons (.own C1) (.cons (.own C2) (.cons (.own C3) .nil)), e, q⟩
theorem k_isX2 {tp : Addr} (hD : ExcK K D) (hd : H dd = some (.xd fs)) (ht : H tp = some (.tup [.ref C1, .ref C2])) (e : PySem.W.kitAny K (.ref D) [.ref C1, .ref C2] = some b) (q : Q (.bl b) H) : rIsXT K (.ref D) (some dd) a [.ref a, .ref tp] H Q :=
  ⟨D, tp, _, _, b, rfl, hD, ⟨fs, hd⟩, rfl, ht, .cons (.own C1) (.cons (.own C2) .nil), e, q⟩
theorem k_xf0 {cls : Value} {d : Option Addr} (h : te σ H fun x H1 => x = .ref a ∧ cls = .ref D ∧ ∃ (dd : Addr) (fs : List (Str × V)) (v : V), d = some dd ∧ H1 dd = some (.xd fs) ∧ fs.lookup f = some v ∧ Q v H1) : tXf a cls d D f te σ H Q := h
theorem k_xf {PV : V → Prop} (hd : H dd = some (.xd fs)) (hl : fs.lookup f = some v) (q : PV v) : V.ref a = .ref a ∧ Value.ref D = .ref D ∧ ∃ (dd' : Addr) (fs' : List (Str × V)) (v' : V), some dd = some dd' ∧ H dd' = some (.xd fs') ∧ fs'.lookup f = some v' ∧ PV v' := ⟨rfl, rfl, dd, fs, v, rfl, hd, hl, q⟩
theorem xd1 {g : Str} {v : V} : List.lookup g [(g, v)] = some v := by simp [List.lookup]
theorem xd2 {g h : Str} {v u : V} (n : ¬ g = h) : List.lookup g [(h, u), (g, v)] = some v := by
  rw [lookup_put, if_neg n, lookup_put, if_pos rfl]
/-- the clause takes the error -/
theorem k_caught {K : PySem.W.Frag} {c : Value} {i : Nat} {ts : Addr → Value → Option Addr → TS} {Wout : WX} {nx : L2.St → Hp → Prop} {rt : VK} {bk ct : L2.St → Hp → Prop} {cls : Value} {d : Option Addr} (h : PySem.W.exmOne K cls c = some true)
    (q : ∀ a, H a = none → ts a cls d ⟨fun σ' H' => nx (σ'.set i none) H', rt, fun σ' H' => bk (σ'.set i none) H', fun σ' H' => ct (σ'.set i none) H'⟩ (σ.set i (some (.ref a))) H) : wAs K c i ts Wout ⟨nx, rt, bk, ct⟩ cls d σ H :=
  ⟨true, h, fun _ => q, fun z => nomatch z⟩
/-- the script's list -/
theorem k_lenS {p : Addr} {ns : List Int} (h : SqL K H p (ns.map V.int)) (q : Q (.int ns.length) H) : rLenQ K [.ref p] H Q := ⟨p, _, rfl, .inl h, by rw [List.length_map]; exact q⟩
theorem k_ixS {p : Addr} {xs : List V} {j : Int} {v : V} (h : SqL K H p xs) (ha : atI xs j = some v) (q : Q v H) : rIxL K (.ref p) (.int j) H Q := ⟨p, xs, j, v, rfl, rfl, h, ha, q⟩
theorem cut_all {xs : List V} {n : Int} (h : (xs.length : Int) ≤ n) : cutV xs none (some n) = xs := by
  unfold cutV
  have h0 : HT.sIx xs.length 0 none = 0 := rfl
  have h1 : HT.sIx xs.length xs.length (some n) = xs.length := by
    show (if n < 0 then (n + (xs.length : Int)).toNat else min n.toNat xs.length) = xs.length
    rw [if_neg (by omega)]
    omega
  rw [h0, h1]
  simp
end
end MyL

set_option Elab.async false
set_option linter.all false
set_option maxRecDepth 100000
set_option maxHeartbeats 4000000
/-! A class of one's own made by keywords alone. -/
namespace MyL
open PySem PySem.Spec PyProof.Rows L2
structure MakK (P : Program) (w : World) (K : PySem.W.Frag) (mg : Str → Option Value) (base : Heap) (k : Nat) (x : Str) (C : Addr) (ks : List Str) (pm : {α : Type} → List α → List α) (sp : Sp) : Prop where
  ex : ∃ (f : Addr) (fd : FuncData) (ps : List Str), mg x = some (.ref C) ∧ Mk K C f ∧ (∀ (s : Shared) (u : Value) (ws : List Value), K.In s.heap → ws.length = ks.length → BindsTo s fd ⟨[u], ks.zip ws⟩ (ps.zip (u :: pm ws))) ∧
    (∀ (zs : List V) (ws : List Value), Vals zs ws → zs.length = ks.length → Vals (pm zs) (pm ws)) ∧ FnOk P w K mg base (L2.CX P w) k f fd ps sp
def tMakeK (C : Addr) (sp : Sp) (pm : List V → List V) (n : Nat) (W : WX) (tk : TA) : TE := fun σ H Q => tk σ H fun zs H1 => zs.length = n ∧ newO C sp (pm zs) H1 Q (WE W σ)
section
variable {X : Cx} {W : WX} {k j : Nat} {C : Addr} {sp : Sp} {x : Str} {p pos : Pos} {kws : List Keyword} {ks : List Str} {t : TA} {pm : {α : Type} → List α → List α}
theorem c_makeK (c : MakK X.prog X.w X.K X.mg X.base k x C ks pm sp) (tk : Takes X W) (hr : Room j X.A) (hk : k + 1 ≤ j) (hkw : PK X kws t) (hg : Gl X x := by rfl) (hall : (backToKw pos (keywordEach kws X.env)).all (·.1.isSome) = true := by rfl) (hks : (backToKw pos (keywordEach kws X.env)).filterMap (·.1) = ks := by rfl)
    (hdb : (x == ("__debug__" : Str)) = false := by decide) (hpl : ((backTo pos (starEach [] X.env)).any (·.1) || (backToKw pos (keywordEach kws X.env)).any (·.1.isNone)) = false := by rfl) :
    PE X (.Call (.Name x p) [] kws pos) (tMakeK C sp pm ks.length W t) := by
  obtain ⟨f, fd, ps, hm, M, hb, hrel, F⟩ := c.ex
  refine ⟨fun pins s σ H Q I h => ?_⟩
  refine wpAny_Call_Name_kw (ld_glob I hg hm ?_ hdb)
  refine PySem.W.callWith_KW0 (first := []) (h₀ := X.base) I.ok.mod.kin M.kp hall (thn (hkw.run pos pins s σ H _ I h) fun ws s1 hh => ?_) hpl
  obtain ⟨zs, H1, I1, rz, hl, q⟩ := hh
  refine ⟨I1.kIn, ?_⟩
  rw [hks]
  have hwl : ws.length = ks.length := by rw [← rz.length]; exact hl
  have hq := q (s1.heap.objs.size + 1) s1.heap.objs.size (I1.hok.fresh (Nat.le_succ _)) (I1.hok.fresh (Nat.le_refl _)) (Nat.ne_of_lt (Nat.lt_succ_self _))
  have I2 := Inv.made (C := C) I1
  have r2 : Vals (V.ref (s1.heap.objs.size + 1) :: pm zs) (Value.ref (s1.heap.objs.size + 1) :: pm ws) := .cons rfl (hrel zs ws rz hl)
  have hr2 : Room (k + 1) X.A := hr.mono hk
  show wpAny _ _ (call (.ref C) [] (ks.zip ws)) _ _ _
  refine wpAny_call (make_map (f := f) I1.kIn M.makes M.init (beq_iff_eq.mp M.fn) (codeAny_mono (F.run _ X.stack _ _ ⟨[Value.ref (s1.heap.objs.size + 1)], ks.zip ws⟩ (Value.ref (s1.heap.objs.size + 1) :: pm ws) _ _ (WE W σ) (hr2.make C [] (ks.zip ws))
    (I2.env0.make C [] (ks.zip ws)) (hb _ _ ws I2.kIn hwl) r2 hq) fun r s' hq' => ?_))
  match r, hq' with
  | .error e, hq' => exact passAt tk σ pins _ _ e s' I2 hq'
  | .ok (.ret u), hq' =>
    obtain ⟨v, H', I3, rv, ev, q3⟩ := I2.after hq'
    subst ev
    exact ⟨rv, ⟨V.ref (s1.heap.objs.size + 1), H', I3, rfl, q3⟩⟩
  | .ok .next, hq' => exact hq'.elim
  | .ok .brk, hq' => exact hq'.elim
  | .ok .cont, hq' => exact hq'.elim
theorem k_makeK0 {σ : L2.St} {H : Hp} {Q : VK} {pm : List V → List V} {n : Nat} (h : t σ H fun zs H1 => zs.length = n ∧ newO C sp (pm zs) H1 Q (WE W σ)) : tMakeK C sp pm n W t σ H Q := h
end
/-- two turned about -/
def swap2 {α : Type} : List α → List α
  | [a, b] => [b, a]
  | l => l
theorem k_swap2 {H : Hp} {Q : VK} {E : XK} {C : Addr} {sp : Sp} {u v : V} (q : newO C sp [v, u] H Q E) : [u, v].length = 2 ∧ newO C sp (swap2 [u, v]) H Q E := ⟨rfl, q⟩
end MyL

set_option Elab.async false
set_option linter.all false
set_option maxRecDepth 100000
set_option maxHeartbeats 4000000
/-! A comprehension whose element makes an object at every turn. -/
namespace MyL
open PySem L2
section
variable {σ : L2.St} {H : Hp} {te : TE} {Q : VK} {K : PySem.W.Frag} {vs : List Nat} {B : Hp} {ms : List Addr} {f l : List (Addr × HO)}
theorem Mem.swap {x y : Addr × HO} (M : Mem B ms H f (x :: y :: l)) : Mem B ms H f (y :: x :: l) := by
  refine ⟨M.atF, fun p hp => M.atL p ?_, ?_, M.keep, M.tr, fun p hp => M.new p ?_⟩
  · simp at hp ⊢; rcases hp with h | h | h <;> simp [h]
  · have nd := M.nd
    simp only [List.cons_append, List.map_cons, List.nodup_cons, List.mem_cons, not_or] at nd ⊢
    exact ⟨⟨fun z => nd.1.1 z.symm, nd.2.1⟩, nd.1.2, nd.2.2⟩
  · simp at hp ⊢; rcases hp with h | h | h <;> simp [h]
theorem lcL_new {O : V → HO → Prop} {a : Addr} {xs : List V} {j : Nat} (M : Mem B ms H f l) (hx : ∀ H' l', Mem B ms H' f l' → SqL K H' a xs) (hn : xs.length ≤ 50000) (hw : ∀ x, wipe ((wipe σ vs).set j (some x)) vs = wipe σ vs)
    (he : ∀ x H' l' (R : VK), x ∈ xs → Mem B ms H' f l' → (∀ y o H4, O x o → Mem B ms H4 f ((y, o) :: l') → R (.ref y) H4) → te ((wipe σ vs).set j (some x)) H' R)
    (k : ∀ (D : Addr) (zs : List (Addr × HO)) (H' : Hp), zs.length = xs.length → (∀ (n : Nat) (x : V) (z : Addr × HO), xs[n]? = some x → zs[n]? = some z → O x z.2) → Mem B ms H' f ((D, .lst (zs.map fun z => V.ref z.1)) :: (zs.reverse ++ l)) → Q (.ref D) H') : tLc (iJ (Itl K a)) (gName j) tYes te vs σ H Q := by
  refine lc_lst (xs := xs) fun D hD => ⟨fun i H' => ∃ zs : List (Addr × HO), zs.length = i ∧ (∀ (n : Nat) (x : V) (z : Addr × HO), xs[n]? = some x → zs[n]? = some z → O x z.2) ∧ Mem B ms H' f ((D, .lst (zs.map fun z => V.ref z.1)) :: (zs.reverse ++ l)), ?_, ?_, ?_, ?_⟩
  · exact ⟨[], rfl, (fun n x z _ h => by simp at h), M.alloc hD⟩
  · rintro i H' _ ⟨zs, _, _, M'⟩
    exact hx H' _ M'
  · rintro i x H' hi ⟨zs, hz, hO, M'⟩
    refine ⟨hw _, ?_⟩
    refine iteT (B := ∃ zs : List (Addr × HO), zs.length = i + 1 ∧ (∀ (n : Nat) (x : V) (z : Addr × HO), xs[n]? = some x → zs[n]? = some z → O x z.2) ∧ Mem B ms H' f ((D, .lst (zs.map fun z => V.ref z.1)) :: (zs.reverse ++ l))) (he x H' _ _ (List.mem_of_getElem? hi) M' fun y o H4 ho M4 => ?_)
    have hil : i < xs.length := by
      have := List.getElem?_eq_some_iff.1 hi
      exact this.1
    refine ⟨_, M4.getL (List.mem_cons_of_mem _ List.mem_cons_self), ?_, zs ++ [(y, o)], ?_, ?_, ?_⟩
    · rw [List.length_map, hz]; exact Nat.lt_of_lt_of_le hil (Nat.le_trans hn (by decide))
    · simp [hz]
    · intro n x' z hx' hz'
      by_cases hlt : n < i
      · rw [List.getElem?_append_left (by omega)] at hz'
        exact hO n x' z hx' hz'
      · have hni : n = i := by
          have := (List.getElem?_eq_some_iff.1 hz').1
          simp at this
          omega
        subst hni
        rw [List.getElem?_append_right (by omega), hz, Nat.sub_self] at hz'
        rw [hi] at hx'
        simp at hx' hz'
        subst hx' hz'
        exact ho
    · have := (Mem.setL (l1 := [(y, o)]) (o' := .lst (List.map (fun z : Addr × HO => V.ref z.1) (zs ++ [(y, o)]))) M4).swap
      simpa using this
  · rintro H' ⟨zs, hz, hO, M'⟩
    exact k D zs H' hz hO M'
theorem k_swapK {E : XK} {C : Addr} {sp : Sp} {u v : V} {s t : Str} (q : newO C sp [v, u] H Q E) : [u, v].length = [s, t].length ∧ newO C sp (swap2 [u, v]) H Q E := ⟨rfl, q⟩
theorem k_iteNEq {x y : Bool} {A Z : Prop} (e : x = y) (h : Z) : if (!(x == y)) = true then A else Z := by
  subst e; rw [if_neg (by simp)]; exact h
end
end MyL

set_option Elab.async false
set_option linter.all false
set_option maxRecDepth 100000
set_option maxHeartbeats 4000000
/-! The end: what the top has written, def by def, and the law's own head. -/
namespace MyL
open PySem PySem.Spec PyProof.Rows L2
def DefAt (K : PySem.W.Frag) (mg : Str → Option Value) (x qual : Str) (st : Stmt) : Prop := ∃ (f : Addr) (fd : FuncData), mg x = some (.ref f) ∧ Fun K x qual st f fd
def MethAt (K : PySem.W.Frag) (C : Addr) (m qual : Str) (st : Stmt) : Prop := ∃ (f : Addr) (fd : FuncData), PySem.W.findIn K (.ref C) m = some (some (.ref f)) ∧ PySem.W.isFn K (.ref f) = true ∧ Fun K m qual st f fd
section
variable {P : Program} {w : World} {K : PySem.W.Frag} {mg : Str → Option Value} {base h : Heap} {k : Nat} {C f : Addr} {x m qual : Str} {sp : Sp} {st : Stmt} {fd : FuncData} {ps : List Str} {oc : Value} {od an : Option Addr} {osl : Array (Option Value)} {kV doc pm cdv ct : Value}
theorem gdef (X : K.In h) (G : h.Ns mainGlobals mg) (a : PySem.W.nsIn K mainGlobals x = some (some (.ref f))) (l : K.lookup f = some ⟨oc, od, .func (PySem.W.fnOf x qual (defArgs st) (defBody st) (defScope st) .none kV doc pm an cdv ct), osl⟩)
    (c : PySem.W.codeIn K cdv qual = true) (kp : PySem.W.keepIn K (.ref f) = true) : DefAt K mg x qual st := ⟨f, _, PySem.W.mg_of X G a, fun_mk l c kp⟩
theorem gmeth (a : PySem.W.findIn K (.ref C) m = some (some (.ref f))) (i : PySem.W.isFn K (.ref f) = true) (l : K.lookup f = some ⟨oc, od, .func (PySem.W.fnOf m qual (defArgs st) (defBody st) (defScope st) .none kV doc pm an cdv ct), osl⟩)
    (c : PySem.W.codeIn K cdv qual = true) (kp : PySem.W.keepIn K (.ref f) = true) : MethAt K C m qual st := ⟨f, _, a, i, fun_mk l c kp⟩
/-- the arguments of a def of the text bind by place -/
def BindsSt (x qual : Str) (st : Stmt) (ps : List Str) : Prop := ∀ (kV doc pm : Value) (an : Option Addr) (cdv ct : Value) (us : List Value), us.length = ps.length → bindArgs (PySem.W.fnOf x qual (defArgs st) (defBody st) (defScope st) .none kV doc pm an cdv ct) ⟨us, []⟩ = pure (ps.zip us)
theorem cal_of (D : DefAt K mg x qual st) (hb : BindsSt x qual st ps) (ok : ∀ {f : Addr} {fd : FuncData}, Fun K x qual st f fd → FnOk P w K mg base (L2.CX P w) k f fd ps sp) : Cal P w K mg base k x sp := by
  obtain ⟨f, fd, a, F⟩ := D
  exact ⟨f, fd, ps, a, F.kp, F.binds hb, ok F⟩
theorem calQ_of (D : DefAt K mg x qual st) (hb : BindsSt x qual st ps) (ok : ∀ {f : Addr} {fd : FuncData}, Fun K x qual st f fd → Binds K fd ps [] → FnQ P w K mg base k f sp) : CalQ P w K mg base k x sp := by
  obtain ⟨f, fd, a, F⟩ := D
  exact ⟨f, a, F.kp, ok F (F.binds hb)⟩
theorem spc_of (D : MethAt K C m qual st) (hb : BindsSt m qual st ps) (ok : ∀ {f : Addr} {fd : FuncData}, Fun K m qual st f fd → FnOk P w K mg base (L2.CX P w) k f fd ps sp) : Spc P w K mg base k C m sp := by
  obtain ⟨f, fd, a, i, F⟩ := D
  exact ⟨f, a, i, raw0 (ok F) (F.binds hb)⟩
theorem met_of (D : MethAt K C m qual st) (cl : Cls K C) (hb : BindsSt m qual st ps) (ok : ∀ {f : Addr} {fd : FuncData}, Fun K m qual st f fd → FnOk P w K mg base (L2.CX P w) k f fd ps sp) : Met P w K mg base k C m sp := by
  obtain ⟨f, fd, a, i, F⟩ := D
  exact ⟨f, fd, ps, cl, ⟨a, i, F.kp⟩, F.binds hb, ok F⟩
theorem mak_of (D : MethAt K C "__init__" qual st) (gC : mg x = some (.ref C)) (mk : PySem.W.makesIn K C = true) (kc : PySem.W.keepIn K (.ref C) = true) (hb : BindsSt "__init__" qual st ps) (ok : ∀ {f : Addr} {fd : FuncData}, Fun K "__init__" qual st f fd → FnOk P w K mg base (L2.CX P w) k f fd ps sp) : Mak P w K mg base k x C sp := by
  obtain ⟨f, fd, a, i, F⟩ := D
  exact ⟨f, fd, ps, gC, ⟨mk, a, i, kc⟩, F.binds hb, ok F⟩
def KwSt (x qual : Str) (st : Stmt) (ps ks : List Str) (pm : {α : Type} → List α → List α) : Prop := ∀ (kV doc pm' : Value) (an : Option Addr) (cdv ct : Value) (u : Value) (ws : List Value), ws.length = ks.length → bindArgs (PySem.W.fnOf x qual (defArgs st) (defBody st) (defScope st) .none kV doc pm' an cdv ct) ⟨[u], ks.zip ws⟩ = pure (ps.zip (u :: pm ws))
theorem swap2_vals {zs : List V} {ws : List Value} (r : Vals zs ws) : Vals (swap2 zs) (swap2 ws) := by
  cases r with
  | nil => exact .nil
  | cons h1 r1 =>
    cases r1 with
    | nil => exact .cons h1 .nil
    | cons h2 r2 =>
      cases r2 with
      | nil => exact .cons h2 (.cons h1 .nil)
      | cons h3 r3 => exact .cons h1 (.cons h2 (.cons h3 r3))
theorem makK_of {ks : List Str} (D : MethAt K C "__init__" qual st) (gC : mg x = some (.ref C)) (mk : PySem.W.makesIn K C = true) (kc : PySem.W.keepIn K (.ref C) = true) (hb : KwSt "__init__" qual st ps ks swap2) (ok : ∀ {f : Addr} {fd : FuncData}, Fun K "__init__" qual st f fd → FnOk P w K mg base (L2.CX P w) k f fd ps sp) : MakK P w K mg base k x C ks swap2 sp := by
  obtain ⟨f, fd, a, i, F⟩ := D
  obtain ⟨oc, od, kV, doc, pm', an, cdv, ct, osl, rfl, lk, hcd⟩ := id F.ex
  exact ⟨f, _, ps, gC, ⟨mk, a, i, kc⟩, fun s u ws _ hl => .of_eq (hb kV doc pm' an cdv ct u ws hl), fun zs ws r _ => swap2_vals r, ok F⟩
def spLaw (K : PySem.W.Frag) : Sp := fun vs H Q _ => ∃ (a : Addr) (ns : List Int), vs = [.ref a] ∧ SqL K H a (ns.map V.int) ∧ ns.length ≤ 63 ∧ ∀ H', Q (.bl true) H'
end
theorem law_walk {l : PySem.W.OpenLaw} {k : Nat} {q : Program} {loose : List Str} {XP : (Str → Option Value) → Heap → Prop} {YP : World → Heap → Prop} {d : DefRec} {K : Params → PySem.W.Frag} {st : Stmt} {x : Str} (hn : l.most = some 63) (hdf : d.params.defaults = []) (hr : Room k callerA)
    (hY : ∀ (w : World) (h : Heap), YP w h → (K w.params).In h)
    (hb : ∀ (kV doc pm : Value) (an : Option Addr) (cdv ct : Value) (s : Shared) (u : Value), BindsTo s (PySem.W.fnOf d.name d.name (defArgs st) (defBody st) (defScope st) .none kV doc pm an cdv ct) ⟨[u], []⟩ [(x, u)])
    (F : ∀ (w : World) (mg : Str → Option Value) (h : Heap), (K w.params).In h → h.Ns mainGlobals mg → DefAt (K w.params) mg d.name d.name st ∧ ∀ {f : Addr} {fd : FuncData}, Fun (K w.params) d.name d.name st f fd → ∀ base : Heap, FnOk l.prog w (K w.params) mg base (L2.CX l.prog w) k f fd [x] (spLaw (K w.params))) :
    PySem.W.WalkO q loose XP YP l.row.toRowW d [] (fun f vs => PySem.call f vs) := by
  refine L2.walk_of (n := 63) (k := k) (x := x) (CX := fun w => L2.CX l.prog w) (sp := fun w => spLaw (K w.params)) hn (by decide) hdf hr hY (fun w mg fa h KX G hmg => ?_) (fun _ _ a ns hl _ hS => ⟨a, ns, rfl, hS, hl, fun _ => rfl⟩) fun _ _ _ _ _ ⟨_, _, _, _, _, _, _, _, _, _, _, _, z⟩ => z
  obtain ⟨⟨f, fd, a, Fn⟩, ok⟩ := F w mg h KX G
  have e := hmg.symm.trans a
  cases e
  obtain ⟨oc, od, kV, doc, pm, an, cdv, ct, osl, rfl, lk, hcd⟩ := id Fn.ex
  exact ⟨_, fun s u => hb kV doc pm an cdv ct s u, fun base _ _ => ok Fn base⟩
end MyL

set_option Elab.async false
set_option linter.all false
set_option maxRecDepth 100000
set_option maxHeartbeats 4000000
/-! The end, for error classes of one's own. -/
namespace PySem.ErrX
open PySem PySem.W PySem.Spec PyProof.Rows L2 PySem.ErrX HandSPX
/-- what the text of an error's __init__ says -/
def ErrSt (prog : Program) (qual : Str) (st : Stmt) (fs : List Str) : Prop :=
  ∃ (rest : List Stmt) (txt : Str) (j : Nat) (p0 p1 p2 p3 p4 p5 : Pos) (ar : Arg),
    defBody st = .Expr (.Call (.Attribute (.Call (.Name "super" p0) [] [] p1) "__init__" p2) [.Constant (.str txt) j p3] [] p4) p5 :: rest ∧
    (∀ env : Env, eval (.Call (.Attribute (.Call (.Name "super" p0) [] [] p1) "__init__" p2) [.Constant (.str txt) j p3] [] p4) env = (do
      let ov ← attributeBase (.Call (.Name "super" p0) [] [] p1) "__init__" env (eval (.Call (.Name "super" p0) [] [] p1) env)
      standAt p2.atName
      let (f, first) ← holding [ov] (getMethod ov "__init__" (do return (← importBound (.Call (.Name "super" p0) [] [] p1) env).getD true))
      callWith p4 f first (backTo p4 (starEach [.Constant (.str txt) j p3] env)) [])) ∧
    (prog.main.scope.names.lookup ("super" : Str)).isSome = false ∧
    ((defArgs st).posonlyargs ++ (defArgs st).args).head? = some ar ∧ ar.arg = "self" ∧
    (defScope st).kind = .function ∧ (defScope st).isCoroutine = false ∧ (defScope st).isGenerator = false ∧ (∀ x ∈ (defScope st).names, x.2 ≠ .cell) ∧ (defScope st).names.lookup ("super" : Str) = some .globalImplicit ∧ (defScope st).names.lookup ("__class__" : Str) = some .free ∧
    (defScope st).names.lookup ("self" : Str) = some .local ∧ (∀ f ∈ fs, (defScope st).names.lookup f = some .local) ∧ (("self" : Str) :: fs).Nodup ∧
    Asgs fs rest ∧ ∀ (doc pm : Value) (an : Option Addr) (cda : Addr) (ct : Value) (cc : Addr) (us : List Value), us.length = fs.length + 1 → bindArgs (ksFn "__init__" qual (defArgs st) (defBody st) (defScope st) .none .none doc pm an (.ref cda) ct cc) ⟨us, []⟩ = pure (((("self" : Str) :: fs)).zip us)
theorem fn_mk {prog : Program} {K : Frag} {C fI : Addr} {fs : List Str} {st : Stmt} {qual : Str} {oc : Value} {od : Option Addr} {doc pm : Value} {an : Option Addr} {cda : Addr} {ct : Value} {cc : Addr} {osl : Array (Option Value)} {ccl : Value} {cdd : Option Addr} {vs : Array Value} {ccs : Array (Option Value)} {file : Str} {tf : Tok} {cl : Value} {cld : Option Addr} {csl : Array (Option Value)}
    (S : ErrSt prog qual st fs) (l : K.lookup fI = some ⟨oc, od, .func (ksFn "__init__" qual (defArgs st) (defBody st) (defScope st) .none .none doc pm an (.ref cda) ct cc), osl⟩) (hc : codeIn K (.ref cda) qual = true) (l2 : K.lookup cda = some ⟨ccl, cdd, .fields vs, ccs⟩) (hv : vs[2]? = some (.str file tf)) (hf : ((prog.main.file : Str) == file) = true)
    (l3 : K.lookup cc = some ⟨cl, cld, .cell (some (.ref C)), csl⟩) :
    ∃ (oc : Value) (od : Option Addr) (qual : Str) (params : Arguments) (scope : Scope) (rest : List Stmt) (doc pm : Value) (an : Option Addr) (cda : Addr) (ct : Value) (cc : Addr) (osl : Array (Option Value)) (txt : Str) (j : Nat) (p0 p1 p2 p3 p4 p5 : Pos) (ar : Arg)
      (ccl : Value) (cdd : Option Addr) (vs : Array Value) (ccs : Array (Option Value)) (file : Str) (tf : Tok) (cl : Value) (cld : Option Addr) (csl : Array (Option Value)),
    K.lookup fI = some ⟨oc, od, .func (ksFn "__init__" qual params (.Expr (.Call (.Attribute (.Call (.Name "super" p0) [] [] p1) "__init__" p2) [.Constant (.str txt) j p3] [] p4) p5 :: rest) scope .none .none doc pm an (.ref cda) ct cc), osl⟩ ∧ codeIn K (.ref cda) qual = true ∧
    K.lookup cda = some ⟨ccl, cdd, .fields vs, ccs⟩ ∧ vs[2]? = some (.str file tf) ∧ ((prog.main.file : Str) == file) = true ∧ K.lookup cc = some ⟨cl, cld, .cell (some (.ref C)), csl⟩ ∧
    (∀ env : Env, eval (.Call (.Attribute (.Call (.Name "super" p0) [] [] p1) "__init__" p2) [.Constant (.str txt) j p3] [] p4) env = (do
      let ov ← attributeBase (.Call (.Name "super" p0) [] [] p1) "__init__" env (eval (.Call (.Name "super" p0) [] [] p1) env)
      standAt p2.atName
      let (f, first) ← holding [ov] (getMethod ov "__init__" (do return (← importBound (.Call (.Name "super" p0) [] [] p1) env).getD true))
      callWith p4 f first (backTo p4 (starEach [.Constant (.str txt) j p3] env)) [])) ∧
    (prog.main.scope.names.lookup ("super" : Str)).isSome = false ∧
    (params.posonlyargs ++ params.args).head? = some ar ∧ ar.arg = "self" ∧
    scope.kind = .function ∧ scope.isCoroutine = false ∧ scope.isGenerator = false ∧ (∀ x ∈ scope.names, x.2 ≠ .cell) ∧ scope.names.lookup ("super" : Str) = some .globalImplicit ∧ scope.names.lookup ("__class__" : Str) = some .free ∧
    scope.names.lookup ("self" : Str) = some .local ∧ (∀ f ∈ fs, scope.names.lookup f = some .local) ∧ (("self" : Str) :: fs).Nodup ∧
    Asgs fs rest ∧ ∀ us : List Value, us.length = fs.length + 1 → bindArgs (ksFn "__init__" qual params (.Expr (.Call (.Attribute (.Call (.Name "super" p0) [] [] p1) "__init__" p2) [.Constant (.str txt) j p3] [] p4) p5 :: rest) scope .none .none doc pm an (.ref cda) ct cc) ⟨us, []⟩ = pure (((("self" : Str) :: fs)).zip us) := by
  obtain ⟨rest, txt, j, p0, p1, p2, p3, p4, p5, ar, e, h1, h2, h3, h4, h5, h6, h7, h8, h9, h10, h11, h12, h13, h14, h15⟩ := S
  have h15' := h15 doc pm an cda ct cc
  rw [e] at l h15'
  exact ⟨oc, od, qual, defArgs st, defScope st, rest, doc, pm, an, cda, ct, cc, osl, txt, j, p0, p1, p2, p3, p4, p5, ar, ccl, cdd, vs, ccs, file, tf, cl, cld, csl, l, hc, l2, hv, hf, l3, h1, h2, h3, h4, h5, h6, h7, h8, h9, h10, h11, h12, h13, h14, h15'⟩
theorem err_mk {prog : Program} {K : Frag} {h : Heap} {mg : Str → Option Value} {x : Str} {C fI : Addr} {fs : List Str} {st : Stmt} {qual : Str} {oc : Value} {od : Option Addr} {doc pm : Value} {an : Option Addr} {cda : Addr} {ct : Value} {cc : Addr} {osl : Array (Option Value)} {ccl : Value} {cdd : Option Addr} {vs : Array Value} {ccs : Array (Option Value)} {file : Str} {tf : Tok} {cl : Value} {cld : Option Addr} {csl : Array (Option Value)}
    {nm q N bs bm sn sub ab col dd k0 k1 k2 k3 k5}
    (X : K.In h) (G : h.Ns mainGlobals mg) (S : ErrSt prog qual st fs) (gC : nsIn K mainGlobals x = some (some (.ref C))) (gS : nsIn K mainGlobals "super" = some none)
    (xL : K.lookup C = some (excClassObj nm q C N bs bm true sn sub ab col dd k0 k1 k2 k3 k5 "ValueError.__new__")) (xM : refsVE bm = true)
    (sa : findIn K (.ref C) "__setattr__" = some (some (.builtin "object.__setattr__"))) (no : ∀ f ∈ fs, findIn K (.ref C) f = some none) (iC : findIn K (.ref C) "__init__" = some (some (.ref fI))) (tC : typeIn K (.ref fI) = some (.type "function")) (kC : keepIn K (.ref C) = true)
    (exC : subIn K (.ref C) (.type "BaseException") = some true) (veC : subIn K (.ref C) (.type "ValueError") = some true) (tyC : typeIn K (.ref C) = some (.type "type")) (op : nsIn K cStatics "thirdparty.any" = some none) (al : ks_superIn K C C "__init__" = some (some (.builtin "ValueError.__init__"))) (slf : mroIn K C (.ref C) = some true)
    (l : K.lookup fI = some ⟨oc, od, .func (ksFn "__init__" qual (defArgs st) (defBody st) (defScope st) .none .none doc pm an (.ref cda) ct cc), osl⟩) (hc : codeIn K (.ref cda) qual = true) (l2 : K.lookup cda = some ⟨ccl, cdd, .fields vs, ccs⟩) (hv : vs[2]? = some (.str file tf)) (hf : ((prog.main.file : Str) == file) = true)
    (l3 : K.lookup cc = some ⟨cl, cld, .cell (some (.ref C)), csl⟩) : ErrTxt prog K mg x C fI fs :=
  ⟨mg_of X G gC, mg_none_of X G gS, ⟨nm, q, N, bs, bm, sn, sub, ab, col, dd, k0, k1, k2, k3, k5, xL, xM⟩, sa, no, iC, tC, kC, exC, veC, tyC, op, al, slf, fn_mk S l hc l2 hv hf l3⟩
theorem exck_mk {K : Frag} {D : Addr} (cl : (clsIn K D).isSome = true) (ga : findIn K (.ref D) "__getattribute__" = some (some (.builtin "BaseException.__getattribute__"))) (gg : findIn K (.ref D) "__getattr__" = some none) (sb : subIn K (.ref D) (.type "BaseException") = some true)
  (ca : findIn K (.ref D) "__class__" = some (some (.builtin "object.__class__"))) (cn : specialIn K (.builtin "object.__class__") "__get__" = some (some (.builtin "getset_descriptor.__get__"))) (ct : takesIn K (.builtin "object.__class__") = some true) (cm : mroIn K D (.type "object") = some true) : MyL.ExcK K D := ⟨cl, ga, gg, sb, ca, cn, ct, cm⟩
theorem int_has {K : Frag} {x : Str} (h : (fastLookup "int" x).isSome = true) : ∃ fo, findIn K (.type "int") x = some fo := Option.isSome_iff_exists.mp h
theorem num_mk {K : Frag} {C : Addr} {op : Operator} (sf : selfFirst K C = true) (r : findIn K (.ref C) (dunderR op.info.2) = some none) (it : subIn K (.type "int") (.ref C) = some false) (h1 : (fastLookup "int" (PySem.dunder op.info.2)).isSome = true) (h2 : (fastLookup "int" (dunderR op.info.2)).isSome = true) : MyL.NumC K C op := ⟨sf, r, it, int_has h1, int_has h2⟩
end PySem.ErrX

set_option Elab.async false
set_option linter.all false
set_option maxRecDepth 100000
set_option maxHeartbeats 4000000
/-! != by an own __eq__; properties. -/
namespace MyL
open PySem PySem.Spec PyProof.Rows L2
section
variable {prog : Program} {w : World} {A : Around} {E : Value → Shared → Prop} {s : Shared} {K : PySem.W.Frag} {x C L f : Addr} {h₀ : Heap} {m : Str → Option Value} {ox : Obj} {od : Option Obj} {name : Str} {b tb : Value}
theorem ifBound_B {M : Model} {args : List Value} {id : String} {Q : Option Value → Shared → Prop} (X : K.In s.heap) (I : PySem.W.InstAt s.heap x ox C od) (hs : PySem.W.findIn K (.ref C) name = some (some (.builtin id))) (hb : ∀ self, bindSpecial (.builtin id) self = pure (.builtin id, [self]))
    (h : wpAny M A (call (.builtin id) (.ref x :: args)) (fun v => Q (some v)) E s) : wpAny M A (callSpecialIfBound? (.ref x) name args) Q E s := by
  simp only [callSpecialIfBound?, bindSpecialIfBound?]
  refine wpAny_holding (wpAny_bind (wpAny_bind (wpAny_bind (I.type.here ((PySem.W.looks_findIn X hs).here ?_)))))
  simp only [hb]
  refine wpAny_bind (wpAny_askSetting (wpAny_ite ?_))
  have fin : wpAny M A (call (.builtin id) ([.ref x] ++ args) >>= fun v => pure (some v)) Q E s := wpAny_bind (wpAny_mono h (fun v s' h' => wpAny_pure h') fun _ _ h' => h')
  split
  · exact wpAny_bind (wpAny_pure (wpAny_pure fin))
  · exact wpAny_tryCatch (wpAny_bind (wpAny_pure (wpAny_pure fin)))
theorem objNe_own {Q : Fin → Shared → Prop} (hu : A.units < cLine) (X : K.In s.heap) (I : PySem.W.InstAt s.heap x ox C od) (hs : PySem.W.findIn K (.ref C) "__eq__" = some (some (.ref f))) (hf : PySem.W.isFn K (.ref f) = true)
    (hcall : wpAny (model prog w) A (call (.ref f) [.ref x, b]) (fun v s' => ∃ c, v = .bool c ∧ Q (.done (.ret (.bool (!c)))) s') E s) :
    wpAny (model prog w) A (Builtin.«object.__ne__» ⟨[.ref x, b], []⟩) Q E s := by
  unfold Builtin.«object.__ne__»
  repeat (first
    | with_reducible refine wpAny_cRoomFor hu ?_
    | (refine wpAny_bind (m := callSpecialIfBound? (.ref x) (Str.ofString "__eq__") [b])
        (PySem.W.ifBound_K X I hs hf (wpAny_mono hcall (fun r s' hr => by
          obtain ⟨c, rfl, hq⟩ := hr
          repeat (first | exact hq | exact wpAny_pure hq | exact wpAny_truthy_bool hq | (refine wpAny_bind (m := truthy (.bool _)) (wpAny_truthy_bool ?_)) | wp_step)) fun _ _ e => e)))
    | wp_step)
theorem ne_own {Q : Value → Shared → Prop} (hu : A.units + 1 < cLine) (X : K.In s.heap) (I : PySem.W.InstAt s.heap x ox C od) (hb : PySem.W.Looks (model prog w) s.heap (typeOf b) (.ref C)) (hn : PySem.W.findIn K (.ref C) "__ne__" = some (some (.builtin "object.__ne__"))) (hm : PySem.W.mroIn K C (.type "object") = some true)
    (hs : PySem.W.findIn K (.ref C) "__eq__" = some (some (.ref f))) (hf : PySem.W.isFn K (.ref f) = true)
    (hcall : wpAny (model prog w) A.in1 (call (.ref f) [.ref x, b]) (fun v s' => ∃ c, v = .bool c ∧ Q (.bool (!c)) s') E s) : wpAny (model prog w) A (richCompare .NotEq (.ref x) b) Q E s := by
  have one : wpAny (model prog w) A (tryCompare (.ref x) "__ne__" b) (fun r s' => ∃ v, r = some v ∧ Q v s') E s := by
    unfold tryCompare
    refine wpAny_bind (ifBound_B X I hn F.cmp_object.ne.bind (wpAny_call (codeAny_call_builtin F.cmp_object.ne.plain F.cmpEntry_ne (@PySem.W.check_slot (model prog w) _ _ s "object.__ne__" "object" "__ne__" (.ref x) [b] [] _ F.cmpKind_ne F.cmpSplit_ne (I.type.andThen (PySem.W.looks_mroIn X hm)) (F.cmpArgs_ne _ _)
      (objNe_own (A := A.in1) hu X I hs hf (wpAny_mono hcall (fun v s' hv => ?_) fun _ _ e => e))))))
    obtain ⟨c, rfl, hq⟩ := hv
    exact ⟨c, rfl, wpAny_pure ⟨_, rfl, hq⟩⟩
  unfold richCompare
  simp only [oneThing_ref]
  refine wpAny_holding (wpAny_bind (wpAny_cRoomFor (Nat.lt_of_succ_lt hu) ?_))
  rw [cmpInfo_NotEq]
  dsimp only
  refine wpAny_bind (I.type.here (wpAny_bind (hb.here ?_)))
  rw [show (Value.ref C != Value.ref C) = false from by simp]
  simp only [Bool.false_eq_true, if_false]
  refine wpAny_bind (wpAny_pure ?_)
  simp only [Bool.false_eq_true, if_false]
  refine wpAny_bind (wpAny_mono one (fun r s' z => ?_) fun _ _ e => e)
  obtain ⟨v, rfl, hq⟩ := z
  exact wpAny_pure hq
end
def rOwnNe (C : Addr) (sp : Sp) : R2 := fun x y H Q => ∃ a dx fs b dy gs, x = .ref a ∧ y = .ref b ∧ H a = some (.ins C dx fs) ∧ H b = some (.ins C dy gs) ∧ sp [.ref a, .ref b] H (fun v H' => ∃ c, v = .bl c ∧ Q (.bl (!c)) H') (fun _ _ _ => False)
structure NeC (K : PySem.W.Frag) (C : Addr) : Prop where
  ne : PySem.W.findIn K (.ref C) "__ne__" = some (some (.builtin "object.__ne__"))
  mro : PySem.W.mroIn K C (.type "object") = some true
section
variable {X : Cx} {W : WX} {k j : Nat} {C : Addr} {sp : Sp}
theorem c_ne (c : Spc X.prog X.w X.K X.mg X.base k C "__eq__" sp) (n : NeC X.K C) (hr : Room j X.A) (hk : k + 1 ≤ j) : OpR X (compareOp .NotEq) (rOwnNe C sp) := by
  intro pins s σ H x y v u Q I rx ry h
  obtain ⟨f, hs, hf, F⟩ := c.ex
  obtain ⟨p, dx, fs, p2, dy, gs, rfl, rfl, hp, hp2, hsp⟩ := h
  obtain rfl : v = Value.ref p := rx
  obtain rfl : u = Value.ref p2 := ry
  obtain ⟨mA, J, _⟩ := ins_get I.hok hp
  obtain ⟨od, J, _⟩ := J.look
  obtain ⟨mB, J', _⟩ := ins_get I.hok hp2
  obtain ⟨od', J', _⟩ := J'.look
  show wpAny _ _ (richCompare .NotEq (.ref p) (.ref p2)) _ _ _
  refine ne_own (Nat.lt_of_le_of_lt (Nat.add_le_add_left (by decide : 1 ≤ 64) _) hr.units) I.kIn J J'.type n.ne n.mro hs hf ?_
  have z := run_S (A := X.A.in1) (W := fun _ _ _ _ => False) (us := [.ref p, .ref p2]) (vs := [.ref p, .ref p2]) F takes0 (hr.mono hk).in1 I.env0.in1 I (.cons rfl (.cons rfl .nil)) hsp
  refine wpAny_mono (wpAny_call z) (fun w s' z => ?_) fun _ _ x => x
  obtain ⟨z', H', I', rz, c, ec, qz⟩ := z
  subst ec
  exact ⟨c, rz, .bl (!c), H', I', rfl, qz⟩
end
end MyL
namespace MyL
open PySem PySem.Spec PyProof.Rows L2
/-- a property of the class at C -/
structure Prp (P : Program) (w : World) (K : PySem.W.Frag) (mg : Str → Option Value) (base : Heap) (k : Nat) (C : Addr) (f : Str) (sp : Sp) : Prop where
  ex : ∃ (p g : Addr) (fd : FuncData) (ps : List Str), Cls K C ∧ PropOf K C f p g ∧ Binds K fd ps [] ∧ FnOk P w K mg base (L2.CX P w) k g fd ps sp
section
variable {X : Cx} {k j : Nat} {C : Addr} {sp : Sp} {f : Str} {e : Expr} {ta : TE} {pos : Pos}
theorem c_prop (c : Prp X.prog X.w X.K X.mg X.base k C f sp) (hr : Room j X.A) (hk : k + 1 ≤ j) (he : PE X e ta) (hab : attributeBase e f X.env (eval e X.env) = eval e X.env := by rfl) : PE X (.Attribute e f pos) (tProp C sp [] (fun _ _ _ => False) ta) := by
  obtain ⟨p, g, fd, ps, cl, hp, hb, F⟩ := c.ex
  exact pe_prop he cl hp F (hr.mono hk) hb .nil (fun _ _ _ _ _ _ _ ⟨_, _, _, _, _, _, _, _, _, _, _, _, z⟩ => z.elim) hab
end
section
variable {σ : L2.St} {H : Hp} {Q : VK} {C : Addr} {sp : Sp} {ta : TE} {K : PySem.W.Frag} {E : XK}
theorem k_prop0 (h : ta σ H fun x H1 => ∃ a dx fs, x = .ref a ∧ H1 a = some (.ins C dx fs) ∧ sp [.ref a] H1 Q E) : tProp C sp [] E ta σ H Q := h
theorem k_prop {a dx : Addr} {fs : List (Str × V)} (h : H a = some (.ins C dx fs)) (q : sp [.ref a] H Q E) : ∃ a' dx' fs', V.ref a = .ref a' ∧ H a' = some (.ins C dx' fs') ∧ sp [.ref a'] H Q E := ⟨a, dx, fs, rfl, h, q⟩
theorem k_ownNe {a dx b dy : Addr} {fs gs : List (Str × V)} (h1 : H a = some (.ins C dx fs)) (h2 : H b = some (.ins C dy gs)) (q : sp [.ref a, .ref b] H (fun v H' => ∃ c, v = .bl c ∧ Q (.bl (!c)) H') (fun _ _ _ => False)) : rOwnNe C sp (.ref a) (.ref b) H Q := ⟨a, dx, fs, b, dy, gs, rfl, rfl, h1, h2, q⟩
theorem k_neBack {PB : Bool → Prop} {c : Bool} (q : PB c) : ∃ c', V.bl c = .bl c' ∧ PB c' := ⟨c, rfl, q⟩
theorem beq_dec {i k : Int} : (i == k) = decide (i = k) := rfl
theorem k_eqP {a b : Addr} {i j k l : Int} (h1 : H a = some (.tup [.int i, .int j])) (h2 : H b = some (.tup [.int k, .int l])) (q : Q (.bl (decide (i = k) && decide (j = l))) H) : rEqD K (.ref a) (.ref b) H Q := by
  refine ⟨.tuple [.int i, .int j], .tuple [.int k, .int l], .tup (SqT.of h1) (.cons (.int _) (.cons (.int _) .nil)), .tup (SqT.of h2) (.cons (.int _) (.cons (.int _) .nil)), rfl, rfl, ?_⟩
  have : PyData.eqv (.tuple [.int i, .int j]) (.tuple [.int k, .int l]) = (decide (i = k) && decide (j = l)) := by
    simp only [PyData.eqv, PyData.eqvAll, Bool.and_true]
    rfl
  rw [this]; exact q
theorem k_neP {a b : Addr} {i j k l : Int} (h1 : H a = some (.tup [.int i, .int j])) (h2 : H b = some (.tup [.int k, .int l])) (q : Q (.bl (!(decide (i = k) && decide (j = l)))) H) : rNeD K (.ref a) (.ref b) H Q := by
  refine ⟨.tuple [.int i, .int j], .tuple [.int k, .int l], .tup (SqT.of h1) (.cons (.int _) (.cons (.int _) .nil)), .tup (SqT.of h2) (.cons (.int _) (.cons (.int _) .nil)), rfl, rfl, ?_⟩
  have : PyData.eqv (.tuple [.int i, .int j]) (.tuple [.int k, .int l]) = (decide (i = k) && decide (j = l)) := by
    simp only [PyData.eqv, PyData.eqvAll, Bool.and_true]
    rfl
  rw [this]; exact q
end
end MyL

set_option Elab.async false
set_option linter.all false
set_option maxRecDepth 100000
set_option maxHeartbeats 4000000
namespace MyL
open PySem PySem.Spec PyProof.Rows L2
def PropAt (K : PySem.W.Frag) (C : Addr) (m qual : Str) (st : Stmt) : Prop := ∃ (p g : Addr) (fd : FuncData), PropOf K C m p g ∧ Fun K m qual st g fd
section
variable {P : Program} {w : World} {K : PySem.W.Frag} {mg : Str → Option Value} {base h : Heap} {k : Nat} {C f p : Addr} {x m qual : Str} {sp : Sp} {st : Stmt} {fd : FuncData} {ps : List Str} {oc : Value} {od an : Option Addr} {osl : Array (Option Value)} {kV doc pm cdv ct : Value} {rest : List Value}
theorem gprop (a : PySem.W.findIn K (.ref C) m = some (some (.ref p))) (g : PySem.W.specialIn K (.ref p) "__get__" = some (some (.builtin "property.__get__"))) (t : PySem.W.takesIn K (.ref p) = some true) (r : PySem.W.recIn K p "property" = some (.ref f :: rest))
    (l : K.lookup f = some ⟨oc, od, .func (PySem.W.fnOf m qual (defArgs st) (defBody st) (defScope st) .none kV doc pm an cdv ct), osl⟩)
    (c : PySem.W.codeIn K cdv qual = true) (kp : PySem.W.keepIn K (.ref f) = true) : PropAt K C m qual st := ⟨p, f, _, ⟨a, g, t, rest, r⟩, fun_mk l c kp⟩
theorem prp_of (D : PropAt K C m qual st) (cl : Cls K C) (hb : BindsSt m qual st ps) (ok : ∀ {f : Addr} {fd : FuncData}, Fun K m qual st f fd → FnOk P w K mg base (L2.CX P w) k f fd ps sp) : Prp P w K mg base k C m sp := by
  obtain ⟨p, f, fd, a, F⟩ := D
  exact ⟨p, f, fd, ps, cl, a, F.binds hb, ok F⟩
end
section
variable {σ : L2.St} {H : Hp} {Q : VK} {K : PySem.W.Frag} {p : Addr} {xs : List V}
theorem k_chain {r r' : R2} {ta tb tc : TE} (h : ta σ H fun x H1 => tb σ H1 fun y H2 => r x y H2 fun z H3 => ∃ k, z = .bl k ∧ (if k = true then tc σ H3 fun w' H4 => r' y w' H4 Q else Q (.bl false) H3)) : tChain r r' ta tb tc σ H Q := h
/-- an item of a list of whole numbers, each within R -/
theorem k_ixAll {R : Int → Prop} {j : Int} (h : H p = some (.lst xs)) (h0 : 0 ≤ j) (h1 : j < xs.length) (hR : ∀ x ∈ xs, ∃ n : Int, x = .int n ∧ R n) (q : ∀ n, R n → Q (.int n) H) : rIxL K (.ref p) (.int j) H Q := by
  obtain ⟨i, rfl⟩ := Int.eq_ofNat_of_zero_le h0
  have hi : i < xs.length := by omega
  obtain ⟨n, e, hn⟩ := hR _ (List.getElem_mem hi)
  exact ⟨p, xs, (i : Int), .int n, rfl, rfl, SqL.of h, atI_nat (by rw [List.getElem?_eq_getElem hi, e]), q n hn⟩
theorem k_ixAllT {R : Int → Prop} {j : Int} (h : H p = some (.tup xs)) (h0 : 0 ≤ j) (h1 : j < xs.length) (hR : ∀ x ∈ xs, ∃ n : Int, x = .int n ∧ R n) (q : ∀ n, R n → Q (.int n) H) : rIxT K (.ref p) (.int j) H Q := by
  obtain ⟨i, rfl⟩ := Int.eq_ofNat_of_zero_le h0
  have hi : i < xs.length := by omega
  obtain ⟨n, e, hn⟩ := hR _ (List.getElem_mem hi)
  exact ⟨p, xs, (i : Int), .int n, rfl, rfl, SqT.of h, atI_nat (by rw [List.getElem?_eq_getElem hi, e]), q n hn⟩
end
end MyL

set_option Elab.async false
set_option linter.all false
set_option maxRecDepth 100000
set_option maxHeartbeats 4000000
namespace MyL
open PySem PySem.Spec PyProof.Rows L2
section
variable {K : PySem.W.Frag} {D dd a C1 C2 C3 C4 : Addr} {H : Hp} {Q : VK} {fs : List (Str × V)} {b : Bool}
theorem k_isX4 {tp : Addr} (hD : ExcK K D) (hd : H dd = some (.xd fs)) (ht : H tp = some (.tup [.ref C1, .ref C2, .ref C3, .ref C4])) (e : PySem.W.kitAny K (.ref D) [.ref C1, .ref C2, .ref C3, .ref C4] = some b) (q : Q (.bl b) H) : rIsXT K (.ref D) (some dd) a [.ref a, .ref tp] H Q :=
  ⟨D, tp, _, _, b, rfl, hD, ⟨fs, hd⟩, rfl, ht, .cons (.own C1) (.cons (.own C2) (.cons (.own C3) (.cons (.own C4) .nil))), e, q⟩
theorem k_ixT2 {p : Addr} {i j n : Int} (h : H p = some (.tup [.int i, .int j])) (h0 : 0 ≤ n) (h1 : n < 2) (q : ∀ m, m = i ∨ m = j → Q (.int m) H) : rIxT K (.ref p) (.int n) H Q :=
  k_ixAllT (R := fun m => m = i ∨ m = j) h h0 (by simpa using h1) (fun x hx => by simp at hx; rcases hx with rfl | rfl <;> exact ⟨_, rfl, by simp⟩) q
theorem Mem.atB {B : Hp} {f l : List (Addr × HO)} {o : HO} (M : Mem B [] H f l) (h : B a = some o) : H a = some o := Same.of_keep M a o h
theorem xdH {g : Str} {v : V} {l : List (Str × V)} : List.lookup g ((g, v) :: l) = some v := by simp [List.lookup]
end
end MyL

set_option Elab.async false
set_option linter.all false
set_option maxRecDepth 100000
set_option maxHeartbeats 4000000
/-! Static methods by the class; own errors without own __init__. -/
namespace MyL
open PySem PySem.Spec PyProof.Rows L2
/-- C.m is a staticmethod: its record at p, its def at g -/
structure StaOf (K : PySem.W.Frag) (C : Addr) (m : Str) (p g : Addr) : Prop where
  ga : PySem.W.specialIn K (.ref C) "__getattribute__" = some (some (.builtin "type.__getattribute__"))
  rd : PySem.W.readsIn K C (.type "type") = true
  at_ : PySem.W.findCls K (.ref C) (.type "type") m = some (.get (.builtin "staticmethod.__get__") (.ref p) .none (.ref C))
  rc : ∃ rest, PySem.W.recIn K p "staticmethod" = some (.ref g :: rest)
  kp : PySem.W.keepIn K (.ref g) = true
structure Sta (P : Program) (w : World) (K : PySem.W.Frag) (mg : Str → Option Value) (base : Heap) (k : Nat) (C : Addr) (m : Str) (sp : Sp) : Prop where
  ex : ∃ (p g : Addr) (fd : FuncData) (ps : List Str), StaOf K C m p g ∧ Binds K fd ps [] ∧ FnOk P w K mg base (L2.CX P w) k g fd ps sp
def tSta (C : Addr) (sp : Sp) (W : WX) (ta : TE) (t : TA) : TE := fun σ H Q => ta σ H fun x H1 => x = .ref C ∧ t σ H1 fun vs H2 => sp vs H2 Q (WE W σ)
section
variable {X : Cx} {W : WX} {k j : Nat} {C : Addr} {sp : Sp} {x m : Str} {p pos apos : Pos} {e o : Expr} {es : List Expr} {ta : TE} {t : TA}
theorem c_sta {pl : Sem Bool} (c : Sta X.prog X.w X.K X.mg X.base k C m sp) (tk : Takes X W) (hr : Room j X.A) (hk : k ≤ j) (ho : PE X o ta) (ha : PA X (e :: es) t)
    (hst : starEach (e :: es) X.env = (false, eval e X.env) :: starEach es X.env := by rfl) (hpl : (backTo pos (starEach es X.env)).any (·.1) = false := by rfl)
    (ht : eval (.Call (.Attribute o m apos) (e :: es) [] pos) X.env = (do
      let ov ← eval o X.env
      standAt apos.atName
      let (f, first) ← holding [ov] (getMethod ov m pl)
      callWith pos f first (backTo pos (starEach (e :: es) X.env)) (backToKw pos (keywordEach [] X.env))) := by rfl) :
    PE X (.Call (.Attribute o m apos) (e :: es) [] pos) (tSta C sp W ta t) := by
  obtain ⟨p, g, fd, ps, hm, b, F⟩ := c.ex
  obtain ⟨rest, hrec⟩ := hm.rc
  refine ⟨fun pins s σ H Q I h => ?_⟩
  refine PySem.W.methodCall_KW (pl := pl) (thn (ho.run pins s σ H _ I h) fun u s1 hh => ?_) ht
  obtain ⟨x, H1, I1, rx, ex, q⟩ := hh
  subst ex
  obtain rfl : u = Value.ref C := rx
  have I1' := I1.tok (s1.toks + 1)
  refine PySem.W.method_cls I1.kIn hm.ga (PySem.W.cls_bind I1.kIn hm.rd hm.at_ (wpAny_call (PySem.W.sm_get (s := { s1 with toks := s1.toks + 1 }) I1.kIn hrec (PySem.W.handed_on rfl ?_))))
  refine PySem.W.callWith_K (first := []) (h₀ := X.base) I.ok.mod.kin hm.kp (thn (ha.run pos pins _ σ H1 _ I1' q) fun us s2 hh => ?_) hst hpl
  obtain ⟨vs, H2, I2, r, q2⟩ := hh
  exact ⟨I2.kIn, run_fnS (E := WE W) (us := us) (vs := vs) F (hr.mono hk) b (passAt tk σ) I2 r q2⟩
end
/-- an own error whose class has no __init__ of its own -/
structure PlainErr (K : PySem.W.Frag) (mg : Str → Option Value) (x : Str) (C : Addr) : Prop where
  gC : mg x = some (.ref C)
  kC : PySem.W.keepIn K (.ref C) = true
  exc : PySem.W.excIn K C [.type "ValueError", .type "Exception", .type "BaseException", .type "object"] "ValueError.__new__" = true
  sb : PySem.W.subIn K (.ref C) (.type "BaseException") = some true
  ty : PySem.W.typeIn K (.ref C) = some (.type "type")
theorem pmk_plain0 {X : Cx} {x : Str} {C : Addr} {p pos : Pos} (T : PlainErr X.K X.mg x C) (hg : Gl X x := by rfl) (hdb : (x == ("__debug__" : Str)) = false := by decide) : PMk X (.Call (.Name x p) [] [] pos) (fun _ H Q => Q (.ref C) none H) := by
  intro pins s σ H Q I h
  refine wpAny_Call_Name_kw (ld_glob I hg T.gC (PySem.W.callWith_K0 I.kIn T.kC ?_) hdb)
  obtain ⟨bm, N, nm, qn, bs, hdct, sn, sub, ab, col, dd, k0, k1, k2, k3, k5, mN, hC, hN, hni, T'⟩ := exc_obj I.kIn T.exc
  refine wpAny_call_exc_subT PySem.F.excBase_ValueError T' hC hN hni (fun h' e hm => ?_) (Nat.zero_le _)
  exact mk_of I hm (raises_own T.sb T.ty) h (I.hok.gone hm.new)
section
variable {K : PySem.W.Frag} {D a C1 C2 C3 C4 : Addr} {H : Hp} {Q : VK} {b : Bool}
theorem k_isX0o (hD : ExcK K D) (e : PySem.W.kitOne K (.ref D) (.ref C1) = some b) (q : Q (.bl b) H) : rIsX K (.ref D) none a [.ref a, .ref C1] H Q := ⟨D, _, _, b, rfl, hD, trivial, rfl, .own C1, e, q⟩
theorem k_isX0s (hD : ExcK K D) (q : Q (.bl true) H) : rIsX K (.ref D) none a [.ref a, .ref D] H Q := k_isX0o hD (by simp [PySem.W.kitOne]) q
theorem k_isX0t {n : String} (hD : ExcK K D) (e : PySem.W.kitOne K (.ref D) (.type n) = some b) (q : Q (.bl b) H) : rIsX K (.ref D) none a [.ref a, .ty n] H Q := ⟨D, _, _, b, rfl, hD, trivial, rfl, .ty n, e, q⟩
theorem k_isX04 {tp : Addr} (hD : ExcK K D) (ht : H tp = some (.tup [.ref C1, .ref C2, .ref C3, .ref C4])) (e : PySem.W.kitAny K (.ref D) [.ref C1, .ref C2, .ref C3, .ref C4] = some b) (q : Q (.bl b) H) : rIsXT K (.ref D) none a [.ref a, .ref tp] H Q :=
  ⟨D, tp, _, _, b, rfl, hD, trivial, rfl, ht, .cons (.own C1) (.cons (.own C2) (.cons (.own C3) (.cons (.own C4) .nil))), e, q⟩
end
section
variable {σ : L2.St} {H : Hp} {Q : VK} {C : Addr} {sp : Sp} {W : WX} {ta : TE} {t : TA}
theorem k_sta0 (h : ta σ H fun x H1 => x = .ref C ∧ t σ H1 fun vs H2 => sp vs H2 Q (WE W σ)) : tSta C sp W ta t σ H Q := h
theorem k_sta {PR : Prop} (q : PR) : V.ref C = .ref C ∧ PR := ⟨rfl, q⟩
end
end MyL

set_option Elab.async false
set_option linter.all false
set_option maxRecDepth 100000
set_option maxHeartbeats 4000000
/-! min and max of a list or a tuple of whole numbers. -/
namespace MyL
open PySem PySem.Spec PyProof.Rows L2
section
variable {prog : Program} {w : World} {A : Around} {E : Value → Shared → Prop} {s : Shared} {l : Addr} {xs : Array (Int × Tok)}
theorem iter_intTup {Q : Value → Shared → Prop} (hl : s.heap.IsTuple l (intItems xs))
    (h : ∀ s₂ : Shared, s₂ = { s with heap := s.heap.push { cls := .type "tuple_iterator", data := .fields #[.ref l, .int 0 0] } } →
      (s₂.heap.IsTupleIter s.heap.objs.size l 0 ∧ s₂.heap.IsTuple l (intItems xs)) → (∀ b ∈ [s.heap.objs.size, l], b < s₂.heap.objs.size) → l ≠ s.heap.objs.size → Q (.ref s.heap.objs.size) s₂) :
    wpAny (model prog w) A (pyIter (.ref l)) Q E s := by
  have hlt : l < s.heap.objs.size := by obtain ⟨_, e, _⟩ := hl; exact Heap.lt_size e
  refine wpAny_pyIter_tuple hl (h _ rfl ⟨⟨_, Heap.get?_push_size _ rfl, rfl, rfl⟩, hl.push _⟩ (fun b hb => ?_) (Nat.ne_of_lt hlt))
  show b < (s.heap.push _).objs.size
  rw [Heap.size_push]
  rcases List.mem_cons.mp hb with rfl | hb
  · exact Nat.lt_succ_self _
  · rcases List.mem_cons.mp hb with rfl | hb
    · exact Nat.lt_succ_of_lt hlt
    · cases hb
theorem old_keptT {o0 : Obj} {h' : Heap} (hk : ∀ b o, b ∉ [s.heap.objs.size] → (s.heap.push o0).get? b = some o → h'.get? b = some o) :
    ∀ b o, s.heap.get? b = some o → h'.get? b = some o := fun b o e => by
  refine hk b o (fun hm => ?_) (Heap.get?_push_of_some _ e)
  rcases List.mem_cons.mp hm with e1 | hm
  · exact absurd (e1 ▸ Heap.lt_size e) (Nat.lt_irrefl _)
  · cases hm
theorem max_intTup {Q : Value → Shared → Prop} (hh : A.handled = none) (hl : s.heap.IsTuple l (intItems xs)) (hne : 0 < xs.size)
    (h : ∀ v h' tk, (intItems xs)[argBest (fun i j => decide (numAt xs i > numAt xs j)) (xs.size - 1)]? = some v → (∀ b o, s.heap.get? b = some o → h'.get? b = some o) → Q v { s with heap := h', toks := tk }) :
    wpAny (model prog w) A (call (.builtin "max") [.ref l]) Q E s := by
  refine call_max_walk (iter_intTup hl fun s₂ e st hfp hlI => ?_)
  subst e
  refine ⟨_, _, _, _, _, _, _, rfl, Walks.tuple (A := A.in1) hh _ l hlI (intItems xs), st, hfp, by simpa [intItems] using hne, CmpOf.ints_gt (numAt xs) (fun _ _ => intItems_at), fun v h' tk hP hk => ?_⟩
  exact h v h' tk (by simpa [intItems] using hP) (old_keptT hk)
theorem min_intTup {Q : Value → Shared → Prop} (hh : A.handled = none) (hl : s.heap.IsTuple l (intItems xs)) (hne : 0 < xs.size)
    (h : ∀ v h' tk, (intItems xs)[argBest (fun i j => decide (numAt xs i < numAt xs j)) (xs.size - 1)]? = some v → (∀ b o, s.heap.get? b = some o → h'.get? b = some o) → Q v { s with heap := h', toks := tk }) :
    wpAny (model prog w) A (call (.builtin "min") [.ref l]) Q E s := by
  refine call_min_walk (iter_intTup hl fun s₂ e st hfp hlI => ?_)
  subst e
  refine ⟨_, _, _, _, _, _, _, rfl, Walks.tuple (A := A.in1) hh _ l hlI (intItems xs), st, hfp, by simpa [intItems] using hne, CmpOf.ints_lt (numAt xs) (fun _ _ => intItems_at), fun v h' tk hP hk => ?_⟩
  exact h v h' tk (by simpa [intItems] using hP) (old_keptT hk)
theorem max_rawT {its : List Value} {ns : List Int} {Q : Value → Shared → Prop} (hh : A.handled = none) (hl : s.heap.IsTuple l its.toArray) (hi : IntsAre its ns) (hne : 0 < ns.length)
    (h : ∀ h' tk M t', (∀ b o, s.heap.get? b = some o → h'.get? b = some o) → M ∈ ns → (∀ a, a ∈ ns → a ≤ M) → Q (.int M t') { s with heap := h', toks := tk }) : wpAny (model prog w) A (call (.builtin "max") [.ref l]) Q E s := by
  obtain ⟨xs, e⟩ := hi.allInts.items
  have hn : numsOf (intItems xs).toList = ns := by rw [← e]; exact hi.numsOf
  rw [nums_intItems] at hn
  subst hn
  rw [e] at hl
  have hsz : 0 < xs.size := by simpa using hne
  refine max_intTup hh hl hsz fun v h' tk hv hk => ?_
  obtain ⟨t, rfl⟩ := intItems_at hv
  obtain ⟨h1, h2⟩ := argBest_gt (numAt xs) (xs.size - 1)
  refine h h' tk _ t hk ?_ fun a ha => ?_
  · rw [numAt_eq]; exact PySem.getD_mem (by rw [List.length_map, Array.length_toList]; omega)
  · obtain ⟨j, hj, rfl⟩ := mem_getD ha
    rw [List.length_map, Array.length_toList] at hj
    rw [← numAt_eq]; exact h2 j (by omega)
theorem min_rawT {its : List Value} {ns : List Int} {Q : Value → Shared → Prop} (hh : A.handled = none) (hl : s.heap.IsTuple l its.toArray) (hi : IntsAre its ns) (hne : 0 < ns.length)
    (h : ∀ h' tk M t', (∀ b o, s.heap.get? b = some o → h'.get? b = some o) → M ∈ ns → (∀ a, a ∈ ns → M ≤ a) → Q (.int M t') { s with heap := h', toks := tk }) : wpAny (model prog w) A (call (.builtin "min") [.ref l]) Q E s := by
  obtain ⟨xs, e⟩ := hi.allInts.items
  have hn : numsOf (intItems xs).toList = ns := by rw [← e]; exact hi.numsOf
  rw [nums_intItems] at hn
  subst hn
  rw [e] at hl
  have hsz : 0 < xs.size := by simpa using hne
  refine min_intTup hh hl hsz fun v h' tk hv hk => ?_
  obtain ⟨t, rfl⟩ := intItems_at hv
  obtain ⟨h1, h2⟩ := argBest_lt (numAt xs) (xs.size - 1)
  refine h h' tk _ t hk ?_ fun a ha => ?_
  · rw [numAt_eq]; exact PySem.getD_mem (by rw [List.length_map, Array.length_toList]; omega)
  · obtain ⟨j, hj, rfl⟩ := mem_getD ha
    rw [List.length_map, Array.length_toList] at hj
    rw [← numAt_eq]; exact h2 j (by omega)
end
def rMaxQ (K : PySem.W.Frag) : List V → Hp → VK → Prop := fun vs H Q => ∃ (a : Addr) (ns : List Int), vs = [V.ref a] ∧ (SqL K H a (ns.map V.int) ∨ SqT K H a (ns.map V.int)) ∧ 0 < ns.length ∧ ∀ m, m ∈ ns → (∀ y, y ∈ ns → y ≤ m) → Q (.int m) H
def rMinQ (K : PySem.W.Frag) : List V → Hp → VK → Prop := fun vs H Q => ∃ (a : Addr) (ns : List Int), vs = [V.ref a] ∧ (SqL K H a (ns.map V.int) ∨ SqT K H a (ns.map V.int)) ∧ 0 < ns.length ∧ ∀ m, m ∈ ns → (∀ y, y ∈ ns → m ≤ y) → Q (.int m) H
section
variable {X : Cx}
theorem b_maxQ (hc : X.calm = true) : CallR X (.builtin "max") (rMaxQ X.K) := by
  intro pins s σ H vs us Q I r h
  obtain ⟨a, ns, rfl, hs | hs, hne, q⟩ := h
  · exact cr_max hc pins s σ H _ us Q I r ⟨a, ns, rfl, hs, hne, q⟩
  · obtain ⟨its, rv, hl, _⟩ := I.tuple hs
    rw [Vals.ref1 r]
    obtain ⟨o, ho, hc', n, hd⟩ := hl
    exact max_rawT (I.ok.hd hc) ⟨o, ho, hc', n, hd⟩ rv.ints hne fun h' tk m t' hk h1 h2 => ⟨.int _, H, I.kept hk, ⟨_, rfl⟩, q m h1 h2⟩
theorem b_minQ (hc : X.calm = true) : CallR X (.builtin "min") (rMinQ X.K) := by
  intro pins s σ H vs us Q I r h
  obtain ⟨a, ns, rfl, hs | hs, hne, q⟩ := h
  · exact cr_min hc pins s σ H _ us Q I r ⟨a, ns, rfl, hs, hne, q⟩
  · obtain ⟨its, rv, hl, _⟩ := I.tuple hs
    rw [Vals.ref1 r]
    obtain ⟨o, ho, hc', n, hd⟩ := hl
    exact min_rawT (I.ok.hd hc) ⟨o, ho, hc', n, hd⟩ rv.ints hne fun h' tk m t' hk h1 h2 => ⟨.int _, H, I.kept hk, ⟨_, rfl⟩, q m h1 h2⟩
end
end MyL

set_option Elab.async false
set_option linter.all false
set_option maxRecDepth 100000
set_option maxHeartbeats 4000000
/-! Steps for list methods, list(..), tuple(..), in, tests against [], comprehensions with a test. -/
namespace MyL
open PySem PySem.Spec PyProof.Rows L2
section
variable {X : Cx}
def rListOf (K : PySem.W.Frag) : List V → Hp → VK → Prop := fun xs H Q => ∃ p ys, xs = [.ref p] ∧ (SqL K H p ys ∨ SqT K H p ys) ∧ ∀ l, H l = none → Q (.ref l) (upd H l (.lst ys))
def rTupleOf (K : PySem.W.Frag) : List V → Hp → VK → Prop := fun xs H Q => ∃ p ys, xs = [.ref p] ∧ ((SqL K H p ys ∧ ∀ l, H l = none → Q (.ref l) (upd H l (.tup ys))) ∨ (SqT K H p ys ∧ Q (.ref p) H))
theorem b_listOf : CallR X (.type "list") (rListOf X.K) := call_list_of
theorem b_tupleOf : CallR X (.type "tuple") (rTupleOf X.K) := call_tuple_of
end
section
variable {σ : L2.St} {H : Hp} {Q : VK} {K : PySem.W.Frag} {T : String} {r : V → List V → Hp → VK → Prop} {to te : TE} {t : TA} {tt : TT} {B : Hp} {ms : List Addr} {f l : List (Addr × HO)} {p : Addr} {xs : List V} {y : V} {x0 x1 x2 x3 : Addr × HO} {vs : List Nat}
theorem k_bm (h : to σ H fun x H1 => tyV K T x H1 ∧ t σ H1 fun xs H2 => r x xs H2 Q) : tBM K T r to t σ H Q := h
theorem k_bm0 (h : to σ H fun x H1 => tyV K T x H1 ∧ r x [] H1 Q) : tBM0 K T r to σ H Q := h
theorem k_tyL {PR : Prop} (h : H p = some (.lst xs)) (q : PR) : tyV K "list" (.ref p) H ∧ PR := ⟨.inl ⟨rfl, xs, SqL.of h⟩, q⟩
theorem k_appL0 (M : Mem B ms H f ((p, .lst xs) :: l)) (hs : xs.length < sizeLine) (q : ∀ H', Mem B ms H' f ((p, .lst (xs ++ [y])) :: l) → Q .non H') : rAppend (.ref p) [y] H Q :=
  ⟨p, xs, y, rfl, rfl, M.getL List.mem_cons_self, hs, q _ (Mem.setL (l1 := []) M)⟩
theorem k_appL1 (M : Mem B ms H f (x0 :: (p, .lst xs) :: l)) (hs : xs.length < sizeLine) (q : ∀ H', Mem B ms H' f (x0 :: (p, .lst (xs ++ [y])) :: l) → Q .non H') : rAppend (.ref p) [y] H Q :=
  ⟨p, xs, y, rfl, rfl, M.getL (by simp), hs, q _ (Mem.setL (l1 := [x0]) M)⟩
theorem k_appL2 (M : Mem B ms H f (x0 :: x1 :: (p, .lst xs) :: l)) (hs : xs.length < sizeLine) (q : ∀ H', Mem B ms H' f (x0 :: x1 :: (p, .lst (xs ++ [y])) :: l) → Q .non H') : rAppend (.ref p) [y] H Q :=
  ⟨p, xs, y, rfl, rfl, M.getL (by simp), hs, q _ (Mem.setL (l1 := [x0, x1]) M)⟩
theorem k_appL3 (M : Mem B ms H f (x0 :: x1 :: x2 :: (p, .lst xs) :: l)) (hs : xs.length < sizeLine) (q : ∀ H', Mem B ms H' f (x0 :: x1 :: x2 :: (p, .lst (xs ++ [y])) :: l) → Q .non H') : rAppend (.ref p) [y] H Q :=
  ⟨p, xs, y, rfl, rfl, M.getL (by simp), hs, q _ (Mem.setL (l1 := [x0, x1, x2]) M)⟩
theorem k_revL0 (M : Mem B ms H f ((p, .lst xs) :: l)) (q : ∀ H', Mem B ms H' f ((p, .lst xs.reverse) :: l) → Q .non H') : rReverse (.ref p) [] H Q :=
  ⟨p, xs, rfl, rfl, M.getL List.mem_cons_self, q _ (Mem.setL (l1 := []) M)⟩
theorem k_revL1 (M : Mem B ms H f (x0 :: (p, .lst xs) :: l)) (q : ∀ H', Mem B ms H' f (x0 :: (p, .lst xs.reverse) :: l) → Q .non H') : rReverse (.ref p) [] H Q :=
  ⟨p, xs, rfl, rfl, M.getL (by simp), q _ (Mem.setL (l1 := [x0]) M)⟩
theorem k_listOf (M : Mem B ms H f l) (h : SqL K H p xs ∨ SqT K H p xs) (q : ∀ d H', Mem B ms H' f ((d, .lst xs) :: l) → Q (.ref d) H') : rListOf K [.ref p] H Q := ⟨p, xs, rfl, h, fun d hd => q d _ (M.alloc hd)⟩
theorem k_tupleOf (M : Mem B ms H f l) (h : SqL K H p xs) (q : ∀ d H', Mem B ms H' f ((d, .tup xs) :: l) → Q (.ref d) H') : rTupleOf K [.ref p] H Q := ⟨p, xs, rfl, .inl ⟨h, fun d hd => q d _ (M.alloc hd)⟩⟩
theorem k_tupleOfT (h : SqT K H p xs) (q : Q (.ref p) H) : rTupleOf K [.ref p] H Q := ⟨p, xs, rfl, .inr ⟨h, q⟩⟩
theorem inV_ints {n : Int} {ns : List Int} : inV (.int n) (ns.map V.int) = decide (n ∈ ns) := by
  rw [Bool.eq_iff_iff]
  simp [inV, eqV]
theorem flat_ints {ns : List Int} : (ns.map V.int).all flatV = true := by simp [flatV]
theorem k_inI {n : Int} {ns : List Int} (h : SqL K H p (ns.map V.int) ∨ SqT K H p (ns.map V.int)) (q : Q (.bl (decide (n ∈ ns))) H) : rIn K false (.int n) (.ref p) H Q :=
  ⟨p, _, rfl, h, rfl, flat_ints, by show Q (.bl (inV (.int n) (ns.map V.int))) H; rw [inV_ints]; exact q⟩
/-- a list against [] -/
theorem k_neNil {b : Addr} {ds : List PyData} (h1 : SqL K H p xs) (h2 : H b = some (.lst [])) (hd : DpAll K H xs ds) (hs : SeqAt.shaped (.list ds) = true) (q : Q (.bl (!xs.isEmpty)) H) : rNeD K (.ref p) (.ref b) H Q := by
  refine ⟨.list ds, .list [], .lst h1 hd, .lst (SqL.of h2) .nil, hs, by decide +kernel, ?_⟩
  have e : PyData.eqv (.list ds) (.list []) = xs.isEmpty := by
    cases hd with
    | nil => rfl
    | cons _ _ => rfl
  rw [e]; exact q
theorem dp_ints {ns : List Int} : DpAll K H (ns.map V.int) (ns.map PyData.int) := by
  induction ns with
  | nil => exact .nil
  | cons n ns ih => exact .cons (.int n) ih
theorem lcL_sel {a : Addr} {j : Nat} (M : Mem B ms H f l) (hx : ∀ H' D acc, Mem B ms H' f ((D, .lst acc) :: l) → SqL K H' a xs) (P : V → Bool) (v : V → V) (hn : xs.length ≤ 50000) (hw : ∀ x, wipe ((wipe σ vs).set j (some x)) vs = wipe σ vs)
    (ht : ∀ x H' D acc (R : Bool → Hp → Prop), x ∈ xs → Mem B ms H' f ((D, .lst acc) :: l) → (∀ H4, Mem B ms H4 f ((D, .lst acc) :: l) → R (P x) H4) → tt ((wipe σ vs).set j (some x)) H' R)
    (he : ∀ x H' D acc (R : VK), x ∈ xs → P x = true → Mem B ms H' f ((D, .lst acc) :: l) → (∀ H4, Mem B ms H4 f ((D, .lst acc) :: l) → R (v x) H4) → te ((wipe σ vs).set j (some x)) H' R)
    (k : ∀ (D : Addr) (H' : Hp), Mem B ms H' f ((D, .lst ((xs.filter P).map v)) :: l) → Q (.ref D) H') : tLc (iJ (Itl K a)) (gName j) tt te vs σ H Q := by
  refine lc_lst (xs := xs) fun D hD => ⟨fun i H' => Mem B ms H' f ((D, .lst (((xs.take i).filter P).map v)) :: l), M.alloc hD, fun i H' _ M' => hx H' D _ M', fun i x H' hi M' => ⟨hw _, ?_⟩, fun H' M' => k D H' (by dsimp only at M'; rw [List.take_length] at M'; exact M')⟩
  have hm := List.mem_of_getElem? hi
  have hil := (List.getElem?_eq_some_iff.mp hi).1
  have htk : xs.take (i + 1) = xs.take i ++ [x] := by rw [List.take_add_one, hi]; rfl
  refine ht x H' D _ _ hm M' fun H4 M4 => ?_
  by_cases hp : P x = true
  · rw [hp, if_pos rfl]
    refine he x H4 D _ _ hm hp M4 fun H5 M5 => ⟨_, M5.getL List.mem_cons_self, ?_, ?_⟩
    · rw [List.length_map]
      have h1 := List.length_filter_le P (xs.take i)
      have h2 := List.length_take_le i xs
      exact Nat.lt_of_le_of_lt (Nat.le_trans h1 h2) (Nat.lt_of_lt_of_le hil (Nat.le_trans hn (by decide)))
    · dsimp only
      rw [htk, List.filter_append, List.map_append]
      have e : ([x].filter P).map v = [v x] := by simp [hp]
      rw [e]; exact Mem.setL (l1 := []) M5
  · have hf : P x = false := by simpa using hp
    rw [hf, if_neg (by decide)]
    dsimp only
    rw [htk, List.filter_append]
    have e : [x].filter P = [] := by simp [hf]
    rw [e, List.append_nil]; exact M4
end
end MyL
namespace MyL
open PySem PySem.Spec PyProof.Rows L2
def StaAt (K : PySem.W.Frag) (C : Addr) (m qual : Str) (st : Stmt) : Prop := ∃ (p g : Addr) (fd : FuncData), StaOf K C m p g ∧ Fun K m qual st g fd
section
variable {P : Program} {w : World} {K : PySem.W.Frag} {mg : Str → Option Value} {base h : Heap} {k : Nat} {C f p : Addr} {x m qual : Str} {sp : Sp} {st : Stmt} {fd : FuncData} {ps : List Str} {oc : Value} {od an : Option Addr} {osl : Array (Option Value)} {kV doc pm cdv ct : Value} {rest : List Value}
theorem gsta (ga : PySem.W.specialIn K (.ref C) "__getattribute__" = some (some (.builtin "type.__getattribute__"))) (rd : PySem.W.readsIn K C (.type "type") = true)
    (a : PySem.W.findCls K (.ref C) (.type "type") m = some (.get (.builtin "staticmethod.__get__") (.ref p) .none (.ref C))) (r : PySem.W.recIn K p "staticmethod" = some (.ref f :: rest))
    (l : K.lookup f = some ⟨oc, od, .func (PySem.W.fnOf m qual (defArgs st) (defBody st) (defScope st) .none kV doc pm an cdv ct), osl⟩)
    (c : PySem.W.codeIn K cdv qual = true) (kp : PySem.W.keepIn K (.ref f) = true) : StaAt K C m qual st := ⟨p, f, _, ⟨ga, rd, a, ⟨rest, r⟩, kp⟩, fun_mk l c kp⟩
theorem sta_of (D : StaAt K C m qual st) (hb : BindsSt m qual st ps) (ok : ∀ {f : Addr} {fd : FuncData}, Fun K m qual st f fd → FnOk P w K mg base (L2.CX P w) k f fd ps sp) : Sta P w K mg base k C m sp := by
  obtain ⟨p, f, fd, a, F⟩ := D
  exact ⟨p, f, fd, ps, a, F.binds hb, ok F⟩
theorem plain_mk (X : K.In h) (G : h.Ns mainGlobals mg) (g : PySem.W.nsIn K mainGlobals x = some (some (.ref C))) (kC : PySem.W.keepIn K (.ref C) = true) (e : PySem.W.excIn K C [.type "ValueError", .type "Exception", .type "BaseException", .type "object"] "ValueError.__new__" = true)
    (sb : PySem.W.subIn K (.ref C) (.type "BaseException") = some true) (ty : PySem.W.typeIn K (.ref C) = some (.type "type")) : PlainErr K mg x C := ⟨PySem.W.mg_of X G g, kC, e, sb, ty⟩
end
end MyL

set_option Elab.async false
set_option linter.all false
set_option maxRecDepth 100000
set_option maxHeartbeats 8000000
namespace K17
open PySem L2 MyL
def top (i : Nat) : Stmt := PySem.Challenge.pw_fittingpasts_k17_stay_parts.main.body.getD i (.Pass ⟨0, 0, 0, 0⟩)
abbrev s_Stay_init : Stmt := inClass (top 10) 0
abbrev N_Stay_init : List Str := ["self", "come", "go"]
theorem sc_Stay_init : FnScope N_Stay_init ["self", "come", "go"] (defScope s_Stay_init) := ⟨rfl, rfl, rfl, by decide +kernel, rfl, by decide +kernel, by decide +kernel⟩
theorem st_Stay_init (a0 a1 a2 : V) : start N_Stay_init [a0, a1, a2] = [some a0, some a1, some a2] := rfl
abbrev s_Stay_around : Stmt := inClass (top 10) 1
abbrev N_Stay_around : List Str := ["days"]
theorem sc_Stay_around : FnScope N_Stay_around ["days"] (defScope s_Stay_around) := ⟨rfl, rfl, rfl, by decide +kernel, rfl, by decide +kernel, by decide +kernel⟩
theorem st_Stay_around (a0 : V) : start N_Stay_around [a0] = [some a0] := rfl
abbrev s_Stay_meets : Stmt := inClass (top 10) 10
abbrev N_Stay_meets : List Str := ["self", "other"]
theorem sc_Stay_meets : FnScope N_Stay_meets ["self", "other"] (defScope s_Stay_meets) := ⟨rfl, rfl, rfl, by decide +kernel, rfl, by decide +kernel, by decide +kernel⟩
theorem st_Stay_meets (a0 a1 : V) : start N_Stay_meets [a0, a1] = [some a0, some a1] := rfl
abbrev s_Stay_within : Stmt := inClass (top 10) 11
abbrev N_Stay_within : List Str := ["self", "other"]
theorem sc_Stay_within : FnScope N_Stay_within ["self", "other"] (defScope s_Stay_within) := ⟨rfl, rfl, rfl, by decide +kernel, rfl, by decide +kernel, by decide +kernel⟩
theorem st_Stay_within (a0 a1 : V) : start N_Stay_within [a0, a1] = [some a0, some a1] := rfl
abbrev s_Stay_crosses : Stmt := inClass (top 10) 12
abbrev N_Stay_crosses : List Str := ["self", "other"]
theorem sc_Stay_crosses : FnScope N_Stay_crosses ["self", "other"] (defScope s_Stay_crosses) := ⟨rfl, rfl, rfl, by decide +kernel, rfl, by decide +kernel, by decide +kernel⟩
theorem st_Stay_crosses (a0 a1 : V) : start N_Stay_crosses [a0, a1] = [some a0, some a1] := rfl
abbrev s_Stay_parts_without : Stmt := inClass (top 10) 13
abbrev N_Stay_parts_without : List Str := ["self", "other", "parts"]
theorem sc_Stay_parts_without : FnScope N_Stay_parts_without ["self", "other"] (defScope s_Stay_parts_without) := ⟨rfl, rfl, rfl, by decide +kernel, rfl, by decide +kernel, by decide +kernel⟩
theorem st_Stay_parts_without (a0 a1 : V) : start N_Stay_parts_without [a0, a1] = [some a0, some a1, none] := rfl
abbrev s__law_draws : Stmt := top 12
abbrev N__law_draws : List Str := ["_law_script", "_law_cells", "_law_state", "_law_cell"]
theorem sc__law_draws : FnScope N__law_draws ["_law_script"] (defScope s__law_draws) := ⟨rfl, rfl, rfl, by decide +kernel, rfl, by decide +kernel, by decide +kernel⟩
theorem st__law_draws (a0 : V) : start N__law_draws [a0] = [some a0, none, none, none] := rfl
abbrev s__law_take : Stmt := top 13
abbrev N__law_take : List Str := ["_law_box", "_law_limit", "_law_cell", "_law_digit", "_law_twice"]
theorem sc__law_take : FnScope N__law_take ["_law_box", "_law_limit"] (defScope s__law_take) := ⟨rfl, rfl, rfl, by decide +kernel, rfl, by decide +kernel, by decide +kernel⟩
theorem st__law_take (a0 a1 : V) : start N__law_take [a0, a1] = [some a0, some a1, none, none, none] := rfl
abbrev s__law_far : Stmt := top 14
abbrev N__law_far : List Str := ["_law_box", "_law_high", "_law_middle"]
theorem sc__law_far : FnScope N__law_far ["_law_box"] (defScope s__law_far) := ⟨rfl, rfl, rfl, by decide +kernel, rfl, by decide +kernel, by decide +kernel⟩
theorem st__law_far (a0 : V) : start N__law_far [a0] = [some a0, none, none] := rfl
abbrev s__law_number : Stmt := top 15
abbrev N__law_number : List Str := ["_law_actual", "_law_due"]
theorem sc__law_number : FnScope N__law_number ["_law_actual", "_law_due"] (defScope s__law_number) := ⟨rfl, rfl, rfl, by decide +kernel, rfl, by decide +kernel, by decide +kernel⟩
theorem st__law_number (a0 a1 : V) : start N__law_number [a0, a1] = [some a0, some a1] := rfl
abbrev s__law_is : Stmt := top 16
abbrev N__law_is : List Str := ["_law_stay", "_law_days_here"]
theorem sc__law_is : FnScope N__law_is ["_law_stay", "_law_days_here"] (defScope s__law_is) := ⟨rfl, rfl, rfl, by decide +kernel, rfl, by decide +kernel, by decide +kernel⟩
theorem st__law_is (a0 a1 : V) : start N__law_is [a0, a1] = [some a0, some a1] := rfl
abbrev s__law_starts : Stmt := top 17
abbrev N__law_starts : List Str := ["_law_box", "_law_start", "_law_starts_here", "_law_k"]
theorem sc__law_starts : FnScope N__law_starts ["_law_box"] (defScope s__law_starts) := ⟨rfl, rfl, rfl, by decide +kernel, rfl, by decide +kernel, by decide +kernel⟩
theorem st__law_starts (a0 : V) : start N__law_starts [a0] = [some a0, none, none, none] := rfl
abbrev s__law_row : Stmt := top 18
abbrev N__law_row : List Str := ["_law_box", "_law_low"]
theorem sc__law_row : FnScope N__law_row ["_law_box"] (defScope s__law_row) := ⟨rfl, rfl, rfl, by decide +kernel, rfl, by decide +kernel, by decide +kernel⟩
theorem st__law_row (a0 : V) : start N__law_row [a0] = [some a0, none] := rfl
abbrev s__law_days : Stmt := top 19
abbrev N__law_days : List Str := ["_law_starts_here", "_law_row_here"]
theorem sc__law_days : FnScope N__law_days ["_law_starts_here", "_law_row_here"] (defScope s__law_days) := ⟨rfl, rfl, rfl, by decide +kernel, rfl, by decide +kernel, by decide +kernel⟩
theorem st__law_days (a0 a1 : V) : start N__law_days [a0, a1] = [some a0, some a1] := rfl
abbrev s__law_runs : Stmt := top 20
abbrev N__law_runs : List Str := ["_law_mine", "_law_other", "_law_runs_here", "_law_k"]
theorem sc__law_runs : FnScope N__law_runs ["_law_mine", "_law_other"] (defScope s__law_runs) := ⟨rfl, rfl, rfl, by decide +kernel, rfl, by decide +kernel, by decide +kernel⟩
theorem st__law_runs (a0 a1 : V) : start N__law_runs [a0, a1] = [some a0, some a1, none, none] := rfl
abbrev s__law_truth : Stmt := top 21
abbrev N__law_truth : List Str := ["_law_actual", "_law_due"]
theorem sc__law_truth : FnScope N__law_truth ["_law_actual", "_law_due"] (defScope s__law_truth) := ⟨rfl, rfl, rfl, by decide +kernel, rfl, by decide +kernel, by decide +kernel⟩
theorem st__law_truth (a0 a1 : V) : start N__law_truth [a0, a1] = [some a0, some a1] := rfl
abbrev s__law_placed : Stmt := top 22
abbrev N__law_placed : List Str := ["_law_one", "_law_two", "_law_mine", "_law_other", "_law_left", "_law_right", "_law_both", "_law_inside", "_law_k"]
theorem sc__law_placed : FnScope N__law_placed ["_law_one", "_law_two", "_law_mine", "_law_other"] (defScope s__law_placed) := ⟨rfl, rfl, rfl, by decide +kernel, rfl, by decide +kernel, by decide +kernel⟩
theorem st__law_placed (a0 a1 a2 a3 : V) : start N__law_placed [a0, a1, a2, a3] = [some a0, some a1, some a2, some a3, none, none, none, none, none] := rfl
abbrev s__law_stays : Stmt := top 23
abbrev N__law_stays : List Str := ["_law_actual", "_law_starts_here", "_law_runs_here", "_law_k"]
theorem sc__law_stays : FnScope N__law_stays ["_law_actual", "_law_starts_here", "_law_runs_here"] (defScope s__law_stays) := ⟨rfl, rfl, rfl, by decide +kernel, rfl, by decide +kernel, by decide +kernel⟩
theorem st__law_stays (a0 a1 a2 : V) : start N__law_stays [a0, a1, a2] = [some a0, some a1, some a2, none] := rfl
abbrev s__law_parted : Stmt := top 24
abbrev N__law_parted : List Str := ["_law_one", "_law_two", "_law_starts_here", "_law_mine", "_law_other", "_law_runs_here", "_law_parts"]
theorem sc__law_parted : FnScope N__law_parted ["_law_one", "_law_two", "_law_starts_here", "_law_mine", "_law_other"] (defScope s__law_parted) := ⟨rfl, rfl, rfl, by decide +kernel, rfl, by decide +kernel, by decide +kernel⟩
theorem st__law_parted (a0 a1 a2 a3 a4 : V) : start N__law_parted [a0, a1, a2, a3, a4] = [some a0, some a1, some a2, some a3, some a4, none, none] := rfl
abbrev s__law_listed : Stmt := top 25
abbrev N__law_listed : List Str := ["_law_box", "_law_starts_here", "_law_days_here", "_law_k", "_law_at", "_law_day", "_law_far_here"]
theorem sc__law_listed : FnScope N__law_listed ["_law_box", "_law_starts_here"] (defScope s__law_listed) := ⟨rfl, rfl, rfl, by decide +kernel, rfl, by decide +kernel, by decide +kernel⟩
theorem st__law_listed (a0 a1 : V) : start N__law_listed [a0, a1] = [some a0, some a1, none, none, none, none, none] := rfl
abbrev s__law_around : Stmt := top 26
abbrev N__law_around : List Str := ["_law_days_here", "_law_as_tuple", "_law_due", "_law_handed"]
theorem sc__law_around : FnScope N__law_around ["_law_days_here", "_law_as_tuple"] (defScope s__law_around) := ⟨rfl, rfl, rfl, by decide +kernel, rfl, by decide +kernel, by decide +kernel⟩
theorem st__law_around (a0 a1 : V) : start N__law_around [a0, a1] = [some a0, some a1, none, none] := rfl
abbrev s__law_no_days : Stmt := top 27
abbrev N__law_no_days : List Str := ["_law_days_here", "e"]
theorem sc__law_no_days : FnScope N__law_no_days ["_law_days_here"] (defScope s__law_no_days) := ⟨rfl, rfl, rfl, by decide +kernel, rfl, by decide +kernel, by decide +kernel⟩
theorem st__law_no_days (a0 : V) : start N__law_no_days [a0] = [some a0, none] := rfl
abbrev s__law_caught : Stmt := top 28
abbrev N__law_caught : List Str := ["e"]
theorem sc__law_caught : FnScope N__law_caught [] (defScope s__law_caught) := ⟨rfl, rfl, rfl, by decide +kernel, rfl, by decide +kernel, by decide +kernel⟩
theorem st__law_caught : start N__law_caught [] = [none] := rfl
abbrev s_law : Stmt := top 29
abbrev N_law : List Str := ["_law_script", "_law_box", "_law_starts_here", "_law_mine", "_law_other", "_law_first", "_law_second", "_law_one", "_law_two", "_law_days_here"]
theorem sc_law : FnScope N_law ["_law_script"] (defScope s_law) := ⟨rfl, rfl, rfl, by decide +kernel, rfl, by decide +kernel, by decide +kernel⟩
theorem st_law (a0 : V) : start N_law [a0] = [some a0, none, none, none, none, none, none, none, none, none] := rfl
local macro_rules | `(tactic| walk_at "mem") => `(tactic| first | exact List.mem_cons_self | (refine List.mem_cons_of_mem _ ?_; walk_at "mem"))
local macro_rules | `(tactic| walk_at "hp") => `(tactic| first | assumption | (refine' Mem.getL ?k1 ?k2; (case k1 => assumption); (case k2 => walk_at "mem")) | (refine' Mem.getF ?k1 ?k2; (case k1 => assumption); (case k2 => walk_at "mem")) | (refine' Mem.atB ?k1 ?k2; (case k1 => assumption); (case k2 => assumption)))
local macro_rules | `(tactic| walk_at "cond") => `(tactic| first | omega | assumption | exact mulR (by omega) (by omega) | exact mulL (by omega) (by omega) | exact divW (by omega) (by omega) | decide)
local macro_rules | `(tactic| walk_at "look") => `(tactic| first | with_unfolding_all rfl | exact atI_map (by omega) (by omega))
local macro_rules | `(tactic| walk_at "go1") => `(tactic| with_reducible first
  | refine k_seq ?_ | refine k_gName ?_ | refine k_asg ?_ | refine k_ret ?_ | refine k_ifS ?_ | refine k_drop ?_ | refine k_next ?_ | refine k_break ?_ | refine k_cont ?_ | refine k_retN ?_
  | (refine' k_var ?k1 ?_; (case k1 => with_unfolding_all rfl)) | refine k_c ?_ | refine k_op ?_ | refine k_un ?_ | refine k_test ?_ | refine k_B ?_ | refine k_bl ?_ | refine k_and ?_ | refine k_or ?_ | refine k_not ?_
  | refine k_andV ?_ | refine k_orV ?_ | refine k_notV ?_ | refine k_ifE ?_ | refine k_nil ?_ | refine k_cons ?_ | refine k_cb ?_ | refine k_callS ?_ | refine k_lst0 ?_ | refine k_tup0 ?_ | refine k_fld0 ?_ | refine k_sub0 ?_ | refine k_make0 ?_ | refine k_prop0 ?_ | refine k_sta0 ?_ | refine k_sta ?_ | refine k_bm ?_ | refine k_bm0 ?_ | refine k_chain ?_ | refine k_makeK0 ?_ | refine k_swapK ?_ | refine k_meth0 ?_ | refine k_ownN0 ?_ | refine k_ownO0 ?_ | refine k_sfld0 ?_ | refine k_jnil ?_ | refine k_jcons ?_ | refine k_fmt0 ?_ | refine k_sl0 ?_ | refine k_nopart ?_ | refine k_part ?_ | refine k_forR1 ?_ | refine k_forR2 ?_ | refine k_forL ?_ | refine k_forT ?_ | refine k_lcR1 ?_ | refine k_lcR2 ?_ | refine k_lcL ?_ | refine k_err0 ?_ | refine k_xf0 ?_ | refine k_errQ1 ?_ | refine k_errQ0 ?_ | refine k_errQ2 ?_ | refine k_errQ3 ?_
  | refine k_I0 ?_ | (refine k_I ?k1 ?_; (case k1 => walk_at "cond")) | refine k_U ?_ | refine k_eqI ?_ | refine k_neI ?_ | refine k_eqB ?_ | refine k_neB ?_ | refine k_eqS ?_ | refine k_neS ?_
  | refine k_int1 ?_ | refine k_abs1 ?_ | refine k_min2 ?_ | refine k_max2 ?_
  | (refine' k_lenM ?k1 ?_; (case k1 => walk_at "hp")) | (refine' k_lenL ?k1 ?_; (case k1 => walk_at "hp")) | (refine' k_lenT ?k1 ?_; (case k1 => walk_at "hp"))
  | (refine' k_lenS ?k1 ?_; (case k1 => assumption)) | (refine' k_ixS ?k1 ?k2 ?_; (case k1 => assumption); (case k2 => walk_at "look"))
  | (refine' k_ixL ?k1 ?k2 ?_; (case k1 => walk_at "hp"); (case k2 => walk_at "look")) | (refine' k_ixT ?k1 ?k2 ?_; (case k1 => walk_at "hp"); (case k2 => walk_at "look"))
  | (refine' k_ix4 ?k1 ?k2 ?k3 ?_; (case k1 => walk_at "hp"); (case k2 => omega); (case k3 => omega); intro n' hn')
  | (refine' k_ix3 ?k1 ?k2 ?k3 ?_; (case k1 => walk_at "hp"); (case k2 => omega); (case k3 => omega); intro n' hn')
  | (refine' k_ix2 ?k1 ?k2 ?k3 ?_; (case k1 => walk_at "hp"); (case k2 => omega); (case k3 => omega); intro n' hn')
  | (refine' k_fld ?k1 ?k2 ?k3 ?k4 ?_; (case k1 => walk_at "hp"); (case k2 => assumption); (case k3 => assumption); (case k4 => walk_at "fld"))
  | (refine' k_lst ?k1 ?k2 ?_; (case k1 => assumption); (case k2 => exact sz (by simp)); intro p' H' M')
  | (refine' k_tup ?k1 ?k2 ?_; (case k1 => assumption); (case k2 => exact sz (by simp)); intro p' H' M')
  | (refine' k_setF0 ?k1 ?k2 ?k3 ?_; (case k1 => assumption); (case k2 => simp); (case k3 => with_unfolding_all rfl); intro H' M'; try simp only [Int.reduceToNat, List.set_cons_succ, List.set_cons_zero] at M')
  | (refine' k_setL0 ?k1 ?k2 ?_; (case k1 => assumption); (case k2 => with_unfolding_all rfl); intro H' M'; try simp only [Int.reduceToNat, List.set_cons_succ, List.set_cons_zero] at M')
  | (refine' k_setL1 ?k1 ?k2 ?_; (case k1 => assumption); (case k2 => with_unfolding_all rfl); intro H' M'; try simp only [Int.reduceToNat, List.set_cons_succ, List.set_cons_zero] at M')
  | (refine' k_setL2 ?k1 ?k2 ?_; (case k1 => assumption); (case k2 => with_unfolding_all rfl); intro H' M'; try simp only [Int.reduceToNat, List.set_cons_succ, List.set_cons_zero] at M')
  | refine iteT ?_ | refine iteF ?_ | refine k_iteNE ?_ | refine k_iteNS ?_ | refine k_iteNT ?_ | refine k_iteNF ?_
  | (refine k_iteD ?_ ?_ <;> intro hc <;> first | (exfalso; omega) | skip)
  | (refine k_iteN ?_ ?_ <;> intro hc <;> first | (exfalso; omega) | skip)
  | (refine' k_ownN ?k1 ?_; (case k1 => walk_at "hp")) | (refine' k_ownO ?k1 ?k2 ?_; (case k1 => walk_at "hp"); (case k2 => walk_at "hp")) | (refine' k_ownEq ?k1 ?k2 ?_; (case k1 => walk_at "hp"); (case k2 => walk_at "hp"))
  | (refine' k_ownIn ?k1 ?_; (case k1 => walk_at "hp")) | (refine' k_ownU ?k1 ?_; (case k1 => walk_at "hp")) | (refine' k_ownStr ?k1 ?_; (case k1 => walk_at "hp"))
  | (refine' k_prop ?k1 ?_; (case k1 => walk_at "hp")) | (refine' k_ownNe ?k1 ?k2 ?_; (case k1 => walk_at "hp"); (case k2 => walk_at "hp")) | (refine' k_eqP ?k1 ?k2 ?_; (case k1 => walk_at "hp"); (case k2 => walk_at "hp")) | (refine' k_neP ?k1 ?k2 ?_; (case k1 => walk_at "hp"); (case k2 => walk_at "hp"))
  | (refine' k_isiO ?k1 ?k2 ?k3 ?k4 ?k5 ?k6 ?_; (case k1 => walk_at "hp"); (case k2 => assumption); (case k3 => assumption); (case k4 => assumption); (case k5 => assumption); (case k6 => assumption))
  | (refine' k_isiI ?k1 ?_; (case k1 => assumption))
  | (refine' k_jst ?k1 ?_; (case k1 => walk_at "size")) | (refine' k_fmtI ?k1 ?_; (case k1 => exact log2_64 (by omega) (by omega))) | (refine' k_strI ?k1 ?_; (case k1 => exact log2_64 (by omega) (by omega)))
  | (refine k_addS ?k1 ?_; (case k1 => walk_at "size")) | refine k_st ?_ | refine k_parti ?_
  | (refine' k_cat ?k1 ?k2 ?k3 ?k4 ?_; (case k1 => assumption); (case k2 => walk_at "hp"); (case k3 => walk_at "hp"); (case k4 => walk_at "size"); intro p' H' M')
  | (refine' k_slL ?k1 ?k2 ?_; (case k1 => assumption); (case k2 => first | assumption | exact SqL.of (by walk_at "hp")); intro p' H' M')
  | (refine k_rng1 ?k1 ?k2 ?_; (case k1 => omega); (case k2 => omega)) | (refine k_rng2 ?k1 ?k2 ?k3 ?k4 ?_; (case k1 => omega); (case k2 => omega); (case k3 => omega); (case k4 => omega))
  | (refine' k_lstAt ?k1 ?_; (case k1 => first | assumption | exact SqL.of (by walk_at "hp"))) | (refine' k_tupAt ?k1 ?_; (case k1 => first | assumption | exact SqT.of (by walk_at "hp")))
  | (refine' k_isXs ?k1 ?k2 ?_; (case k1 => assumption); (case k2 => walk_at "hp")) | (refine' k_isXo ?k1 ?k2 ?k3 ?_; (case k1 => assumption); (case k2 => walk_at "hp"); (case k3 => assumption)) | (refine' k_isXt ?k1 ?k2 ?k3 ?_; (case k1 => assumption); (case k2 => walk_at "hp"); (case k3 => assumption))
  | (refine' k_isX3 ?k1 ?k2 ?k3 ?k4 ?_; (case k1 => assumption); (case k2 => walk_at "hp"); (case k3 => walk_at "hp"); (case k4 => assumption)) | (refine' k_isX2 ?k1 ?k2 ?k3 ?k4 ?_; (case k1 => assumption); (case k2 => walk_at "hp"); (case k3 => walk_at "hp"); (case k4 => assumption))
  | (refine' k_tyL ?k1 ?_; (case k1 => walk_at "hp"))
  | (refine' k_appL0 ?k1 ?k2 ?_; (case k1 => assumption); (case k2 => walk_at "size"); intro H' M') | (refine' k_appL1 ?k1 ?k2 ?_; (case k1 => assumption); (case k2 => walk_at "size"); intro H' M') | (refine' k_appL2 ?k1 ?k2 ?_; (case k1 => assumption); (case k2 => walk_at "size"); intro H' M') | (refine' k_appL3 ?k1 ?k2 ?_; (case k1 => assumption); (case k2 => walk_at "size"); intro H' M')
  | (refine' k_revL0 ?k1 ?_; (case k1 => assumption); intro H' M') | (refine' k_revL1 ?k1 ?_; (case k1 => assumption); intro H' M')
  | (refine' k_isX0s ?k1 ?_; (case k1 => assumption)) | (refine' k_isX0o ?k1 ?k2 ?_; (case k1 => assumption); (case k2 => assumption)) | (refine' k_isX0t ?k1 ?k2 ?_; (case k1 => assumption); (case k2 => assumption)) | (refine' k_isX04 ?k1 ?k2 ?k3 ?_; (case k1 => assumption); (case k2 => walk_at "hp"); (case k3 => assumption))
  | (refine' k_isX4 ?k1 ?k2 ?k3 ?k4 ?_; (case k1 => assumption); (case k2 => walk_at "hp"); (case k3 => walk_at "hp"); (case k4 => assumption)) | (refine' k_ixT2 ?k1 ?k2 ?k3 ?_; (case k1 => walk_at "hp"); (case k2 => omega); (case k3 => omega); intro n' hn')
  | (refine k_iteNEq ?k1 ?_; (case k1 => (rw [Bool.eq_iff_iff]; first | (simp; done) | (simp; omega))))
  | (refine' k_xf ?k1 ?k2 ?_; (case k1 => walk_at "hp"); (case k2 => first | exact xd1 | exact xdH | exact xd2 (by decide +kernel)))
  | (refine' k_caught ?k1 ?_; (case k1 => assumption); intro a' ha')
  | walk_at "use")
local macro_rules | `(tactic| walk_at "go") => `(tactic| repeat' (walk_at "go1"))

/-! ### stays -/
def stF (c g : Int) : List (Str × V) := [("come", .int c), ("go", .int g)]
theorem ne_cg : ¬ (("go" : Str) = "come") := by decide +kernel
theorem ne_gc : ¬ (("come" : Str) = "go") := by decide +kernel
theorem stF_come (p l : Int) : (stF p l).lookup ("come" : Str) = some (.int p) := by
  unfold stF; rw [lookup_put, if_pos rfl]
theorem stF_go (p l : Int) : (stF p l).lookup ("go" : Str) = some (.int l) := by
  unfold stF; rw [lookup_put, if_neg ne_cg, lookup_put, if_pos rfl]
theorem stF_put (p l : Int) : putF "go" (.int l) (putF "come" (.int p) []) = stF p l := by
  show (if ("come" : Str) = "go" then _ else (("come" : Str), V.int p) :: [(("go" : Str), V.int l)]) = _
  rw [if_neg ne_gc]; rfl
theorem stF_no {p l : Int} {m : Str} (h1 : ¬ m = "come") (h2 : ¬ m = "go") : (stF p l).lookup m = none := by
  unfold stF; rw [lookup_put, if_neg h1, lookup_put, if_neg h2]; rfl
local macro_rules | `(tactic| walk_at "fld") => `(tactic| first | exact stF_come _ _ | exact stF_go _ _)
local macro_rules | `(tactic| walk_at "eq") => `(tactic| first | rfl | assumption | omega)
local macro_rules | `(tactic| walk_at "size") => `(tactic| first | exact sz (by first | omega | (simp only [List.length_map, List.length_range, List.length_append, List.length_cons, List.length_nil, Int.reduceSub, Int.reduceToNat, Int.reduceNeg]; omega)) | exact small1000 (by first | omega | (simp only [List.length_map, List.length_range, List.length_append, List.length_cons, List.length_nil]; omega)) | (simp only [Str.length_append, Str.empty_append]; exact sz (by omega)))
structure Txt (prog : Program) (K : PySem.W.Frag) (mg : Str → Option Value) (C CE fE CD CA CU CT CI : Addr) : Prop where
  cl : Cls K C
  nC : NoAttr K C "come"
  nG : NoAttr K C "go"
  ca : PySem.W.findIn K (.ref C) "__class__" = some (some (.builtin "object.__class__"))
  cn : PySem.W.specialIn K (.builtin "object.__class__") "__get__" = some (some (.builtin "getset_descriptor.__get__"))
  ct : PySem.W.takesIn K (.builtin "object.__class__") = some true
  cm : PySem.W.mroIn K C (.type "object") = some true
  b_isinstance : mg "isinstance" = none
  b_int : mg "int" = none
  b_bool : mg "bool" = none
  b_len : mg "len" = none
  b_min : mg "min" = none
  b_max : mg "max" = none
  b_list : mg "list" = none
  b_tuple : mg "tuple" = none
  b_range : mg "range" = none
  b_ValueError : mg "ValueError" = none
  g_Stay : mg "Stay" = some (.ref C)
  e_EmptyStay : PySem.ErrX.ErrTxt prog K mg "EmptyStay" CE fE ["come", "go"]
  e_NoDays : PlainErr K mg "NoDays" CD
  g_EmptyStay : mg "EmptyStay" = some (.ref CE)
  g_NoDays : mg "NoDays" = some (.ref CD)
  g_ArchiveError : mg "ArchiveError" = some (.ref CA)
  g_UnknownError : mg "UnknownError" = some (.ref CU)
  g_TextError : mg "TextError" = some (.ref CT)
  g_ImpossibleError : mg "ImpossibleError" = some (.ref CI)
  i1 : PySem.W.kitOne K (.type "int") (.type "int") = some true
  i2 : PySem.W.kitOne K (.type "int") (.type "bool") = some false
  i3 : PySem.W.kitOne K (.type "bool") (.type "bool") = some true
  i4 : PySem.W.kitOne K (.type "list") (.type "list") = some true
  ekD : ExcK K CD
  exmD : PySem.W.exmOne K (.ref CD) (.ref CD) = some true
  exmA : PySem.W.exmOne K (.ref CD) (.ref CA) = some true
  kD1 : PySem.W.kitOne K (.ref CD) (.type "ValueError") = some true
  kD2 : PySem.W.kitOne K (.ref CD) (.ref CA) = some true
  kD3 : PySem.W.kitAny K (.ref CD) [.ref CU, .ref CT, .ref CI, .ref CE] = some false
section
variable {P : Program} {w : World} {K : PySem.W.Frag} {mg : Str → Option Value} {base : Heap} {C CE fE CD CA CU CT CI : Addr}
theorem k_lenQ {H : Hp} {Q : VK} {a : Addr} {ns : List Int} (h : SqL K H a (ns.map V.int) ∨ SqT K H a (ns.map V.int)) (q : Q (.int ns.length) H) : rLenQ K [.ref a] H Q := ⟨a, _, rfl, h, by rw [List.length_map]; exact q⟩
theorem k_minQ {H : Hp} {Q : VK} {a : Addr} {ns : List Int} (h : SqL K H a (ns.map V.int) ∨ SqT K H a (ns.map V.int)) (h0 : 0 < ns.length) (q : ∀ m, m ∈ ns → (∀ y, y ∈ ns → m ≤ y) → Q (.int m) H) : rMinQ K [.ref a] H Q := ⟨a, ns, rfl, h, h0, q⟩
theorem k_maxQ {H : Hp} {Q : VK} {a : Addr} {ns : List Int} (h : SqL K H a (ns.map V.int) ∨ SqT K H a (ns.map V.int)) (h0 : 0 < ns.length) (q : ∀ m, m ∈ ns → (∀ y, y ∈ ns → y ≤ m) → Q (.int m) H) : rMaxQ K [.ref a] H Q := ⟨a, ns, rfl, h, h0, q⟩
theorem k_methI {H : Hp} {a dx : Addr} {fs : List (Str × V)} {m : Str} {PR : Addr → Prop} (h : H a = some (.ins C dx fs)) (hl : fs.lookup m = none) (q : PR a) : ∃ a' dx' fs', V.ref a = .ref a' ∧ H a' = some (.ins C dx' fs') ∧ fs'.lookup m = none ∧ PR a' := ⟨a, dx, fs, rfl, h, hl, q⟩
def sp_init (C CE : Addr) : Sp := fun vs H Q E => ∃ (x dx : Addr) (c g : Int), vs = [.ref x, .int c, .int g] ∧ H x = some (.ins C dx []) ∧
  (c ≤ g → ∀ H', H' x = some (.ins C dx (stF c g)) → (∀ b o, H b = some o → b ≠ x → H' b = some o) → Q .non H') ∧
  (g < c → ∀ d, H d = none → E (.ref CE) (some d) (upd H d (.xd [("go", .int g), ("come", .int c)])))
theorem ok_init {f : Addr} {fd : FuncData} (F : Fun K "__init__" "Stay.__init__" s_Stay_init f fd) (T : Txt P K mg C CE fE CD CA CU CT CI)  :
    FnOk P w K mg base (L2.CX P w) (0 + 1) f fd ["self", "come", "go"] (sp_init C CE) := by
  refine okT F sc_Stay_init (fun vs H Q E h => ?_) (fun cdv A outer s H vs Q E hr tk h => ?_)
  · obtain ⟨x, dx, c, g, rfl, _⟩ := h
    rfl
  obtain ⟨x, dx, c, g, rfl, h1, k1, k2⟩ := h
  have f1 := T.cl; have f2 := T.nC; have f3 := T.nG; have f4 := T.ca; have f5 := T.cn; have f6 := T.ct; have f7 := T.cm; have f8 := T.i1; have f9 := T.i2
  refine ⟨_, (pss_cons (ps_if (pt_cmpR op_lt (pv 2) (pv 1) (nomark _)) (pss_one (ps_raise rfl tk (pmk_err T.e_EmptyStay (by decide) hr (pa_cons (pv 1) (pa_cons (pv 2) pa_nil))))) pss_nil)
      (pss_cons (ps_fld (pv 0) (pv 1) rfl)
      (pss_one (ps_fld (pv 0) (pv 2) rfl)))), ?_⟩
  simp only [cxK, st_Stay_init]
  walk_at "go"
  · exact fun d hd => k2 (by omega) d hd
  · refine ⟨x, C, dx, _, rfl, h1, f1, f2, (by decide), ?_⟩
    walk_at "go"
    refine ⟨x, C, dx, _, rfl, upd_same, f1, f3, (by show 1 < 1000; decide), ?_⟩
    walk_at "go"
    refine k1 (by omega) _ ?_ ?_
    · rw [upd_same, stF_put]
    · intro b o hb hne
      rw [upd_ne hne, upd_ne hne]; exact hb
/-- a stay is made -/
theorem use_make {B H : Hp} {ms : List Addr} {f l : List (Addr × HO)} {Q : VK} {E : XK} {c g : Int} (M : Mem B ms H f l) (h : c ≤ g) (k : ∀ x dx H', Mem B ms H' f ((x, .ins C dx (stF c g)) :: l) → Q (.ref x) H') :
    newO C (sp_init C CE) [.int c, .int g] H Q E := by
  intro x dx hx hdx hne
  refine ⟨x, dx, c, g, rfl, upd_same, fun _ H' hx' hk => ⟨rfl, k x dx H' (M.sameNew (fun a o e => ?_) hx hx')⟩, fun h' => absurd h (by omega)⟩
  have hax : a ≠ x := ne_of_none e hx
  exact hk a o (by rw [upd_ne hax, upd_ne (ne_of_none e hdx)]; exact e) hax
theorem use_makeE {B H : Hp} {ms : List Addr} {f l : List (Addr × HO)} {Q : VK} {E : XK} {c g : Int} (M : Mem B ms H f l) (h : g < c) (k : ∀ d H', Mem B ms H' f ((d, .xd [("go", .int g), ("come", .int c)]) :: l) → E (.ref CE) (some d) H') : newO C (sp_init C CE) [.int c, .int g] H Q E := by
  intro x dx hx hdx hne
  refine ⟨x, dx, c, g, rfl, upd_same, fun h' => absurd h' (by omega), fun _ d hd => k d _ ?_⟩
  have s1 : Same H (upd (upd H dx (.own x)) x (.ins C dx [])) := fun a o e => by
    rw [upd_ne (ne_of_none e hx), upd_ne (ne_of_none e hdx)]; exact e
  exact M.sameNew (s1.trans (same_alloc hd)) (s1.free hd) upd_same
local macro_rules | `(tactic| walk_at "use") => `(tactic| with_reducible first
  | (refine' use_make ?k1 ?k2 ?_; (case k1 => assumption); (case k2 => omega); intro x' dx' H' M')
  | (refine' k_lenQ ?k1 ?_; (case k1 => assumption))
  | (refine' k_minQ ?k1 ?k2 ?_; (case k1 => assumption); (case k2 => omega); intro m' hm1 hm2)
  | (refine' k_maxQ ?k1 ?k2 ?_; (case k1 => assumption); (case k2 => omega); intro m' hm1 hm2)
  | (refine' k_methI ?k1 ?k2 ?_; (case k1 => walk_at "hp"); (case k2 => exact stF_no (by decide +kernel) (by decide +kernel))))
def sp_around (K : PySem.W.Frag) (C CD : Addr) : Sp := fun vs H Q E => ∃ (a : Addr) (ns : List Int), vs = [.ref a] ∧ (SqL K H a (ns.map V.int) ∨ SqT K H a (ns.map V.int)) ∧ (ns = [] → E (.ref CD) none H) ∧
  (0 < ns.length → ∀ (lo hi : Int) (x dx : Addr) H', lo ∈ ns → (∀ y, y ∈ ns → lo ≤ y) → hi ∈ ns → (∀ y, y ∈ ns → y ≤ hi) → H x = none → Same H H' → H' x = some (.ins C dx (stF lo hi)) → Q (.ref x) H')
theorem ok_around {f : Addr} {fd : FuncData} (F : Fun K "around" "Stay.around" s_Stay_around f fd) (T : Txt P K mg C CE fE CD CA CU CT CI) (c_Stay : Mak P w K mg base 1 "Stay" C (sp_init C CE)) :
    FnOk P w K mg base (L2.CX P w) (2 + 1) f fd ["days"] (sp_around K C CD) := by
  refine okT F sc_Stay_around (fun vs H Q E h => ?_) (fun cdv A outer s H vs Q E hr tk h => ?_)
  · obtain ⟨a, ns, rfl, _⟩ := h
    rfl
  obtain ⟨a, ns, rfl, hS, k1, k2⟩ := h
  have f1 := T.cl; have f2 := T.nC; have f3 := T.nG; have f4 := T.ca; have f5 := T.cn; have f6 := T.ct; have f7 := T.cm; have f8 := T.i1; have f9 := T.i2
  refine ⟨_, (pss_cons (ps_if (pt_cmpR op_eq (pe_callB b_len (by rfl) T.b_len (by decide +kernel) (pa_cons (pv 0) pa_nil)) pe_int (nomark _)) (pss_one (ps_raise rfl tk (pmk_plain0 T.e_NoDays))) pss_nil)
      (pss_one (ps_ret (c_make c_Stay tk hr (by decide) (pa_cons (pe_callB (b_minQ rfl) (by rfl) T.b_min (by decide +kernel) (pa_cons (pv 0) pa_nil)) (pa_cons (pe_callB (b_maxQ rfl) (by rfl) T.b_max (by decide +kernel) (pa_cons (pv 0) pa_nil)) pa_nil)))))), ?_⟩
  simp only [cxK, st_Stay_around]
  have M : Mem H [] H [] [] := mem_start (by simp []) (by simp) (by simp)
  walk_at "go"
  · exact k1 (List.length_eq_zero_iff.mp (by omega))
  · rename_i lo h1 h2 hi h3 h4
    have hle : lo ≤ hi := h2 _ h3
    walk_at "go"
    rename_i x' dx' H' M'
    exact k2 (by omega) lo hi x' dx' H' h1 h2 h3 h4 (M'.new _ List.mem_cons_self) (Same.of_keep M') (M'.getL List.mem_cons_self)
theorem use_around {B H : Hp} {ms : List Addr} {f l : List (Addr × HO)} {Q : VK} {E : XK} {a : Addr} {ns : List Int} (M : Mem B ms H f l) (hS : SqL K H a (ns.map V.int) ∨ SqT K H a (ns.map V.int)) (h0 : 0 < ns.length)
    (k : ∀ (lo hi : Int) x dx H', lo ∈ ns → (∀ y, y ∈ ns → lo ≤ y) → hi ∈ ns → (∀ y, y ∈ ns → y ≤ hi) → Mem B ms H' f ((x, .ins C dx (stF lo hi)) :: l) → Q (.ref x) H') : sp_around K C CD [.ref a] H Q E :=
  ⟨a, ns, rfl, hS, fun e => by (rw [e] at h0; cases h0), fun _ lo hi x dx H' a1 a2 a3 a4 hn s hx => k lo hi x dx H' a1 a2 a3 a4 (M.sameNew s hn hx)⟩
theorem use_aroundE {H : Hp} {Q : VK} {E : XK} {a : Addr} (hS : SqL K H a [] ∨ SqT K H a []) (k : E (.ref CD) none H) : sp_around K C CD [.ref a] H Q E :=
  ⟨a, [], rfl, hS, fun _ => k, fun h => nomatch h⟩
def sp_cmp (C : Addr) (Rl : Int → Int → Int → Int → Prop) [∀ a b c d, Decidable (Rl a b c d)] : Sp := fun vs H Q _ => ∃ (a dx b dy : Addr) (c g c2 g2 : Int), vs = [.ref a, .ref b] ∧ H a = some (.ins C dx (stF c g)) ∧ H b = some (.ins C dy (stF c2 g2)) ∧ Q (.bl (decide (Rl c g c2 g2))) H
abbrev RMeets (c g c2 g2 : Int) : Prop := c ≤ g2 ∧ c2 ≤ g
abbrev RWithin (c g c2 g2 : Int) : Prop := c2 ≤ c ∧ g ≤ g2
abbrev RCrosses (c g c2 g2 : Int) : Prop := RMeets c g c2 g2 ∧ ¬ RWithin c g c2 g2 ∧ ¬ RWithin c2 g2 c g
theorem cong_bl {Q : VK} {H : Hp} {x y : Bool} (k : Q (.bl x) H) (e : x = y) : Q (.bl y) H := by subst e; exact k
theorem use_cmp {Rl : Int → Int → Int → Int → Prop} [∀ a b c d, Decidable (Rl a b c d)] {H : Hp} {Q : VK} {E : XK} {a dx b dy : Addr} {c g c2 g2 : Int} (h1 : H a = some (.ins C dx (stF c g))) (h2 : H b = some (.ins C dy (stF c2 g2))) (q : Q (.bl (decide (Rl c g c2 g2))) H) : sp_cmp C Rl [.ref a, .ref b] H Q E := ⟨a, dx, b, dy, c, g, c2, g2, rfl, h1, h2, q⟩
local macro_rules | `(tactic| walk_at "use") => `(tactic| with_reducible first
  | (refine' use_cmp ?k1 ?k2 ?_; (case k1 => walk_at "hp"); (case k2 => walk_at "hp")))
theorem ok_meets {f : Addr} {fd : FuncData} (F : Fun K "meets" "Stay.meets" s_Stay_meets f fd) (T : Txt P K mg C CE fE CD CA CU CT CI)  :
    FnOk P w K mg base (L2.CX P w) (0 + 1) f fd ["self", "other"] (sp_cmp C RMeets) := by
  refine okT F sc_Stay_meets (fun vs H Q E h => ?_) (fun cdv A outer s H vs Q E hr tk h => ?_)
  · obtain ⟨a, dx, b, dy, c, g, c2, g2, rfl, _⟩ := h
    rfl
  obtain ⟨a, dx, b, dy, c, g, c2, g2, rfl, h1, h2, k⟩ := h
  have f1 := T.cl; have f2 := T.nC; have f3 := T.nG; have f4 := T.ca; have f5 := T.cn; have f6 := T.ct; have f7 := T.cm; have f8 := T.i1; have f9 := T.i2
  refine ⟨_, (pss_one (ps_ret (pe_and (pe_cmpR op_le (pe_fld (pv 0) rfl) (pe_fld (pv 1) rfl) (nomark _)) (pe_one (pe_cmpR op_le (pe_fld (pv 1) rfl) (pe_fld (pv 0) rfl) (nomark _)))))), ?_⟩
  simp only [cxK, st_Stay_meets]
  walk_at "go"
  all_goals
    refine cong_bl k ?_
    rw [Bool.eq_iff_iff]
    simp only [decide_eq_true_eq, Bool.false_eq_true, Bool.not_eq_true', decide_eq_false_iff_not, Bool.not_eq_true, iff_false, false_iff]
    omega
theorem ok_within {f : Addr} {fd : FuncData} (F : Fun K "within" "Stay.within" s_Stay_within f fd) (T : Txt P K mg C CE fE CD CA CU CT CI)  :
    FnOk P w K mg base (L2.CX P w) (0 + 1) f fd ["self", "other"] (sp_cmp C RWithin) := by
  refine okT F sc_Stay_within (fun vs H Q E h => ?_) (fun cdv A outer s H vs Q E hr tk h => ?_)
  · obtain ⟨a, dx, b, dy, c, g, c2, g2, rfl, _⟩ := h
    rfl
  obtain ⟨a, dx, b, dy, c, g, c2, g2, rfl, h1, h2, k⟩ := h
  have f1 := T.cl; have f2 := T.nC; have f3 := T.nG; have f4 := T.ca; have f5 := T.cn; have f6 := T.ct; have f7 := T.cm; have f8 := T.i1; have f9 := T.i2
  refine ⟨_, (pss_one (ps_ret (pe_and (pe_cmpR op_le (pe_fld (pv 1) rfl) (pe_fld (pv 0) rfl) (nomark _)) (pe_one (pe_cmpR op_le (pe_fld (pv 0) rfl) (pe_fld (pv 1) rfl) (nomark _)))))), ?_⟩
  simp only [cxK, st_Stay_within]
  walk_at "go"
  all_goals
    refine cong_bl k ?_
    rw [Bool.eq_iff_iff]
    simp only [decide_eq_true_eq, Bool.false_eq_true, Bool.not_eq_true', decide_eq_false_iff_not, Bool.not_eq_true, iff_false, false_iff]
    omega
theorem ok_crosses {f : Addr} {fd : FuncData} (F : Fun K "crosses" "Stay.crosses" s_Stay_crosses f fd) (T : Txt P K mg C CE fE CD CA CU CT CI) (c_Stay_meets : Met P w K mg base 1 C "meets" (sp_cmp C RMeets)) (c_Stay_within : Met P w K mg base 1 C "within" (sp_cmp C RWithin)) :
    FnOk P w K mg base (L2.CX P w) (1 + 1) f fd ["self", "other"] (sp_cmp C RCrosses) := by
  refine okT F sc_Stay_crosses (fun vs H Q E h => ?_) (fun cdv A outer s H vs Q E hr tk h => ?_)
  · obtain ⟨a, dx, b, dy, c, g, c2, g2, rfl, _⟩ := h
    rfl
  obtain ⟨a, dx, b, dy, c, g, c2, g2, rfl, h1, h2, k⟩ := h
  have f1 := T.cl; have f2 := T.nC; have f3 := T.nG; have f4 := T.ca; have f5 := T.cn; have f6 := T.ct; have f7 := T.cm; have f8 := T.i1; have f9 := T.i2
  refine ⟨_, (pss_one (ps_ret (pe_and (c_meth c_Stay_meets tk hr (by decide) (pv 0) (pa_cons (pv 1) pa_nil)) (pe_and (pe_not (c_meth c_Stay_within tk hr (by decide) (pv 0) (pa_cons (pv 1) pa_nil))) (pe_one (pe_not (c_meth c_Stay_within tk hr (by decide) (pv 1) (pa_cons (pv 0) pa_nil)))))))), ?_⟩
  simp only [cxK, st_Stay_crosses]
  walk_at "go"
  all_goals
    refine cong_bl k ?_
    rw [Bool.eq_iff_iff]
    simp only [decide_eq_true_eq, Bool.false_eq_true, Bool.not_eq_true', decide_eq_false_iff_not, Bool.not_eq_true, iff_false, false_iff]
    omega
/-- the parts of (c, g) without (c2, g2) -/
def partsOf (c g c2 g2 : Int) : List (Int × Int) := if ¬ RMeets c g c2 g2 then [(c, g)] else (if c < c2 then [(c, c2 - 1)] else []) ++ (if g2 < g then [(g2 + 1, g)] else [])
/-- a list of stays at L -/
def StL (C : Addr) (H : Hp) (L : Addr) (xs : List (Addr × Int × Int)) : Prop := H L = some (.lst (xs.map fun x => V.ref x.1)) ∧ ∀ x ∈ xs, ∃ dx, H x.1 = some (.ins C dx (stF x.2.1 x.2.2))
def sp_parts (C : Addr) : Sp := fun vs H Q _ => ∃ (a dx b dy : Addr) (c g c2 g2 : Int), vs = [.ref a, .ref b] ∧ H a = some (.ins C dx (stF c g)) ∧ H b = some (.ins C dy (stF c2 g2)) ∧ c ≤ g ∧ c2 ≤ g2 ∧
  ∀ L xs H', Same H H' → H L = none → StL C H' L xs → xs.map (·.2) = partsOf c g c2 g2 → Q (.ref L) H'
theorem ok_parts {f : Addr} {fd : FuncData} (F : Fun K "parts_without" "Stay.parts_without" s_Stay_parts_without f fd) (T : Txt P K mg C CE fE CD CA CU CT CI) (c_Stay : Mak P w K mg base 1 "Stay" C (sp_init C CE)) (c_Stay_meets : Met P w K mg base 1 C "meets" (sp_cmp C RMeets)) :
    FnOk P w K mg base (L2.CX P w) (2 + 1) f fd ["self", "other"] (sp_parts C) := by
  refine okT F sc_Stay_parts_without (fun vs H Q E h => ?_) (fun cdv A outer s H vs Q E hr tk h => ?_)
  · obtain ⟨a, dx, b, dy, c, g, c2, g2, rfl, _⟩ := h
    rfl
  obtain ⟨a, dx, b, dy, c, g, c2, g2, rfl, h1, h2, hcg, hcg2, k⟩ := h
  have f1 := T.cl; have f2 := T.nC; have f3 := T.nG; have f4 := T.ca; have f5 := T.cn; have f6 := T.ct; have f7 := T.cm; have f8 := T.i1; have f9 := T.i2
  refine ⟨_, (pss_cons (ps_if (pt_not (pt_val (c_meth c_Stay_meets tk hr (by decide) (pv 0) (pa_cons (pv 1) pa_nil)))) (pss_one (ps_ret (pe_lst (pa_cons (c_make c_Stay tk hr (by decide) (pa_cons (pe_fld (pv 0) rfl) (pa_cons (pe_fld (pv 0) rfl) pa_nil))) pa_nil)))) pss_nil)
      (pss_cons (ps_set (i := 2) sc_Stay_parts_without.nd rfl (Or.inl rfl) (pe_lst pa_nil))
      (pss_cons (ps_if (pt_cmpR op_lt (pe_fld (pv 0) rfl) (pe_fld (pv 1) rfl) (nomark _)) (pss_one (ps_expr (pe_bm PySem.F.plainAttrs_list PySem.F.slot_list_append PySem.F.type_list_append mt_append (pv 2) (pa_cons (c_make c_Stay tk hr (by decide) (pa_cons (pe_fld (pv 0) rfl) (pa_cons (pe_op op_sub (pe_fld (pv 1) rfl) pe_int) pa_nil))) pa_nil)))) pss_nil)
      (pss_cons (ps_if (pt_cmpR op_lt (pe_fld (pv 1) rfl) (pe_fld (pv 0) rfl) (nomark _)) (pss_one (ps_expr (pe_bm PySem.F.plainAttrs_list PySem.F.slot_list_append PySem.F.type_list_append mt_append (pv 2) (pa_cons (c_make c_Stay tk hr (by decide) (pa_cons (pe_op op_add (pe_fld (pv 1) rfl) pe_int) (pa_cons (pe_fld (pv 0) rfl) pa_nil))) pa_nil)))) pss_nil)
      (pss_one (ps_ret (pv 2))))))), ?_⟩
  simp only [cxK, st_Stay_parts_without]
  have M : Mem H [] H [] [] := mem_start (by simp []) (by simp) (by simp)
  walk_at "go"
  · rename_i hm x0 dx0 H0 M0 L HL ML
    refine k L [(x0, c, g)] HL (Same.of_keep ML) (ML.new _ List.mem_cons_self) ⟨ML.getL List.mem_cons_self, ?_⟩ ?_
    · intro x hx; simp at hx; subst hx; exact ⟨dx0, ML.getL (by simp)⟩
    · rw [partsOf, if_pos hm]; rfl
  · rename_i hm L _ _ h3 x0 dx0 _ _ _ _ h4 x1 dx1 _ _ HL ML
    refine k L [(x0, c, c2 - 1), (x1, g2 + 1, g)] HL (Same.of_keep ML) (ML.new (L, _) (List.mem_cons_of_mem _ (List.mem_cons_of_mem _ List.mem_cons_self))) ⟨ML.getL (List.mem_cons_of_mem _ (List.mem_cons_of_mem _ List.mem_cons_self)), ?_⟩ ?_
    · intro x hx; simp at hx; rcases hx with rfl | rfl
      · exact ⟨dx0, ML.getL (by simp)⟩
      · exact ⟨dx1, ML.getL (by simp)⟩
    · rw [partsOf, if_neg (not_not_intro hm), if_pos h3, if_pos h4]; rfl
  · rename_i hm L _ _ h3 x0 dx0 _ _ HL ML h4
    refine k L [(x0, c, c2 - 1)] HL (Same.of_keep ML) (ML.new (L, _) (List.mem_cons_of_mem _ List.mem_cons_self)) ⟨ML.getL (List.mem_cons_of_mem _ List.mem_cons_self), ?_⟩ ?_
    · intro x hx; simp at hx; subst hx; exact ⟨dx0, ML.getL (by simp)⟩
    · rw [partsOf, if_neg (not_not_intro hm), if_pos h3, if_neg h4]; rfl
  · rename_i hm L _ _ h3 h4 x0 dx0 _ _ HL ML
    refine k L [(x0, g2 + 1, g)] HL (Same.of_keep ML) (ML.new (L, _) (List.mem_cons_of_mem _ List.mem_cons_self)) ⟨ML.getL (List.mem_cons_of_mem _ List.mem_cons_self), ?_⟩ ?_
    · intro x hx; simp at hx; subst hx; exact ⟨dx0, ML.getL (by simp)⟩
    · rw [partsOf, if_neg (not_not_intro hm), if_neg h3, if_pos h4]; rfl
  · rename_i hm L HL ML h3 h4
    refine k L [] HL (Same.of_keep ML) (ML.new (L, _) List.mem_cons_self) ⟨ML.getL List.mem_cons_self, fun x hx => nomatch hx⟩ ?_
    rw [partsOf, if_neg (not_not_intro hm), if_neg h3, if_neg h4]; rfl
end
end K17

set_option Elab.async false
set_option linter.all false
set_option maxRecDepth 100000
set_option maxHeartbeats 8000000
namespace K17
open PySem L2 MyL
local macro_rules | `(tactic| walk_at "mem") => `(tactic| first | exact List.mem_cons_self | (refine List.mem_cons_of_mem _ ?_; walk_at "mem"))
local macro_rules | `(tactic| walk_at "hp") => `(tactic| first | assumption | (refine' Mem.getL ?k1 ?k2; (case k1 => assumption); (case k2 => walk_at "mem")) | (refine' Mem.getF ?k1 ?k2; (case k1 => assumption); (case k2 => walk_at "mem")) | (refine' Mem.atB ?k1 ?k2; (case k1 => assumption); (case k2 => assumption)))
local macro_rules | `(tactic| walk_at "cond") => `(tactic| first | omega | assumption | exact mulR (by omega) (by omega) | exact mulL (by omega) (by omega) | exact divW (by omega) (by omega) | decide)
local macro_rules | `(tactic| walk_at "look") => `(tactic| first | with_unfolding_all rfl | exact atI_map (by omega) (by omega))
local macro_rules | `(tactic| walk_at "go1") => `(tactic| with_reducible first
  | refine k_seq ?_ | refine k_gName ?_ | refine k_asg ?_ | refine k_ret ?_ | refine k_ifS ?_ | refine k_drop ?_ | refine k_next ?_ | refine k_break ?_ | refine k_cont ?_ | refine k_retN ?_
  | (refine' k_var ?k1 ?_; (case k1 => with_unfolding_all rfl)) | refine k_c ?_ | refine k_op ?_ | refine k_un ?_ | refine k_test ?_ | refine k_B ?_ | refine k_bl ?_ | refine k_and ?_ | refine k_or ?_ | refine k_not ?_
  | refine k_andV ?_ | refine k_orV ?_ | refine k_notV ?_ | refine k_ifE ?_ | refine k_nil ?_ | refine k_cons ?_ | refine k_cb ?_ | refine k_callS ?_ | refine k_lst0 ?_ | refine k_tup0 ?_ | refine k_fld0 ?_ | refine k_sub0 ?_ | refine k_make0 ?_ | refine k_prop0 ?_ | refine k_sta0 ?_ | refine k_sta ?_ | refine k_bm ?_ | refine k_bm0 ?_ | refine k_chain ?_ | refine k_makeK0 ?_ | refine k_swapK ?_ | refine k_meth0 ?_ | refine k_ownN0 ?_ | refine k_ownO0 ?_ | refine k_sfld0 ?_ | refine k_jnil ?_ | refine k_jcons ?_ | refine k_fmt0 ?_ | refine k_sl0 ?_ | refine k_nopart ?_ | refine k_part ?_ | refine k_forR1 ?_ | refine k_forR2 ?_ | refine k_forL ?_ | refine k_forT ?_ | refine k_lcR1 ?_ | refine k_lcR2 ?_ | refine k_lcL ?_ | refine k_err0 ?_ | refine k_xf0 ?_ | refine k_errQ1 ?_ | refine k_errQ0 ?_ | refine k_errQ2 ?_ | refine k_errQ3 ?_
  | refine k_I0 ?_ | (refine k_I ?k1 ?_; (case k1 => walk_at "cond")) | refine k_U ?_ | refine k_eqI ?_ | refine k_neI ?_ | refine k_eqB ?_ | refine k_neB ?_ | refine k_eqS ?_ | refine k_neS ?_
  | refine k_int1 ?_ | refine k_abs1 ?_ | refine k_min2 ?_ | refine k_max2 ?_
  | (refine' k_lenM ?k1 ?_; (case k1 => walk_at "hp")) | (refine' k_lenL ?k1 ?_; (case k1 => walk_at "hp")) | (refine' k_lenT ?k1 ?_; (case k1 => walk_at "hp"))
  | (refine' k_lenS ?k1 ?_; (case k1 => assumption)) | (refine' k_ixS ?k1 ?k2 ?_; (case k1 => assumption); (case k2 => walk_at "look"))
  | (refine' k_ixL ?k1 ?k2 ?_; (case k1 => walk_at "hp"); (case k2 => walk_at "look")) | (refine' k_ixT ?k1 ?k2 ?_; (case k1 => walk_at "hp"); (case k2 => walk_at "look"))
  | (refine' k_ix4 ?k1 ?k2 ?k3 ?_; (case k1 => walk_at "hp"); (case k2 => omega); (case k3 => omega); intro n' hn')
  | (refine' k_ix3 ?k1 ?k2 ?k3 ?_; (case k1 => walk_at "hp"); (case k2 => omega); (case k3 => omega); intro n' hn')
  | (refine' k_ix2 ?k1 ?k2 ?k3 ?_; (case k1 => walk_at "hp"); (case k2 => omega); (case k3 => omega); intro n' hn')
  | (refine' k_fld ?k1 ?k2 ?k3 ?k4 ?_; (case k1 => walk_at "hp"); (case k2 => assumption); (case k3 => assumption); (case k4 => walk_at "fld"))
  | (refine' k_lst ?k1 ?k2 ?_; (case k1 => assumption); (case k2 => exact sz (by simp)); intro p' H' M')
  | (refine' k_tup ?k1 ?k2 ?_; (case k1 => assumption); (case k2 => exact sz (by simp)); intro p' H' M')
  | (refine' k_setF0 ?k1 ?k2 ?k3 ?_; (case k1 => assumption); (case k2 => simp); (case k3 => with_unfolding_all rfl); intro H' M'; try simp only [Int.reduceToNat, List.set_cons_succ, List.set_cons_zero] at M')
  | (refine' k_setL0 ?k1 ?k2 ?_; (case k1 => assumption); (case k2 => with_unfolding_all rfl); intro H' M'; try simp only [Int.reduceToNat, List.set_cons_succ, List.set_cons_zero] at M')
  | (refine' k_setL1 ?k1 ?k2 ?_; (case k1 => assumption); (case k2 => with_unfolding_all rfl); intro H' M'; try simp only [Int.reduceToNat, List.set_cons_succ, List.set_cons_zero] at M')
  | (refine' k_setL2 ?k1 ?k2 ?_; (case k1 => assumption); (case k2 => with_unfolding_all rfl); intro H' M'; try simp only [Int.reduceToNat, List.set_cons_succ, List.set_cons_zero] at M')
  | refine iteT ?_ | refine iteF ?_ | refine k_iteNE ?_ | refine k_iteNS ?_ | refine k_iteNT ?_ | refine k_iteNF ?_
  | (refine k_iteD ?_ ?_ <;> intro hc <;> first | (exfalso; omega) | skip)
  | (refine k_iteN ?_ ?_ <;> intro hc <;> first | (exfalso; omega) | skip)
  | (refine' k_ownN ?k1 ?_; (case k1 => walk_at "hp")) | (refine' k_ownO ?k1 ?k2 ?_; (case k1 => walk_at "hp"); (case k2 => walk_at "hp")) | (refine' k_ownEq ?k1 ?k2 ?_; (case k1 => walk_at "hp"); (case k2 => walk_at "hp"))
  | (refine' k_ownIn ?k1 ?_; (case k1 => walk_at "hp")) | (refine' k_ownU ?k1 ?_; (case k1 => walk_at "hp")) | (refine' k_ownStr ?k1 ?_; (case k1 => walk_at "hp"))
  | (refine' k_prop ?k1 ?_; (case k1 => walk_at "hp")) | (refine' k_ownNe ?k1 ?k2 ?_; (case k1 => walk_at "hp"); (case k2 => walk_at "hp")) | (refine' k_eqP ?k1 ?k2 ?_; (case k1 => walk_at "hp"); (case k2 => walk_at "hp")) | (refine' k_neP ?k1 ?k2 ?_; (case k1 => walk_at "hp"); (case k2 => walk_at "hp"))
  | (refine' k_isiO ?k1 ?k2 ?k3 ?k4 ?k5 ?k6 ?_; (case k1 => walk_at "hp"); (case k2 => assumption); (case k3 => assumption); (case k4 => assumption); (case k5 => assumption); (case k6 => assumption))
  | (refine' k_isiI ?k1 ?_; (case k1 => assumption))
  | (refine' k_jst ?k1 ?_; (case k1 => walk_at "size")) | (refine' k_fmtI ?k1 ?_; (case k1 => exact log2_64 (by omega) (by omega))) | (refine' k_strI ?k1 ?_; (case k1 => exact log2_64 (by omega) (by omega)))
  | (refine k_addS ?k1 ?_; (case k1 => walk_at "size")) | refine k_st ?_ | refine k_parti ?_
  | (refine' k_cat ?k1 ?k2 ?k3 ?k4 ?_; (case k1 => assumption); (case k2 => walk_at "hp"); (case k3 => walk_at "hp"); (case k4 => walk_at "size"); intro p' H' M')
  | (refine' k_slL ?k1 ?k2 ?_; (case k1 => assumption); (case k2 => first | assumption | exact SqL.of (by walk_at "hp")); intro p' H' M')
  | (refine k_rng1 ?k1 ?k2 ?_; (case k1 => omega); (case k2 => omega)) | (refine k_rng2 ?k1 ?k2 ?k3 ?k4 ?_; (case k1 => omega); (case k2 => omega); (case k3 => omega); (case k4 => omega))
  | (refine' k_lstAt ?k1 ?_; (case k1 => first | assumption | exact SqL.of (by walk_at "hp"))) | (refine' k_tupAt ?k1 ?_; (case k1 => first | assumption | exact SqT.of (by walk_at "hp")))
  | (refine' k_isXs ?k1 ?k2 ?_; (case k1 => assumption); (case k2 => walk_at "hp")) | (refine' k_isXo ?k1 ?k2 ?k3 ?_; (case k1 => assumption); (case k2 => walk_at "hp"); (case k3 => assumption)) | (refine' k_isXt ?k1 ?k2 ?k3 ?_; (case k1 => assumption); (case k2 => walk_at "hp"); (case k3 => assumption))
  | (refine' k_isX3 ?k1 ?k2 ?k3 ?k4 ?_; (case k1 => assumption); (case k2 => walk_at "hp"); (case k3 => walk_at "hp"); (case k4 => assumption)) | (refine' k_isX2 ?k1 ?k2 ?k3 ?k4 ?_; (case k1 => assumption); (case k2 => walk_at "hp"); (case k3 => walk_at "hp"); (case k4 => assumption))
  | (refine' k_tyL ?k1 ?_; (case k1 => walk_at "hp"))
  | (refine' k_appL0 ?k1 ?k2 ?_; (case k1 => assumption); (case k2 => walk_at "size"); intro H' M') | (refine' k_appL1 ?k1 ?k2 ?_; (case k1 => assumption); (case k2 => walk_at "size"); intro H' M') | (refine' k_appL2 ?k1 ?k2 ?_; (case k1 => assumption); (case k2 => walk_at "size"); intro H' M') | (refine' k_appL3 ?k1 ?k2 ?_; (case k1 => assumption); (case k2 => walk_at "size"); intro H' M')
  | (refine' k_revL0 ?k1 ?_; (case k1 => assumption); intro H' M') | (refine' k_revL1 ?k1 ?_; (case k1 => assumption); intro H' M')
  | (refine' k_isX0s ?k1 ?_; (case k1 => assumption)) | (refine' k_isX0o ?k1 ?k2 ?_; (case k1 => assumption); (case k2 => assumption)) | (refine' k_isX0t ?k1 ?k2 ?_; (case k1 => assumption); (case k2 => assumption)) | (refine' k_isX04 ?k1 ?k2 ?k3 ?_; (case k1 => assumption); (case k2 => walk_at "hp"); (case k3 => assumption))
  | (refine' k_isX4 ?k1 ?k2 ?k3 ?k4 ?_; (case k1 => assumption); (case k2 => walk_at "hp"); (case k3 => walk_at "hp"); (case k4 => assumption)) | (refine' k_ixT2 ?k1 ?k2 ?k3 ?_; (case k1 => walk_at "hp"); (case k2 => omega); (case k3 => omega); intro n' hn')
  | (refine k_iteNEq ?k1 ?_; (case k1 => (rw [Bool.eq_iff_iff]; first | (simp; done) | (simp; omega))))
  | (refine' k_xf ?k1 ?k2 ?_; (case k1 => walk_at "hp"); (case k2 => first | exact xd1 | exact xdH | exact xd2 (by decide +kernel)))
  | (refine' k_caught ?k1 ?_; (case k1 => assumption); intro a' ha')
  | walk_at "use")
local macro_rules | `(tactic| walk_at "go") => `(tactic| repeat' (walk_at "go1"))

local macro_rules | `(tactic| walk_at "fld") => `(tactic| first | exact stF_come _ _ | exact stF_go _ _)
local macro_rules | `(tactic| walk_at "eq") => `(tactic| first | rfl | assumption | omega)
local macro_rules | `(tactic| walk_at "size") => `(tactic| first | exact sz (by first | omega | (simp only [List.length_map, List.length_range, List.length_append, List.length_cons, List.length_nil, Int.reduceSub, Int.reduceToNat, Int.reduceNeg]; omega)) | exact small1000 (by first | omega | (simp only [List.length_map, List.length_range, List.length_append, List.length_cons, List.length_nil]; omega)) | (simp only [Str.length_append, Str.empty_append]; exact sz (by omega)))
section
variable {P : Program} {w : World} {K : PySem.W.Frag} {mg : Str → Option Value} {base : Heap} {C CE fE CD CA CU CT CI : Addr}
/-- the box: the cells' list at sc, the place, the digits left, the state -/
abbrev boxO (sc : Addr) (pos big st : Int) : HO := .lst [.ref sc, .int pos, .int big, .int st]
def sp_draws (K : PySem.W.Frag) : Sp := fun vs H Q _ => ∃ (a : Addr) (ns : List Int), vs = [.ref a] ∧ SqL K H a (ns.map V.int) ∧ ns.length ≤ 63 ∧ ∀ (bx sc : Addr) (cs : List Int) (st : Int) H', bx ≠ sc → H' bx = some (boxO sc 0 0 st) → H' sc = some (.lst (cs.map V.int)) → Q (.ref bx) H'
theorem ok_draws {f : Addr} {fd : FuncData} (F : Fun K "_law_draws" "_law_draws" s__law_draws f fd) (T : Txt P K mg C CE fE CD CA CU CT CI)  :
    FnOk P w K mg base (L2.CX P w) (0 + 1) f fd ["_law_script"] (sp_draws K) := by
  refine okT F sc__law_draws (fun vs H Q E h => ?_) (fun cdv A outer s H vs Q E hr tk h => ?_)
  · obtain ⟨a, ns, rfl, _⟩ := h
    rfl
  obtain ⟨a, ns, rfl, hS, hlen, k⟩ := h
  have f1 := T.cl; have f2 := T.nC; have f3 := T.nG; have f4 := T.ca; have f5 := T.cn; have f6 := T.ct; have f7 := T.cm; have f8 := T.i1; have f9 := T.i2
  refine ⟨_, (pss_cons (ps_setLc (i := 1) (own := [("_law_cell", 3)]) (g := gName 3) (tt := tYes) rfl sc__law_draws.nd rfl rfl (sw_true rfl rfl rfl (by decide +kernel)) (pi_list (pe_slice sl_list (pv 0) po_none (po_some pe_int))) (blkOk_by (own := [("_law_cell", 3)]) (N := N__law_draws) (sc := defScope s__law_draws) (by decide +kernel)) (fun _ _ _ _ _ => pg_name (i := 3) sc__law_draws.nd rfl (Or.inl rfl)) (fun _ _ _ _ _ => pts_nil) (fun _ _ _ _ _ => (pe_callTy b_int (by rfl) T.b_int (by decide +kernel) (pa_cons (pv 3) pa_nil))))
      (pss_cons (ps_set (i := 2) sc__law_draws.nd rfl (Or.inl rfl) pe_int)
      (pss_cons (ps_for (passes_of rfl) rfl (pi_list (pv 1)) (pg_name (i := 3) sc__law_draws.nd rfl (Or.inl rfl)) (pss_one (ps_set (i := 2) sc__law_draws.nd rfl (Or.inl rfl) (pe_op op_mod (pe_callTy b_int (by rfl) T.b_int (by decide +kernel) (pa_cons (pe_op op_add (pe_op op_add (pe_op op_mulU (pv 2) pe_int) (pe_op op_mulU (pv 3) pe_int)) pe_int) pa_nil)) pe_int))))
      (pss_one (ps_ret (pe_lst (pa_cons (pv 1) (pa_cons pe_int (pa_cons pe_int (pa_cons (pv 2) pa_nil)))))))))), ?_⟩
  simp only [cxK, st__law_draws]
  have M : Mem H [] H [] [] := mem_start (by simp []) (by simp) (by simp)
  walk_at "go"
  rename_i sl H1 M1
  rw [cut_all (by simp; omega)] at M1
  refine lcL_pure (xs := ns.map V.int) M1 (fun H' M' => SqL.of (M'.getL (by simp))) (fun i => .int (ns.getD i 0)) (by simp; omega) (fun x => rfl) (fun i x H' D R hi M' hR => ?_) (fun D H' M' => ?_)
  · have hx : x = .int (ns.getD i 0) := by
      rw [List.getElem?_map] at hi
      cases e : ns[i]? with
      | none => rw [e] at hi; cases hi
      | some z => rw [e] at hi; simp [e] at hi; simp [List.getD, e, hi]
    subst hx
    walk_at "go"
    exact hR _ M'
  obtain ⟨cs, hcs⟩ : ∃ cs : List Int, (List.range (ns.map V.int).length).map (fun i => V.int (ns.getD i 0)) = cs.map V.int := ⟨(List.range (ns.map V.int).length).map (fun i => ns.getD i 0), by rw [List.map_map]; rfl⟩
  rw [hcs] at M'
  walk_at "go"
  refine lst_loop (xs := cs.map V.int) ⟨fun i σ' H2 => ∃ (sd : Int) (v : Option V), σ' = [some (.ref a), some (.ref D), some (.int sd), v] ∧ H2 = H', ⟨_, _, rfl, rfl⟩, ?_, ?_, ?_⟩
  · rintro i σ' H2 _ ⟨sd, v, rfl, rfl⟩
    exact SqL.of (M'.getL (by simp))
  · rintro i x σ' H2 hx ⟨sd, v, rfl, rfl⟩
    obtain ⟨z, rfl⟩ : ∃ z, x = V.int z := by
      have := List.mem_of_getElem? hx
      simp at this
      obtain ⟨z, _, h⟩ := this
      exact ⟨z, h.symm⟩
    walk_at "go"
    exact ⟨_, _, rfl, rfl⟩
  · rintro σ' H2 ⟨sd, v, rfl, rfl⟩
    walk_at "go"
    rename_i bx H3 M3
    refine k bx D cs sd H3 ?_ (M3.getL (by simp)) (M3.getL (by simp))
    have nd := M3.nd
    simp at nd
    exact nd.1.1
theorem use_draws {H : Hp} {Q : VK} {E : XK} {a : Addr} {ns : List Int} (hS : SqL K H a (ns.map V.int)) (hl : ns.length ≤ 63)
    (k : ∀ (bx sc : Addr) (cs : List Int) (st : Int) H', Mem H' [bx] H' [(bx, boxO sc 0 0 st), (sc, .lst (cs.map V.int))] [] → Q (.ref bx) H') : sp_draws K [.ref a] H Q E :=
  ⟨a, ns, rfl, hS, hl, fun bx sc cs st H' hne h1 h2 => k bx sc cs st H' (mem_start (by simp [h1, h2]) (by simp [hne]) (by simp))⟩
/-- what calls on the box promise: a number by R -/
def sp_num (R : Int → Prop) : Sp := fun vs H Q _ => ∃ (bx sc : Addr) (ns : List Int) (pos big st : Int), vs = [.ref bx] ∧ H bx = some (boxO sc pos big st) ∧ H sc = some (.lst (ns.map V.int)) ∧ bx ≠ sc ∧ 0 ≤ pos ∧ 0 ≤ big ∧
  ∀ (d pos' big' st' : Int) H', R d → 0 ≤ pos' → 0 ≤ big' → Keep [bx] H H' → H' bx = some (boxO sc pos' big' st') → Q (.int d) H'
def sp_take : Sp := fun vs H Q E => ∃ (bx : V) (size : Int), vs = [bx, .int size] ∧ 1 ≤ size ∧ size < 2 ^ 64 ∧ sp_num (fun d => 0 ≤ d ∧ d < size) [bx] H Q E
theorem ok_take {f : Addr} {fd : FuncData} (F : Fun K "_law_take" "_law_take" s__law_take f fd) (T : Txt P K mg C CE fE CD CA CU CT CI)  :
    FnOk P w K mg base (L2.CX P w) (0 + 1) f fd ["_law_box", "_law_limit"] sp_take := by
  refine okT F sc__law_take (fun vs H Q E h => ?_) (fun cdv A outer s H vs Q E hr tk h => ?_)
  · obtain ⟨bx, size, rfl, _⟩ := h
    rfl
  obtain ⟨_, size, rfl, hs1, hs2, bx, sc, ns, pos, big, st, e, h1, h2, hne, hpos, hbig, k⟩ := h
  have f1 := T.cl; have f2 := T.nC; have f3 := T.nG; have f4 := T.ca; have f5 := T.cn; have f6 := T.ct; have f7 := T.cm; have f8 := T.i1; have f9 := T.i2
  refine ⟨_, (pss_cons (ps_set (i := 2) sc__law_take.nd rfl (Or.inl rfl) pe_int)
      (pss_cons (ps_if (PW.pt (pw_and (pt_cmpR op_eq (pe_ix ix_list (pv 0) pe_int (fun _ _ => rfl)) pe_int (nomark _)) (pw_and1 (pt_cmpR op_lt (pe_ix ix_list (pv 0) pe_int (fun _ _ => rfl)) (pe_callB b_len (by rfl) T.b_len (by decide +kernel) (pa_cons (pe_ix ix_list (pv 0) pe_int (fun _ _ => rfl)) pa_nil)) (nomark _))))) (pss_cons (ps_set (i := 2) sc__law_take.nd rfl (Or.inl rfl) (pe_ix ix_list (pe_ix ix_list (pv 0) pe_int (fun _ _ => rfl)) (pe_ix ix_list (pv 0) pe_int (fun _ _ => rfl)) (fun _ _ => rfl)))
      (pss_one (ps_asg (pe_op op_add (pe_ix ix_list (pv 0) pe_int (fun _ _ => rfl)) pe_int) (pg_sub (pv 0) pe_int set_list)))) pss_nil)
      (pss_cons (ps_if (PW.pt (pw_and (pt_cmpR op_eq (pe_ix ix_list (pv 0) pe_int (fun _ _ => rfl)) pe_int (nomark _)) (pw_and1 (pt_cmpR op_ge (pv 2) (pe_powC (n := 1000000000000000000)) (nomark _))))) (pss_one (ps_asg (pv 2) (pg_sub (pv 0) pe_int set_list))) pss_nil)
      (pss_cons (ps_if (pt_cmpR op_gt (pe_ix ix_list (pv 0) pe_int (fun _ _ => rfl)) pe_int (nomark _)) (pss_cons (ps_set (i := 3) sc__law_take.nd rfl (Or.inl rfl) (pe_op op_mod (pe_callTy b_int (by rfl) T.b_int (by decide +kernel) (pa_cons (pe_ix ix_list (pv 0) pe_int (fun _ _ => rfl)) pa_nil)) (pv 1)))
      (pss_cons (ps_asg (pe_op op_fdivW (pe_ix ix_list (pv 0) pe_int (fun _ _ => rfl)) (pv 1)) (pg_sub (pv 0) pe_int set_list))
      (pss_one (ps_ret (pv 3))))) pss_nil)
      (pss_cons (ps_asg (pe_op op_mod (pe_callTy b_int (by rfl) T.b_int (by decide +kernel) (pa_cons (pe_op op_add (pe_op op_mulU (pe_ix ix_list (pv 0) pe_int (fun _ _ => rfl)) pe_int) (pe_op op_mulU (pv 2) pe_int)) pa_nil)) pe_int) (pg_sub (pv 0) pe_int set_list))
      (pss_cons (ps_set (i := 4) sc__law_take.nd rfl (Or.inl rfl) (pe_op op_mod (pe_callTy b_int (by rfl) T.b_int (by decide +kernel) (pa_cons (pe_op op_add (pe_op op_mulU (pe_ix ix_list (pv 0) pe_int (fun _ _ => rfl)) (pe_ix ix_list (pv 0) pe_int (fun _ _ => rfl))) (pe_op op_mulU (pe_ix ix_list (pv 0) pe_int (fun _ _ => rfl)) pe_int)) pa_nil)) pe_int))
      (pss_one (ps_ret (pe_op op_mod (pe_op op_fdivW (pv 4) pe_int) (pv 1)))))))))), ?_⟩
  simp only [cxK, st__law_take]
  cases e
  have M : Mem H [bx] H [(bx, boxO sc pos big st), (sc, .lst (ns.map V.int))] [] := mem_start (by simp [h1, h2]) (by simp [hne]) (by simp)
  walk_at "go"
  all_goals first
    | (refine k _ _ _ _ _ ⟨Int.emod_nonneg _ (by omega), Int.emod_lt_of_pos _ (by omega)⟩ ?_ ?_ (Mem.keeps (by assumption)) (Mem.getF (by assumption) (by walk_at "mem")) <;> first | omega | exact Int.ediv_nonneg (by omega) (by omega))
theorem use_take {B H : Hp} {ms : List Addr} {f l : List (Addr × HO)} {Q : VK} {E : XK} {bx sc : Addr} {ns : List Int} {pos big st size : Int} (M : Mem B ms H ((bx, boxO sc pos big st) :: (sc, .lst (ns.map V.int)) :: f) l) (hm : bx ∈ ms) (h0 : 0 ≤ pos) (h1 : 0 ≤ big) (h2 : 1 ≤ size) (h3 : size < 2 ^ 64)
    (k : ∀ (d pos' big' st' : Int) H', 0 ≤ d → d < size → 0 ≤ pos' → 0 ≤ big' → Mem B ms H' ((bx, boxO sc pos' big' st') :: (sc, .lst (ns.map V.int)) :: f) l → Q (.int d) H') : sp_take [.ref bx, .int size] H Q E := by
  have nd := M.nd
  refine ⟨_, size, rfl, h2, h3, bx, sc, ns, pos, big, st, rfl, M.getF List.mem_cons_self, M.getF (by simp), ?_, h0, h1, fun d pos' big' st' H' a1 a3 a4 kp hb => k d pos' big' st' H' a1.1 a1.2 a3 a4 (M.call1 hm kp hb)⟩
  rw [List.map_append, List.nodup_append] at nd
  have := nd.2.1
  simp at this
  exact this.1.1
theorem use_num {R : Int → Prop} {B H : Hp} {ms : List Addr} {f l : List (Addr × HO)} {Q : VK} {E : XK} {bx sc : Addr} {ns : List Int} {pos big st : Int} (M : Mem B ms H ((bx, boxO sc pos big st) :: (sc, .lst (ns.map V.int)) :: f) l) (hm : bx ∈ ms) (h0 : 0 ≤ pos) (h1 : 0 ≤ big)
    (k : ∀ (d pos' big' st' : Int) H', R d → 0 ≤ pos' → 0 ≤ big' → Mem B ms H' ((bx, boxO sc pos' big' st') :: (sc, .lst (ns.map V.int)) :: f) l → Q (.int d) H') : sp_num R [.ref bx] H Q E := by
  have nd := M.nd
  refine ⟨bx, sc, ns, pos, big, st, rfl, M.getF List.mem_cons_self, M.getF (by simp), ?_, h0, h1, fun d pos' big' st' H' a1 a3 a4 kp hb => k d pos' big' st' H' a1 a3 a4 (M.call1 hm kp hb)⟩
  rw [List.map_append, List.nodup_append] at nd
  have := nd.2.1
  simp at this
  exact this.1.1
abbrev RFar (n : Int) : Prop := 0 ≤ n ∧ n < 400000000000000000
abbrev RMany (n : Int) : Prop := -100000000000000001 < n ∧ n < 100000000000000001
local macro_rules | `(tactic| walk_at "use") => `(tactic| with_reducible first
  | (refine' use_take ?k1 ?k2 ?k3 ?k4 ?k5 ?k6 ?_; (case k1 => assumption); (case k2 => simp); (case k3 => omega); (case k4 => omega); (case k5 => omega); (case k6 => omega); intro d' pos' big' st' H' a1' a2' a3' a4' M')
  | (refine' use_num ?k1 ?k2 ?k3 ?k4 ?_; (case k1 => assumption); (case k2 => simp); (case k3 => omega); (case k4 => omega); rintro d' pos' big' st' H' ⟨a1', a2'⟩ a3' a4' M'))
theorem ok_far {f : Addr} {fd : FuncData} (F : Fun K "_law_far" "_law_far" s__law_far f fd) (T : Txt P K mg C CE fE CD CA CU CT CI) (c__law_take : Cal P w K mg base 1 "_law_take" sp_take) :
    FnOk P w K mg base (L2.CX P w) (1 + 1) f fd ["_law_box"] (sp_num RFar) := by
  refine okT F sc__law_far (fun vs H Q E h => ?_) (fun cdv A outer s H vs Q E hr tk h => ?_)
  · obtain ⟨bx, sc, ns, pos, big, st, rfl, _⟩ := h
    rfl
  obtain ⟨bx, sc, ns, pos, big, st, rfl, h1, h2, hne, hpos, hbig, k⟩ := h
  have f1 := T.cl; have f2 := T.nC; have f3 := T.nG; have f4 := T.ca; have f5 := T.cn; have f6 := T.ct; have f7 := T.cm; have f8 := T.i1; have f9 := T.i2
  refine ⟨_, (pss_cons (ps_set (i := 1) sc__law_far.nd rfl (Or.inl rfl) (pe_op op_mulU (c_call c__law_take tk hr (by decide) (pa_cons (pv 0) (pa_cons (pe_op op_mulU pe_int (pe_powC (n := 10000000))) pa_nil))) (pe_powC (n := 10000000000))))
      (pss_cons (ps_set (i := 2) sc__law_far.nd rfl (Or.inl rfl) (pe_op op_mulU (c_call c__law_take tk hr (by decide) (pa_cons (pv 0) (pa_cons (pe_powC (n := 100000)) pa_nil))) (pe_powC (n := 100000))))
      (pss_one (ps_ret (pe_op op_add (pe_op op_add (pv 1) (pv 2)) (c_call c__law_take tk hr (by decide) (pa_cons (pv 0) (pa_cons (pe_powC (n := 100000)) pa_nil)))))))), ?_⟩
  simp only [cxK, st__law_far]
  have M : Mem H [bx] H [(bx, boxO sc pos big st), (sc, .lst (ns.map V.int))] [] := mem_start (by simp [h1, h2]) (by simp [hne]) (by simp)
  walk_at "go"
  all_goals (refine k _ _ _ _ _ ⟨by omega, by omega⟩ ?_ ?_ (Mem.keeps (by assumption)) (Mem.getF (by assumption) (by walk_at "mem")) <;> assumption)
theorem k_isiB {H : Hp} {Q : VK} {c : String} {b x : Bool} (e : PySem.W.kitOne K (.type "bool") (.type c) = some b) (q : Q (.bl b) H) : rIsi K [.bl x, .ty c] H Q := ⟨_, _, _, _, b, rfl, .ty c, .base (.bl x), e, q⟩
def sp_number : Sp := fun vs H Q _ => ∃ a d : Int, vs = [.int a, .int d] ∧ Q (.bl (decide (a = d))) H
theorem ok_number {f : Addr} {fd : FuncData} (F : Fun K "_law_number" "_law_number" s__law_number f fd) (T : Txt P K mg C CE fE CD CA CU CT CI)  :
    FnOk P w K mg base (L2.CX P w) (0 + 1) f fd ["_law_actual", "_law_due"] sp_number := by
  refine okT F sc__law_number (fun vs H Q E h => ?_) (fun cdv A outer s H vs Q E hr tk h => ?_)
  · obtain ⟨a, d, rfl, _⟩ := h
    rfl
  obtain ⟨a, d, rfl, k⟩ := h
  have f1 := T.cl; have f2 := T.nC; have f3 := T.nG; have f4 := T.ca; have f5 := T.cn; have f6 := T.ct; have f7 := T.cm; have f8 := T.i1; have f9 := T.i2
  refine ⟨_, (pss_one (ps_ret (pe_and (pe_callB call_isi (by rfl) T.b_isinstance (by decide +kernel) (pa_cons (pv 0) (pa_cons (g_ty (n := "int") T.b_int (by decide +kernel)) pa_nil))) (pe_and (pe_not (pe_callB call_isi (by rfl) T.b_isinstance (by decide +kernel) (pa_cons (pv 0) (pa_cons (g_ty (n := "bool") T.b_bool (by decide +kernel)) pa_nil)))) (pe_one (pe_cmpR op_eq (pv 0) (pv 1) (nomark _))))))), ?_⟩
  simp only [cxK, st__law_number]
  walk_at "go"
  exact k
theorem use_number {H : Hp} {Q : VK} {E : XK} {a d : Int} (e : a = d) (q : Q (.bl true) H) : sp_number [.int a, .int d] H Q E := ⟨a, d, rfl, by rw [decide_eq_true e]; exact q⟩
def sp_truth : Sp := fun vs H Q _ => ∃ a d : Bool, vs = [.bl a, .bl d] ∧ Q (.bl (a == d)) H
local macro_rules | `(tactic| walk_at "use") => `(tactic| with_reducible first
  | (refine' k_isiB ?k1 ?_; (case k1 => assumption))
  | (refine' use_number ?k1 ?_; (case k1 => walk_at "eq"))
  | (refine' use_take ?k1 ?k2 ?k3 ?k4 ?k5 ?k6 ?_; (case k1 => assumption); (case k2 => simp); (case k3 => omega); (case k4 => omega); (case k5 => omega); (case k6 => omega); intro d' pos' big' st' H' a1' a2' a3' a4' M')
  | (refine' use_num ?k1 ?k2 ?k3 ?k4 ?_; (case k1 => assumption); (case k2 => simp); (case k3 => omega); (case k4 => omega); rintro d' pos' big' st' H' ⟨a1', a2'⟩ a3' a4' M'))
theorem ok_truth {f : Addr} {fd : FuncData} (F : Fun K "_law_truth" "_law_truth" s__law_truth f fd) (T : Txt P K mg C CE fE CD CA CU CT CI)  :
    FnOk P w K mg base (L2.CX P w) (0 + 1) f fd ["_law_actual", "_law_due"] sp_truth := by
  refine okT F sc__law_truth (fun vs H Q E h => ?_) (fun cdv A outer s H vs Q E hr tk h => ?_)
  · obtain ⟨a, d, rfl, _⟩ := h
    rfl
  obtain ⟨a, d, rfl, k⟩ := h
  have f1 := T.cl; have f2 := T.nC; have f3 := T.nG; have f4 := T.ca; have f5 := T.cn; have f6 := T.ct; have f7 := T.cm; have f8 := T.i1; have f9 := T.i2
  have g1 := T.i3
  refine ⟨_, (pss_one (ps_ret (pe_and (pe_callB call_isi (by rfl) T.b_isinstance (by decide +kernel) (pa_cons (pv 0) (pa_cons (g_ty (n := "bool") T.b_bool (by decide +kernel)) pa_nil))) (pe_one (pe_cmpR op_eq (pv 0) (pv 1) (nomark _)))))), ?_⟩
  simp only [cxK, st__law_truth]
  walk_at "go"
  exact k
theorem use_truth {H : Hp} {Q : VK} {E : XK} {a d : Bool} (e : a = d) (q : Q (.bl true) H) : sp_truth [.bl a, .bl d] H Q E := ⟨a, d, rfl, by subst e; rw [beq_self_eq_true]; exact q⟩
def sp_is (C : Addr) : Sp := fun vs H Q _ => ∃ (a dx p : Addr) (c g : Int), vs = [.ref a, .ref p] ∧ H a = some (.ins C dx (stF c g)) ∧ H p = some (.tup [.int c, .int g]) ∧ Q (.bl true) H
theorem ok_is {f : Addr} {fd : FuncData} (F : Fun K "_law_is" "_law_is" s__law_is f fd) (T : Txt P K mg C CE fE CD CA CU CT CI) (c__law_number : Cal P w K mg base 1 "_law_number" sp_number) :
    FnOk P w K mg base (L2.CX P w) (1 + 1) f fd ["_law_stay", "_law_days_here"] (sp_is C) := by
  refine okT F sc__law_is (fun vs H Q E h => ?_) (fun cdv A outer s H vs Q E hr tk h => ?_)
  · obtain ⟨a, dx, p, c, g, rfl, _⟩ := h
    rfl
  obtain ⟨a, dx, p, c, g, rfl, h1, h2, k⟩ := h
  have f1 := T.cl; have f2 := T.nC; have f3 := T.nG; have f4 := T.ca; have f5 := T.cn; have f6 := T.ct; have f7 := T.cm; have f8 := T.i1; have f9 := T.i2
  refine ⟨_, (pss_cons (ps_if (pt_not (pt_val (pe_callB call_isi (by rfl) T.b_isinstance (by decide +kernel) (pa_cons (pv 0) (pa_cons (g_ref T.g_Stay) pa_nil))))) (pss_one (ps_ret pe_bl)) pss_nil)
      (pss_one (ps_ret (pe_and (c_call c__law_number tk hr (by decide) (pa_cons (pe_fld (pv 0) rfl) (pa_cons (pe_ix ix_tup (pv 1) pe_int (fun _ _ => rfl)) pa_nil))) (pe_one (c_call c__law_number tk hr (by decide) (pa_cons (pe_fld (pv 0) rfl) (pa_cons (pe_ix ix_tup (pv 1) pe_int (fun _ _ => rfl)) pa_nil)))))))), ?_⟩
  simp only [cxK, st__law_is]
  walk_at "go"
  exact k
theorem use_is {H : Hp} {Q : VK} {E : XK} {a dx p : Addr} {c g c2 g2 : Int} (h1 : H a = some (.ins C dx (stF c g))) (h2 : H p = some (.tup [.int c2, .int g2])) (e1 : c = c2) (e2 : g = g2) (q : Q (.bl true) H) : sp_is C [.ref a, .ref p] H Q E := by
  subst e1 e2; exact ⟨a, dx, p, c, g, rfl, h1, h2, q⟩
/-- the starts -/
structure Starts (S : List Int) : Prop where
  len : S.length = 11
  inc : S.Pairwise (· < ·)
def sp_starts : Sp := fun vs H Q _ => ∃ (bx sc : Addr) (ns : List Int) (pos big st : Int), vs = [.ref bx] ∧ H bx = some (boxO sc pos big st) ∧ H sc = some (.lst (ns.map V.int)) ∧ bx ≠ sc ∧ 0 ≤ pos ∧ 0 ≤ big ∧
  ∀ (p : Addr) (S : List Int) (pos' big' st' : Int) H', Starts S → 0 ≤ pos' → 0 ≤ big' → Keep [bx] H H' → H' bx = some (boxO sc pos' big' st') → H p = none → H' p = some (.lst (S.map V.int)) → Q (.ref p) H'
theorem ok_starts {f : Addr} {fd : FuncData} (F : Fun K "_law_starts" "_law_starts" s__law_starts f fd) (T : Txt P K mg C CE fE CD CA CU CT CI) (c__law_take : Cal P w K mg base 1 "_law_take" sp_take) (c__law_far : Cal P w K mg base 2 "_law_far" (sp_num RFar)) :
    FnOk P w K mg base (L2.CX P w) (2 + 1) f fd ["_law_box"] sp_starts := by
  refine okT F sc__law_starts (fun vs H Q E h => ?_) (fun cdv A outer s H vs Q E hr tk h => ?_)
  · obtain ⟨bx, sc, ns, pos, big, st, rfl, _⟩ := h
    rfl
  obtain ⟨bx, sc, ns, pos, big, st, rfl, h1, h2, hne, hpos, hbig, k⟩ := h
  have f1 := T.cl; have f2 := T.nC; have f3 := T.nG; have f4 := T.ca; have f5 := T.cn; have f6 := T.ct; have f7 := T.cm; have f8 := T.i1; have f9 := T.i2
  refine ⟨_, (pss_cons (ps_set (i := 1) sc__law_starts.nd rfl (Or.inl rfl) (pe_op op_sub (c_call c__law_take tk hr (by decide) (pa_cons (pv 0) (pa_cons pe_int pa_nil))) pe_int))
      (pss_cons (ps_if (pt_cmpR op_eq (c_call c__law_take tk hr (by decide) (pa_cons (pv 0) (pa_cons pe_int pa_nil))) pe_int (nomark _)) (pss_cons (ps_set (i := 1) sc__law_starts.nd rfl (Or.inl rfl) (c_call c__law_far tk hr (by decide) (pa_cons (pv 0) pa_nil)))
      (pss_one (ps_if (pt_cmpR op_eq (c_call c__law_take tk hr (by decide) (pa_cons (pv 0) (pa_cons pe_int pa_nil))) pe_int (nomark _)) (pss_one (ps_set (i := 1) sc__law_starts.nd rfl (Or.inl rfl) (pe_un un_neg (pv 1)))) pss_nil))) pss_nil)
      (pss_cons (ps_set (i := 2) sc__law_starts.nd rfl (Or.inl rfl) (pe_lst (pa_cons (pv 1) pa_nil)))
      (pss_cons (ps_for (passes_of rfl) rfl (pi_range1 (by rfl) T.b_range (pa_cons pe_int pa_nil)) (pg_name (i := 3) sc__law_starts.nd rfl (Or.inl rfl)) (pss_cons (ps_set (i := 1) sc__law_starts.nd rfl (Or.inl rfl) (pe_op op_add (pv 1) (pe_ix ix_list (pe_lst (pa_cons pe_int (pa_cons pe_int (pa_cons pe_int (pa_cons pe_int (pa_cons pe_int (pa_cons (pe_op op_add (pe_powC (n := 1000000)) pe_int) (pa_cons (pe_op op_mulU pe_int (pe_powC (n := 10000000000000000))) pa_nil)))))))) (c_call c__law_take tk hr (by decide) (pa_cons (pv 0) (pa_cons pe_int pa_nil))) (fun _ _ => rfl))))
      (pss_one (ps_expr (pe_bm PySem.F.plainAttrs_list PySem.F.slot_list_append PySem.F.type_list_append mt_append (pv 2) (pa_cons (pv 1) pa_nil))))))
      (pss_one (ps_ret (pv 2))))))), ?_⟩
  simp only [cxK, st__law_starts]
  have M : Mem H [bx] H [(bx, boxO sc pos big st), (sc, .lst (ns.map V.int))] [] := mem_start (by simp [h1, h2]) (by simp [hne]) (by simp)
  walk_at "go"
  all_goals
    rename_i p0 H0 M0
    refine rng_loop ⟨fun i σ' H' => ∃ (sd : Int) (S : List Int) (v : Option V) (pos big st : Int), σ' = [some (.ref bx), some (.int sd), some (.ref p0), v] ∧ S.length = i + 1 ∧ S.Pairwise (· < ·) ∧ (∀ x ∈ S, x ≤ sd) ∧ 0 ≤ pos ∧ 0 ≤ big ∧ Mem H [bx] H' [(bx, boxO sc pos big st), (sc, .lst (ns.map V.int))] [(p0, .lst (S.map V.int))], ?_, ?_, ?_⟩
    · refine ⟨_, [_], _, _, _, _, rfl, rfl, by simp, by simp, ?_, ?_, M0⟩ <;> assumption
    · rintro i σ' H' hi ⟨sd, S, v, pos, big, st, rfl, hl, hw, hx, hp0, hb0, M'⟩
      walk_at "go"
      refine' k_ixAll (R := fun n => 1 ≤ n) ?k1 ?k2 ?k3 ?k4 ?_
      case k1 => walk_at "hp"
      case k2 => omega
      case k3 => simp; omega
      case k4 =>
        intro x hx
        simp only [List.mem_cons, List.not_mem_nil, or_false] at hx
        rcases hx with rfl | rfl | rfl | rfl | rfl | rfl | rfl <;> exact ⟨_, rfl, by omega⟩
      intro n hn
      walk_at "go"
      rename_i M3
      refine ⟨_, S ++ [sd + n], _, _, _, _, rfl, by simp [hl], ?_, ?_, ?_, ?_, by rw [List.map_append]; exact M3.drop⟩
      · rw [List.pairwise_append]
        refine ⟨hw, by simp, ?_⟩
        intro x hx' y hy
        simp at hy
        subst hy
        have := hx x hx'
        omega
      · intro x hx'
        simp at hx'
        rcases hx' with h | h
        · have := hx x h; omega
        · omega
      · assumption
      · assumption
    · rintro σ' H' ⟨sd, S, v, pos, big, st, rfl, hl, hw, hx, hp0, hb0, M'⟩
      walk_at "go"
      exact k p0 S pos big st H' ⟨hl, hw⟩ hp0 hb0 (Mem.keeps M') (M'.getF List.mem_cons_self) (M'.new _ List.mem_cons_self) (M'.getL List.mem_cons_self)
theorem use_starts {B H : Hp} {ms : List Addr} {f l : List (Addr × HO)} {Q : VK} {E : XK} {bx sc : Addr} {ns : List Int} {pos big st : Int} (M : Mem B ms H ((bx, boxO sc pos big st) :: (sc, .lst (ns.map V.int)) :: f) l) (hm : bx ∈ ms) (h0 : 0 ≤ pos) (h1 : 0 ≤ big)
    (k : ∀ (p : Addr) (S : List Int) (pos' big' st' : Int) H', Starts S → 0 ≤ pos' → 0 ≤ big' → Mem B ms H' ((bx, boxO sc pos' big' st') :: (sc, .lst (ns.map V.int)) :: f) ((p, .lst (S.map V.int)) :: l) → Q (.ref p) H') : sp_starts [.ref bx] H Q E := by
  have nd := M.nd
  refine ⟨bx, sc, ns, pos, big, st, rfl, M.getF List.mem_cons_self, M.getF (by simp), ?_, h0, h1, fun p S pos' big' st' H' a1 a3 a4 kp hb hn hp => k p S pos' big' st' H' a1 a3 a4 (M.call1New hm kp hb hn hp)⟩
  rw [List.map_append, List.nodup_append] at nd
  have := nd.2.1
  simp at this
  exact this.1.1
/-- a row of two places -/
structure Row (a b : Int) : Prop where
  a0 : 0 ≤ a
  ab : a ≤ b
  b9 : b ≤ 9
def sp_row : Sp := fun vs H Q _ => ∃ (bx sc : Addr) (ns : List Int) (pos big st : Int), vs = [.ref bx] ∧ H bx = some (boxO sc pos big st) ∧ H sc = some (.lst (ns.map V.int)) ∧ bx ≠ sc ∧ 0 ≤ pos ∧ 0 ≤ big ∧
  ∀ (p : Addr) (a b pos' big' st' : Int) H', Row a b → 0 ≤ pos' → 0 ≤ big' → Keep [bx] H H' → H' bx = some (boxO sc pos' big' st') → H p = none → H' p = some (.tup [.int a, .int b]) → Q (.ref p) H'
theorem ok_row {f : Addr} {fd : FuncData} (F : Fun K "_law_row" "_law_row" s__law_row f fd) (T : Txt P K mg C CE fE CD CA CU CT CI) (c__law_take : Cal P w K mg base 1 "_law_take" sp_take) :
    FnOk P w K mg base (L2.CX P w) (1 + 1) f fd ["_law_box"] sp_row := by
  refine okT F sc__law_row (fun vs H Q E h => ?_) (fun cdv A outer s H vs Q E hr tk h => ?_)
  · obtain ⟨bx, sc, ns, pos, big, st, rfl, _⟩ := h
    rfl
  obtain ⟨bx, sc, ns, pos, big, st, rfl, h1, h2, hne, hpos, hbig, k⟩ := h
  have f1 := T.cl; have f2 := T.nC; have f3 := T.nG; have f4 := T.ca; have f5 := T.cn; have f6 := T.ct; have f7 := T.cm; have f8 := T.i1; have f9 := T.i2
  refine ⟨_, (pss_cons (ps_set (i := 1) sc__law_row.nd rfl (Or.inl rfl) (c_call c__law_take tk hr (by decide) (pa_cons (pv 0) (pa_cons pe_int pa_nil))))
      (pss_one (ps_ret (pe_tup (pa_cons (pv 1) (pa_cons (pe_op op_add (pv 1) (c_call c__law_take tk hr (by decide) (pa_cons (pv 0) (pa_cons (pe_op op_sub pe_int (pv 1)) pa_nil)))) pa_nil)))))), ?_⟩
  simp only [cxK, st__law_row]
  have M : Mem H [bx] H [(bx, boxO sc pos big st), (sc, .lst (ns.map V.int))] [] := mem_start (by simp [h1, h2]) (by simp [hne]) (by simp)
  walk_at "go"
  rename_i M3
  refine k _ _ _ _ _ _ _ ⟨by omega, by omega, by omega⟩ ?_ ?_ (Mem.keeps M3) (M3.getF List.mem_cons_self) (M3.new _ List.mem_cons_self) (M3.getL List.mem_cons_self) <;> assumption
theorem use_row {B H : Hp} {ms : List Addr} {f l : List (Addr × HO)} {Q : VK} {E : XK} {bx sc : Addr} {ns : List Int} {pos big st : Int} (M : Mem B ms H ((bx, boxO sc pos big st) :: (sc, .lst (ns.map V.int)) :: f) l) (hm : bx ∈ ms) (h0 : 0 ≤ pos) (h1 : 0 ≤ big)
    (k : ∀ (p : Addr) (a b pos' big' st' : Int) H', Row a b → 0 ≤ pos' → 0 ≤ big' → Mem B ms H' ((bx, boxO sc pos' big' st') :: (sc, .lst (ns.map V.int)) :: f) ((p, .tup [.int a, .int b]) :: l) → Q (.ref p) H') : sp_row [.ref bx] H Q E := by
  have nd := M.nd
  refine ⟨bx, sc, ns, pos, big, st, rfl, M.getF List.mem_cons_self, M.getF (by simp), ?_, h0, h1, fun p a b pos' big' st' H' a1 a3 a4 kp hb hn hp => k p a b pos' big' st' H' a1 a3 a4 (M.call1New hm kp hb hn hp)⟩
  rw [List.map_append, List.nodup_append] at nd
  have := nd.2.1
  simp at this
  exact this.1.1
/-- the day at place i -/
def dayAt (S : List Int) (i : Int) : Int := S.getD i.toNat 0
def sp_days : Sp := fun vs H Q _ => ∃ (s r : Addr) (S : List Int) (a b : Int), vs = [.ref s, .ref r] ∧ H s = some (.lst (S.map V.int)) ∧ H r = some (.tup [.int a, .int b]) ∧ S.length = 11 ∧ 0 ≤ a ∧ a ≤ 9 ∧ 0 ≤ b ∧ b ≤ 9 ∧
  ∀ p H', H p = none → Same H H' → H' p = some (.tup [.int (dayAt S a), .int (dayAt S (b + 1) - 1)]) → Q (.ref p) H'
theorem ok_days {f : Addr} {fd : FuncData} (F : Fun K "_law_days" "_law_days" s__law_days f fd) (T : Txt P K mg C CE fE CD CA CU CT CI)  :
    FnOk P w K mg base (L2.CX P w) (0 + 1) f fd ["_law_starts_here", "_law_row_here"] sp_days := by
  refine okT F sc__law_days (fun vs H Q E h => ?_) (fun cdv A outer s H vs Q E hr tk h => ?_)
  · obtain ⟨s, r, S, a, b, rfl, _⟩ := h
    rfl
  obtain ⟨s, r, S, a, b, rfl, h1, h2, hl, ha0, ha9, hb0, hb9, k⟩ := h
  have f1 := T.cl; have f2 := T.nC; have f3 := T.nG; have f4 := T.ca; have f5 := T.cn; have f6 := T.ct; have f7 := T.cm; have f8 := T.i1; have f9 := T.i2
  refine ⟨_, (pss_one (ps_ret (pe_tup (pa_cons (pe_ix ix_list (pv 0) (pe_ix ix_tup (pv 1) pe_int (fun _ _ => rfl)) (fun _ _ => rfl)) (pa_cons (pe_op op_sub (pe_ix ix_list (pv 0) (pe_op op_add (pe_ix ix_tup (pv 1) pe_int (fun _ _ => rfl)) pe_int) (fun _ _ => rfl)) pe_int) pa_nil))))), ?_⟩
  simp only [cxK, st__law_days]
  have M : Mem H [] H [] [] := mem_start (by simp []) (by simp) (by simp)
  walk_at "go"
  rename_i M3
  exact k _ _ (M3.new _ List.mem_cons_self) (Same.of_keep M3) (M3.getL List.mem_cons_self)
end
end K17

set_option Elab.async false
set_option linter.all false
set_option maxRecDepth 100000
set_option maxHeartbeats 8000000
namespace K17
open PySem L2 MyL
/-- the runs of a .. j - 1 without c .. d -/
def runsTo (a c d j : Int) : List (Int × Int) := (if a < c ∧ a < j then [(a, if c < j then c - 1 else j - 1)] else []) ++ (if a < j ∧ d + 1 < j then [(if d + 1 < a then a else d + 1, j - 1)] else [])
def runStep (xs : List (Int × Int)) (j : Int) : List (Int × Int) := match xs with
  | [] => [(j, j)]
  | [(p, q)] => if q = j - 1 then [(p, j)] else [(p, q), (j, j)]
  | x :: (p, q) :: _ => if q = j - 1 then [x, (p, j)] else []
theorem runs_skip {a c d j : Int} (h1 : c ≤ j) (h2 : j ≤ d) (h3 : a ≤ j) : runsTo a c d (j + 1) = runsTo a c d j := by
  unfold runsTo
  have e1 : (a < j + 1 ∧ d + 1 < j + 1) = (a < j ∧ d + 1 < j) := by
    apply propext; constructor <;> omega
  by_cases ha : a < c
  · have : a < j := by omega
    simp only [e1, ha, this, show a < j + 1 by omega, and_self, if_true, true_and]
    by_cases hc : c < j
    · simp [hc, show c < j + 1 by omega, show ¬ d + 1 < j by omega]; omega
    · have : c = j := by omega
      simp [hc, show c < j + 1 by omega, show ¬ d + 1 < j by omega]; omega
  · simp [ha, show ¬ d + 1 < j + 1 by omega, show ¬ d + 1 < j by omega]
theorem runs_step {a c d j : Int} (h : ¬ (c ≤ j ∧ j ≤ d)) (hcd : c ≤ d) (h3 : a ≤ j) : runStep (runsTo a c d j) j = runsTo a c d (j + 1) := by
  have e : j + 1 - 1 = j := by omega
  unfold runsTo
  rw [e]
  by_cases ha : a < c <;> by_cases hj : a < j <;> by_cases hd : d + 1 < j <;> by_cases hc : c < j <;>
    simp only [ha, hj, hd, hc, show a < j + 1 by omega, and_self, and_true, and_false, true_and, false_and, if_true, if_false, List.nil_append, List.append_nil, List.cons_append, List.singleton_append] <;> simp only [runStep] <;> (repeat' split) <;> first | rfl | omega | (simp; omega) | (exfalso; omega) | exact absurd trivial (by assumption) | skip
theorem runs_le {a c d j : Int} : (runsTo a c d j).length ≤ 2 := by
  unfold runsTo
  rw [List.length_append]
  have h1 : ∀ (p : Prop) [Decidable p] (x : Int × Int), (if p then [x] else []).length ≤ 1 := fun p _ x => by split <;> simp
  have := h1 (a < c ∧ a < j) (a, if c < j then c - 1 else j - 1)
  have := h1 (a < j ∧ d + 1 < j) (if d + 1 < a then a else d + 1, j - 1)
  omega
local macro_rules | `(tactic| walk_at "mem") => `(tactic| first | exact List.mem_cons_self | (refine List.mem_cons_of_mem _ ?_; walk_at "mem"))
local macro_rules | `(tactic| walk_at "hp") => `(tactic| first | assumption | (refine' Mem.getL ?k1 ?k2; (case k1 => assumption); (case k2 => walk_at "mem")) | (refine' Mem.getF ?k1 ?k2; (case k1 => assumption); (case k2 => walk_at "mem")) | (refine' Mem.atB ?k1 ?k2; (case k1 => assumption); (case k2 => assumption)))
local macro_rules | `(tactic| walk_at "cond") => `(tactic| first | omega | assumption | exact mulR (by omega) (by omega) | exact mulL (by omega) (by omega) | exact divW (by omega) (by omega) | decide)
local macro_rules | `(tactic| walk_at "look") => `(tactic| first | with_unfolding_all rfl | exact atI_map (by omega) (by omega))
local macro_rules | `(tactic| walk_at "go1") => `(tactic| with_reducible first
  | refine k_seq ?_ | refine k_gName ?_ | refine k_asg ?_ | refine k_ret ?_ | refine k_ifS ?_ | refine k_drop ?_ | refine k_next ?_ | refine k_break ?_ | refine k_cont ?_ | refine k_retN ?_
  | (refine' k_var ?k1 ?_; (case k1 => with_unfolding_all rfl)) | refine k_c ?_ | refine k_op ?_ | refine k_un ?_ | refine k_test ?_ | refine k_B ?_ | refine k_bl ?_ | refine k_and ?_ | refine k_or ?_ | refine k_not ?_
  | refine k_andV ?_ | refine k_orV ?_ | refine k_notV ?_ | refine k_ifE ?_ | refine k_nil ?_ | refine k_cons ?_ | refine k_cb ?_ | refine k_callS ?_ | refine k_lst0 ?_ | refine k_tup0 ?_ | refine k_fld0 ?_ | refine k_sub0 ?_ | refine k_make0 ?_ | refine k_prop0 ?_ | refine k_sta0 ?_ | refine k_sta ?_ | refine k_bm ?_ | refine k_bm0 ?_ | refine k_chain ?_ | refine k_makeK0 ?_ | refine k_swapK ?_ | refine k_meth0 ?_ | refine k_ownN0 ?_ | refine k_ownO0 ?_ | refine k_sfld0 ?_ | refine k_jnil ?_ | refine k_jcons ?_ | refine k_fmt0 ?_ | refine k_sl0 ?_ | refine k_nopart ?_ | refine k_part ?_ | refine k_forR1 ?_ | refine k_forR2 ?_ | refine k_forL ?_ | refine k_forT ?_ | refine k_lcR1 ?_ | refine k_lcR2 ?_ | refine k_lcL ?_ | refine k_err0 ?_ | refine k_xf0 ?_ | refine k_errQ1 ?_ | refine k_errQ0 ?_ | refine k_errQ2 ?_ | refine k_errQ3 ?_
  | refine k_I0 ?_ | (refine k_I ?k1 ?_; (case k1 => walk_at "cond")) | refine k_U ?_ | refine k_eqI ?_ | refine k_neI ?_ | refine k_eqB ?_ | refine k_neB ?_ | refine k_eqS ?_ | refine k_neS ?_
  | refine k_int1 ?_ | refine k_abs1 ?_ | refine k_min2 ?_ | refine k_max2 ?_
  | (refine' k_lenM ?k1 ?_; (case k1 => walk_at "hp")) | (refine' k_lenL ?k1 ?_; (case k1 => walk_at "hp")) | (refine' k_lenT ?k1 ?_; (case k1 => walk_at "hp"))
  | (refine' k_lenS ?k1 ?_; (case k1 => assumption)) | (refine' k_ixS ?k1 ?k2 ?_; (case k1 => assumption); (case k2 => walk_at "look"))
  | (refine' k_ixL ?k1 ?k2 ?_; (case k1 => walk_at "hp"); (case k2 => walk_at "look")) | (refine' k_ixT ?k1 ?k2 ?_; (case k1 => walk_at "hp"); (case k2 => walk_at "look"))
  | (refine' k_ix4 ?k1 ?k2 ?k3 ?_; (case k1 => walk_at "hp"); (case k2 => omega); (case k3 => omega); intro n' hn')
  | (refine' k_ix3 ?k1 ?k2 ?k3 ?_; (case k1 => walk_at "hp"); (case k2 => omega); (case k3 => omega); intro n' hn')
  | (refine' k_ix2 ?k1 ?k2 ?k3 ?_; (case k1 => walk_at "hp"); (case k2 => omega); (case k3 => omega); intro n' hn')
  | (refine' k_fld ?k1 ?k2 ?k3 ?k4 ?_; (case k1 => walk_at "hp"); (case k2 => assumption); (case k3 => assumption); (case k4 => walk_at "fld"))
  | (refine' k_lst ?k1 ?k2 ?_; (case k1 => assumption); (case k2 => exact sz (by simp)); intro p' H' M')
  | (refine' k_tup ?k1 ?k2 ?_; (case k1 => assumption); (case k2 => exact sz (by simp)); intro p' H' M')
  | (refine' k_setF0 ?k1 ?k2 ?k3 ?_; (case k1 => assumption); (case k2 => simp); (case k3 => with_unfolding_all rfl); intro H' M'; try simp only [Int.reduceToNat, List.set_cons_succ, List.set_cons_zero] at M')
  | (refine' k_setL0 ?k1 ?k2 ?_; (case k1 => assumption); (case k2 => with_unfolding_all rfl); intro H' M'; try simp only [Int.reduceToNat, List.set_cons_succ, List.set_cons_zero] at M')
  | (refine' k_setL1 ?k1 ?k2 ?_; (case k1 => assumption); (case k2 => with_unfolding_all rfl); intro H' M'; try simp only [Int.reduceToNat, List.set_cons_succ, List.set_cons_zero] at M')
  | (refine' k_setL2 ?k1 ?k2 ?_; (case k1 => assumption); (case k2 => with_unfolding_all rfl); intro H' M'; try simp only [Int.reduceToNat, List.set_cons_succ, List.set_cons_zero] at M')
  | refine iteT ?_ | refine iteF ?_ | refine k_iteNE ?_ | refine k_iteNS ?_ | refine k_iteNT ?_ | refine k_iteNF ?_
  | (refine k_iteD ?_ ?_ <;> intro hc <;> first | (exfalso; omega) | skip)
  | (refine k_iteN ?_ ?_ <;> intro hc <;> first | (exfalso; omega) | skip)
  | (refine' k_ownN ?k1 ?_; (case k1 => walk_at "hp")) | (refine' k_ownO ?k1 ?k2 ?_; (case k1 => walk_at "hp"); (case k2 => walk_at "hp")) | (refine' k_ownEq ?k1 ?k2 ?_; (case k1 => walk_at "hp"); (case k2 => walk_at "hp"))
  | (refine' k_ownIn ?k1 ?_; (case k1 => walk_at "hp")) | (refine' k_ownU ?k1 ?_; (case k1 => walk_at "hp")) | (refine' k_ownStr ?k1 ?_; (case k1 => walk_at "hp"))
  | (refine' k_prop ?k1 ?_; (case k1 => walk_at "hp")) | (refine' k_ownNe ?k1 ?k2 ?_; (case k1 => walk_at "hp"); (case k2 => walk_at "hp")) | (refine' k_eqP ?k1 ?k2 ?_; (case k1 => walk_at "hp"); (case k2 => walk_at "hp")) | (refine' k_neP ?k1 ?k2 ?_; (case k1 => walk_at "hp"); (case k2 => walk_at "hp"))
  | (refine' k_isiO ?k1 ?k2 ?k3 ?k4 ?k5 ?k6 ?_; (case k1 => walk_at "hp"); (case k2 => assumption); (case k3 => assumption); (case k4 => assumption); (case k5 => assumption); (case k6 => assumption))
  | (refine' k_isiI ?k1 ?_; (case k1 => assumption))
  | (refine' k_jst ?k1 ?_; (case k1 => walk_at "size")) | (refine' k_fmtI ?k1 ?_; (case k1 => exact log2_64 (by omega) (by omega))) | (refine' k_strI ?k1 ?_; (case k1 => exact log2_64 (by omega) (by omega)))
  | (refine k_addS ?k1 ?_; (case k1 => walk_at "size")) | refine k_st ?_ | refine k_parti ?_
  | (refine' k_cat ?k1 ?k2 ?k3 ?k4 ?_; (case k1 => assumption); (case k2 => walk_at "hp"); (case k3 => walk_at "hp"); (case k4 => walk_at "size"); intro p' H' M')
  | (refine' k_slL ?k1 ?k2 ?_; (case k1 => assumption); (case k2 => first | assumption | exact SqL.of (by walk_at "hp")); intro p' H' M')
  | (refine k_rng1 ?k1 ?k2 ?_; (case k1 => omega); (case k2 => omega)) | (refine k_rng2 ?k1 ?k2 ?k3 ?k4 ?_; (case k1 => omega); (case k2 => omega); (case k3 => omega); (case k4 => omega))
  | (refine' k_lstAt ?k1 ?_; (case k1 => first | assumption | exact SqL.of (by walk_at "hp"))) | (refine' k_tupAt ?k1 ?_; (case k1 => first | assumption | exact SqT.of (by walk_at "hp")))
  | (refine' k_isXs ?k1 ?k2 ?_; (case k1 => assumption); (case k2 => walk_at "hp")) | (refine' k_isXo ?k1 ?k2 ?k3 ?_; (case k1 => assumption); (case k2 => walk_at "hp"); (case k3 => assumption)) | (refine' k_isXt ?k1 ?k2 ?k3 ?_; (case k1 => assumption); (case k2 => walk_at "hp"); (case k3 => assumption))
  | (refine' k_isX3 ?k1 ?k2 ?k3 ?k4 ?_; (case k1 => assumption); (case k2 => walk_at "hp"); (case k3 => walk_at "hp"); (case k4 => assumption)) | (refine' k_isX2 ?k1 ?k2 ?k3 ?k4 ?_; (case k1 => assumption); (case k2 => walk_at "hp"); (case k3 => walk_at "hp"); (case k4 => assumption))
  | (refine' k_tyL ?k1 ?_; (case k1 => walk_at "hp"))
  | (refine' k_appL0 ?k1 ?k2 ?_; (case k1 => assumption); (case k2 => walk_at "size"); intro H' M') | (refine' k_appL1 ?k1 ?k2 ?_; (case k1 => assumption); (case k2 => walk_at "size"); intro H' M') | (refine' k_appL2 ?k1 ?k2 ?_; (case k1 => assumption); (case k2 => walk_at "size"); intro H' M') | (refine' k_appL3 ?k1 ?k2 ?_; (case k1 => assumption); (case k2 => walk_at "size"); intro H' M')
  | (refine' k_revL0 ?k1 ?_; (case k1 => assumption); intro H' M') | (refine' k_revL1 ?k1 ?_; (case k1 => assumption); intro H' M')
  | (refine' k_isX0s ?k1 ?_; (case k1 => assumption)) | (refine' k_isX0o ?k1 ?k2 ?_; (case k1 => assumption); (case k2 => assumption)) | (refine' k_isX0t ?k1 ?k2 ?_; (case k1 => assumption); (case k2 => assumption)) | (refine' k_isX04 ?k1 ?k2 ?k3 ?_; (case k1 => assumption); (case k2 => walk_at "hp"); (case k3 => assumption))
  | (refine' k_isX4 ?k1 ?k2 ?k3 ?k4 ?_; (case k1 => assumption); (case k2 => walk_at "hp"); (case k3 => walk_at "hp"); (case k4 => assumption)) | (refine' k_ixT2 ?k1 ?k2 ?k3 ?_; (case k1 => walk_at "hp"); (case k2 => omega); (case k3 => omega); intro n' hn')
  | (refine k_iteNEq ?k1 ?_; (case k1 => (rw [Bool.eq_iff_iff]; first | (simp; done) | (simp; omega))))
  | (refine' k_xf ?k1 ?k2 ?_; (case k1 => walk_at "hp"); (case k2 => first | exact xd1 | exact xdH | exact xd2 (by decide +kernel)))
  | (refine' k_caught ?k1 ?_; (case k1 => assumption); intro a' ha')
  | walk_at "use")
local macro_rules | `(tactic| walk_at "go") => `(tactic| repeat' (walk_at "go1"))

local macro_rules | `(tactic| walk_at "fld") => `(tactic| first | exact stF_come _ _ | exact stF_go _ _)
local macro_rules | `(tactic| walk_at "eq") => `(tactic| first | rfl | assumption | omega)
local macro_rules | `(tactic| walk_at "size") => `(tactic| first | exact sz (by first | omega | (simp only [List.length_map, List.length_range, List.length_append, List.length_cons, List.length_nil, Int.reduceSub, Int.reduceToNat, Int.reduceNeg]; omega)) | exact small1000 (by first | omega | (simp only [List.length_map, List.length_range, List.length_append, List.length_cons, List.length_nil]; omega)) | (simp only [Str.length_append, Str.empty_append]; exact sz (by omega)))
section
variable {P : Program} {w : World} {K : PySem.W.Frag} {mg : Str → Option Value} {base : Heap} {C CE fE CD CA CU CT CI : Addr}
theorem k_appF0 {B H : Hp} {ms : List Addr} {f l : List (Addr × HO)} {Q : VK} {p : Addr} {xs : List V} {y : V} (M : Mem B ms H ((p, .lst xs) :: f) l) (hm : p ∈ ms) (hs : xs.length < sizeLine) (q : ∀ H', Mem B ms H' ((p, .lst (xs ++ [y])) :: f) l → Q .non H') : rAppend (.ref p) [y] H Q :=
  ⟨p, xs, y, rfl, rfl, M.getF List.mem_cons_self, hs, q _ (Mem.setF (f1 := []) M hm)⟩
/-- a list of pairs at R -/
def PrL (H : Hp) (R : Addr) (rs : List (Addr × Int × Int)) : Prop := H R = some (.lst (rs.map fun r => V.ref r.1)) ∧ ∀ r ∈ rs, H r.1 = some (.tup [.int r.2.1, .int r.2.2])
theorem atB1 {B H : Hp} {R a : Addr} {f l : List (Addr × HO)} {o : HO} (M : Mem B [R] H f l) (h : B a = some o) (hne : a ≠ R) : H a = some o := M.keep a o h (by simpa using hne)
theorem same_after {H0 B H : Hp} {R : Addr} {f l : List (Addr × HO)} (M : Mem B [R] H f l) (hs : Same H0 B) (hR : H0 R = none) : Same H0 H := fun a o h => atB1 M (hs a o h) (ne_of_none h hR)
local macro_rules | `(tactic| walk_at "hp") => `(tactic| (refine' atB1 ?k1 ?k2 ?k3; (case k1 => assumption); (case k2 => assumption); (case k3 => assumption)))
def sp_runs : Sp := fun vs H Q _ => ∃ (p q : Addr) (a b c d : Int), vs = [.ref p, .ref q] ∧ H p = some (.tup [.int a, .int b]) ∧ H q = some (.tup [.int c, .int d]) ∧ Row a b ∧ Row c d ∧
  ∀ R rs H', Same H H' → H R = none → PrL H' R rs → rs.map (·.2) = runsTo a c d (b + 1) → Q (.ref R) H'
local macro_rules | `(tactic| walk_at "use") => `(tactic| with_reducible first
  | (refine' k_appF0 ?k1 ?k2 ?k3 ?_; (case k1 => assumption); (case k2 => simp); (case k3 => walk_at "size"); intro H' M'))
theorem ok_runs {f : Addr} {fd : FuncData} (F : Fun K "_law_runs" "_law_runs" s__law_runs f fd) (T : Txt P K mg C CE fE CD CA CU CT CI)  :
    FnOk P w K mg base (L2.CX P w) (0 + 1) f fd ["_law_mine", "_law_other"] sp_runs := by
  refine okT F sc__law_runs (fun vs H Q E h => ?_) (fun cdv A outer s H vs Q E hr tk h => ?_)
  · obtain ⟨p, q, a, b, c, d, rfl, _⟩ := h
    rfl
  obtain ⟨p, q, a, b, c, d, rfl, h1, h2, ⟨ha0, hab, hb9⟩, ⟨hc0, hcd, hd9⟩, k⟩ := h
  have f1 := T.cl; have f2 := T.nC; have f3 := T.nG; have f4 := T.ca; have f5 := T.cn; have f6 := T.ct; have f7 := T.cm; have f8 := T.i1; have f9 := T.i2
  refine ⟨_, (pss_cons (ps_set (i := 2) sc__law_runs.nd rfl (Or.inl rfl) (pe_lst pa_nil))
      (pss_cons (ps_for (passes_of rfl) rfl (pi_range2 (by rfl) T.b_range (pa_cons (pe_ix ix_tup (pv 0) pe_int (fun _ _ => rfl)) (pa_cons (pe_op op_add (pe_ix ix_tup (pv 0) pe_int (fun _ _ => rfl)) pe_int) pa_nil))) (pg_name (i := 3) sc__law_runs.nd rfl (Or.inl rfl)) (pss_cons (ps_if (PW.pt (pw_and (pt_cmpR op_le (pe_ix ix_tup (pv 1) pe_int (fun _ _ => rfl)) (pv 3) (nomark _)) (pw_and1 (pt_cmpR op_le (pv 3) (pe_ix ix_tup (pv 1) pe_int (fun _ _ => rfl)) (nomark _))))) (pss_one ps_continue) pss_nil)
      (pss_one (ps_if (PW.pt (pw_and (pt_cmpR (op_neD hr.units) (pv 2) (pe_lst pa_nil) (nomark _)) (pw_and1 (pt_cmpR op_eq (pe_ix ix_tup (pe_ix ix_list (pv 2) pe_negC (fun _ _ => rfl)) pe_int (fun _ _ => rfl)) (pe_op op_sub (pv 3) pe_int) (nomark _))))) (pss_one (ps_asg (pe_tup (pa_cons (pe_ix ix_tup (pe_ix ix_list (pv 2) pe_negC (fun _ _ => rfl)) pe_int (fun _ _ => rfl)) (pa_cons (pv 3) pa_nil))) (pg_sub (pv 2) pe_negC set_list))) (pss_one (ps_expr (pe_bm PySem.F.plainAttrs_list PySem.F.slot_list_append PySem.F.type_list_append mt_append (pv 2) (pa_cons (pe_tup (pa_cons (pv 3) (pa_cons (pv 3) pa_nil))) pa_nil))))))))
      (pss_one (ps_ret (pv 2))))), ?_⟩
  simp only [cxK, st__law_runs]
  have M : Mem H [] H [] [] := mem_start (by simp []) (by simp) (by simp)
  walk_at "go"
  rename_i R H1 M1
  refine rng_loop ⟨fun i σ' H' => ∃ (rs : List (Addr × Int × Int)) (v : Option V), σ' = [some (.ref p), some (.ref q), some (.ref R), v] ∧ Same H H' ∧ PrL H' R rs ∧ rs.map (·.2) = runsTo a c d (a + i), ?_, ?_, ?_⟩
  · refine ⟨[], _, rfl, Same.of_keep M1, ⟨M1.getL List.mem_cons_self, fun r hr => nomatch hr⟩, ?_⟩
    simp [runsTo]
  · rintro i σ' H' hi ⟨rs, v, rfl, hsame, ⟨hR, hrs⟩, hmap⟩
    have hp' := hsame _ _ h1
    have hq' := hsame _ _ h2
    have hRn : H R = none := M1.new _ List.mem_cons_self
    have hlen : rs.length ≤ 2 := by rw [← List.length_map (f := (·.2)), hmap]; exact runs_le
    have hRp : p ≠ R := ne_of hp' hR (by intro z; cases z)
    have hRq : q ≠ R := ne_of hq' hR (by intro z; cases z)
    have hai : a + ((i + 1 : Nat) : Int) = a + i + 1 := by omega
    match rs, hlen, hR, hrs, hmap with
    | [], _, hR, hrs, hmap =>
      have M : Mem H' [R] H' [(R, .lst [])] [] := mem_start (by simpa using hR) (by simp) (by simp)
      walk_at "go"
      · exact ⟨[], _, rfl, hsame, ⟨hR, hrs⟩, by rw [hai, runs_skip (by omega) (by omega) (by omega)]; exact hmap⟩
      all_goals
        rename_i nl HN MN
        refine k_neNil (xs := []) (ds := []) (SqL.of (MN.getF List.mem_cons_self)) (MN.getL List.mem_cons_self) .nil (by decide +kernel) ?_
        simp only [List.isEmpty_nil, Bool.not_true]
        walk_at "go"
        rename_i t _ _ H4 M4
        exact ⟨[(t, a + i, a + i)], _, rfl, same_after M4 hsame hRn, ⟨M4.getF List.mem_cons_self, fun r hr => by simp at hr; subst hr; exact M4.getL (by simp)⟩, by rw [hai, ← runs_step (by omega) hcd (by omega), ← hmap]; rfl⟩
    | [(ra, rp, rq)], _, hR, hrs, hmap =>
      have hr1 : H' ra = some (.tup [.int rp, .int rq]) := hrs (ra, rp, rq) (by simp)
      have hrR : ra ≠ R := ne_of hr1 hR (by intro z; cases z)
      have M : Mem H' [R] H' [(R, .lst [.ref ra])] [] := mem_start (by simpa using hR) (by simp) (by simp)
      walk_at "go"
      · exact ⟨[(ra, rp, rq)], _, rfl, hsame, ⟨hR, hrs⟩, by rw [hai, runs_skip (by omega) (by omega) (by omega)]; exact hmap⟩
      all_goals
        rename_i nl HN MN
        refine k_neNil (xs := [.ref ra]) (ds := [.tuple [.int rp, .int rq]]) (SqL.of (MN.getF List.mem_cons_self)) (MN.getL List.mem_cons_self) (.cons (.tup (SqT.of (atB1 MN hr1 hrR)) (.cons (.int _) (.cons (.int _) .nil))) .nil) rfl ?_
        simp only [List.isEmpty_cons, Bool.not_false]
        walk_at "go"
        · rename_i hq t _ _ H4 M4
          exact ⟨[(t, rp, a + i)], _, rfl, same_after M4 hsame hRn, ⟨M4.getF List.mem_cons_self, fun r hr => by simp at hr; subst hr; exact M4.getL (by simp)⟩, by rw [hai, ← runs_step (by omega) hcd (by omega), ← hmap]; simp [runStep, hq]⟩
        · rename_i hq t _ _ H4 M4
          refine ⟨[(ra, rp, rq), (t, a + i, a + i)], _, rfl, same_after M4 hsame hRn, ⟨M4.getF List.mem_cons_self, fun r hr => ?_⟩, by rw [hai, ← runs_step (by omega) hcd (by omega), ← hmap]; simp [runStep, hq]⟩
          simp at hr
          rcases hr with rfl | rfl
          · exact atB1 M4 hr1 hrR
          · exact M4.getL (by simp)
    | [(ra, rp, rq), (sa, sp, sq)], _, hR, hrs, hmap =>
      have hr1 : H' ra = some (.tup [.int rp, .int rq]) := hrs (ra, rp, rq) (by simp)
      have hr2 : H' sa = some (.tup [.int sp, .int sq]) := hrs (sa, sp, sq) (by simp)
      have hrR : ra ≠ R := ne_of hr1 hR (by intro z; cases z)
      have hrR2 : sa ≠ R := ne_of hr2 hR (by intro z; cases z)
      have M : Mem H' [R] H' [(R, .lst [.ref ra, .ref sa])] [] := mem_start (by simpa using hR) (by simp) (by simp)
      walk_at "go"
      · exact ⟨[(ra, rp, rq), (sa, sp, sq)], _, rfl, hsame, ⟨hR, hrs⟩, by rw [hai, runs_skip (by omega) (by omega) (by omega)]; exact hmap⟩
      all_goals
        rename_i nl HN MN
        refine k_neNil (xs := [.ref ra, .ref sa]) (ds := [.tuple [.int rp, .int rq], .tuple [.int sp, .int sq]]) (SqL.of (MN.getF List.mem_cons_self)) (MN.getL List.mem_cons_self) (.cons (.tup (SqT.of (atB1 MN hr1 hrR)) (.cons (.int _) (.cons (.int _) .nil))) (.cons (.tup (SqT.of (atB1 MN hr2 hrR2)) (.cons (.int _) (.cons (.int _) .nil))) .nil)) rfl ?_
        simp only [List.isEmpty_cons, Bool.not_false]
        have hst := runs_step (a := a) (c := c) (d := d) (j := a + i) (by omega) hcd (by omega)
        rw [← hmap] at hst
        walk_at "go"
        · rename_i hq t _ _ H4 M4
          refine ⟨[(ra, rp, rq), (t, sp, a + i)], _, rfl, same_after M4 hsame hRn, ⟨M4.getF List.mem_cons_self, fun r hr => ?_⟩, by rw [hai, ← hst]; simp [runStep, hq]⟩
          simp at hr
          rcases hr with rfl | rfl
          · exact atB1 M4 hr1 hrR
          · exact M4.getL (by simp)
        · rename_i hq t _ _ H4 M4
          exfalso
          have hst2 : runsTo a c d (a + i + 1) = [] := by rw [← hst]; simp [runStep, hq]
          simp [runsTo] at hst2
          omega
  · rintro σ' H' ⟨rs, v, rfl, hsame, hpr, hmap⟩
    walk_at "go"
    refine k R rs H' hsame (M1.new _ List.mem_cons_self) hpr ?_
    rw [hmap]
    congr 1
    omega
end
end K17

set_option Elab.async false
set_option linter.all false
set_option maxRecDepth 100000
set_option maxHeartbeats 8000000
namespace K17
open PySem L2 MyL
/-- the places a, a + 1, .. (n of them) -/
def places (a : Int) (n : Nat) : List Int := (List.range n).map fun (i : Nat) => a + (i : Int)
theorem places_succ (a : Int) (n : Nat) : places a (n + 1) = places a n ++ [a + (n : Int)] := by simp [places, List.range_succ]
theorem mem_places {a k : Int} {n : Nat} : k ∈ places a n ↔ a ≤ k ∧ k < a + n := by
  simp only [places, List.mem_map, List.mem_range]
  constructor
  · rintro ⟨i, hi, rfl⟩; omega
  · rintro ⟨h1, h2⟩; exact ⟨(k - a).toNat, by omega, by omega⟩
theorem len_places {a : Int} {n : Nat} : (places a n).length = n := by simp [places]
/-- how many of them lie in lo .. hi - 1 -/
theorem cnt_places {a lo hi : Int} (h : lo ≤ hi) (n : Nat) : (((places a n).filter fun k => decide (lo ≤ k ∧ k < hi)).length : Int) = (if a + n < hi then (if a + n < lo then lo else a + n) else hi) - (if a < hi then (if a < lo then lo else a) else hi) := by
  induction n with
  | zero => simp [places]
  | succ n ih =>
    rw [places_succ, List.filter_append, List.length_append]
    simp only [Int.natCast_add, ih]
    by_cases hk : lo ≤ a + (n : Int) ∧ a + (n : Int) < hi
    · simp only [List.filter_cons, decide_eq_true hk, if_true, List.filter_nil, List.length_cons, List.length_nil]
      repeat' split
      all_goals omega
    · simp only [List.filter_cons, decide_eq_false hk, Bool.false_eq_true, if_false, List.filter_nil, List.length_nil]
      repeat' split
      all_goals omega
theorem filter_places {a c : Int} {n m : Nat} : (places a n).filter (fun k => decide (k ∈ places c m)) = (places a n).filter fun k => decide (c ≤ k ∧ k < c + m) := by
  congr 1; funext k; rw [decide_eq_decide]; exact mem_places
local macro_rules | `(tactic| walk_at "mem") => `(tactic| first | exact List.mem_cons_self | (refine List.mem_cons_of_mem _ ?_; walk_at "mem"))
local macro_rules | `(tactic| walk_at "hp") => `(tactic| first | assumption | (refine' Mem.getL ?k1 ?k2; (case k1 => assumption); (case k2 => walk_at "mem")) | (refine' Mem.getF ?k1 ?k2; (case k1 => assumption); (case k2 => walk_at "mem")) | (refine' Mem.atB ?k1 ?k2; (case k1 => assumption); (case k2 => assumption)))
local macro_rules | `(tactic| walk_at "cond") => `(tactic| first | omega | assumption | exact mulR (by omega) (by omega) | exact mulL (by omega) (by omega) | exact divW (by omega) (by omega) | decide)
local macro_rules | `(tactic| walk_at "look") => `(tactic| first | with_unfolding_all rfl | exact atI_map (by omega) (by omega))
local macro_rules | `(tactic| walk_at "go1") => `(tactic| with_reducible first
  | refine k_seq ?_ | refine k_gName ?_ | refine k_asg ?_ | refine k_ret ?_ | refine k_ifS ?_ | refine k_drop ?_ | refine k_next ?_ | refine k_break ?_ | refine k_cont ?_ | refine k_retN ?_
  | (refine' k_var ?k1 ?_; (case k1 => with_unfolding_all rfl)) | refine k_c ?_ | refine k_op ?_ | refine k_un ?_ | refine k_test ?_ | refine k_B ?_ | refine k_bl ?_ | refine k_and ?_ | refine k_or ?_ | refine k_not ?_
  | refine k_andV ?_ | refine k_orV ?_ | refine k_notV ?_ | refine k_ifE ?_ | refine k_nil ?_ | refine k_cons ?_ | refine k_cb ?_ | refine k_callS ?_ | refine k_lst0 ?_ | refine k_tup0 ?_ | refine k_fld0 ?_ | refine k_sub0 ?_ | refine k_make0 ?_ | refine k_prop0 ?_ | refine k_sta0 ?_ | refine k_sta ?_ | refine k_bm ?_ | refine k_bm0 ?_ | refine k_chain ?_ | refine k_makeK0 ?_ | refine k_swapK ?_ | refine k_meth0 ?_ | refine k_ownN0 ?_ | refine k_ownO0 ?_ | refine k_sfld0 ?_ | refine k_jnil ?_ | refine k_jcons ?_ | refine k_fmt0 ?_ | refine k_sl0 ?_ | refine k_nopart ?_ | refine k_part ?_ | refine k_forR1 ?_ | refine k_forR2 ?_ | refine k_forL ?_ | refine k_forT ?_ | refine k_lcR1 ?_ | refine k_lcR2 ?_ | refine k_lcL ?_ | refine k_err0 ?_ | refine k_xf0 ?_ | refine k_errQ1 ?_ | refine k_errQ0 ?_ | refine k_errQ2 ?_ | refine k_errQ3 ?_
  | refine k_I0 ?_ | (refine k_I ?k1 ?_; (case k1 => walk_at "cond")) | refine k_U ?_ | refine k_eqI ?_ | refine k_neI ?_ | refine k_eqB ?_ | refine k_neB ?_ | refine k_eqS ?_ | refine k_neS ?_
  | refine k_int1 ?_ | refine k_abs1 ?_ | refine k_min2 ?_ | refine k_max2 ?_
  | (refine' k_lenM ?k1 ?_; (case k1 => walk_at "hp")) | (refine' k_lenL ?k1 ?_; (case k1 => walk_at "hp")) | (refine' k_lenT ?k1 ?_; (case k1 => walk_at "hp"))
  | (refine' k_lenS ?k1 ?_; (case k1 => assumption)) | (refine' k_ixS ?k1 ?k2 ?_; (case k1 => assumption); (case k2 => walk_at "look"))
  | (refine' k_ixL ?k1 ?k2 ?_; (case k1 => walk_at "hp"); (case k2 => walk_at "look")) | (refine' k_ixT ?k1 ?k2 ?_; (case k1 => walk_at "hp"); (case k2 => walk_at "look"))
  | (refine' k_ix4 ?k1 ?k2 ?k3 ?_; (case k1 => walk_at "hp"); (case k2 => omega); (case k3 => omega); intro n' hn')
  | (refine' k_ix3 ?k1 ?k2 ?k3 ?_; (case k1 => walk_at "hp"); (case k2 => omega); (case k3 => omega); intro n' hn')
  | (refine' k_ix2 ?k1 ?k2 ?k3 ?_; (case k1 => walk_at "hp"); (case k2 => omega); (case k3 => omega); intro n' hn')
  | (refine' k_fld ?k1 ?k2 ?k3 ?k4 ?_; (case k1 => walk_at "hp"); (case k2 => assumption); (case k3 => assumption); (case k4 => walk_at "fld"))
  | (refine' k_lst ?k1 ?k2 ?_; (case k1 => assumption); (case k2 => exact sz (by simp)); intro p' H' M')
  | (refine' k_tup ?k1 ?k2 ?_; (case k1 => assumption); (case k2 => exact sz (by simp)); intro p' H' M')
  | (refine' k_setF0 ?k1 ?k2 ?k3 ?_; (case k1 => assumption); (case k2 => simp); (case k3 => with_unfolding_all rfl); intro H' M'; try simp only [Int.reduceToNat, List.set_cons_succ, List.set_cons_zero] at M')
  | (refine' k_setL0 ?k1 ?k2 ?_; (case k1 => assumption); (case k2 => with_unfolding_all rfl); intro H' M'; try simp only [Int.reduceToNat, List.set_cons_succ, List.set_cons_zero] at M')
  | (refine' k_setL1 ?k1 ?k2 ?_; (case k1 => assumption); (case k2 => with_unfolding_all rfl); intro H' M'; try simp only [Int.reduceToNat, List.set_cons_succ, List.set_cons_zero] at M')
  | (refine' k_setL2 ?k1 ?k2 ?_; (case k1 => assumption); (case k2 => with_unfolding_all rfl); intro H' M'; try simp only [Int.reduceToNat, List.set_cons_succ, List.set_cons_zero] at M')
  | refine iteT ?_ | refine iteF ?_ | refine k_iteNE ?_ | refine k_iteNS ?_ | refine k_iteNT ?_ | refine k_iteNF ?_
  | (refine k_iteD ?_ ?_ <;> intro hc <;> first | (exfalso; omega) | skip)
  | (refine k_iteN ?_ ?_ <;> intro hc <;> first | (exfalso; omega) | skip)
  | (refine' k_ownN ?k1 ?_; (case k1 => walk_at "hp")) | (refine' k_ownO ?k1 ?k2 ?_; (case k1 => walk_at "hp"); (case k2 => walk_at "hp")) | (refine' k_ownEq ?k1 ?k2 ?_; (case k1 => walk_at "hp"); (case k2 => walk_at "hp"))
  | (refine' k_ownIn ?k1 ?_; (case k1 => walk_at "hp")) | (refine' k_ownU ?k1 ?_; (case k1 => walk_at "hp")) | (refine' k_ownStr ?k1 ?_; (case k1 => walk_at "hp"))
  | (refine' k_prop ?k1 ?_; (case k1 => walk_at "hp")) | (refine' k_ownNe ?k1 ?k2 ?_; (case k1 => walk_at "hp"); (case k2 => walk_at "hp")) | (refine' k_eqP ?k1 ?k2 ?_; (case k1 => walk_at "hp"); (case k2 => walk_at "hp")) | (refine' k_neP ?k1 ?k2 ?_; (case k1 => walk_at "hp"); (case k2 => walk_at "hp"))
  | (refine' k_isiO ?k1 ?k2 ?k3 ?k4 ?k5 ?k6 ?_; (case k1 => walk_at "hp"); (case k2 => assumption); (case k3 => assumption); (case k4 => assumption); (case k5 => assumption); (case k6 => assumption))
  | (refine' k_isiI ?k1 ?_; (case k1 => assumption))
  | (refine' k_jst ?k1 ?_; (case k1 => walk_at "size")) | (refine' k_fmtI ?k1 ?_; (case k1 => exact log2_64 (by omega) (by omega))) | (refine' k_strI ?k1 ?_; (case k1 => exact log2_64 (by omega) (by omega)))
  | (refine k_addS ?k1 ?_; (case k1 => walk_at "size")) | refine k_st ?_ | refine k_parti ?_
  | (refine' k_cat ?k1 ?k2 ?k3 ?k4 ?_; (case k1 => assumption); (case k2 => walk_at "hp"); (case k3 => walk_at "hp"); (case k4 => walk_at "size"); intro p' H' M')
  | (refine' k_slL ?k1 ?k2 ?_; (case k1 => assumption); (case k2 => first | assumption | exact SqL.of (by walk_at "hp")); intro p' H' M')
  | (refine k_rng1 ?k1 ?k2 ?_; (case k1 => omega); (case k2 => omega)) | (refine k_rng2 ?k1 ?k2 ?k3 ?k4 ?_; (case k1 => omega); (case k2 => omega); (case k3 => omega); (case k4 => omega))
  | (refine' k_lstAt ?k1 ?_; (case k1 => first | assumption | exact SqL.of (by walk_at "hp"))) | (refine' k_tupAt ?k1 ?_; (case k1 => first | assumption | exact SqT.of (by walk_at "hp")))
  | (refine' k_isXs ?k1 ?k2 ?_; (case k1 => assumption); (case k2 => walk_at "hp")) | (refine' k_isXo ?k1 ?k2 ?k3 ?_; (case k1 => assumption); (case k2 => walk_at "hp"); (case k3 => assumption)) | (refine' k_isXt ?k1 ?k2 ?k3 ?_; (case k1 => assumption); (case k2 => walk_at "hp"); (case k3 => assumption))
  | (refine' k_isX3 ?k1 ?k2 ?k3 ?k4 ?_; (case k1 => assumption); (case k2 => walk_at "hp"); (case k3 => walk_at "hp"); (case k4 => assumption)) | (refine' k_isX2 ?k1 ?k2 ?k3 ?k4 ?_; (case k1 => assumption); (case k2 => walk_at "hp"); (case k3 => walk_at "hp"); (case k4 => assumption))
  | (refine' k_tyL ?k1 ?_; (case k1 => walk_at "hp"))
  | (refine' k_appL0 ?k1 ?k2 ?_; (case k1 => assumption); (case k2 => walk_at "size"); intro H' M') | (refine' k_appL1 ?k1 ?k2 ?_; (case k1 => assumption); (case k2 => walk_at "size"); intro H' M') | (refine' k_appL2 ?k1 ?k2 ?_; (case k1 => assumption); (case k2 => walk_at "size"); intro H' M') | (refine' k_appL3 ?k1 ?k2 ?_; (case k1 => assumption); (case k2 => walk_at "size"); intro H' M')
  | (refine' k_revL0 ?k1 ?_; (case k1 => assumption); intro H' M') | (refine' k_revL1 ?k1 ?_; (case k1 => assumption); intro H' M')
  | (refine' k_isX0s ?k1 ?_; (case k1 => assumption)) | (refine' k_isX0o ?k1 ?k2 ?_; (case k1 => assumption); (case k2 => assumption)) | (refine' k_isX0t ?k1 ?k2 ?_; (case k1 => assumption); (case k2 => assumption)) | (refine' k_isX04 ?k1 ?k2 ?k3 ?_; (case k1 => assumption); (case k2 => walk_at "hp"); (case k3 => assumption))
  | (refine' k_isX4 ?k1 ?k2 ?k3 ?k4 ?_; (case k1 => assumption); (case k2 => walk_at "hp"); (case k3 => walk_at "hp"); (case k4 => assumption)) | (refine' k_ixT2 ?k1 ?k2 ?k3 ?_; (case k1 => walk_at "hp"); (case k2 => omega); (case k3 => omega); intro n' hn')
  | (refine k_iteNEq ?k1 ?_; (case k1 => (rw [Bool.eq_iff_iff]; first | (simp; done) | (simp; omega))))
  | (refine' k_xf ?k1 ?k2 ?_; (case k1 => walk_at "hp"); (case k2 => first | exact xd1 | exact xdH | exact xd2 (by decide +kernel)))
  | (refine' k_caught ?k1 ?_; (case k1 => assumption); intro a' ha')
  | walk_at "use")
local macro_rules | `(tactic| walk_at "go") => `(tactic| repeat' (walk_at "go1"))

local macro_rules | `(tactic| walk_at "fld") => `(tactic| first | exact stF_come _ _ | exact stF_go _ _)
local macro_rules | `(tactic| walk_at "eq") => `(tactic| first | rfl | assumption | omega)
local macro_rules | `(tactic| walk_at "size") => `(tactic| first | exact sz (by first | omega | (simp only [List.length_map, List.length_range, List.length_append, List.length_cons, List.length_nil, Int.reduceSub, Int.reduceToNat, Int.reduceNeg]; omega)) | exact small1000 (by first | omega | (simp only [List.length_map, List.length_range, List.length_append, List.length_cons, List.length_nil]; omega)) | (simp only [Str.length_append, Str.empty_append]; exact sz (by omega)))
section
variable {P : Program} {w : World} {K : PySem.W.Frag} {mg : Str → Option Value} {base : Heap} {C CE fE CD CA CU CT CI : Addr}
theorem places_map {a : Int} {n : Nat} : (List.range n).map (fun (i : Nat) => V.int (a + (i : Int))) = (places a n).map V.int := by simp only [places, List.map_map]; rfl
theorem lay_ints {ns : List Int} : PyData.canLayAll0 (ns.map PyData.int) = true := by
  induction ns with
  | nil => rfl
  | cons n ns ih => simp [PyData.canLayAll0, PyData.canLay0, ih]
theorem depth_ints {ns : List Int} : PyData.depthAll (ns.map PyData.int) = 0 := by
  induction ns with
  | nil => rfl
  | cons n ns ih => simp [PyData.depthAll, PyData.depth, ih]
theorem shaped_ints {ns : List Int} : SeqAt.shaped (.list (ns.map PyData.int)) = true := by
  simp [SeqAt.shaped, PyData.canLay0, PyData.depth, lay_ints, depth_ints]
theorem k_neNilE {H : Hp} {Q : VK} {p b : Addr} {ns : List Int} {x : Bool} (h1 : H p = some (.lst (ns.map V.int))) (h2 : H b = some (.lst [])) (e : (!ns.isEmpty) = x) (q : Q (.bl x) H) : rNeD K (.ref p) (.ref b) H Q := by
  refine k_neNil (SqL.of h1) h2 dp_ints shaped_ints ?_
  have : (!(ns.map V.int).isEmpty) = x := by rw [← e]; simp
  rw [this]; exact q
theorem filter_ints {L : List Int} {m : List Int} : ((L.map V.int).filter fun v => match v with | .int k => decide (k ∈ m) | _ => false) = (L.filter fun k => decide (k ∈ m)).map V.int := by
  rw [List.filter_map]; rfl
/-- days and places go together -/
structure Goes (c g c2 g2 a b a2 b2 : Int) : Prop where
  r1 : Row a b
  r2 : Row a2 b2
  m1 : c ≤ g2 ↔ a ≤ b2
  m2 : c2 ≤ g ↔ a2 ≤ b
  w1 : c2 ≤ c ↔ a2 ≤ a
  w2 : g ≤ g2 ↔ b ≤ b2
  w3 : c ≤ c2 ↔ a ≤ a2
  w4 : g2 ≤ g ↔ b2 ≤ b
def sp_placed (C : Addr) : Sp := fun vs H Q _ => ∃ (x dx y dy p q : Addr) (c g c2 g2 a b a2 b2 : Int), vs = [.ref x, .ref y, .ref p, .ref q] ∧ H x = some (.ins C dx (stF c g)) ∧ H y = some (.ins C dy (stF c2 g2)) ∧ H p = some (.tup [.int a, .int b]) ∧ H q = some (.tup [.int a2, .int b2]) ∧ Goes c g c2 g2 a b a2 b2 ∧ ∀ H', Same H H' → Q (.bl true) H'
local macro_rules | `(tactic| walk_at "use") => `(tactic| with_reducible first
  | (refine' use_cmp ?k1 ?k2 ?_; (case k1 => walk_at "hp"); (case k2 => walk_at "hp"))
  | (refine' k_neNilE ?k1 ?k2 ?k3 ?_; (case k1 => walk_at "hp"); (case k2 => walk_at "hp"); (case k3 => assumption))
  | (refine' use_truth ?k1 ?_; (case k1 => (rw [Bool.eq_iff_iff]; simp only [decide_eq_true_eq, Bool.not_eq_true', decide_eq_false_iff_not, Bool.false_eq_true, iff_false]; omega)))
  | (refine' k_inI ?k1 ?_; (case k1 => exact .inl (SqL.of (by walk_at "hp"))))
  | (refine' k_methI ?k1 ?k2 ?_; (case k1 => walk_at "hp"); (case k2 => exact stF_no (by decide +kernel) (by decide +kernel))))
theorem ok_placed {f : Addr} {fd : FuncData} (F : Fun K "_law_placed" "_law_placed" s__law_placed f fd) (T : Txt P K mg C CE fE CD CA CU CT CI) (c_Stay_meets : Met P w K mg base 1 C "meets" (sp_cmp C RMeets)) (c_Stay_within : Met P w K mg base 1 C "within" (sp_cmp C RWithin)) (c_Stay_crosses : Met P w K mg base 2 C "crosses" (sp_cmp C RCrosses)) (c__law_truth : Cal P w K mg base 1 "_law_truth" sp_truth) :
    FnOk P w K mg base (L2.CX P w) (2 + 1) f fd ["_law_one", "_law_two", "_law_mine", "_law_other"] (sp_placed C) := by
  refine okT F sc__law_placed (fun vs H Q E h => ?_) (fun cdv A outer s H vs Q E hr tk h => ?_)
  · obtain ⟨x, dx, y, dy, p, q, c, g, c2, g2, a, b, a2, b2, rfl, _⟩ := h
    rfl
  obtain ⟨x, dx, y, dy, p, q, c, g, c2, g2, a, b, a2, b2, rfl, h1, h2, h3, h4, ⟨⟨ha0, hab, hb9⟩, ⟨hc0, hcd, hd9⟩, m1, m2, w1, w2, w3, w4⟩, k⟩ := h
  have f1 := T.cl; have f2 := T.nC; have f3 := T.nG; have f4 := T.ca; have f5 := T.cn; have f6 := T.ct; have f7 := T.cm; have f8 := T.i1; have f9 := T.i2
  refine ⟨_, (pss_cons (ps_setLc (i := 4) (own := [("_law_k", 8)]) (g := gName 8) (tt := tYes) rfl sc__law_placed.nd rfl rfl (sw_true rfl rfl rfl (by decide +kernel)) (pi_range2 (by rfl) T.b_range (pa_cons (pe_ix ix_tup (pv 2) pe_int (fun _ _ => rfl)) (pa_cons (pe_op op_add (pe_ix ix_tup (pv 2) pe_int (fun _ _ => rfl)) pe_int) pa_nil))) (blkOk_by (own := [("_law_k", 8)]) (N := N__law_placed) (sc := defScope s__law_placed) (by decide +kernel)) (fun _ _ _ _ _ => pg_name (i := 8) sc__law_placed.nd rfl (Or.inl rfl)) (fun _ _ _ _ _ => pts_nil) (fun _ _ _ _ _ => (pv 8)))
      (pss_cons (ps_set (i := 5) sc__law_placed.nd rfl (Or.inr rfl) (pe_lc (own := [("_law_k", 8)]) (g := gName 8) (tt := tYes) rfl sc__law_placed.nd (pi_range2 (by rfl) T.b_range (pa_cons (pe_ix ix_tup (pv 3) pe_int (fun _ _ => rfl)) (pa_cons (pe_op op_add (pe_ix ix_tup (pv 3) pe_int (fun _ _ => rfl)) pe_int) pa_nil))) (blkOk_by (own := [("_law_k", 8)]) (N := N__law_placed) (sc := defScope s__law_placed) (by decide +kernel)) (fun _ _ _ _ _ => pg_name (i := 8) sc__law_placed.nd rfl (Or.inl rfl)) (fun _ _ _ _ _ => pts_nil) (fun _ _ _ _ _ => (pv 8))))
      (pss_cons (ps_setLc (i := 6) (own := [("_law_k", 8)]) (g := gName 8) rfl sc__law_placed.nd rfl rfl (sw_true rfl rfl rfl (by decide +kernel)) (pi_list (pv 4)) (blkOk_by (own := [("_law_k", 8)]) (N := N__law_placed) (sc := defScope s__law_placed) (by decide +kernel)) (fun _ _ _ _ _ => pg_name (i := 8) sc__law_placed.nd rfl (Or.inl rfl)) (fun _ _ _ _ _ => pts_one (pt_cmpR (op_in_seq : OpR _ _ (rIn K false)) (pv 8) (pv 5) rfl)) (fun _ _ _ _ _ => (pv 8)))
      (pss_cons (ps_set (i := 7) sc__law_placed.nd rfl (Or.inl rfl) (pe_cmpR op_eq (pe_callB b_len (by rfl) T.b_len (by decide +kernel) (pa_cons (pv 6) pa_nil)) (pe_callB b_len (by rfl) T.b_len (by decide +kernel) (pa_cons (pv 4) pa_nil)) (nomark _)))
      (pss_cons (ps_if (PW.pt (pw_or (pt_not (pt_val (c_call c__law_truth tk hr (by decide) (pa_cons (c_meth c_Stay_meets tk hr (by decide) (pv 0) (pa_cons (pv 1) pa_nil)) (pa_cons (pe_cmpR (op_neD hr.units) (pv 6) (pe_lst pa_nil) (nomark _)) pa_nil))))) (pw_or1 (pt_not (pt_val (c_call c__law_truth tk hr (by decide) (pa_cons (c_meth c_Stay_within tk hr (by decide) (pv 0) (pa_cons (pv 1) pa_nil)) (pa_cons (pv 7) pa_nil)))))))) (pss_one (ps_ret pe_bl)) pss_nil)
      (pss_one (ps_ret (c_call c__law_truth tk hr (by decide) (pa_cons (c_meth c_Stay_crosses tk hr (by decide) (pv 0) (pa_cons (pv 1) pa_nil)) (pa_cons (pe_and (pe_cmpR (op_neD hr.units) (pv 6) (pe_lst pa_nil) (nomark _)) (pe_and (pe_not (pv 7)) (pe_one (pe_cmpR op_ne (pe_callB b_len (by rfl) T.b_len (by decide +kernel) (pa_cons (pv 6) pa_nil)) (pe_callB b_len (by rfl) T.b_len (by decide +kernel) (pa_cons (pv 5) pa_nil)) (nomark _))))) pa_nil)))))))))), ?_⟩
  simp only [cxK, st__law_placed]
  have M : Mem H [] H [] [] := mem_start (by simp []) (by simp) (by simp)
  walk_at "go"
  refine lcR_pure M (fun i => .int (a + (i : Int))) (by omega) (fun x => rfl) (fun i H' D R hi M' hR => ?_) (fun D H' M1 => ?_)
  · walk_at "go"
    exact hR _ M'
  rw [places_map] at M1
  walk_at "go"
  refine lcR_pure M1 (fun i => .int (a2 + (i : Int))) (by omega) (fun x => rfl) (fun i H' D R hi M' hR => ?_) (fun D2 H2 M2 => ?_)
  · walk_at "go"
    exact hR _ M'
  rw [places_map] at M2
  walk_at "go"
  refine lcL_sel (xs := (places a (b + 1 - a).toNat).map V.int) M2 (fun H' D' acc M' => SqL.of (M'.getL (by simp))) (fun v => match v with | .int k => decide (k ∈ places a2 (b2 + 1 - a2).toNat) | _ => false) id (by rw [List.length_map, len_places]; omega) (fun x => rfl) ?_ ?_ (fun D3 H3 M3 => ?_)
  · intro v H' D' acc R hv M' hR
    obtain ⟨z, hz, rfl⟩ := List.mem_map.mp hv
    walk_at "go"
    exact hR _ M'
  · intro v H' D' acc R hv hP M' hR
    walk_at "go"
    exact hR _ M'
  rw [List.map_id, filter_ints] at M3
  obtain ⟨bs, hbs, hcnt⟩ : ∃ bs : List Int, ((places a (b + 1 - a).toNat).filter fun k => decide (k ∈ places a2 (b2 + 1 - a2).toNat)) = bs ∧ (bs.length : Int) = (if b + 1 < b2 + 1 then (if b + 1 < a2 then a2 else b + 1) else b2 + 1) - (if a < b2 + 1 then (if a < a2 then a2 else a) else b2 + 1) := by
    refine ⟨_, rfl, ?_⟩
    rw [filter_places, show a2 + (((b2 + 1 - a2).toNat : Nat) : Int) = b2 + 1 by omega, cnt_places (by omega), show a + (((b + 1 - a).toNat : Nat) : Int) = b + 1 by omega]
  rw [hbs] at M3
  have hb1 : bs ≠ [] ↔ (a ≤ b2 ∧ a2 ≤ b) := by
    rw [← List.length_pos_iff]
    constructor
    · intro h
      have : (0 : Int) < bs.length := by omega
      rw [hcnt] at this
      repeat' split at this
      all_goals omega
    · intro h
      have : (0 : Int) < bs.length := by
        rw [hcnt]
        repeat' split
        all_goals omega
      omega
  have hl1 : ((places a (b + 1 - a).toNat).length : Int) = b + 1 - a := by rw [len_places]; omega
  have hl2 : ((places a2 (b2 + 1 - a2).toNat).length : Int) = b2 + 1 - a2 := by rw [len_places]; omega
  have hb2 : (bs.length : Int) = b + 1 - a ↔ (a2 ≤ a ∧ b ≤ b2) := by
    rw [hcnt]
    repeat' split
    all_goals omega
  have hb3 : (bs.length : Int) = b2 + 1 - a2 ↔ (a ≤ a2 ∧ b2 ≤ b) := by
    rw [hcnt]
    repeat' split
    all_goals omega
  have hb4 : (!bs.isEmpty) = decide (a ≤ b2 ∧ a2 ≤ b) := by
    rw [Bool.eq_iff_iff]; simp [← hb1]
  clear hcnt
  walk_at "go"
  all_goals exact k _ (Same.of_keep (by assumption))
end
end K17

set_option Elab.async false
set_option linter.all false
set_option maxRecDepth 100000
set_option maxHeartbeats 8000000
namespace K17
open PySem L2 MyL
local macro_rules | `(tactic| walk_at "mem") => `(tactic| first | exact List.mem_cons_self | (refine List.mem_cons_of_mem _ ?_; walk_at "mem"))
local macro_rules | `(tactic| walk_at "hp") => `(tactic| first | assumption | (refine' Mem.getL ?k1 ?k2; (case k1 => assumption); (case k2 => walk_at "mem")) | (refine' Mem.getF ?k1 ?k2; (case k1 => assumption); (case k2 => walk_at "mem")) | (refine' Mem.atB ?k1 ?k2; (case k1 => assumption); (case k2 => assumption)))
local macro_rules | `(tactic| walk_at "cond") => `(tactic| first | omega | assumption | exact mulR (by omega) (by omega) | exact mulL (by omega) (by omega) | exact divW (by omega) (by omega) | decide)
local macro_rules | `(tactic| walk_at "look") => `(tactic| first | with_unfolding_all rfl | exact atI_map (by omega) (by omega))
local macro_rules | `(tactic| walk_at "go1") => `(tactic| with_reducible first
  | refine k_seq ?_ | refine k_gName ?_ | refine k_asg ?_ | refine k_ret ?_ | refine k_ifS ?_ | refine k_drop ?_ | refine k_next ?_ | refine k_break ?_ | refine k_cont ?_ | refine k_retN ?_
  | (refine' k_var ?k1 ?_; (case k1 => with_unfolding_all rfl)) | refine k_c ?_ | refine k_op ?_ | refine k_un ?_ | refine k_test ?_ | refine k_B ?_ | refine k_bl ?_ | refine k_and ?_ | refine k_or ?_ | refine k_not ?_
  | refine k_andV ?_ | refine k_orV ?_ | refine k_notV ?_ | refine k_ifE ?_ | refine k_nil ?_ | refine k_cons ?_ | refine k_cb ?_ | refine k_callS ?_ | refine k_lst0 ?_ | refine k_tup0 ?_ | refine k_fld0 ?_ | refine k_sub0 ?_ | refine k_make0 ?_ | refine k_prop0 ?_ | refine k_sta0 ?_ | refine k_sta ?_ | refine k_bm ?_ | refine k_bm0 ?_ | refine k_chain ?_ | refine k_makeK0 ?_ | refine k_swapK ?_ | refine k_meth0 ?_ | refine k_ownN0 ?_ | refine k_ownO0 ?_ | refine k_sfld0 ?_ | refine k_jnil ?_ | refine k_jcons ?_ | refine k_fmt0 ?_ | refine k_sl0 ?_ | refine k_nopart ?_ | refine k_part ?_ | refine k_forR1 ?_ | refine k_forR2 ?_ | refine k_forL ?_ | refine k_forT ?_ | refine k_lcR1 ?_ | refine k_lcR2 ?_ | refine k_lcL ?_ | refine k_err0 ?_ | refine k_xf0 ?_ | refine k_errQ1 ?_ | refine k_errQ0 ?_ | refine k_errQ2 ?_ | refine k_errQ3 ?_
  | refine k_I0 ?_ | (refine k_I ?k1 ?_; (case k1 => walk_at "cond")) | refine k_U ?_ | refine k_eqI ?_ | refine k_neI ?_ | refine k_eqB ?_ | refine k_neB ?_ | refine k_eqS ?_ | refine k_neS ?_
  | refine k_int1 ?_ | refine k_abs1 ?_ | refine k_min2 ?_ | refine k_max2 ?_
  | (refine' k_lenM ?k1 ?_; (case k1 => walk_at "hp")) | (refine' k_lenL ?k1 ?_; (case k1 => walk_at "hp")) | (refine' k_lenT ?k1 ?_; (case k1 => walk_at "hp"))
  | (refine' k_lenS ?k1 ?_; (case k1 => assumption)) | (refine' k_ixS ?k1 ?k2 ?_; (case k1 => assumption); (case k2 => walk_at "look"))
  | (refine' k_ixL ?k1 ?k2 ?_; (case k1 => walk_at "hp"); (case k2 => walk_at "look")) | (refine' k_ixT ?k1 ?k2 ?_; (case k1 => walk_at "hp"); (case k2 => walk_at "look"))
  | (refine' k_ix4 ?k1 ?k2 ?k3 ?_; (case k1 => walk_at "hp"); (case k2 => omega); (case k3 => omega); intro n' hn')
  | (refine' k_ix3 ?k1 ?k2 ?k3 ?_; (case k1 => walk_at "hp"); (case k2 => omega); (case k3 => omega); intro n' hn')
  | (refine' k_ix2 ?k1 ?k2 ?k3 ?_; (case k1 => walk_at "hp"); (case k2 => omega); (case k3 => omega); intro n' hn')
  | (refine' k_fld ?k1 ?k2 ?k3 ?k4 ?_; (case k1 => walk_at "hp"); (case k2 => assumption); (case k3 => assumption); (case k4 => walk_at "fld"))
  | (refine' k_lst ?k1 ?k2 ?_; (case k1 => assumption); (case k2 => exact sz (by simp)); intro p' H' M')
  | (refine' k_tup ?k1 ?k2 ?_; (case k1 => assumption); (case k2 => exact sz (by simp)); intro p' H' M')
  | (refine' k_setF0 ?k1 ?k2 ?k3 ?_; (case k1 => assumption); (case k2 => simp); (case k3 => with_unfolding_all rfl); intro H' M'; try simp only [Int.reduceToNat, List.set_cons_succ, List.set_cons_zero] at M')
  | (refine' k_setL0 ?k1 ?k2 ?_; (case k1 => assumption); (case k2 => with_unfolding_all rfl); intro H' M'; try simp only [Int.reduceToNat, List.set_cons_succ, List.set_cons_zero] at M')
  | (refine' k_setL1 ?k1 ?k2 ?_; (case k1 => assumption); (case k2 => with_unfolding_all rfl); intro H' M'; try simp only [Int.reduceToNat, List.set_cons_succ, List.set_cons_zero] at M')
  | (refine' k_setL2 ?k1 ?k2 ?_; (case k1 => assumption); (case k2 => with_unfolding_all rfl); intro H' M'; try simp only [Int.reduceToNat, List.set_cons_succ, List.set_cons_zero] at M')
  | refine iteT ?_ | refine iteF ?_ | refine k_iteNE ?_ | refine k_iteNS ?_ | refine k_iteNT ?_ | refine k_iteNF ?_
  | (refine k_iteD ?_ ?_ <;> intro hc <;> first | (exfalso; omega) | skip)
  | (refine k_iteN ?_ ?_ <;> intro hc <;> first | (exfalso; omega) | skip)
  | (refine' k_ownN ?k1 ?_; (case k1 => walk_at "hp")) | (refine' k_ownO ?k1 ?k2 ?_; (case k1 => walk_at "hp"); (case k2 => walk_at "hp")) | (refine' k_ownEq ?k1 ?k2 ?_; (case k1 => walk_at "hp"); (case k2 => walk_at "hp"))
  | (refine' k_ownIn ?k1 ?_; (case k1 => walk_at "hp")) | (refine' k_ownU ?k1 ?_; (case k1 => walk_at "hp")) | (refine' k_ownStr ?k1 ?_; (case k1 => walk_at "hp"))
  | (refine' k_prop ?k1 ?_; (case k1 => walk_at "hp")) | (refine' k_ownNe ?k1 ?k2 ?_; (case k1 => walk_at "hp"); (case k2 => walk_at "hp")) | (refine' k_eqP ?k1 ?k2 ?_; (case k1 => walk_at "hp"); (case k2 => walk_at "hp")) | (refine' k_neP ?k1 ?k2 ?_; (case k1 => walk_at "hp"); (case k2 => walk_at "hp"))
  | (refine' k_isiO ?k1 ?k2 ?k3 ?k4 ?k5 ?k6 ?_; (case k1 => walk_at "hp"); (case k2 => assumption); (case k3 => assumption); (case k4 => assumption); (case k5 => assumption); (case k6 => assumption))
  | (refine' k_isiI ?k1 ?_; (case k1 => assumption))
  | (refine' k_jst ?k1 ?_; (case k1 => walk_at "size")) | (refine' k_fmtI ?k1 ?_; (case k1 => exact log2_64 (by omega) (by omega))) | (refine' k_strI ?k1 ?_; (case k1 => exact log2_64 (by omega) (by omega)))
  | (refine k_addS ?k1 ?_; (case k1 => walk_at "size")) | refine k_st ?_ | refine k_parti ?_
  | (refine' k_cat ?k1 ?k2 ?k3 ?k4 ?_; (case k1 => assumption); (case k2 => walk_at "hp"); (case k3 => walk_at "hp"); (case k4 => walk_at "size"); intro p' H' M')
  | (refine' k_slL ?k1 ?k2 ?_; (case k1 => assumption); (case k2 => first | assumption | exact SqL.of (by walk_at "hp")); intro p' H' M')
  | (refine k_rng1 ?k1 ?k2 ?_; (case k1 => omega); (case k2 => omega)) | (refine k_rng2 ?k1 ?k2 ?k3 ?k4 ?_; (case k1 => omega); (case k2 => omega); (case k3 => omega); (case k4 => omega))
  | (refine' k_lstAt ?k1 ?_; (case k1 => first | assumption | exact SqL.of (by walk_at "hp"))) | (refine' k_tupAt ?k1 ?_; (case k1 => first | assumption | exact SqT.of (by walk_at "hp")))
  | (refine' k_isXs ?k1 ?k2 ?_; (case k1 => assumption); (case k2 => walk_at "hp")) | (refine' k_isXo ?k1 ?k2 ?k3 ?_; (case k1 => assumption); (case k2 => walk_at "hp"); (case k3 => assumption)) | (refine' k_isXt ?k1 ?k2 ?k3 ?_; (case k1 => assumption); (case k2 => walk_at "hp"); (case k3 => assumption))
  | (refine' k_isX3 ?k1 ?k2 ?k3 ?k4 ?_; (case k1 => assumption); (case k2 => walk_at "hp"); (case k3 => walk_at "hp"); (case k4 => assumption)) | (refine' k_isX2 ?k1 ?k2 ?k3 ?k4 ?_; (case k1 => assumption); (case k2 => walk_at "hp"); (case k3 => walk_at "hp"); (case k4 => assumption))
  | (refine' k_tyL ?k1 ?_; (case k1 => walk_at "hp"))
  | (refine' k_appL0 ?k1 ?k2 ?_; (case k1 => assumption); (case k2 => walk_at "size"); intro H' M') | (refine' k_appL1 ?k1 ?k2 ?_; (case k1 => assumption); (case k2 => walk_at "size"); intro H' M') | (refine' k_appL2 ?k1 ?k2 ?_; (case k1 => assumption); (case k2 => walk_at "size"); intro H' M') | (refine' k_appL3 ?k1 ?k2 ?_; (case k1 => assumption); (case k2 => walk_at "size"); intro H' M')
  | (refine' k_revL0 ?k1 ?_; (case k1 => assumption); intro H' M') | (refine' k_revL1 ?k1 ?_; (case k1 => assumption); intro H' M')
  | (refine' k_isX0s ?k1 ?_; (case k1 => assumption)) | (refine' k_isX0o ?k1 ?k2 ?_; (case k1 => assumption); (case k2 => assumption)) | (refine' k_isX0t ?k1 ?k2 ?_; (case k1 => assumption); (case k2 => assumption)) | (refine' k_isX04 ?k1 ?k2 ?k3 ?_; (case k1 => assumption); (case k2 => walk_at "hp"); (case k3 => assumption))
  | (refine' k_isX4 ?k1 ?k2 ?k3 ?k4 ?_; (case k1 => assumption); (case k2 => walk_at "hp"); (case k3 => walk_at "hp"); (case k4 => assumption)) | (refine' k_ixT2 ?k1 ?k2 ?k3 ?_; (case k1 => walk_at "hp"); (case k2 => omega); (case k3 => omega); intro n' hn')
  | (refine k_iteNEq ?k1 ?_; (case k1 => (rw [Bool.eq_iff_iff]; first | (simp; done) | (simp; omega))))
  | (refine' k_xf ?k1 ?k2 ?_; (case k1 => walk_at "hp"); (case k2 => first | exact xd1 | exact xdH | exact xd2 (by decide +kernel)))
  | (refine' k_caught ?k1 ?_; (case k1 => assumption); intro a' ha')
  | walk_at "use")
local macro_rules | `(tactic| walk_at "go") => `(tactic| repeat' (walk_at "go1"))

local macro_rules | `(tactic| walk_at "fld") => `(tactic| first | exact stF_come _ _ | exact stF_go _ _)
local macro_rules | `(tactic| walk_at "eq") => `(tactic| first | rfl | assumption | omega)
local macro_rules | `(tactic| walk_at "size") => `(tactic| first | exact sz (by first | omega | (simp only [List.length_map, List.length_range, List.length_append, List.length_cons, List.length_nil, Int.reduceSub, Int.reduceToNat, Int.reduceNeg]; omega)) | exact small1000 (by first | omega | (simp only [List.length_map, List.length_range, List.length_append, List.length_cons, List.length_nil]; omega)) | (simp only [Str.length_append, Str.empty_append]; exact sz (by omega)))
section
variable {P : Program} {w : World} {K : PySem.W.Frag} {mg : Str → Option Value} {base : Heap} {C CE fE CD CA CU CT CI : Addr}
theorem not_not_iff {p : Prop} [Decidable p] : ¬ ¬ p ↔ p := Decidable.not_not
theorem day_lt {S : List Int} (hS : Starts S) {i j : Int} (h0 : 0 ≤ i) (h1 : i < j) (h2 : j ≤ 10) : dayAt S i < dayAt S j := by
  have hl := hS.len
  have hp := List.pairwise_iff_getElem.mp hS.inc i.toNat j.toNat (by omega) (by omega) (by omega)
  unfold dayAt
  rw [List.getD_eq_getElem?_getD, List.getD_eq_getElem?_getD, List.getElem?_eq_getElem (by omega), List.getElem?_eq_getElem (by omega)]
  exact hp
theorem day_le {S : List Int} (hS : Starts S) {i j : Int} (h0 : 0 ≤ i) (h1 : 0 ≤ j) (h2 : i ≤ 10) (h3 : j ≤ 10) : dayAt S i ≤ dayAt S j ↔ i ≤ j := by
  constructor
  · intro h
    apply Decidable.byContradiction
    intro hn
    have := day_lt hS h1 (show j < i by omega) h2
    omega
  · intro h
    by_cases e : i = j
    · rw [e]; omega
    · have := day_lt hS h0 (show i < j by omega) h3
      omega
abbrev daysOf (S : List Int) (r : Int × Int) : Int × Int := (dayAt S r.1, dayAt S (r.2 + 1) - 1)
theorem goes_of {S : List Int} (hS : Starts S) {a b a2 b2 : Int} (r1 : Row a b) (r2 : Row a2 b2) : Goes (dayAt S a) (dayAt S (b + 1) - 1) (dayAt S a2) (dayAt S (b2 + 1) - 1) a b a2 b2 := by
  obtain ⟨h1, h2, h3⟩ := id r1
  obtain ⟨h4, h5, h6⟩ := id r2
  have e1 := day_le hS (i := b2 + 1) (j := a) (by omega) (by omega) (by omega) (by omega)
  have e2 := day_le hS (i := b + 1) (j := a2) (by omega) (by omega) (by omega) (by omega)
  have e3 := day_le hS (i := a2) (j := a) (by omega) (by omega) (by omega) (by omega)
  have e4 := day_le hS (i := a) (j := a2) (by omega) (by omega) (by omega) (by omega)
  have e5 := day_le hS (i := b + 1) (j := b2 + 1) (by omega) (by omega) (by omega) (by omega)
  have e6 := day_le hS (i := b2 + 1) (j := b + 1) (by omega) (by omega) (by omega) (by omega)
  exact ⟨r1, r2, by omega, by omega, by omega, by omega, by omega, by omega⟩
theorem row_le {S : List Int} (hS : Starts S) {a b : Int} (r : Row a b) : dayAt S a ≤ dayAt S (b + 1) - 1 := by
  have := day_lt hS (i := a) (j := b + 1) r.a0 (by have := r.ab; omega) (by have := r.b9; omega)
  omega
theorem parts_runs {S : List Int} (hS : Starts S) {a b a2 b2 : Int} (r1 : Row a b) (r2 : Row a2 b2) :
    partsOf (dayAt S a) (dayAt S (b + 1) - 1) (dayAt S a2) (dayAt S (b2 + 1) - 1) = (runsTo a a2 b2 (b + 1)).map (daysOf S) := by
  have G := goes_of hS r1 r2
  obtain ⟨h1, h2, h3⟩ := id r1
  obtain ⟨h4, h5, h6⟩ := id r2
  have m1 := G.m1
  have m2 := G.m2
  have w3 := G.w3
  have w4 := G.w4
  have w1 := G.w1
  have w2 := G.w2
  have e1 : b + 1 - 1 = b := by omega
  by_cases hm : a ≤ b2 ∧ a2 ≤ b
  · have hM : RMeets (dayAt S a) (dayAt S (b + 1) - 1) (dayAt S a2) (dayAt S (b2 + 1) - 1) := ⟨m1.mpr hm.1, m2.mpr hm.2⟩
    have c1 : (dayAt S a < dayAt S a2) ↔ a < a2 := by omega
    have c2 : (dayAt S (b2 + 1) - 1 < dayAt S (b + 1) - 1) ↔ b2 < b := by omega
    have c3 : (a < a2 ∧ a < b + 1) ↔ a < a2 := by omega
    have c4 : (a < b + 1 ∧ b2 + 1 < b + 1) ↔ b2 < b := by omega
    have c5 : a2 < b + 1 ∨ ¬ a < a2 := by omega
    unfold partsOf runsTo
    rw [if_neg (not_not_intro hM)]
    simp only [c1, c2, c3, c4, e1]
    have c6 : ¬ (b2 + 1 < a) := by omega
    have c7 : a2 < b + 1 := by omega
    have c8 : b2 + 1 + 1 - 1 = b2 + 1 := by omega
    simp only [c6, c7, if_true, if_false]
    by_cases ha : a < a2 <;> by_cases hb : b2 < b <;> simp [ha, hb, daysOf]
  · have hM : ¬ RMeets (dayAt S a) (dayAt S (b + 1) - 1) (dayAt S a2) (dayAt S (b2 + 1) - 1) := fun h => hm ⟨m1.mp h.1, m2.mp h.2⟩
    unfold partsOf runsTo
    rw [if_pos hM]
    by_cases ha : a < a2
    · have c1 : a < a2 ∧ a < b + 1 := by omega
      have c2 : ¬ a2 < b + 1 := by omega
      have c3 : ¬ (a < b + 1 ∧ b2 + 1 < b + 1) := by omega
      simp only [c1, c2, c3, e1, and_self, if_true, if_false]
      simp [daysOf]
      omega
    · have c1 : ¬ (a < a2 ∧ a < b + 1) := by omega
      have c3 : a < b + 1 ∧ b2 + 1 < b + 1 := by omega
      simp only [c1, c3, e1, and_self, if_true, if_false]
      by_cases hb : b2 + 1 < a
      · simp [daysOf, hb]
        omega
      · have c4 : b2 + 1 = a := by omega
        simp [daysOf, c4]
        omega
theorem k_isiL {H : Hp} {Q : VK} {a : Addr} {xs : List V} {c : String} {b : Bool} (h : H a = some (.lst xs)) (e : PySem.W.kitOne K (.type "list") (.type c) = some b) (q : Q (.bl b) H) : rIsi K [.ref a, .ty c] H Q := ⟨_, _, _, _, b, rfl, .ty c, .base (.lst h), e, q⟩
theorem use_days {B H : Hp} {ms : List Addr} {f l : List (Addr × HO)} {Q : VK} {E : XK} {s r : Addr} {S : List Int} {a b : Int} (M : Mem B ms H f l) (h1 : H s = some (.lst (S.map V.int))) (h2 : H r = some (.tup [.int a, .int b])) (hl : S.length = 11) (a0 : 0 ≤ a) (a1 : a ≤ 9) (b0 : 0 ≤ b) (b1 : b ≤ 9)
    (k : ∀ p H', Mem B ms H' f ((p, .tup [.int (dayAt S a), .int (dayAt S (b + 1) - 1)]) :: l) → Q (.ref p) H') : sp_days [.ref s, .ref r] H Q E :=
  ⟨s, r, S, a, b, rfl, h1, h2, hl, a0, a1, b0, b1, fun p H' hn hs hp => k p H' (M.sameNew hs hn hp)⟩
def sp_stays (C : Addr) : Sp := fun vs H Q _ => ∃ (L s R : Addr) (S : List Int) (xs rs : List (Addr × Int × Int)), vs = [.ref L, .ref s, .ref R] ∧ StL C H L xs ∧ H s = some (.lst (S.map V.int)) ∧ Starts S ∧ PrL H R rs ∧ (∀ r ∈ rs, (0 ≤ r.2.1 ∧ r.2.1 ≤ 9) ∧ 0 ≤ r.2.2 ∧ r.2.2 ≤ 9) ∧ xs.map (·.2) = rs.map (fun r => daysOf S r.2) ∧ rs.length ≤ 2 ∧ ∀ H', Same H H' → Q (.bl true) H'
local macro_rules | `(tactic| walk_at "look") => `(tactic| assumption)
local macro_rules | `(tactic| walk_at "use") => `(tactic| with_reducible first
  | (refine' k_isiL ?k1 ?k2 ?_; (case k1 => walk_at "hp"); (case k2 => assumption))
  | (refine' use_days ?k1 ?k2 ?k3 ?k4 ?k5 ?k6 ?k7 ?k8 ?_; (case k1 => assumption); (case k2 => walk_at "hp"); (case k3 => walk_at "hp"); (case k4 => assumption); (case k5 => omega); (case k6 => omega); (case k7 => omega); (case k8 => omega); intro p' H' M')
  | (refine' use_is ?k1 ?k2 ?k3 ?k4 ?_; (case k1 => walk_at "hp"); (case k2 => walk_at "hp"); (case k3 => walk_at "eq"); (case k4 => walk_at "eq")))
theorem ok_stays {f : Addr} {fd : FuncData} (F : Fun K "_law_stays" "_law_stays" s__law_stays f fd) (T : Txt P K mg C CE fE CD CA CU CT CI) (c__law_is : Cal P w K mg base 2 "_law_is" (sp_is C)) (c__law_days : Cal P w K mg base 1 "_law_days" sp_days) :
    FnOk P w K mg base (L2.CX P w) (2 + 1) f fd ["_law_actual", "_law_starts_here", "_law_runs_here"] (sp_stays C) := by
  refine okT F sc__law_stays (fun vs H Q E h => ?_) (fun cdv A outer s H vs Q E hr tk h => ?_)
  · obtain ⟨L, s, R, S, xs, rs, rfl, _⟩ := h
    rfl
  obtain ⟨L, s, R, S, xs, rs, rfl, ⟨hL, hxs⟩, hs, hS, ⟨hR, hrs⟩, hbd, hmap, hle, k⟩ := h
  have f1 := T.cl; have f2 := T.nC; have f3 := T.nG; have f4 := T.ca; have f5 := T.cn; have f6 := T.ct; have f7 := T.cm; have f8 := T.i1; have f9 := T.i2
  have g1 := T.i4
  refine ⟨_, (pss_cons (ps_if (PW.pt (pw_or (pt_not (pt_val (pe_callB call_isi (by rfl) T.b_isinstance (by decide +kernel) (pa_cons (pv 0) (pa_cons (g_ty (n := "list") T.b_list (by decide +kernel)) pa_nil))))) (pw_or1 (pt_cmpR op_ne (pe_callB b_len (by rfl) T.b_len (by decide +kernel) (pa_cons (pv 0) pa_nil)) (pe_callB b_len (by rfl) T.b_len (by decide +kernel) (pa_cons (pv 2) pa_nil)) (nomark _))))) (pss_one (ps_ret pe_bl)) pss_nil)
      (pss_cons (ps_for (passes_of rfl) rfl (pi_range1 (by rfl) T.b_range (pa_cons (pe_callB b_len (by rfl) T.b_len (by decide +kernel) (pa_cons (pv 2) pa_nil)) pa_nil)) (pg_name (i := 3) sc__law_stays.nd rfl (Or.inl rfl)) (pss_one (ps_if (pt_not (pt_val (c_call c__law_is tk hr (by decide) (pa_cons (pe_ix ix_list (pv 0) (pv 3) (fun _ _ => rfl)) (pa_cons (c_call c__law_days tk hr (by decide) (pa_cons (pv 1) (pa_cons (pe_ix ix_list (pv 2) (pv 3) (fun _ _ => rfl)) pa_nil))) pa_nil))))) (pss_one (ps_ret pe_bl)) pss_nil)))
      (pss_one (ps_ret pe_bl)))), ?_⟩
  simp only [cxK, st__law_stays]
  have M : Mem H [] H [] [] := mem_start (by simp []) (by simp) (by simp)
  have hlen : xs.length = rs.length := by
    have := congrArg List.length hmap
    simpa using this
  have hSl := hS.len
  have hrl : ((rs.map fun r => V.ref r.1).length : Int) ≤ 2 := by simp; omega
  have hxl : ((xs.map fun r => V.ref r.1).length : Int) = ((rs.map fun r => V.ref r.1).length : Int) := by simp [hlen]
  walk_at "go"
  refine rng_loop ⟨fun i σ' H' => ∃ (v : Option V), σ' = [some (.ref L), some (.ref s), some (.ref R), v] ∧ Mem H [] H' [] [], ⟨_, rfl, M⟩, ?_, ?_⟩
  · rintro i σ' H' hi ⟨v, rfl, M'⟩
    have hir : i < rs.length := by simp at hi; omega
    obtain ⟨⟨xa, xc, xg⟩, hx⟩ : ∃ x, xs[i]? = some x := ⟨_, List.getElem?_eq_getElem (by omega)⟩
    obtain ⟨⟨ra, rp, rq⟩, hr⟩ : ∃ r, rs[i]? = some r := ⟨_, List.getElem?_eq_getElem hir⟩
    obtain ⟨dx, hxi⟩ := hxs _ (List.mem_of_getElem? hx)
    have hri := hrs _ (List.mem_of_getElem? hr)
    obtain ⟨⟨b1, b2⟩, b3, b4⟩ := hbd _ (List.mem_of_getElem? hr)
    have hxr : (xc, xg) = daysOf S (rp, rq) := by
      have h1 : (xs.map (·.2))[i]? = some (xc, xg) := by rw [List.getElem?_map, hx]; rfl
      have h2 : (rs.map (fun r => daysOf S r.2))[i]? = some (daysOf S (rp, rq)) := by rw [List.getElem?_map, hr]; rfl
      rw [hmap, h2] at h1
      exact (Option.some.inj h1).symm
    obtain ⟨e1, e2⟩ := Prod.mk.inj hxr
    dsimp only at b1 b2 b3 b4 hri hxi
    have l1 : atI (xs.map fun x => V.ref x.1) (0 + (i : Int)) = some (.ref xa) := by rw [Int.zero_add]; exact atI_nat (by rw [List.getElem?_map, hx]; rfl)
    have l2 : atI (rs.map fun r => V.ref r.1) (0 + (i : Int)) = some (.ref ra) := by rw [Int.zero_add]; exact atI_nat (by rw [List.getElem?_map, hr]; rfl)
    walk_at "go"
    exact ⟨_, rfl, Mem.none (by assumption)⟩
  · rintro σ' H' ⟨v, rfl, M'⟩
    walk_at "go"
    exact k _ (Same.of_keep M')
end
end K17

set_option Elab.async false
set_option linter.all false
set_option maxRecDepth 100000
set_option maxHeartbeats 8000000
namespace K17
open PySem L2 MyL
local macro_rules | `(tactic| walk_at "mem") => `(tactic| first | exact List.mem_cons_self | (refine List.mem_cons_of_mem _ ?_; walk_at "mem"))
local macro_rules | `(tactic| walk_at "hp") => `(tactic| first | assumption | (refine' Mem.getL ?k1 ?k2; (case k1 => assumption); (case k2 => walk_at "mem")) | (refine' Mem.getF ?k1 ?k2; (case k1 => assumption); (case k2 => walk_at "mem")) | (refine' Mem.atB ?k1 ?k2; (case k1 => assumption); (case k2 => assumption)))
local macro_rules | `(tactic| walk_at "cond") => `(tactic| first | omega | assumption | exact mulR (by omega) (by omega) | exact mulL (by omega) (by omega) | exact divW (by omega) (by omega) | decide)
local macro_rules | `(tactic| walk_at "look") => `(tactic| first | with_unfolding_all rfl | exact atI_map (by omega) (by omega))
local macro_rules | `(tactic| walk_at "go1") => `(tactic| with_reducible first
  | refine k_seq ?_ | refine k_gName ?_ | refine k_asg ?_ | refine k_ret ?_ | refine k_ifS ?_ | refine k_drop ?_ | refine k_next ?_ | refine k_break ?_ | refine k_cont ?_ | refine k_retN ?_
  | (refine' k_var ?k1 ?_; (case k1 => with_unfolding_all rfl)) | refine k_c ?_ | refine k_op ?_ | refine k_un ?_ | refine k_test ?_ | refine k_B ?_ | refine k_bl ?_ | refine k_and ?_ | refine k_or ?_ | refine k_not ?_
  | refine k_andV ?_ | refine k_orV ?_ | refine k_notV ?_ | refine k_ifE ?_ | refine k_nil ?_ | refine k_cons ?_ | refine k_cb ?_ | refine k_callS ?_ | refine k_lst0 ?_ | refine k_tup0 ?_ | refine k_fld0 ?_ | refine k_sub0 ?_ | refine k_make0 ?_ | refine k_prop0 ?_ | refine k_sta0 ?_ | refine k_sta ?_ | refine k_bm ?_ | refine k_bm0 ?_ | refine k_chain ?_ | refine k_makeK0 ?_ | refine k_swapK ?_ | refine k_meth0 ?_ | refine k_ownN0 ?_ | refine k_ownO0 ?_ | refine k_sfld0 ?_ | refine k_jnil ?_ | refine k_jcons ?_ | refine k_fmt0 ?_ | refine k_sl0 ?_ | refine k_nopart ?_ | refine k_part ?_ | refine k_forR1 ?_ | refine k_forR2 ?_ | refine k_forL ?_ | refine k_forT ?_ | refine k_lcR1 ?_ | refine k_lcR2 ?_ | refine k_lcL ?_ | refine k_err0 ?_ | refine k_xf0 ?_ | refine k_errQ1 ?_ | refine k_errQ0 ?_ | refine k_errQ2 ?_ | refine k_errQ3 ?_
  | refine k_I0 ?_ | (refine k_I ?k1 ?_; (case k1 => walk_at "cond")) | refine k_U ?_ | refine k_eqI ?_ | refine k_neI ?_ | refine k_eqB ?_ | refine k_neB ?_ | refine k_eqS ?_ | refine k_neS ?_
  | refine k_int1 ?_ | refine k_abs1 ?_ | refine k_min2 ?_ | refine k_max2 ?_
  | (refine' k_lenM ?k1 ?_; (case k1 => walk_at "hp")) | (refine' k_lenL ?k1 ?_; (case k1 => walk_at "hp")) | (refine' k_lenT ?k1 ?_; (case k1 => walk_at "hp"))
  | (refine' k_lenS ?k1 ?_; (case k1 => assumption)) | (refine' k_ixS ?k1 ?k2 ?_; (case k1 => assumption); (case k2 => walk_at "look"))
  | (refine' k_ixL ?k1 ?k2 ?_; (case k1 => walk_at "hp"); (case k2 => walk_at "look")) | (refine' k_ixT ?k1 ?k2 ?_; (case k1 => walk_at "hp"); (case k2 => walk_at "look"))
  | (refine' k_ix4 ?k1 ?k2 ?k3 ?_; (case k1 => walk_at "hp"); (case k2 => omega); (case k3 => omega); intro n' hn')
  | (refine' k_ix3 ?k1 ?k2 ?k3 ?_; (case k1 => walk_at "hp"); (case k2 => omega); (case k3 => omega); intro n' hn')
  | (refine' k_ix2 ?k1 ?k2 ?k3 ?_; (case k1 => walk_at "hp"); (case k2 => omega); (case k3 => omega); intro n' hn')
  | (refine' k_fld ?k1 ?k2 ?k3 ?k4 ?_; (case k1 => walk_at "hp"); (case k2 => assumption); (case k3 => assumption); (case k4 => walk_at "fld"))
  | (refine' k_lst ?k1 ?k2 ?_; (case k1 => assumption); (case k2 => exact sz (by simp)); intro p' H' M')
  | (refine' k_tup ?k1 ?k2 ?_; (case k1 => assumption); (case k2 => exact sz (by simp)); intro p' H' M')
  | (refine' k_setF0 ?k1 ?k2 ?k3 ?_; (case k1 => assumption); (case k2 => simp); (case k3 => with_unfolding_all rfl); intro H' M'; try simp only [Int.reduceToNat, List.set_cons_succ, List.set_cons_zero] at M')
  | (refine' k_setL0 ?k1 ?k2 ?_; (case k1 => assumption); (case k2 => with_unfolding_all rfl); intro H' M'; try simp only [Int.reduceToNat, List.set_cons_succ, List.set_cons_zero] at M')
  | (refine' k_setL1 ?k1 ?k2 ?_; (case k1 => assumption); (case k2 => with_unfolding_all rfl); intro H' M'; try simp only [Int.reduceToNat, List.set_cons_succ, List.set_cons_zero] at M')
  | (refine' k_setL2 ?k1 ?k2 ?_; (case k1 => assumption); (case k2 => with_unfolding_all rfl); intro H' M'; try simp only [Int.reduceToNat, List.set_cons_succ, List.set_cons_zero] at M')
  | refine iteT ?_ | refine iteF ?_ | refine k_iteNE ?_ | refine k_iteNS ?_ | refine k_iteNT ?_ | refine k_iteNF ?_
  | (refine k_iteD ?_ ?_ <;> intro hc <;> first | (exfalso; omega) | skip)
  | (refine k_iteN ?_ ?_ <;> intro hc <;> first | (exfalso; omega) | skip)
  | (refine' k_ownN ?k1 ?_; (case k1 => walk_at "hp")) | (refine' k_ownO ?k1 ?k2 ?_; (case k1 => walk_at "hp"); (case k2 => walk_at "hp")) | (refine' k_ownEq ?k1 ?k2 ?_; (case k1 => walk_at "hp"); (case k2 => walk_at "hp"))
  | (refine' k_ownIn ?k1 ?_; (case k1 => walk_at "hp")) | (refine' k_ownU ?k1 ?_; (case k1 => walk_at "hp")) | (refine' k_ownStr ?k1 ?_; (case k1 => walk_at "hp"))
  | (refine' k_prop ?k1 ?_; (case k1 => walk_at "hp")) | (refine' k_ownNe ?k1 ?k2 ?_; (case k1 => walk_at "hp"); (case k2 => walk_at "hp")) | (refine' k_eqP ?k1 ?k2 ?_; (case k1 => walk_at "hp"); (case k2 => walk_at "hp")) | (refine' k_neP ?k1 ?k2 ?_; (case k1 => walk_at "hp"); (case k2 => walk_at "hp"))
  | (refine' k_isiO ?k1 ?k2 ?k3 ?k4 ?k5 ?k6 ?_; (case k1 => walk_at "hp"); (case k2 => assumption); (case k3 => assumption); (case k4 => assumption); (case k5 => assumption); (case k6 => assumption))
  | (refine' k_isiI ?k1 ?_; (case k1 => assumption))
  | (refine' k_jst ?k1 ?_; (case k1 => walk_at "size")) | (refine' k_fmtI ?k1 ?_; (case k1 => exact log2_64 (by omega) (by omega))) | (refine' k_strI ?k1 ?_; (case k1 => exact log2_64 (by omega) (by omega)))
  | (refine k_addS ?k1 ?_; (case k1 => walk_at "size")) | refine k_st ?_ | refine k_parti ?_
  | (refine' k_cat ?k1 ?k2 ?k3 ?k4 ?_; (case k1 => assumption); (case k2 => walk_at "hp"); (case k3 => walk_at "hp"); (case k4 => walk_at "size"); intro p' H' M')
  | (refine' k_slL ?k1 ?k2 ?_; (case k1 => assumption); (case k2 => first | assumption | exact SqL.of (by walk_at "hp")); intro p' H' M')
  | (refine k_rng1 ?k1 ?k2 ?_; (case k1 => omega); (case k2 => omega)) | (refine k_rng2 ?k1 ?k2 ?k3 ?k4 ?_; (case k1 => omega); (case k2 => omega); (case k3 => omega); (case k4 => omega))
  | (refine' k_lstAt ?k1 ?_; (case k1 => first | assumption | exact SqL.of (by walk_at "hp"))) | (refine' k_tupAt ?k1 ?_; (case k1 => first | assumption | exact SqT.of (by walk_at "hp")))
  | (refine' k_isXs ?k1 ?k2 ?_; (case k1 => assumption); (case k2 => walk_at "hp")) | (refine' k_isXo ?k1 ?k2 ?k3 ?_; (case k1 => assumption); (case k2 => walk_at "hp"); (case k3 => assumption)) | (refine' k_isXt ?k1 ?k2 ?k3 ?_; (case k1 => assumption); (case k2 => walk_at "hp"); (case k3 => assumption))
  | (refine' k_isX3 ?k1 ?k2 ?k3 ?k4 ?_; (case k1 => assumption); (case k2 => walk_at "hp"); (case k3 => walk_at "hp"); (case k4 => assumption)) | (refine' k_isX2 ?k1 ?k2 ?k3 ?k4 ?_; (case k1 => assumption); (case k2 => walk_at "hp"); (case k3 => walk_at "hp"); (case k4 => assumption))
  | (refine' k_tyL ?k1 ?_; (case k1 => walk_at "hp"))
  | (refine' k_appL0 ?k1 ?k2 ?_; (case k1 => assumption); (case k2 => walk_at "size"); intro H' M') | (refine' k_appL1 ?k1 ?k2 ?_; (case k1 => assumption); (case k2 => walk_at "size"); intro H' M') | (refine' k_appL2 ?k1 ?k2 ?_; (case k1 => assumption); (case k2 => walk_at "size"); intro H' M') | (refine' k_appL3 ?k1 ?k2 ?_; (case k1 => assumption); (case k2 => walk_at "size"); intro H' M')
  | (refine' k_revL0 ?k1 ?_; (case k1 => assumption); intro H' M') | (refine' k_revL1 ?k1 ?_; (case k1 => assumption); intro H' M')
  | (refine' k_isX0s ?k1 ?_; (case k1 => assumption)) | (refine' k_isX0o ?k1 ?k2 ?_; (case k1 => assumption); (case k2 => assumption)) | (refine' k_isX0t ?k1 ?k2 ?_; (case k1 => assumption); (case k2 => assumption)) | (refine' k_isX04 ?k1 ?k2 ?k3 ?_; (case k1 => assumption); (case k2 => walk_at "hp"); (case k3 => assumption))
  | (refine' k_isX4 ?k1 ?k2 ?k3 ?k4 ?_; (case k1 => assumption); (case k2 => walk_at "hp"); (case k3 => walk_at "hp"); (case k4 => assumption)) | (refine' k_ixT2 ?k1 ?k2 ?k3 ?_; (case k1 => walk_at "hp"); (case k2 => omega); (case k3 => omega); intro n' hn')
  | (refine k_iteNEq ?k1 ?_; (case k1 => (rw [Bool.eq_iff_iff]; first | (simp; done) | (simp; omega))))
  | (refine' k_xf ?k1 ?k2 ?_; (case k1 => walk_at "hp"); (case k2 => first | exact xd1 | exact xdH | exact xd2 (by decide +kernel)))
  | (refine' k_caught ?k1 ?_; (case k1 => assumption); intro a' ha')
  | walk_at "use")
local macro_rules | `(tactic| walk_at "go") => `(tactic| repeat' (walk_at "go1"))

local macro_rules | `(tactic| walk_at "fld") => `(tactic| first | exact stF_come _ _ | exact stF_go _ _)
local macro_rules | `(tactic| walk_at "eq") => `(tactic| first | rfl | assumption | omega)
local macro_rules | `(tactic| walk_at "size") => `(tactic| first | exact sz (by first | omega | (simp only [List.length_map, List.length_range, List.length_append, List.length_cons, List.length_nil, Int.reduceSub, Int.reduceToNat, Int.reduceNeg]; omega)) | exact small1000 (by first | omega | (simp only [List.length_map, List.length_range, List.length_append, List.length_cons, List.length_nil]; omega)) | (simp only [Str.length_append, Str.empty_append]; exact sz (by omega)))
section
variable {P : Program} {w : World} {K : PySem.W.Frag} {mg : Str → Option Value} {base : Heap} {C CE fE CD CA CU CT CI : Addr}
theorem PrL.same {H H' : Hp} {R : Addr} {rs : List (Addr × Int × Int)} (h : PrL H R rs) (s : Same H H') : PrL H' R rs := ⟨s _ _ h.1, fun r hr => s _ _ (h.2 r hr)⟩
theorem runs_bd {a b a2 b2 : Int} (r1 : Row a b) (r2 : Row a2 b2) : ∀ r ∈ runsTo a a2 b2 (b + 1), (0 ≤ r.1 ∧ r.1 ≤ 9) ∧ 0 ≤ r.2 ∧ r.2 ≤ 9 := by
  obtain ⟨h1, h2, h3⟩ := r1
  obtain ⟨h4, h5, h6⟩ := r2
  intro r hr
  unfold runsTo at hr
  rw [List.mem_append] at hr
  rcases hr with hr | hr
  · split at hr
    · simp at hr; subst hr; dsimp only; split <;> omega
    · cases hr
  · split at hr
    · simp at hr; subst hr; dsimp only; split <;> omega
    · cases hr
def sp_parted (C : Addr) : Sp := fun vs H Q _ => ∃ (x dx y dy s p q : Addr) (S : List Int) (a b a2 b2 : Int), vs = [.ref x, .ref y, .ref s, .ref p, .ref q] ∧ H x = some (.ins C dx (stF (dayAt S a) (dayAt S (b + 1) - 1))) ∧ H y = some (.ins C dy (stF (dayAt S a2) (dayAt S (b2 + 1) - 1))) ∧ H s = some (.lst (S.map V.int)) ∧ H p = some (.tup [.int a, .int b]) ∧ H q = some (.tup [.int a2, .int b2]) ∧ Starts S ∧ Row a b ∧ Row a2 b2 ∧ ∀ H', Same H H' → Q (.bl true) H'
local macro_rules | `(tactic| walk_at "use") => `(tactic| with_reducible first
  | (refine' k_methI ?k1 ?k2 ?_; (case k1 => walk_at "hp"); (case k2 => exact stF_no (by decide +kernel) (by decide +kernel))))
theorem ok_parted {f : Addr} {fd : FuncData} (F : Fun K "_law_parted" "_law_parted" s__law_parted f fd) (T : Txt P K mg C CE fE CD CA CU CT CI) (c__law_runs : Cal P w K mg base 1 "_law_runs" sp_runs) (c_Stay_parts_without : Met P w K mg base 3 C "parts_without" (sp_parts C)) (c__law_stays : Cal P w K mg base 3 "_law_stays" (sp_stays C)) :
    FnOk P w K mg base (L2.CX P w) (3 + 1) f fd ["_law_one", "_law_two", "_law_starts_here", "_law_mine", "_law_other"] (sp_parted C) := by
  refine okT F sc__law_parted (fun vs H Q E h => ?_) (fun cdv A outer s H vs Q E hr tk h => ?_)
  · obtain ⟨x, dx, y, dy, s, p, q, S, a, b, a2, b2, rfl, _⟩ := h
    rfl
  obtain ⟨x, dx, y, dy, s, p, q, S, a, b, a2, b2, rfl, h1, h2, h3, h4, h5, hS, r1, r2, k⟩ := h
  have f1 := T.cl; have f2 := T.nC; have f3 := T.nG; have f4 := T.ca; have f5 := T.cn; have f6 := T.ct; have f7 := T.cm; have f8 := T.i1; have f9 := T.i2
  refine ⟨_, (pss_cons (ps_set (i := 5) sc__law_parted.nd rfl (Or.inl rfl) (c_call c__law_runs tk hr (by decide) (pa_cons (pv 3) (pa_cons (pv 4) pa_nil))))
      (pss_cons (ps_set (i := 6) sc__law_parted.nd rfl (Or.inl rfl) (c_meth c_Stay_parts_without tk hr (by decide) (pv 0) (pa_cons (pv 1) pa_nil)))
      (pss_cons (ps_if (pt_not (pt_val (c_call c__law_stays tk hr (by decide) (pa_cons (pv 6) (pa_cons (pv 2) (pa_cons (pv 5) pa_nil)))))) (pss_one (ps_ret pe_bl)) pss_nil)
      (pss_cons (ps_expr (pe_bm0 PySem.F.plainAttrs_list PySem.F.slot_list_reverse PySem.F.type_list_reverse mt_reverse (pv 6)))
      (pss_cons (ps_expr (pe_bm PySem.F.plainAttrs_list PySem.F.slot_list_append PySem.F.type_list_append mt_append (pv 6) (pa_cons (pv 0) pa_nil)))
      (pss_one (ps_ret (c_call c__law_stays tk hr (by decide) (pa_cons (c_meth c_Stay_parts_without tk hr (by decide) (pv 0) (pa_cons (pv 1) pa_nil)) (pa_cons (pv 2) (pa_cons (pv 5) pa_nil))))))))))), ?_⟩
  simp only [cxK, st__law_parted]
  have M : Mem H [] H [] [] := mem_start (by simp []) (by simp) (by simp)
  have hpr := parts_runs hS r1 r2
  have hbd := runs_bd r1 r2
  have hxg := row_le hS r1
  have hyg := row_le hS r2
  walk_at "go"
  refine ⟨p, q, a, b, a2, b2, rfl, h4, h5, r1, r2, fun R rs H1 s1 n1 P1 m1 => ?_⟩
  have hx1 := s1 _ _ h1
  have hy1 := s1 _ _ h2
  have hs1 := s1 _ _ h3
  clear M
  have M : Mem H1 [] H1 [] [] := mem_start (by simp) (by simp) (by simp)
  walk_at "go"
  refine ⟨x, dx, y, dy, _, _, _, _, rfl, hx1, hy1, hxg, hyg, fun L xs H2 s2 n2 P2 m2 => ?_⟩
  have hx2 := s2 _ _ hx1
  have hy2 := s2 _ _ hy1
  have hs2 := s2 _ _ hs1
  have PR2 := P1.same s2
  have hmm : xs.map (·.2) = rs.map (fun r => daysOf S r.2) := by
    rw [m2, hpr, ← m1, List.map_map]; rfl
  have hbd' : ∀ r ∈ rs, (0 ≤ r.2.1 ∧ r.2.1 ≤ 9) ∧ 0 ≤ r.2.2 ∧ r.2.2 ≤ 9 := fun r hr => hbd r.2 (by rw [← m1]; exact List.mem_map_of_mem (f := (·.2)) hr)
  have hlr : rs.length ≤ 2 := by
    have := congrArg List.length m1
    rw [List.length_map] at this
    rw [this]; exact runs_le
  have hlx : xs.length ≤ 2 := by
    have := congrArg List.length hmm
    simp at this
    omega
  clear M
  have M : Mem H2 [] H2 [] [] := mem_start (by simp) (by simp) (by simp)
  walk_at "go"
  refine ⟨L, s, R, S, xs, rs, rfl, P2, hs2, hS, PR2, hbd', hmm, hlr, fun H3 s3 => ?_⟩
  have hx3 := s3 _ _ hx2
  have hy3 := s3 _ _ hy2
  have hs3 := s3 _ _ hs2
  have PR3 := PR2.same s3
  have hL3 := s3 _ _ P2.1
  clear M
  have hLx : L ≠ x := ne_of hL3 hx3 (by intro z; cases z)
  have hLy : L ≠ y := ne_of hL3 hy3 (by intro z; cases z)
  have M : Mem H3 [] H3 [] [] := mem_start (by simp) (by simp) (by simp)
  walk_at "go"
  refine ⟨L, _, rfl, rfl, hL3, ?_⟩
  have hup : ∀ b o, H3 b = some o → b ≠ L → ∀ o1 o2, upd (upd H3 L o1) L o2 b = some o := fun b o hb hne o1 o2 => by rw [upd_ne hne, upd_ne hne]; exact hb
  have hLs : s ≠ L := ne_of_none hs1 n2
  have hLR : R ≠ L := ne_of_none P1.1 n2
  have hup1 : ∀ b o, H3 b = some o → b ≠ L → ∀ o1, upd H3 L o1 b = some o := fun b o hb hne o1 => by rw [upd_ne hne]; exact hb
  walk_at "go"
  refine ⟨.inl ⟨rfl, _, SqL.of upd_same⟩, ?_⟩
  walk_at "go"
  refine ⟨L, _, _, rfl, rfl, upd_same, small1000 (by simp; omega), ?_⟩
  have hx5 := hup _ _ hx3 hLx.symm (.lst (xs.map fun x => V.ref x.1).reverse) (.lst ((xs.map fun x => V.ref x.1).reverse ++ [.ref x]))
  have hy5 := hup _ _ hy3 hLy.symm (.lst (xs.map fun x => V.ref x.1).reverse) (.lst ((xs.map fun x => V.ref x.1).reverse ++ [.ref x]))
  walk_at "go"
  refine ⟨x, dx, y, dy, _, _, _, _, rfl, hx5, hy5, hxg, hyg, fun L2 xs2 H6 s6 n6 P6 m6 => ?_⟩
  have hmm6 : xs2.map (·.2) = rs.map (fun r => daysOf S r.2) := by
    rw [m6, hpr, ← m1, List.map_map]; rfl
  have PR6 : PrL H6 R rs := ⟨s6 _ _ (hup _ _ PR3.1 hLR _ _), fun r hr => s6 _ _ (hup _ _ (PR3.2 r hr) (ne_of (PR3.2 r hr) hL3 (by intro z; cases z)) _ _)⟩
  walk_at "go"
  refine ⟨L2, s, R, S, xs2, rs, rfl, P6, s6 _ _ (hup _ _ hs3 hLs _ _), hS, PR6, hbd', hmm6, hlr, fun H7 s7 => k _ (fun b o hb => s7 _ _ (s6 _ _ (hup _ _ (s3 _ _ (s2 _ _ (s1 _ _ hb))) (ne_of_none (s1 _ _ hb) n2) _ _)))⟩
end
end K17

set_option Elab.async false
set_option linter.all false
set_option maxRecDepth 100000
set_option maxHeartbeats 8000000
namespace K17
open PySem L2 MyL
local macro_rules | `(tactic| walk_at "mem") => `(tactic| first | exact List.mem_cons_self | (refine List.mem_cons_of_mem _ ?_; walk_at "mem"))
local macro_rules | `(tactic| walk_at "hp") => `(tactic| first | assumption | (refine' Mem.getL ?k1 ?k2; (case k1 => assumption); (case k2 => walk_at "mem")) | (refine' Mem.getF ?k1 ?k2; (case k1 => assumption); (case k2 => walk_at "mem")) | (refine' Mem.atB ?k1 ?k2; (case k1 => assumption); (case k2 => assumption)))
local macro_rules | `(tactic| walk_at "cond") => `(tactic| first | omega | assumption | exact mulR (by omega) (by omega) | exact mulL (by omega) (by omega) | exact divW (by omega) (by omega) | decide)
local macro_rules | `(tactic| walk_at "look") => `(tactic| first | with_unfolding_all rfl | exact atI_map (by omega) (by omega))
local macro_rules | `(tactic| walk_at "go1") => `(tactic| with_reducible first
  | refine k_seq ?_ | refine k_gName ?_ | refine k_asg ?_ | refine k_ret ?_ | refine k_ifS ?_ | refine k_drop ?_ | refine k_next ?_ | refine k_break ?_ | refine k_cont ?_ | refine k_retN ?_
  | (refine' k_var ?k1 ?_; (case k1 => with_unfolding_all rfl)) | refine k_c ?_ | refine k_op ?_ | refine k_un ?_ | refine k_test ?_ | refine k_B ?_ | refine k_bl ?_ | refine k_and ?_ | refine k_or ?_ | refine k_not ?_
  | refine k_andV ?_ | refine k_orV ?_ | refine k_notV ?_ | refine k_ifE ?_ | refine k_nil ?_ | refine k_cons ?_ | refine k_cb ?_ | refine k_callS ?_ | refine k_lst0 ?_ | refine k_tup0 ?_ | refine k_fld0 ?_ | refine k_sub0 ?_ | refine k_make0 ?_ | refine k_prop0 ?_ | refine k_sta0 ?_ | refine k_sta ?_ | refine k_bm ?_ | refine k_bm0 ?_ | refine k_chain ?_ | refine k_makeK0 ?_ | refine k_swapK ?_ | refine k_meth0 ?_ | refine k_ownN0 ?_ | refine k_ownO0 ?_ | refine k_sfld0 ?_ | refine k_jnil ?_ | refine k_jcons ?_ | refine k_fmt0 ?_ | refine k_sl0 ?_ | refine k_nopart ?_ | refine k_part ?_ | refine k_forR1 ?_ | refine k_forR2 ?_ | refine k_forL ?_ | refine k_forT ?_ | refine k_lcR1 ?_ | refine k_lcR2 ?_ | refine k_lcL ?_ | refine k_err0 ?_ | refine k_xf0 ?_ | refine k_errQ1 ?_ | refine k_errQ0 ?_ | refine k_errQ2 ?_ | refine k_errQ3 ?_
  | refine k_I0 ?_ | (refine k_I ?k1 ?_; (case k1 => walk_at "cond")) | refine k_U ?_ | refine k_eqI ?_ | refine k_neI ?_ | refine k_eqB ?_ | refine k_neB ?_ | refine k_eqS ?_ | refine k_neS ?_
  | refine k_int1 ?_ | refine k_abs1 ?_ | refine k_min2 ?_ | refine k_max2 ?_
  | (refine' k_lenM ?k1 ?_; (case k1 => walk_at "hp")) | (refine' k_lenL ?k1 ?_; (case k1 => walk_at "hp")) | (refine' k_lenT ?k1 ?_; (case k1 => walk_at "hp"))
  | (refine' k_lenS ?k1 ?_; (case k1 => assumption)) | (refine' k_ixS ?k1 ?k2 ?_; (case k1 => assumption); (case k2 => walk_at "look"))
  | (refine' k_ixL ?k1 ?k2 ?_; (case k1 => walk_at "hp"); (case k2 => walk_at "look")) | (refine' k_ixT ?k1 ?k2 ?_; (case k1 => walk_at "hp"); (case k2 => walk_at "look"))
  | (refine' k_ix4 ?k1 ?k2 ?k3 ?_; (case k1 => walk_at "hp"); (case k2 => omega); (case k3 => omega); intro n' hn')
  | (refine' k_ix3 ?k1 ?k2 ?k3 ?_; (case k1 => walk_at "hp"); (case k2 => omega); (case k3 => omega); intro n' hn')
  | (refine' k_ix2 ?k1 ?k2 ?k3 ?_; (case k1 => walk_at "hp"); (case k2 => omega); (case k3 => omega); intro n' hn')
  | (refine' k_fld ?k1 ?k2 ?k3 ?k4 ?_; (case k1 => walk_at "hp"); (case k2 => assumption); (case k3 => assumption); (case k4 => walk_at "fld"))
  | (refine' k_lst ?k1 ?k2 ?_; (case k1 => assumption); (case k2 => exact sz (by simp)); intro p' H' M')
  | (refine' k_tup ?k1 ?k2 ?_; (case k1 => assumption); (case k2 => exact sz (by simp)); intro p' H' M')
  | (refine' k_setF0 ?k1 ?k2 ?k3 ?_; (case k1 => assumption); (case k2 => simp); (case k3 => with_unfolding_all rfl); intro H' M'; try simp only [Int.reduceToNat, List.set_cons_succ, List.set_cons_zero] at M')
  | (refine' k_setL0 ?k1 ?k2 ?_; (case k1 => assumption); (case k2 => with_unfolding_all rfl); intro H' M'; try simp only [Int.reduceToNat, List.set_cons_succ, List.set_cons_zero] at M')
  | (refine' k_setL1 ?k1 ?k2 ?_; (case k1 => assumption); (case k2 => with_unfolding_all rfl); intro H' M'; try simp only [Int.reduceToNat, List.set_cons_succ, List.set_cons_zero] at M')
  | (refine' k_setL2 ?k1 ?k2 ?_; (case k1 => assumption); (case k2 => with_unfolding_all rfl); intro H' M'; try simp only [Int.reduceToNat, List.set_cons_succ, List.set_cons_zero] at M')
  | refine iteT ?_ | refine iteF ?_ | refine k_iteNE ?_ | refine k_iteNS ?_ | refine k_iteNT ?_ | refine k_iteNF ?_
  | (refine k_iteD ?_ ?_ <;> intro hc <;> first | (exfalso; omega) | skip)
  | (refine k_iteN ?_ ?_ <;> intro hc <;> first | (exfalso; omega) | skip)
  | (refine' k_ownN ?k1 ?_; (case k1 => walk_at "hp")) | (refine' k_ownO ?k1 ?k2 ?_; (case k1 => walk_at "hp"); (case k2 => walk_at "hp")) | (refine' k_ownEq ?k1 ?k2 ?_; (case k1 => walk_at "hp"); (case k2 => walk_at "hp"))
  | (refine' k_ownIn ?k1 ?_; (case k1 => walk_at "hp")) | (refine' k_ownU ?k1 ?_; (case k1 => walk_at "hp")) | (refine' k_ownStr ?k1 ?_; (case k1 => walk_at "hp"))
  | (refine' k_prop ?k1 ?_; (case k1 => walk_at "hp")) | (refine' k_ownNe ?k1 ?k2 ?_; (case k1 => walk_at "hp"); (case k2 => walk_at "hp")) | (refine' k_eqP ?k1 ?k2 ?_; (case k1 => walk_at "hp"); (case k2 => walk_at "hp")) | (refine' k_neP ?k1 ?k2 ?_; (case k1 => walk_at "hp"); (case k2 => walk_at "hp"))
  | (refine' k_isiO ?k1 ?k2 ?k3 ?k4 ?k5 ?k6 ?_; (case k1 => walk_at "hp"); (case k2 => assumption); (case k3 => assumption); (case k4 => assumption); (case k5 => assumption); (case k6 => assumption))
  | (refine' k_isiI ?k1 ?_; (case k1 => assumption))
  | (refine' k_jst ?k1 ?_; (case k1 => walk_at "size")) | (refine' k_fmtI ?k1 ?_; (case k1 => exact log2_64 (by omega) (by omega))) | (refine' k_strI ?k1 ?_; (case k1 => exact log2_64 (by omega) (by omega)))
  | (refine k_addS ?k1 ?_; (case k1 => walk_at "size")) | refine k_st ?_ | refine k_parti ?_
  | (refine' k_cat ?k1 ?k2 ?k3 ?k4 ?_; (case k1 => assumption); (case k2 => walk_at "hp"); (case k3 => walk_at "hp"); (case k4 => walk_at "size"); intro p' H' M')
  | (refine' k_slL ?k1 ?k2 ?_; (case k1 => assumption); (case k2 => first | assumption | exact SqL.of (by walk_at "hp")); intro p' H' M')
  | (refine k_rng1 ?k1 ?k2 ?_; (case k1 => omega); (case k2 => omega)) | (refine k_rng2 ?k1 ?k2 ?k3 ?k4 ?_; (case k1 => omega); (case k2 => omega); (case k3 => omega); (case k4 => omega))
  | (refine' k_lstAt ?k1 ?_; (case k1 => first | assumption | exact SqL.of (by walk_at "hp"))) | (refine' k_tupAt ?k1 ?_; (case k1 => first | assumption | exact SqT.of (by walk_at "hp")))
  | (refine' k_isXs ?k1 ?k2 ?_; (case k1 => assumption); (case k2 => walk_at "hp")) | (refine' k_isXo ?k1 ?k2 ?k3 ?_; (case k1 => assumption); (case k2 => walk_at "hp"); (case k3 => assumption)) | (refine' k_isXt ?k1 ?k2 ?k3 ?_; (case k1 => assumption); (case k2 => walk_at "hp"); (case k3 => assumption))
  | (refine' k_isX3 ?k1 ?k2 ?k3 ?k4 ?_; (case k1 => assumption); (case k2 => walk_at "hp"); (case k3 => walk_at "hp"); (case k4 => assumption)) | (refine' k_isX2 ?k1 ?k2 ?k3 ?k4 ?_; (case k1 => assumption); (case k2 => walk_at "hp"); (case k3 => walk_at "hp"); (case k4 => assumption))
  | (refine' k_tyL ?k1 ?_; (case k1 => walk_at "hp"))
  | (refine' k_appL0 ?k1 ?k2 ?_; (case k1 => assumption); (case k2 => walk_at "size"); intro H' M') | (refine' k_appL1 ?k1 ?k2 ?_; (case k1 => assumption); (case k2 => walk_at "size"); intro H' M') | (refine' k_appL2 ?k1 ?k2 ?_; (case k1 => assumption); (case k2 => walk_at "size"); intro H' M') | (refine' k_appL3 ?k1 ?k2 ?_; (case k1 => assumption); (case k2 => walk_at "size"); intro H' M')
  | (refine' k_revL0 ?k1 ?_; (case k1 => assumption); intro H' M') | (refine' k_revL1 ?k1 ?_; (case k1 => assumption); intro H' M')
  | (refine' k_isX0s ?k1 ?_; (case k1 => assumption)) | (refine' k_isX0o ?k1 ?k2 ?_; (case k1 => assumption); (case k2 => assumption)) | (refine' k_isX0t ?k1 ?k2 ?_; (case k1 => assumption); (case k2 => assumption)) | (refine' k_isX04 ?k1 ?k2 ?k3 ?_; (case k1 => assumption); (case k2 => walk_at "hp"); (case k3 => assumption))
  | (refine' k_isX4 ?k1 ?k2 ?k3 ?k4 ?_; (case k1 => assumption); (case k2 => walk_at "hp"); (case k3 => walk_at "hp"); (case k4 => assumption)) | (refine' k_ixT2 ?k1 ?k2 ?k3 ?_; (case k1 => walk_at "hp"); (case k2 => omega); (case k3 => omega); intro n' hn')
  | (refine k_iteNEq ?k1 ?_; (case k1 => (rw [Bool.eq_iff_iff]; first | (simp; done) | (simp; omega))))
  | (refine' k_xf ?k1 ?k2 ?_; (case k1 => walk_at "hp"); (case k2 => first | exact xd1 | exact xdH | exact xd2 (by decide +kernel)))
  | (refine' k_caught ?k1 ?_; (case k1 => assumption); intro a' ha')
  | walk_at "use")
local macro_rules | `(tactic| walk_at "go") => `(tactic| repeat' (walk_at "go1"))

local macro_rules | `(tactic| walk_at "fld") => `(tactic| first | exact stF_come _ _ | exact stF_go _ _)
local macro_rules | `(tactic| walk_at "eq") => `(tactic| first | rfl | assumption | omega)
local macro_rules | `(tactic| walk_at "size") => `(tactic| first | exact sz (by first | omega | (simp only [List.length_map, List.length_range, List.length_append, List.length_cons, List.length_nil, Int.reduceSub, Int.reduceToNat, Int.reduceNeg]; omega)) | exact small1000 (by first | omega | (simp only [List.length_map, List.length_range, List.length_append, List.length_cons, List.length_nil]; omega)) | (simp only [Str.length_append, Str.empty_append]; exact sz (by omega)))
section
variable {P : Program} {w : World} {K : PySem.W.Frag} {mg : Str → Option Value} {base : Heap} {C CE fE CD CA CU CT CI : Addr}
theorem min_uniq {ns : List Int} {a b : Int} (h1 : a ∈ ns) (h2 : ∀ y, y ∈ ns → a ≤ y) (h3 : b ∈ ns) (h4 : ∀ y, y ∈ ns → b ≤ y) : a = b := Int.le_antisymm (h2 _ h3) (h4 _ h1)
theorem max_uniq {ns : List Int} {a b : Int} (h1 : a ∈ ns) (h2 : ∀ y, y ∈ ns → y ≤ a) (h3 : b ∈ ns) (h4 : ∀ y, y ∈ ns → y ≤ b) : a = b := Int.le_antisymm (h4 _ h1) (h2 _ h3)
theorem eqvAll_ints {ns : List Int} : PyData.eqvAll (ns.map PyData.int) (ns.map PyData.int) = true := by
  induction ns with
  | nil => rfl
  | cons n ns ih => simp [PyData.eqvAll, PyData.eqv, ih]
theorem k_listOfH {B H : Hp} {ms : List Addr} {f l : List (Addr × HO)} {Q : VK} {p : Addr} {xs : List V} (M : Mem B ms H f l) (h : H p = some (.lst xs)) (q : ∀ d H', Mem B ms H' f ((d, .lst xs) :: l) → Q (.ref d) H') : rListOf K [.ref p] H Q := k_listOf M (.inl (SqL.of h)) q
theorem k_tupleOfH {B H : Hp} {ms : List Addr} {f l : List (Addr × HO)} {Q : VK} {p : Addr} {xs : List V} (M : Mem B ms H f l) (h : H p = some (.lst xs)) (q : ∀ d H', Mem B ms H' f ((d, .tup xs) :: l) → Q (.ref d) H') : rTupleOf K [.ref p] H Q := k_tupleOf M (SqL.of h) q
theorem use_aroundL {B H : Hp} {ms : List Addr} {f l : List (Addr × HO)} {Q : VK} {E : XK} {a : Addr} {ns : List Int} (M : Mem B ms H f l) (hS : H a = some (.lst (ns.map V.int))) (h0 : 0 < ns.length)
    (k : ∀ (lo hi : Int) x dx H', lo ∈ ns → (∀ y, y ∈ ns → lo ≤ y) → hi ∈ ns → (∀ y, y ∈ ns → y ≤ hi) → Mem B ms H' f ((x, .ins C dx (stF lo hi)) :: l) → Q (.ref x) H') : sp_around K C CD [.ref a] H Q E := use_around M (.inl (SqL.of hS)) h0 k
theorem use_aroundT {B H : Hp} {ms : List Addr} {f l : List (Addr × HO)} {Q : VK} {E : XK} {a : Addr} {ns : List Int} (M : Mem B ms H f l) (hS : H a = some (.tup (ns.map V.int))) (h0 : 0 < ns.length)
    (k : ∀ (lo hi : Int) x dx H', lo ∈ ns → (∀ y, y ∈ ns → lo ≤ y) → hi ∈ ns → (∀ y, y ∈ ns → y ≤ hi) → Mem B ms H' f ((x, .ins C dx (stF lo hi)) :: l) → Q (.ref x) H') : sp_around K C CD [.ref a] H Q E := use_around M (.inr (SqT.of hS)) h0 k
theorem k_eqLs {H : Hp} {Q : VK} {p b : Addr} {ns : List Int} (h1 : H p = some (.lst (ns.map V.int))) (h2 : H b = some (.lst (ns.map V.int))) (q : Q (.bl true) H) : rEqD K (.ref p) (.ref b) H Q := by
  refine ⟨.list (ns.map PyData.int), .list (ns.map PyData.int), .lst (SqL.of h1) dp_ints, .lst (SqL.of h2) dp_ints, shaped_ints, shaped_ints, ?_⟩
  rw [show PyData.eqv (.list (ns.map PyData.int)) (.list (ns.map PyData.int)) = true from eqvAll_ints]; exact q
local macro_rules | `(tactic| walk_at "eq") => `(tactic| first | exact min_uniq (by assumption) (by assumption) (by assumption) (by assumption) | exact max_uniq (by assumption) (by assumption) (by assumption) (by assumption))
local macro_rules | `(tactic| walk_at "use") => `(tactic| with_reducible first
  | (refine' k_minQ ?k1 ?k2 ?_; (case k1 => assumption); (case k2 => omega); intro m' hm1 hm2)
  | (refine' k_maxQ ?k1 ?k2 ?_; (case k1 => assumption); (case k2 => omega); intro m' hm1 hm2)
  | (refine' k_tupleOfH ?k1 ?k2 ?_; (case k1 => assumption); (case k2 => walk_at "hp"); intro d' H' M')
  | (refine' k_listOfH ?k1 ?k2 ?_; (case k1 => assumption); (case k2 => walk_at "hp"); intro d' H' M')
  | (refine' use_aroundL ?k1 ?k2 ?k3 ?_; (case k1 => assumption); (case k2 => walk_at "hp"); (case k3 => omega); intro lo' hi' x' dx' H' b1' b2' b3' b4' M')
  | (refine' use_aroundT ?k1 ?k2 ?k3 ?_; (case k1 => assumption); (case k2 => walk_at "hp"); (case k3 => omega); intro lo' hi' x' dx' H' b1' b2' b3' b4' M')
  | (refine' use_is ?k1 ?k2 ?k3 ?k4 ?_; (case k1 => walk_at "hp"); (case k2 => walk_at "hp"); (case k3 => walk_at "eq"); (case k4 => walk_at "eq"))
  | (refine' k_eqLs ?k1 ?k2 ?_; (case k1 => walk_at "hp"); (case k2 => walk_at "hp")))
section
local macro_rules | `(tactic| walk_at "use") => `(tactic| with_reducible
  (refine' use_aroundE ?k1 ?_; (case k1 => first | assumption | (refine .inl (SqL.of ?_); walk_at "hp") | (refine .inr (SqT.of ?_); walk_at "hp"))))
def sp_none (K : PySem.W.Frag) : Sp := fun vs H Q _ => ∃ a : Addr, vs = [.ref a] ∧ (SqL K H a [] ∨ SqT K H a []) ∧ ∀ H', Same H H' → Q (.bl true) H'
theorem ok_no_days {f : Addr} {fd : FuncData} (F : Fun K "_law_no_days" "_law_no_days" s__law_no_days f fd) (T : Txt P K mg C CE fE CD CA CU CT CI) (c_Stay_around : Sta P w K mg base 3 C "around" (sp_around K C CD)) :
    FnOk P w K mg base (L2.CX P w) (3 + 1) f fd ["_law_days_here"] (sp_none K) := by
  refine okT F sc__law_no_days (fun vs H Q E h => ?_) (fun cdv A outer s H vs Q E hr tk h => ?_)
  · obtain ⟨a, rfl, _⟩ := h
    rfl
  obtain ⟨a, rfl, hS, k⟩ := h
  have f1 := T.cl; have f2 := T.nC; have f3 := T.nG; have f4 := T.ca; have f5 := T.cn; have f6 := T.ct; have f7 := T.cm; have f8 := T.i1; have f9 := T.i2
  have g1 := T.ekD; have g2 := T.exmD; have g3 := T.exmA; have g4 := T.kD1; have g5 := T.kD2; have g6 := T.kD3
  refine ⟨_, (pss_cons (ps_try_as (i := 1) rfl rfl sc__law_no_days.nd rfl rfl ⟨rfl, by decide, Or.inl T.g_NoDays⟩ tk
        (fun W1 pn1 xe1 tk1 own1 => (pss_one (ps_expr (c_sta c_Stay_around tk1 hr (by decide) (g_ref T.g_Stay) (pa_cons (pv 0) pa_nil)))))
        (fun a0 oe0 cls0 d0 pn0 hz hf => (pss_cons (ps_if (pt_val (pe_callB (call_isXT hz hf) (by rfl) T.b_isinstance (by decide +kernel) (pa_cons (pv 1) (pa_cons (pe_tup (pa_cons (g_ref T.g_UnknownError) (pa_cons (g_ref T.g_TextError) (pa_cons (g_ref T.g_ImpossibleError) (pa_cons (g_ref T.g_EmptyStay) pa_nil))))) pa_nil)))) (pss_one (ps_ret pe_bl)) pss_nil)
      (pss_one (ps_ret (pe_and (pe_callB (call_isX hz hf) (by rfl) T.b_isinstance (by decide +kernel) (pa_cons (pv 1) (pa_cons (g_ref T.g_ArchiveError) pa_nil))) (pe_one (pe_callB (call_isX hz hf) (by rfl) T.b_isinstance (by decide +kernel) (pa_cons (pv 1) (pa_cons (g_ty (n := "ValueError") T.b_ValueError (by decide +kernel)) pa_nil))))))))))
      (pss_one (ps_ret pe_bl))), ?_⟩
  simp only [cxK, st__law_no_days]
  have M : Mem H [] H [] [] := mem_start (by simp []) (by simp) (by simp)
  walk_at "go"
  all_goals exact k _ (Same.of_keep (by assumption))
def sp_caught : Sp := fun vs H Q _ => vs = [] ∧ ∀ H', Same H H' → Q (.bl true) H'
theorem ok_caught {f : Addr} {fd : FuncData} (F : Fun K "_law_caught" "_law_caught" s__law_caught f fd) (T : Txt P K mg C CE fE CD CA CU CT CI) (c_Stay_around : Sta P w K mg base 3 C "around" (sp_around K C CD)) :
    FnOk P w K mg base (L2.CX P w) (3 + 1) f fd [] sp_caught := by
  refine okT F sc__law_caught (fun vs H Q E h => ?_) (fun cdv A outer s H vs Q E hr tk h => ?_)
  · obtain ⟨rfl, _⟩ := h
    rfl
  obtain ⟨rfl, k⟩ := h
  have f1 := T.cl; have f2 := T.nC; have f3 := T.nG; have f4 := T.ca; have f5 := T.cn; have f6 := T.ct; have f7 := T.cm; have f8 := T.i1; have f9 := T.i2
  have g1 := T.ekD; have g2 := T.exmD; have g3 := T.exmA; have g4 := T.kD1; have g5 := T.kD2; have g6 := T.kD3
  refine ⟨_, (pss_cons (ps_try_as (i := 0) rfl rfl sc__law_caught.nd rfl rfl ⟨rfl, by decide, Or.inl T.g_ArchiveError⟩ tk
        (fun W1 pn1 xe1 tk1 own1 => (pss_one (ps_expr (c_sta c_Stay_around tk1 hr (by decide) (g_ref T.g_Stay) (pa_cons (pe_lst pa_nil) pa_nil)))))
        (fun a0 oe0 cls0 d0 pn0 hz hf => (pss_one (ps_ret (pe_callB (call_isX hz hf) (by rfl) T.b_isinstance (by decide +kernel) (pa_cons (pv 0) (pa_cons (g_ref T.g_NoDays) pa_nil)))))))
      (pss_one (ps_ret pe_bl))), ?_⟩
  simp only [cxK, st__law_caught]
  have M : Mem H [] H [] [] := mem_start (by simp []) (by simp) (by simp)
  walk_at "go"
  all_goals exact k _ (Same.of_keep (by assumption))
end
def sp_aroundL : Sp := fun vs H Q _ => ∃ (a : Addr) (ns : List Int) (t : Bool), vs = [.ref a, .bl t] ∧ H a = some (.lst (ns.map V.int)) ∧ 0 < ns.length ∧ ∀ H', Same H H' → Q (.bl true) H'
theorem ok_aroundL {f : Addr} {fd : FuncData} (F : Fun K "_law_around" "_law_around" s__law_around f fd) (T : Txt P K mg C CE fE CD CA CU CT CI) (c_Stay_around : Sta P w K mg base 3 C "around" (sp_around K C CD)) (c__law_is : Cal P w K mg base 2 "_law_is" (sp_is C)) :
    FnOk P w K mg base (L2.CX P w) (3 + 1) f fd ["_law_days_here", "_law_as_tuple"] sp_aroundL := by
  refine okT F sc__law_around (fun vs H Q E h => ?_) (fun cdv A outer s H vs Q E hr tk h => ?_)
  · obtain ⟨a, ns, t, rfl, _⟩ := h
    rfl
  obtain ⟨a, ns, t, rfl, h1, h0, k⟩ := h
  have f1 := T.cl; have f2 := T.nC; have f3 := T.nG; have f4 := T.ca; have f5 := T.cn; have f6 := T.ct; have f7 := T.cm; have f8 := T.i1; have f9 := T.i2
  refine ⟨_, (pss_cons (ps_set (i := 2) sc__law_around.nd rfl (Or.inl rfl) (pe_tup (pa_cons (pe_callB (b_minQ rfl) (by rfl) T.b_min (by decide +kernel) (pa_cons (pv 0) pa_nil)) (pa_cons (pe_callB (b_maxQ rfl) (by rfl) T.b_max (by decide +kernel) (pa_cons (pv 0) pa_nil)) pa_nil))))
      (pss_cons (ps_if (pt_val (pv 1)) (pss_one (ps_ret (c_call c__law_is tk hr (by decide) (pa_cons (c_sta c_Stay_around tk hr (by decide) (g_ref T.g_Stay) (pa_cons (pe_callTy b_tupleOf (by rfl) T.b_tuple (by decide +kernel) (pa_cons (pv 0) pa_nil)) pa_nil)) (pa_cons (pv 2) pa_nil))))) pss_nil)
      (pss_cons (ps_set (i := 3) sc__law_around.nd rfl (Or.inl rfl) (pe_callTy b_listOf (by rfl) T.b_list (by decide +kernel) (pa_cons (pv 0) pa_nil)))
      (pss_one (ps_ret (pe_and (c_call c__law_is tk hr (by decide) (pa_cons (c_sta c_Stay_around tk hr (by decide) (g_ref T.g_Stay) (pa_cons (pv 3) pa_nil)) (pa_cons (pv 2) pa_nil))) (pe_one (pe_cmpR (op_eqD hr.units) (pv 3) (pv 0) (nomark _))))))))), ?_⟩
  simp only [cxK, st__law_around]
  have M : Mem H [] H [] [] := mem_start (by simp []) (by simp) (by simp)
  have hS : SqL K H a (ns.map V.int) ∨ SqT K H a (ns.map V.int) := .inl (SqL.of h1)
  cases t
  walk_at "go"
  all_goals first | exact k _ (Same.of_keep (by assumption))
  walk_at "go"
  all_goals exact k _ (Same.of_keep (by assumption))
end
end K17

set_option Elab.async false
set_option linter.all false
set_option maxRecDepth 100000
set_option maxHeartbeats 8000000
namespace K17
open PySem L2 MyL
local macro_rules | `(tactic| walk_at "mem") => `(tactic| first | exact List.mem_cons_self | (refine List.mem_cons_of_mem _ ?_; walk_at "mem"))
local macro_rules | `(tactic| walk_at "hp") => `(tactic| first | assumption | (refine' Mem.getL ?k1 ?k2; (case k1 => assumption); (case k2 => walk_at "mem")) | (refine' Mem.getF ?k1 ?k2; (case k1 => assumption); (case k2 => walk_at "mem")) | (refine' Mem.atB ?k1 ?k2; (case k1 => assumption); (case k2 => assumption)))
local macro_rules | `(tactic| walk_at "cond") => `(tactic| first | omega | assumption | exact mulR (by omega) (by omega) | exact mulL (by omega) (by omega) | exact divW (by omega) (by omega) | decide)
local macro_rules | `(tactic| walk_at "look") => `(tactic| first | with_unfolding_all rfl | exact atI_map (by omega) (by omega))
local macro_rules | `(tactic| walk_at "go1") => `(tactic| with_reducible first
  | refine k_seq ?_ | refine k_gName ?_ | refine k_asg ?_ | refine k_ret ?_ | refine k_ifS ?_ | refine k_drop ?_ | refine k_next ?_ | refine k_break ?_ | refine k_cont ?_ | refine k_retN ?_
  | (refine' k_var ?k1 ?_; (case k1 => with_unfolding_all rfl)) | refine k_c ?_ | refine k_op ?_ | refine k_un ?_ | refine k_test ?_ | refine k_B ?_ | refine k_bl ?_ | refine k_and ?_ | refine k_or ?_ | refine k_not ?_
  | refine k_andV ?_ | refine k_orV ?_ | refine k_notV ?_ | refine k_ifE ?_ | refine k_nil ?_ | refine k_cons ?_ | refine k_cb ?_ | refine k_callS ?_ | refine k_lst0 ?_ | refine k_tup0 ?_ | refine k_fld0 ?_ | refine k_sub0 ?_ | refine k_make0 ?_ | refine k_prop0 ?_ | refine k_sta0 ?_ | refine k_sta ?_ | refine k_bm ?_ | refine k_bm0 ?_ | refine k_chain ?_ | refine k_makeK0 ?_ | refine k_swapK ?_ | refine k_meth0 ?_ | refine k_ownN0 ?_ | refine k_ownO0 ?_ | refine k_sfld0 ?_ | refine k_jnil ?_ | refine k_jcons ?_ | refine k_fmt0 ?_ | refine k_sl0 ?_ | refine k_nopart ?_ | refine k_part ?_ | refine k_forR1 ?_ | refine k_forR2 ?_ | refine k_forL ?_ | refine k_forT ?_ | refine k_lcR1 ?_ | refine k_lcR2 ?_ | refine k_lcL ?_ | refine k_err0 ?_ | refine k_xf0 ?_ | refine k_errQ1 ?_ | refine k_errQ0 ?_ | refine k_errQ2 ?_ | refine k_errQ3 ?_
  | refine k_I0 ?_ | (refine k_I ?k1 ?_; (case k1 => walk_at "cond")) | refine k_U ?_ | refine k_eqI ?_ | refine k_neI ?_ | refine k_eqB ?_ | refine k_neB ?_ | refine k_eqS ?_ | refine k_neS ?_
  | refine k_int1 ?_ | refine k_abs1 ?_ | refine k_min2 ?_ | refine k_max2 ?_
  | (refine' k_lenM ?k1 ?_; (case k1 => walk_at "hp")) | (refine' k_lenL ?k1 ?_; (case k1 => walk_at "hp")) | (refine' k_lenT ?k1 ?_; (case k1 => walk_at "hp"))
  | (refine' k_lenS ?k1 ?_; (case k1 => assumption)) | (refine' k_ixS ?k1 ?k2 ?_; (case k1 => assumption); (case k2 => walk_at "look"))
  | (refine' k_ixL ?k1 ?k2 ?_; (case k1 => walk_at "hp"); (case k2 => walk_at "look")) | (refine' k_ixT ?k1 ?k2 ?_; (case k1 => walk_at "hp"); (case k2 => walk_at "look"))
  | (refine' k_ix4 ?k1 ?k2 ?k3 ?_; (case k1 => walk_at "hp"); (case k2 => omega); (case k3 => omega); intro n' hn')
  | (refine' k_ix3 ?k1 ?k2 ?k3 ?_; (case k1 => walk_at "hp"); (case k2 => omega); (case k3 => omega); intro n' hn')
  | (refine' k_ix2 ?k1 ?k2 ?k3 ?_; (case k1 => walk_at "hp"); (case k2 => omega); (case k3 => omega); intro n' hn')
  | (refine' k_fld ?k1 ?k2 ?k3 ?k4 ?_; (case k1 => walk_at "hp"); (case k2 => assumption); (case k3 => assumption); (case k4 => walk_at "fld"))
  | (refine' k_lst ?k1 ?k2 ?_; (case k1 => assumption); (case k2 => exact sz (by simp)); intro p' H' M')
  | (refine' k_tup ?k1 ?k2 ?_; (case k1 => assumption); (case k2 => exact sz (by simp)); intro p' H' M')
  | (refine' k_setF0 ?k1 ?k2 ?k3 ?_; (case k1 => assumption); (case k2 => simp); (case k3 => with_unfolding_all rfl); intro H' M'; try simp only [Int.reduceToNat, List.set_cons_succ, List.set_cons_zero] at M')
  | (refine' k_setL0 ?k1 ?k2 ?_; (case k1 => assumption); (case k2 => with_unfolding_all rfl); intro H' M'; try simp only [Int.reduceToNat, List.set_cons_succ, List.set_cons_zero] at M')
  | (refine' k_setL1 ?k1 ?k2 ?_; (case k1 => assumption); (case k2 => with_unfolding_all rfl); intro H' M'; try simp only [Int.reduceToNat, List.set_cons_succ, List.set_cons_zero] at M')
  | (refine' k_setL2 ?k1 ?k2 ?_; (case k1 => assumption); (case k2 => with_unfolding_all rfl); intro H' M'; try simp only [Int.reduceToNat, List.set_cons_succ, List.set_cons_zero] at M')
  | refine iteT ?_ | refine iteF ?_ | refine k_iteNE ?_ | refine k_iteNS ?_ | refine k_iteNT ?_ | refine k_iteNF ?_
  | (refine k_iteD ?_ ?_ <;> intro hc <;> first | (exfalso; omega) | skip)
  | (refine k_iteN ?_ ?_ <;> intro hc <;> first | (exfalso; omega) | skip)
  | (refine' k_ownN ?k1 ?_; (case k1 => walk_at "hp")) | (refine' k_ownO ?k1 ?k2 ?_; (case k1 => walk_at "hp"); (case k2 => walk_at "hp")) | (refine' k_ownEq ?k1 ?k2 ?_; (case k1 => walk_at "hp"); (case k2 => walk_at "hp"))
  | (refine' k_ownIn ?k1 ?_; (case k1 => walk_at "hp")) | (refine' k_ownU ?k1 ?_; (case k1 => walk_at "hp")) | (refine' k_ownStr ?k1 ?_; (case k1 => walk_at "hp"))
  | (refine' k_prop ?k1 ?_; (case k1 => walk_at "hp")) | (refine' k_ownNe ?k1 ?k2 ?_; (case k1 => walk_at "hp"); (case k2 => walk_at "hp")) | (refine' k_eqP ?k1 ?k2 ?_; (case k1 => walk_at "hp"); (case k2 => walk_at "hp")) | (refine' k_neP ?k1 ?k2 ?_; (case k1 => walk_at "hp"); (case k2 => walk_at "hp"))
  | (refine' k_isiO ?k1 ?k2 ?k3 ?k4 ?k5 ?k6 ?_; (case k1 => walk_at "hp"); (case k2 => assumption); (case k3 => assumption); (case k4 => assumption); (case k5 => assumption); (case k6 => assumption))
  | (refine' k_isiI ?k1 ?_; (case k1 => assumption))
  | (refine' k_jst ?k1 ?_; (case k1 => walk_at "size")) | (refine' k_fmtI ?k1 ?_; (case k1 => exact log2_64 (by omega) (by omega))) | (refine' k_strI ?k1 ?_; (case k1 => exact log2_64 (by omega) (by omega)))
  | (refine k_addS ?k1 ?_; (case k1 => walk_at "size")) | refine k_st ?_ | refine k_parti ?_
  | (refine' k_cat ?k1 ?k2 ?k3 ?k4 ?_; (case k1 => assumption); (case k2 => walk_at "hp"); (case k3 => walk_at "hp"); (case k4 => walk_at "size"); intro p' H' M')
  | (refine' k_slL ?k1 ?k2 ?_; (case k1 => assumption); (case k2 => first | assumption | exact SqL.of (by walk_at "hp")); intro p' H' M')
  | (refine k_rng1 ?k1 ?k2 ?_; (case k1 => omega); (case k2 => omega)) | (refine k_rng2 ?k1 ?k2 ?k3 ?k4 ?_; (case k1 => omega); (case k2 => omega); (case k3 => omega); (case k4 => omega))
  | (refine' k_lstAt ?k1 ?_; (case k1 => first | assumption | exact SqL.of (by walk_at "hp"))) | (refine' k_tupAt ?k1 ?_; (case k1 => first | assumption | exact SqT.of (by walk_at "hp")))
  | (refine' k_isXs ?k1 ?k2 ?_; (case k1 => assumption); (case k2 => walk_at "hp")) | (refine' k_isXo ?k1 ?k2 ?k3 ?_; (case k1 => assumption); (case k2 => walk_at "hp"); (case k3 => assumption)) | (refine' k_isXt ?k1 ?k2 ?k3 ?_; (case k1 => assumption); (case k2 => walk_at "hp"); (case k3 => assumption))
  | (refine' k_isX3 ?k1 ?k2 ?k3 ?k4 ?_; (case k1 => assumption); (case k2 => walk_at "hp"); (case k3 => walk_at "hp"); (case k4 => assumption)) | (refine' k_isX2 ?k1 ?k2 ?k3 ?k4 ?_; (case k1 => assumption); (case k2 => walk_at "hp"); (case k3 => walk_at "hp"); (case k4 => assumption))
  | (refine' k_tyL ?k1 ?_; (case k1 => walk_at "hp"))
  | (refine' k_appL0 ?k1 ?k2 ?_; (case k1 => assumption); (case k2 => walk_at "size"); intro H' M') | (refine' k_appL1 ?k1 ?k2 ?_; (case k1 => assumption); (case k2 => walk_at "size"); intro H' M') | (refine' k_appL2 ?k1 ?k2 ?_; (case k1 => assumption); (case k2 => walk_at "size"); intro H' M') | (refine' k_appL3 ?k1 ?k2 ?_; (case k1 => assumption); (case k2 => walk_at "size"); intro H' M')
  | (refine' k_revL0 ?k1 ?_; (case k1 => assumption); intro H' M') | (refine' k_revL1 ?k1 ?_; (case k1 => assumption); intro H' M')
  | (refine' k_isX0s ?k1 ?_; (case k1 => assumption)) | (refine' k_isX0o ?k1 ?k2 ?_; (case k1 => assumption); (case k2 => assumption)) | (refine' k_isX0t ?k1 ?k2 ?_; (case k1 => assumption); (case k2 => assumption)) | (refine' k_isX04 ?k1 ?k2 ?k3 ?_; (case k1 => assumption); (case k2 => walk_at "hp"); (case k3 => assumption))
  | (refine' k_isX4 ?k1 ?k2 ?k3 ?k4 ?_; (case k1 => assumption); (case k2 => walk_at "hp"); (case k3 => walk_at "hp"); (case k4 => assumption)) | (refine' k_ixT2 ?k1 ?k2 ?k3 ?_; (case k1 => walk_at "hp"); (case k2 => omega); (case k3 => omega); intro n' hn')
  | (refine k_iteNEq ?k1 ?_; (case k1 => (rw [Bool.eq_iff_iff]; first | (simp; done) | (simp; omega))))
  | (refine' k_xf ?k1 ?k2 ?_; (case k1 => walk_at "hp"); (case k2 => first | exact xd1 | exact xdH | exact xd2 (by decide +kernel)))
  | (refine' k_caught ?k1 ?_; (case k1 => assumption); intro a' ha')
  | walk_at "use")
local macro_rules | `(tactic| walk_at "go") => `(tactic| repeat' (walk_at "go1"))

local macro_rules | `(tactic| walk_at "fld") => `(tactic| first | exact stF_come _ _ | exact stF_go _ _)
local macro_rules | `(tactic| walk_at "eq") => `(tactic| first | rfl | assumption | omega)
local macro_rules | `(tactic| walk_at "size") => `(tactic| first | exact sz (by first | omega | (simp only [List.length_map, List.length_range, List.length_append, List.length_cons, List.length_nil, Int.reduceSub, Int.reduceToNat, Int.reduceNeg]; omega)) | exact small1000 (by first | omega | (simp only [List.length_map, List.length_range, List.length_append, List.length_cons, List.length_nil]; omega)) | (simp only [Str.length_append, Str.empty_append]; exact sz (by omega)))
section
variable {P : Program} {w : World} {K : PySem.W.Frag} {mg : Str → Option Value} {base : Heap} {C CE fE CD CA CU CT CI : Addr}
def sp_listed : Sp := fun vs H Q _ => ∃ (bx sc s : Addr) (ns S : List Int) (pos big st : Int), vs = [.ref bx, .ref s] ∧ H bx = some (boxO sc pos big st) ∧ H sc = some (.lst (ns.map V.int)) ∧ H s = some (.lst (S.map V.int)) ∧ S.length = 11 ∧ [bx, sc, s].Nodup ∧ 0 ≤ pos ∧ 0 ≤ big ∧
  ∀ (p : Addr) (ds : List Int) (pos' big' st' : Int) H', 0 < ds.length → 0 ≤ pos' → 0 ≤ big' → Keep [bx] H H' → H' bx = some (boxO sc pos' big' st') → H p = none → H' p = some (.lst (ds.map V.int)) → Q (.ref p) H'
local macro_rules | `(tactic| walk_at "use") => `(tactic| with_reducible first
  | (refine' use_take ?k1 ?k2 ?k3 ?k4 ?k5 ?k6 ?_; (case k1 => assumption); (case k2 => simp); (case k3 => omega); (case k4 => omega); (case k5 => omega); (case k6 => omega); intro d' pos' big' st' H' a1' a2' a3' a4' M'))
theorem ok_listed {f : Addr} {fd : FuncData} (F : Fun K "_law_listed" "_law_listed" s__law_listed f fd) (T : Txt P K mg C CE fE CD CA CU CT CI) (c__law_take : Cal P w K mg base 1 "_law_take" sp_take) :
    FnOk P w K mg base (L2.CX P w) (1 + 1) f fd ["_law_box", "_law_starts_here"] sp_listed := by
  refine okT F sc__law_listed (fun vs H Q E h => ?_) (fun cdv A outer s H vs Q E hr tk h => ?_)
  · obtain ⟨bx, sc, s, ns, S, pos, big, st, rfl, _⟩ := h
    rfl
  obtain ⟨bx, sc, s, ns, S, pos, big, st, rfl, h1, h2, h3, hl, nd, hpos, hbig, k⟩ := h
  have f1 := T.cl; have f2 := T.nC; have f3 := T.nG; have f4 := T.ca; have f5 := T.cn; have f6 := T.ct; have f7 := T.cm; have f8 := T.i1; have f9 := T.i2
  refine ⟨_, (pss_cons (ps_set (i := 2) sc__law_listed.nd rfl (Or.inl rfl) (pe_lst pa_nil))
      (pss_cons (ps_for (passes_of rfl) rfl (pi_range1 (by rfl) T.b_range (pa_cons (pe_op op_add pe_int (c_call c__law_take tk hr (by decide) (pa_cons (pv 0) (pa_cons pe_int pa_nil)))) pa_nil)) (pg_name (i := 3) sc__law_listed.nd rfl (Or.inl rfl)) (pss_cons (ps_set (i := 4) sc__law_listed.nd rfl (Or.inl rfl) (c_call c__law_take tk hr (by decide) (pa_cons (pv 0) (pa_cons pe_int pa_nil))))
      (pss_cons (ps_set (i := 5) sc__law_listed.nd rfl (Or.inl rfl) (pe_ix ix_list (pe_lst (pa_cons (pe_ix ix_list (pv 1) (pv 4) (fun _ _ => rfl)) (pa_cons (pe_op op_sub (pe_ix ix_list (pv 1) (pe_op op_add (pv 4) pe_int) (fun _ _ => rfl)) pe_int) pa_nil))) (c_call c__law_take tk hr (by decide) (pa_cons (pv 0) (pa_cons pe_int pa_nil))) (fun _ _ => rfl)))
      (pss_cons (ps_set (i := 6) sc__law_listed.nd rfl (Or.inl rfl) (c_call c__law_take tk hr (by decide) (pa_cons (pv 0) (pa_cons pe_int pa_nil))))
      (pss_cons (ps_if (pt_cmpR op_eq (pv 6) pe_int (nomark _)) (pss_one (ps_set (i := 5) sc__law_listed.nd rfl (Or.inl rfl) (pe_op op_sub (pv 5) (pe_powC (n := 100000000000000000))))) pss_nil)
      (pss_cons (ps_if (pt_cmpR op_eq (pv 6) pe_int (nomark _)) (pss_one (ps_set (i := 5) sc__law_listed.nd rfl (Or.inl rfl) (pe_op op_add (pv 5) (pe_powC (n := 100000000000000000))))) pss_nil)
      (pss_one (ps_expr (pe_bm PySem.F.plainAttrs_list PySem.F.slot_list_append PySem.F.type_list_append mt_append (pv 2) (pa_cons (pv 5) pa_nil))))))))))
      (pss_one (ps_ret (pv 2))))), ?_⟩
  simp only [cxK, st__law_listed]
  have M : Mem H [bx] H [(bx, boxO sc pos big st), (sc, .lst (ns.map V.int)), (s, .lst (S.map V.int))] [] := mem_start (by simp [h1, h2, h3]) (by simpa using nd) (by simp)
  walk_at "go"
  rename_i p0 H0 M0 dn pos0 big0 st0 Hn an1 an2 an3 an4 Mn
  refine rng_loop ⟨fun i σ' H' => ∃ (ds : List Int) (v1 v2 v3 v4 : Option V) (pos big st : Int), σ' = [some (.ref bx), some (.ref s), some (.ref p0), v1, v2, v3, v4] ∧ ds.length = i ∧ 0 ≤ pos ∧ 0 ≤ big ∧ Mem H [bx] H' [(bx, boxO sc pos big st), (sc, .lst (ns.map V.int)), (s, .lst (S.map V.int))] [(p0, .lst (ds.map V.int))], ?_, ?_, ?_⟩
  · exact ⟨[], _, _, _, _, _, _, _, rfl, rfl, an3, an4, Mn⟩
  · rintro i σ' H' hi ⟨ds, v1, v2, v3, v4, pos, big, st, rfl, hd, hp0, hb0, M'⟩
    have hi9 : i < 9 := by omega
    walk_at "go"
    all_goals
      rename_i M3
      refine ⟨ds ++ [_], _, _, _, _, _, _, _, rfl, by simp [hd], ?_, ?_, by rw [List.map_append]; exact M3.drop⟩ <;> assumption
  · rintro σ' H' ⟨ds, v1, v2, v3, v4, pos, big, st, rfl, hd, hp0, hb0, M'⟩
    walk_at "go"
    exact k p0 ds pos big st H' (by omega) hp0 hb0 (Mem.keeps M') (M'.getF List.mem_cons_self) (M'.new _ List.mem_cons_self) (M'.getL List.mem_cons_self)
end
end K17

set_option Elab.async false
set_option linter.all false
set_option maxRecDepth 100000
set_option maxHeartbeats 8000000
namespace K17
open PySem L2 MyL
local macro_rules | `(tactic| walk_at "mem") => `(tactic| first | exact List.mem_cons_self | (refine List.mem_cons_of_mem _ ?_; walk_at "mem"))
local macro_rules | `(tactic| walk_at "hp") => `(tactic| first | assumption | (refine' Mem.getL ?k1 ?k2; (case k1 => assumption); (case k2 => walk_at "mem")) | (refine' Mem.getF ?k1 ?k2; (case k1 => assumption); (case k2 => walk_at "mem")) | (refine' Mem.atB ?k1 ?k2; (case k1 => assumption); (case k2 => assumption)))
local macro_rules | `(tactic| walk_at "cond") => `(tactic| first | omega | assumption | exact mulR (by omega) (by omega) | exact mulL (by omega) (by omega) | exact divW (by omega) (by omega) | decide)
local macro_rules | `(tactic| walk_at "look") => `(tactic| first | with_unfolding_all rfl | exact atI_map (by omega) (by omega))
local macro_rules | `(tactic| walk_at "go1") => `(tactic| with_reducible first
  | refine k_seq ?_ | refine k_gName ?_ | refine k_asg ?_ | refine k_ret ?_ | refine k_ifS ?_ | refine k_drop ?_ | refine k_next ?_ | refine k_break ?_ | refine k_cont ?_ | refine k_retN ?_
  | (refine' k_var ?k1 ?_; (case k1 => with_unfolding_all rfl)) | refine k_c ?_ | refine k_op ?_ | refine k_un ?_ | refine k_test ?_ | refine k_B ?_ | refine k_bl ?_ | refine k_and ?_ | refine k_or ?_ | refine k_not ?_
  | refine k_andV ?_ | refine k_orV ?_ | refine k_notV ?_ | refine k_ifE ?_ | refine k_nil ?_ | refine k_cons ?_ | refine k_cb ?_ | refine k_callS ?_ | refine k_lst0 ?_ | refine k_tup0 ?_ | refine k_fld0 ?_ | refine k_sub0 ?_ | refine k_make0 ?_ | refine k_prop0 ?_ | refine k_sta0 ?_ | refine k_sta ?_ | refine k_bm ?_ | refine k_bm0 ?_ | refine k_chain ?_ | refine k_makeK0 ?_ | refine k_swapK ?_ | refine k_meth0 ?_ | refine k_ownN0 ?_ | refine k_ownO0 ?_ | refine k_sfld0 ?_ | refine k_jnil ?_ | refine k_jcons ?_ | refine k_fmt0 ?_ | refine k_sl0 ?_ | refine k_nopart ?_ | refine k_part ?_ | refine k_forR1 ?_ | refine k_forR2 ?_ | refine k_forL ?_ | refine k_forT ?_ | refine k_lcR1 ?_ | refine k_lcR2 ?_ | refine k_lcL ?_ | refine k_err0 ?_ | refine k_xf0 ?_ | refine k_errQ1 ?_ | refine k_errQ0 ?_ | refine k_errQ2 ?_ | refine k_errQ3 ?_
  | refine k_I0 ?_ | (refine k_I ?k1 ?_; (case k1 => walk_at "cond")) | refine k_U ?_ | refine k_eqI ?_ | refine k_neI ?_ | refine k_eqB ?_ | refine k_neB ?_ | refine k_eqS ?_ | refine k_neS ?_
  | refine k_int1 ?_ | refine k_abs1 ?_ | refine k_min2 ?_ | refine k_max2 ?_
  | (refine' k_lenM ?k1 ?_; (case k1 => walk_at "hp")) | (refine' k_lenL ?k1 ?_; (case k1 => walk_at "hp")) | (refine' k_lenT ?k1 ?_; (case k1 => walk_at "hp"))
  | (refine' k_lenS ?k1 ?_; (case k1 => assumption)) | (refine' k_ixS ?k1 ?k2 ?_; (case k1 => assumption); (case k2 => walk_at "look"))
  | (refine' k_ixL ?k1 ?k2 ?_; (case k1 => walk_at "hp"); (case k2 => walk_at "look")) | (refine' k_ixT ?k1 ?k2 ?_; (case k1 => walk_at "hp"); (case k2 => walk_at "look"))
  | (refine' k_ix4 ?k1 ?k2 ?k3 ?_; (case k1 => walk_at "hp"); (case k2 => omega); (case k3 => omega); intro n' hn')
  | (refine' k_ix3 ?k1 ?k2 ?k3 ?_; (case k1 => walk_at "hp"); (case k2 => omega); (case k3 => omega); intro n' hn')
  | (refine' k_ix2 ?k1 ?k2 ?k3 ?_; (case k1 => walk_at "hp"); (case k2 => omega); (case k3 => omega); intro n' hn')
  | (refine' k_fld ?k1 ?k2 ?k3 ?k4 ?_; (case k1 => walk_at "hp"); (case k2 => assumption); (case k3 => assumption); (case k4 => walk_at "fld"))
  | (refine' k_lst ?k1 ?k2 ?_; (case k1 => assumption); (case k2 => exact sz (by simp)); intro p' H' M')
  | (refine' k_tup ?k1 ?k2 ?_; (case k1 => assumption); (case k2 => exact sz (by simp)); intro p' H' M')
  | (refine' k_setF0 ?k1 ?k2 ?k3 ?_; (case k1 => assumption); (case k2 => simp); (case k3 => with_unfolding_all rfl); intro H' M'; try simp only [Int.reduceToNat, List.set_cons_succ, List.set_cons_zero] at M')
  | (refine' k_setL0 ?k1 ?k2 ?_; (case k1 => assumption); (case k2 => with_unfolding_all rfl); intro H' M'; try simp only [Int.reduceToNat, List.set_cons_succ, List.set_cons_zero] at M')
  | (refine' k_setL1 ?k1 ?k2 ?_; (case k1 => assumption); (case k2 => with_unfolding_all rfl); intro H' M'; try simp only [Int.reduceToNat, List.set_cons_succ, List.set_cons_zero] at M')
  | (refine' k_setL2 ?k1 ?k2 ?_; (case k1 => assumption); (case k2 => with_unfolding_all rfl); intro H' M'; try simp only [Int.reduceToNat, List.set_cons_succ, List.set_cons_zero] at M')
  | refine iteT ?_ | refine iteF ?_ | refine k_iteNE ?_ | refine k_iteNS ?_ | refine k_iteNT ?_ | refine k_iteNF ?_
  | (refine k_iteD ?_ ?_ <;> intro hc <;> first | (exfalso; omega) | skip)
  | (refine k_iteN ?_ ?_ <;> intro hc <;> first | (exfalso; omega) | skip)
  | (refine' k_ownN ?k1 ?_; (case k1 => walk_at "hp")) | (refine' k_ownO ?k1 ?k2 ?_; (case k1 => walk_at "hp"); (case k2 => walk_at "hp")) | (refine' k_ownEq ?k1 ?k2 ?_; (case k1 => walk_at "hp"); (case k2 => walk_at "hp"))
  | (refine' k_ownIn ?k1 ?_; (case k1 => walk_at "hp")) | (refine' k_ownU ?k1 ?_; (case k1 => walk_at "hp")) | (refine' k_ownStr ?k1 ?_; (case k1 => walk_at "hp"))
  | (refine' k_prop ?k1 ?_; (case k1 => walk_at "hp")) | (refine' k_ownNe ?k1 ?k2 ?_; (case k1 => walk_at "hp"); (case k2 => walk_at "hp")) | (refine' k_eqP ?k1 ?k2 ?_; (case k1 => walk_at "hp"); (case k2 => walk_at "hp")) | (refine' k_neP ?k1 ?k2 ?_; (case k1 => walk_at "hp"); (case k2 => walk_at "hp"))
  | (refine' k_isiO ?k1 ?k2 ?k3 ?k4 ?k5 ?k6 ?_; (case k1 => walk_at "hp"); (case k2 => assumption); (case k3 => assumption); (case k4 => assumption); (case k5 => assumption); (case k6 => assumption))
  | (refine' k_isiI ?k1 ?_; (case k1 => assumption))
  | (refine' k_jst ?k1 ?_; (case k1 => walk_at "size")) | (refine' k_fmtI ?k1 ?_; (case k1 => exact log2_64 (by omega) (by omega))) | (refine' k_strI ?k1 ?_; (case k1 => exact log2_64 (by omega) (by omega)))
  | (refine k_addS ?k1 ?_; (case k1 => walk_at "size")) | refine k_st ?_ | refine k_parti ?_
  | (refine' k_cat ?k1 ?k2 ?k3 ?k4 ?_; (case k1 => assumption); (case k2 => walk_at "hp"); (case k3 => walk_at "hp"); (case k4 => walk_at "size"); intro p' H' M')
  | (refine' k_slL ?k1 ?k2 ?_; (case k1 => assumption); (case k2 => first | assumption | exact SqL.of (by walk_at "hp")); intro p' H' M')
  | (refine k_rng1 ?k1 ?k2 ?_; (case k1 => omega); (case k2 => omega)) | (refine k_rng2 ?k1 ?k2 ?k3 ?k4 ?_; (case k1 => omega); (case k2 => omega); (case k3 => omega); (case k4 => omega))
  | (refine' k_lstAt ?k1 ?_; (case k1 => first | assumption | exact SqL.of (by walk_at "hp"))) | (refine' k_tupAt ?k1 ?_; (case k1 => first | assumption | exact SqT.of (by walk_at "hp")))
  | (refine' k_isXs ?k1 ?k2 ?_; (case k1 => assumption); (case k2 => walk_at "hp")) | (refine' k_isXo ?k1 ?k2 ?k3 ?_; (case k1 => assumption); (case k2 => walk_at "hp"); (case k3 => assumption)) | (refine' k_isXt ?k1 ?k2 ?k3 ?_; (case k1 => assumption); (case k2 => walk_at "hp"); (case k3 => assumption))
  | (refine' k_isX3 ?k1 ?k2 ?k3 ?k4 ?_; (case k1 => assumption); (case k2 => walk_at "hp"); (case k3 => walk_at "hp"); (case k4 => assumption)) | (refine' k_isX2 ?k1 ?k2 ?k3 ?k4 ?_; (case k1 => assumption); (case k2 => walk_at "hp"); (case k3 => walk_at "hp"); (case k4 => assumption))
  | (refine' k_tyL ?k1 ?_; (case k1 => walk_at "hp"))
  | (refine' k_appL0 ?k1 ?k2 ?_; (case k1 => assumption); (case k2 => walk_at "size"); intro H' M') | (refine' k_appL1 ?k1 ?k2 ?_; (case k1 => assumption); (case k2 => walk_at "size"); intro H' M') | (refine' k_appL2 ?k1 ?k2 ?_; (case k1 => assumption); (case k2 => walk_at "size"); intro H' M') | (refine' k_appL3 ?k1 ?k2 ?_; (case k1 => assumption); (case k2 => walk_at "size"); intro H' M')
  | (refine' k_revL0 ?k1 ?_; (case k1 => assumption); intro H' M') | (refine' k_revL1 ?k1 ?_; (case k1 => assumption); intro H' M')
  | (refine' k_isX0s ?k1 ?_; (case k1 => assumption)) | (refine' k_isX0o ?k1 ?k2 ?_; (case k1 => assumption); (case k2 => assumption)) | (refine' k_isX0t ?k1 ?k2 ?_; (case k1 => assumption); (case k2 => assumption)) | (refine' k_isX04 ?k1 ?k2 ?k3 ?_; (case k1 => assumption); (case k2 => walk_at "hp"); (case k3 => assumption))
  | (refine' k_isX4 ?k1 ?k2 ?k3 ?k4 ?_; (case k1 => assumption); (case k2 => walk_at "hp"); (case k3 => walk_at "hp"); (case k4 => assumption)) | (refine' k_ixT2 ?k1 ?k2 ?k3 ?_; (case k1 => walk_at "hp"); (case k2 => omega); (case k3 => omega); intro n' hn')
  | (refine k_iteNEq ?k1 ?_; (case k1 => (rw [Bool.eq_iff_iff]; first | (simp; done) | (simp; omega))))
  | (refine' k_xf ?k1 ?k2 ?_; (case k1 => walk_at "hp"); (case k2 => first | exact xd1 | exact xdH | exact xd2 (by decide +kernel)))
  | (refine' k_caught ?k1 ?_; (case k1 => assumption); intro a' ha')
  | walk_at "use")
local macro_rules | `(tactic| walk_at "go") => `(tactic| repeat' (walk_at "go1"))

local macro_rules | `(tactic| walk_at "fld") => `(tactic| first | exact stF_come _ _ | exact stF_go _ _)
local macro_rules | `(tactic| walk_at "eq") => `(tactic| first | rfl | assumption | omega)
local macro_rules | `(tactic| walk_at "size") => `(tactic| first | exact sz (by first | omega | (simp only [List.length_map, List.length_range, List.length_append, List.length_cons, List.length_nil, Int.reduceSub, Int.reduceToNat, Int.reduceNeg]; omega)) | exact small1000 (by first | omega | (simp only [List.length_map, List.length_range, List.length_append, List.length_cons, List.length_nil]; omega)) | (simp only [Str.length_append, Str.empty_append]; exact sz (by omega)))
section
variable {P : Program} {w : World} {K : PySem.W.Frag} {mg : Str → Option Value} {base : Heap} {C CE fE CD CA CU CT CI : Addr}
theorem use_makeD {B H : Hp} {ms : List Addr} {f l : List (Addr × HO)} {Q : VK} {E : XK} {S : List Int} {a b : Int} (M : Mem B ms H f l) (hS : Starts S) (a0 : 0 ≤ a) (ab : a ≤ b) (b9 : b ≤ 9) (k : ∀ x dx H', Mem B ms H' f ((x, .ins C dx (stF (dayAt S a) (dayAt S (b + 1) - 1))) :: l) → Q (.ref x) H') :
    newO C (sp_init C CE) [.int (dayAt S a), .int (dayAt S (b + 1) - 1)] H Q E := use_make M (row_le hS ⟨a0, ab, b9⟩) k
theorem use_placed {B H : Hp} {ms : List Addr} {f l : List (Addr × HO)} {Q : VK} {E : XK} {x dx y dy p q : Addr} {S : List Int} {a b a2 b2 : Int} (M : Mem B ms H f l) (h1 : H x = some (.ins C dx (stF (dayAt S a) (dayAt S (b + 1) - 1)))) (h2 : H y = some (.ins C dy (stF (dayAt S a2) (dayAt S (b2 + 1) - 1)))) (h3 : H p = some (.tup [.int a, .int b])) (h4 : H q = some (.tup [.int a2, .int b2])) (hS : Starts S) (r1 : Row a b) (r2 : Row a2 b2)
    (k : ∀ H', Mem B ms H' f l → Q (.bl true) H') : sp_placed C [.ref x, .ref y, .ref p, .ref q] H Q E := ⟨x, dx, y, dy, p, q, _, _, _, _, a, b, a2, b2, rfl, h1, h2, h3, h4, goes_of hS r1 r2, fun H' s => k H' (M.same s)⟩
theorem use_parted {B H : Hp} {ms : List Addr} {f l : List (Addr × HO)} {Q : VK} {E : XK} {x dx y dy s p q : Addr} {S : List Int} {a b a2 b2 : Int} (M : Mem B ms H f l) (h1 : H x = some (.ins C dx (stF (dayAt S a) (dayAt S (b + 1) - 1)))) (h2 : H y = some (.ins C dy (stF (dayAt S a2) (dayAt S (b2 + 1) - 1)))) (h0 : H s = some (.lst (S.map V.int))) (h3 : H p = some (.tup [.int a, .int b])) (h4 : H q = some (.tup [.int a2, .int b2])) (hS : Starts S) (r1 : Row a b) (r2 : Row a2 b2)
    (k : ∀ H', Mem B ms H' f l → Q (.bl true) H') : sp_parted C [.ref x, .ref y, .ref s, .ref p, .ref q] H Q E := ⟨x, dx, y, dy, s, p, q, S, a, b, a2, b2, rfl, h1, h2, h0, h3, h4, hS, r1, r2, fun H' s => k H' (M.same s)⟩
theorem use_aroundLL {B H : Hp} {ms : List Addr} {f l : List (Addr × HO)} {Q : VK} {E : XK} {a : Addr} {ns : List Int} {t : Bool} (M : Mem B ms H f l) (h : H a = some (.lst (ns.map V.int))) (h0 : 0 < ns.length) (k : ∀ H', Mem B ms H' f l → Q (.bl true) H') : sp_aroundL [.ref a, .bl t] H Q E := ⟨a, ns, t, rfl, h, h0, fun H' s => k H' (M.same s)⟩
theorem use_around4 {B H : Hp} {ms : List Addr} {f l : List (Addr × HO)} {Q : VK} {E : XK} {a : Addr} {i1 i2 i3 i4 : Int} {t : Bool} (M : Mem B ms H f l) (h : H a = some (.lst [.int i1, .int i2, .int i3, .int i4])) (k : ∀ H', Mem B ms H' f l → Q (.bl true) H') : sp_aroundL [.ref a, .bl t] H Q E := use_aroundLL (ns := [i1, i2, i3, i4]) M h (by simp) k
theorem use_noneL {B H : Hp} {ms : List Addr} {f l : List (Addr × HO)} {Q : VK} {E : XK} {a : Addr} (M : Mem B ms H f l) (h : H a = some (.lst [])) (k : ∀ H', Mem B ms H' f l → Q (.bl true) H') : sp_none K [.ref a] H Q E := ⟨a, rfl, .inl (SqL.of h), fun H' s => k H' (M.same s)⟩
theorem use_noneT {B H : Hp} {ms : List Addr} {f l : List (Addr × HO)} {Q : VK} {E : XK} {a : Addr} (M : Mem B ms H f l) (h : H a = some (.tup [])) (k : ∀ H', Mem B ms H' f l → Q (.bl true) H') : sp_none K [.ref a] H Q E := ⟨a, rfl, .inr (SqT.of h), fun H' s => k H' (M.same s)⟩
theorem parts_self {c g : Int} (h : c ≤ g) : partsOf c g c g = [] := by
  unfold partsOf
  rw [if_neg (not_not_intro (show RMeets c g c g from ⟨h, h⟩)), if_neg (by omega), if_neg (by omega)]; rfl
theorem use_partsS {B H : Hp} {ms : List Addr} {f l : List (Addr × HO)} {Q : VK} {E : XK} {x dx y dy : Addr} {S : List Int} {a b : Int} (M : Mem B ms H f l) (h1 : H x = some (.ins C dx (stF (dayAt S a) (dayAt S (b + 1) - 1)))) (h2 : H y = some (.ins C dy (stF (dayAt S a) (dayAt S (b + 1) - 1)))) (hS : Starts S) (r1 : Row a b)
    (k : ∀ L H', Mem B ms H' f ((L, .lst []) :: l) → Q (.ref L) H') : sp_parts C [.ref x, .ref y] H Q E := by
  refine ⟨x, dx, y, dy, _, _, _, _, rfl, h1, h2, row_le hS r1, row_le hS r1, fun L xs H' s n P m => ?_⟩
  rw [parts_self (row_le hS r1)] at m
  have e : xs = [] := List.map_eq_nil_iff.mp m
  subst e
  exact k L H' (M.sameNew s n P.1)
theorem k_ne00 {H : Hp} {Q : VK} {p b : Addr} (h1 : H p = some (.lst [])) (h2 : H b = some (.lst [])) (q : Q (.bl false) H) : rNeD K (.ref p) (.ref b) H Q := k_neNil (xs := []) (ds := []) (SqL.of h1) h2 .nil (by decide +kernel) q
theorem use_listed {B H : Hp} {ms : List Addr} {f l : List (Addr × HO)} {Q : VK} {E : XK} {bx sc s : Addr} {ns S : List Int} {pos big st : Int} (M : Mem B ms H ((bx, boxO sc pos big st) :: (sc, .lst (ns.map V.int)) :: f) l) (hs : (s, HO.lst (S.map V.int)) ∈ l) (hl : S.length = 11) (hm : bx ∈ ms) (h0 : 0 ≤ pos) (h1 : 0 ≤ big)
    (k : ∀ (p : Addr) (ds : List Int) (pos' big' st' : Int) H', 0 < ds.length → 0 ≤ pos' → 0 ≤ big' → Mem B ms H' ((bx, boxO sc pos' big' st') :: (sc, .lst (ns.map V.int)) :: f) ((p, .lst (ds.map V.int)) :: l) → Q (.ref p) H') : sp_listed [.ref bx, .ref s] H Q E := by
  have nd := M.nd
  refine ⟨bx, sc, s, ns, S, pos, big, st, rfl, M.getF List.mem_cons_self, M.getF (by simp), M.getL hs, hl, ?_, h0, h1, fun p ds pos' big' st' H' a1 a3 a4 kp hb hn hp => k p ds pos' big' st' H' a1 a3 a4 (M.call1New hm kp hb hn hp)⟩
  rw [List.map_append, List.nodup_append] at nd
  obtain ⟨_, n2, n3⟩ := nd
  have hsm : s ∈ l.map (·.1) := List.mem_map_of_mem (f := (·.1)) hs
  have e1 := n3 s hsm bx (by simp)
  have e2 := n3 s hsm sc (by simp)
  simp at n2
  simp only [List.nodup_cons, List.mem_cons, List.not_mem_nil, or_false, not_or, not_false_eq_true, List.nodup_nil, and_true]
  exact ⟨⟨n2.1.1, fun z => e1 z.symm⟩, fun z => e2 z.symm⟩
theorem use_caught {B H : Hp} {ms : List Addr} {f l : List (Addr × HO)} {Q : VK} {E : XK} (M : Mem B ms H f l) (k : ∀ H', Mem B ms H' f l → Q (.bl true) H') : sp_caught [] H Q E := ⟨rfl, fun H' s => k H' (M.same s)⟩
local macro_rules | `(tactic| walk_at "use") => `(tactic| with_reducible first
  | (refine' use_make ?k1 ?k2 ?_; (case k1 => assumption); (case k2 => omega); intro x' dx' H' M')
  | (refine' use_draws ?k1 ?k2 ?_; (case k1 => assumption); (case k2 => assumption); intro bx' sc' cs' st' H' M')
  | (refine' use_take ?k1 ?k2 ?k3 ?k4 ?k5 ?k6 ?_; (case k1 => assumption); (case k2 => simp); (case k3 => omega); (case k4 => omega); (case k5 => omega); (case k6 => omega); intro d' pos' big' st' H' a1' a2' a3' a4' M')
  | (refine' use_starts ?k1 ?k2 ?k3 ?k4 ?_; (case k1 => assumption); (case k2 => simp); (case k3 => omega); (case k4 => omega); intro p' S' pos' big' st' H' a1' a3' a4' M')
  | (refine' use_row ?k1 ?k2 ?k3 ?k4 ?_; (case k1 => assumption); (case k2 => simp); (case k3 => omega); (case k4 => omega); rintro p' a' b' pos' big' st' H' ⟨r1', r2', r3'⟩ a3' a4' M')
  | (refine' use_days ?k1 ?k2 ?k3 ?k4 ?k5 ?k6 ?k7 ?k8 ?_; (case k1 => assumption); (case k2 => walk_at "hp"); (case k3 => walk_at "hp"); (case k4 => exact Starts.len (by assumption)); (case k5 => omega); (case k6 => omega); (case k7 => omega); (case k8 => omega); intro p' H' M')
  | (refine' use_makeD ?k1 ?k2 ?k3 ?k4 ?k5 ?_; (case k1 => assumption); (case k2 => assumption); (case k3 => omega); (case k4 => omega); (case k5 => omega); intro x' dx' H' M')
  | (refine' use_placed ?k1 ?k2 ?k3 ?k4 ?k5 ?k6 ?k7 ?k8 ?_; (case k1 => assumption); (case k2 => walk_at "hp"); (case k3 => walk_at "hp"); (case k4 => walk_at "hp"); (case k5 => walk_at "hp"); (case k6 => assumption); (case k7 => exact ⟨by omega, by omega, by omega⟩); (case k8 => exact ⟨by omega, by omega, by omega⟩); intro H' M')
  | (refine' use_parted ?k1 ?k2 ?k3 ?k4 ?k5 ?k6 ?k7 ?k8 ?k9 ?_; (case k1 => assumption); (case k2 => walk_at "hp"); (case k3 => walk_at "hp"); (case k4 => walk_at "hp"); (case k5 => walk_at "hp"); (case k6 => walk_at "hp"); (case k7 => assumption); (case k8 => exact ⟨by omega, by omega, by omega⟩); (case k9 => exact ⟨by omega, by omega, by omega⟩); intro H' M')
  | (refine' use_is ?k1 ?k2 ?k3 ?k4 ?_; (case k1 => walk_at "hp"); (case k2 => walk_at "hp"); (case k3 => walk_at "eq"); (case k4 => walk_at "eq"))
  | (refine' use_aroundLL ?k1 ?k2 ?k3 ?_; (case k1 => assumption); (case k2 => walk_at "hp"); (case k3 => first | assumption | (simp; done) | omega); intro H' M')
  | (refine' use_around4 ?k1 ?k2 ?_; (case k1 => assumption); (case k2 => walk_at "hp"); intro H' M')
  | (refine' use_noneL ?k1 ?k2 ?_; (case k1 => assumption); (case k2 => walk_at "hp"); intro H' M')
  | (refine' use_noneT ?k1 ?k2 ?_; (case k1 => assumption); (case k2 => walk_at "hp"); intro H' M')
  | (refine' k_methI ?k1 ?k2 ?_; (case k1 => walk_at "hp"); (case k2 => exact stF_no (by decide +kernel) (by decide +kernel)))
  | (refine' use_partsS ?k1 ?k2 ?k3 ?k4 ?k5 ?_; (case k1 => assumption); (case k2 => walk_at "hp"); (case k3 => walk_at "hp"); (case k4 => assumption); (case k5 => exact ⟨by omega, by omega, by omega⟩); intro p' H' M')
  | (refine' k_ne00 ?k1 ?k2 ?_; (case k1 => walk_at "hp"); (case k2 => walk_at "hp"))
  | (refine' use_listed ?k1 ?k2 ?k3 ?k4 ?k5 ?k6 ?_; (case k1 => assumption); (case k2 => walk_at "mem"); (case k3 => exact Starts.len (by assumption)); (case k4 => simp); (case k5 => omega); (case k6 => omega); intro p' ds' pos' big' st' H' a1' a3' a4' M')
  | (refine' use_caught ?k1 ?_; (case k1 => assumption); intro H' M'))
theorem ok_law {f : Addr} {fd : FuncData} (F : Fun K "law" "law" s_law f fd) (T : Txt P K mg C CE fE CD CA CU CT CI) (c_Stay : Mak P w K mg base 1 "Stay" C (sp_init C CE)) (c_Stay_parts_without : Met P w K mg base 3 C "parts_without" (sp_parts C)) (c__law_draws : Cal P w K mg base 1 "_law_draws" (sp_draws K)) (c__law_take : Cal P w K mg base 1 "_law_take" sp_take) (c__law_starts : Cal P w K mg base 3 "_law_starts" sp_starts) (c__law_row : Cal P w K mg base 2 "_law_row" sp_row) (c__law_days : Cal P w K mg base 1 "_law_days" sp_days) (c__law_placed : Cal P w K mg base 3 "_law_placed" (sp_placed C)) (c__law_parted : Cal P w K mg base 4 "_law_parted" (sp_parted C)) (c__law_listed : Cal P w K mg base 2 "_law_listed" sp_listed) (c__law_around : Cal P w K mg base 4 "_law_around" sp_aroundL) (c__law_no_days : Cal P w K mg base 4 "_law_no_days" (sp_none K)) (c__law_caught : Cal P w K mg base 4 "_law_caught" sp_caught) (c__law_is : Cal P w K mg base 2 "_law_is" (sp_is C)) :
    FnOk P w K mg base (L2.CX P w) (4 + 1) f fd ["_law_script"] (spLaw K) := by
  refine okT F sc_law (fun vs H Q E h => ?_) (fun cdv A outer s H vs Q E hr tk h => ?_)
  · obtain ⟨a, ns, rfl, _⟩ := h
    rfl
  obtain ⟨a, ns, rfl, hS, hlen, k⟩ := h
  have f1 := T.cl; have f2 := T.nC; have f3 := T.nG; have f4 := T.ca; have f5 := T.cn; have f6 := T.ct; have f7 := T.cm; have f8 := T.i1; have f9 := T.i2
  refine ⟨_, (pss_cons (ps_set (i := 1) sc_law.nd rfl (Or.inl rfl) (c_call c__law_draws tk hr (by decide) (pa_cons (pv 0) pa_nil)))
      (pss_cons (ps_set (i := 2) sc_law.nd rfl (Or.inl rfl) (c_call c__law_starts tk hr (by decide) (pa_cons (pv 1) pa_nil)))
      (pss_cons (ps_set (i := 3) sc_law.nd rfl (Or.inl rfl) (c_call c__law_row tk hr (by decide) (pa_cons (pv 1) pa_nil)))
      (pss_cons (ps_set (i := 4) sc_law.nd rfl (Or.inl rfl) (c_call c__law_row tk hr (by decide) (pa_cons (pv 1) pa_nil)))
      (pss_cons (ps_if (pt_cmpR op_eq (c_call c__law_take tk hr (by decide) (pa_cons (pv 1) (pa_cons pe_int pa_nil))) pe_int (nomark _)) (pss_one (ps_set (i := 4) sc_law.nd rfl (Or.inl rfl) (pv 3))) pss_nil)
      (pss_cons (ps_set (i := 5) sc_law.nd rfl (Or.inl rfl) (c_call c__law_days tk hr (by decide) (pa_cons (pv 2) (pa_cons (pv 3) pa_nil))))
      (pss_cons (ps_set (i := 6) sc_law.nd rfl (Or.inl rfl) (c_call c__law_days tk hr (by decide) (pa_cons (pv 2) (pa_cons (pv 4) pa_nil))))
      (pss_cons (ps_set (i := 7) sc_law.nd rfl (Or.inl rfl) (c_make c_Stay tk hr (by decide) (pa_cons (pe_ix ix_tup (pv 5) pe_int (fun _ _ => rfl)) (pa_cons (pe_ix ix_tup (pv 5) pe_int (fun _ _ => rfl)) pa_nil))))
      (pss_cons (ps_set (i := 8) sc_law.nd rfl (Or.inl rfl) (c_make c_Stay tk hr (by decide) (pa_cons (pe_ix ix_tup (pv 6) pe_int (fun _ _ => rfl)) (pa_cons (pe_ix ix_tup (pv 6) pe_int (fun _ _ => rfl)) pa_nil))))
      (pss_cons (ps_if (PW.pt (pw_or (pt_not (pt_val (c_call c__law_placed tk hr (by decide) (pa_cons (pv 7) (pa_cons (pv 8) (pa_cons (pv 3) (pa_cons (pv 4) pa_nil))))))) (pw_or1 (pt_not (pt_val (c_call c__law_placed tk hr (by decide) (pa_cons (pv 8) (pa_cons (pv 7) (pa_cons (pv 4) (pa_cons (pv 3) pa_nil)))))))))) (pss_one (ps_ret pe_bl)) pss_nil)
      (pss_cons (ps_if (pt_not (pt_val (c_call c__law_placed tk hr (by decide) (pa_cons (pv 7) (pa_cons (c_make c_Stay tk hr (by decide) (pa_cons (pe_ix ix_tup (pv 5) pe_int (fun _ _ => rfl)) (pa_cons (pe_ix ix_tup (pv 5) pe_int (fun _ _ => rfl)) pa_nil))) (pa_cons (pv 3) (pa_cons (pv 3) pa_nil))))))) (pss_one (ps_ret pe_bl)) pss_nil)
      (pss_cons (ps_if (PW.pt (pw_or (pt_not (pt_val (c_call c__law_parted tk hr (by decide) (pa_cons (pv 7) (pa_cons (pv 8) (pa_cons (pv 2) (pa_cons (pv 3) (pa_cons (pv 4) pa_nil)))))))) (pw_or1 (pt_not (pt_val (c_call c__law_parted tk hr (by decide) (pa_cons (pv 8) (pa_cons (pv 7) (pa_cons (pv 2) (pa_cons (pv 4) (pa_cons (pv 3) pa_nil))))))))))) (pss_one (ps_ret pe_bl)) pss_nil)
      (pss_cons (ps_if (pt_cmpR (op_neD hr.units) (c_meth c_Stay_parts_without tk hr (by decide) (pv 7) (pa_cons (c_make c_Stay tk hr (by decide) (pa_cons (pe_ix ix_tup (pv 5) pe_int (fun _ _ => rfl)) (pa_cons (pe_ix ix_tup (pv 5) pe_int (fun _ _ => rfl)) pa_nil))) pa_nil)) (pe_lst pa_nil) (nomark _)) (pss_one (ps_ret pe_bl)) pss_nil)
      (pss_cons (ps_set (i := 9) sc_law.nd rfl (Or.inl rfl) (c_call c__law_listed tk hr (by decide) (pa_cons (pv 1) (pa_cons (pv 2) pa_nil))))
      (pss_cons (ps_if (pt_not (pt_val (c_call c__law_around tk hr (by decide) (pa_cons (pv 9) (pa_cons (pe_cmpR op_eq (c_call c__law_take tk hr (by decide) (pa_cons (pv 1) (pa_cons pe_int pa_nil))) pe_int (nomark _)) pa_nil))))) (pss_one (ps_ret pe_bl)) pss_nil)
      (pss_cons (ps_if (pt_not (pt_val (c_call c__law_around tk hr (by decide) (pa_cons (pe_lst (pa_cons (pe_ix ix_tup (pv 5) pe_int (fun _ _ => rfl)) (pa_cons (pe_ix ix_tup (pv 6) pe_int (fun _ _ => rfl)) (pa_cons (pe_ix ix_tup (pv 5) pe_int (fun _ _ => rfl)) (pa_cons (pe_ix ix_tup (pv 6) pe_int (fun _ _ => rfl)) pa_nil))))) (pa_cons pe_bl pa_nil))))) (pss_one (ps_ret pe_bl)) pss_nil)
      (pss_cons (ps_if (PW.pt (pw_or (pt_not (pt_val (c_call c__law_no_days tk hr (by decide) (pa_cons (pe_lst pa_nil) pa_nil)))) (pw_or (pt_not (pt_val (c_call c__law_no_days tk hr (by decide) (pa_cons (pe_tup pa_nil) pa_nil)))) (pw_or1 (pt_not (pt_val (c_call0 c__law_caught tk hr (by decide)))))))) (pss_one (ps_ret pe_bl)) pss_nil)
      (pss_one (ps_ret (pe_and (c_call c__law_is tk hr (by decide) (pa_cons (pv 7) (pa_cons (pv 5) pa_nil))) (pe_one (c_call c__law_is tk hr (by decide) (pa_cons (pv 8) (pa_cons (pv 6) pa_nil)))))))))))))))))))))))), ?_⟩
  simp only [cxK, st_law]
  walk_at "go"
  all_goals exact k _
end
end K17

set_option Elab.async false
set_option linter.all false
set_option maxRecDepth 100000
set_option maxHeartbeats 8000000
namespace K17
open PySem L2 MyL
abbrev PR : Program := PySem.Challenge.rw_fittingpasts_k17_stay_parts.prog
abbrev s_EmptyStay : Stmt := inClass (top 6) 0
theorem e_EmptyStay : PySem.ErrX.ErrSt PR "EmptyStay.__init__" s_EmptyStay ["come", "go"] :=
  ⟨_, _, _, _, _, _, _, _, _, _, rfl, fun _ => rfl, rfl, rfl, rfl, rfl, rfl, rfl, by decide +kernel, rfl, rfl, rfl, by decide +kernel, by decide +kernel, (.cons (by decide +kernel) (.cons (by decide +kernel) .nil)), fun _ _ _ _ _ _ us hl => match us, hl with | [_, _, _], _ => rfl⟩
theorem b_Stay_init : BindsSt "__init__" "Stay.__init__" s_Stay_init ["self", "come", "go"] := fun _ _ _ _ _ _ us hl => match us, hl with | [_, _, _], _ => rfl
theorem b_Stay_meets : BindsSt "meets" "Stay.meets" s_Stay_meets ["self", "other"] := fun _ _ _ _ _ _ us hl => match us, hl with | [_, _], _ => rfl
theorem b_Stay_within : BindsSt "within" "Stay.within" s_Stay_within ["self", "other"] := fun _ _ _ _ _ _ us hl => match us, hl with | [_, _], _ => rfl
theorem b_Stay_crosses : BindsSt "crosses" "Stay.crosses" s_Stay_crosses ["self", "other"] := fun _ _ _ _ _ _ us hl => match us, hl with | [_, _], _ => rfl
theorem b_Stay_parts_without : BindsSt "parts_without" "Stay.parts_without" s_Stay_parts_without ["self", "other"] := fun _ _ _ _ _ _ us hl => match us, hl with | [_, _], _ => rfl
theorem b_Stay_around : BindsSt "around" "Stay.around" s_Stay_around ["days"] := fun _ _ _ _ _ _ us hl => match us, hl with | [_], _ => rfl
theorem b__law_draws : BindsSt "_law_draws" "_law_draws" s__law_draws ["_law_script"] := fun _ _ _ _ _ _ us hl => match us, hl with | [_], _ => rfl
theorem b__law_take : BindsSt "_law_take" "_law_take" s__law_take ["_law_box", "_law_limit"] := fun _ _ _ _ _ _ us hl => match us, hl with | [_, _], _ => rfl
theorem b__law_far : BindsSt "_law_far" "_law_far" s__law_far ["_law_box"] := fun _ _ _ _ _ _ us hl => match us, hl with | [_], _ => rfl
theorem b__law_number : BindsSt "_law_number" "_law_number" s__law_number ["_law_actual", "_law_due"] := fun _ _ _ _ _ _ us hl => match us, hl with | [_, _], _ => rfl
theorem b__law_is : BindsSt "_law_is" "_law_is" s__law_is ["_law_stay", "_law_days_here"] := fun _ _ _ _ _ _ us hl => match us, hl with | [_, _], _ => rfl
theorem b__law_starts : BindsSt "_law_starts" "_law_starts" s__law_starts ["_law_box"] := fun _ _ _ _ _ _ us hl => match us, hl with | [_], _ => rfl
theorem b__law_row : BindsSt "_law_row" "_law_row" s__law_row ["_law_box"] := fun _ _ _ _ _ _ us hl => match us, hl with | [_], _ => rfl
theorem b__law_days : BindsSt "_law_days" "_law_days" s__law_days ["_law_starts_here", "_law_row_here"] := fun _ _ _ _ _ _ us hl => match us, hl with | [_, _], _ => rfl
theorem b__law_runs : BindsSt "_law_runs" "_law_runs" s__law_runs ["_law_mine", "_law_other"] := fun _ _ _ _ _ _ us hl => match us, hl with | [_, _], _ => rfl
theorem b__law_truth : BindsSt "_law_truth" "_law_truth" s__law_truth ["_law_actual", "_law_due"] := fun _ _ _ _ _ _ us hl => match us, hl with | [_, _], _ => rfl
theorem b__law_placed : BindsSt "_law_placed" "_law_placed" s__law_placed ["_law_one", "_law_two", "_law_mine", "_law_other"] := fun _ _ _ _ _ _ us hl => match us, hl with | [_, _, _, _], _ => rfl
theorem b__law_stays : BindsSt "_law_stays" "_law_stays" s__law_stays ["_law_actual", "_law_starts_here", "_law_runs_here"] := fun _ _ _ _ _ _ us hl => match us, hl with | [_, _, _], _ => rfl
theorem b__law_parted : BindsSt "_law_parted" "_law_parted" s__law_parted ["_law_one", "_law_two", "_law_starts_here", "_law_mine", "_law_other"] := fun _ _ _ _ _ _ us hl => match us, hl with | [_, _, _, _, _], _ => rfl
theorem b__law_listed : BindsSt "_law_listed" "_law_listed" s__law_listed ["_law_box", "_law_starts_here"] := fun _ _ _ _ _ _ us hl => match us, hl with | [_, _], _ => rfl
theorem b__law_around : BindsSt "_law_around" "_law_around" s__law_around ["_law_days_here", "_law_as_tuple"] := fun _ _ _ _ _ _ us hl => match us, hl with | [_, _], _ => rfl
theorem b__law_no_days : BindsSt "_law_no_days" "_law_no_days" s__law_no_days ["_law_days_here"] := fun _ _ _ _ _ _ us hl => match us, hl with | [_], _ => rfl
theorem b__law_caught : BindsSt "_law_caught" "_law_caught" s__law_caught [] := fun _ _ _ _ _ _ us hl => match us, hl with | [], _ => rfl
theorem b_law : BindsSt "law" "law" s_law ["_law_script"] := fun _ _ _ _ _ _ us hl => match us, hl with | [_], _ => rfl
theorem all_mk {w : World} {K : PySem.W.Frag} {h : Heap} {mg : Str → Option Value} {C CE fE CD CA CU CT CI : Addr} (X : K.In h) (G : h.Ns mainGlobals mg)
    (a_Stay : PySem.W.nsIn K mainGlobals "Stay" = some (some (.ref C)))
    (a_EmptyStay : PySem.W.nsIn K mainGlobals "EmptyStay" = some (some (.ref CE)))
    (a_NoDays : PySem.W.nsIn K mainGlobals "NoDays" = some (some (.ref CD)))
    (a_ArchiveError : PySem.W.nsIn K mainGlobals "ArchiveError" = some (some (.ref CA)))
    (a_UnknownError : PySem.W.nsIn K mainGlobals "UnknownError" = some (some (.ref CU)))
    (a_TextError : PySem.W.nsIn K mainGlobals "TextError" = some (some (.ref CT)))
    (a_ImpossibleError : PySem.W.nsIn K mainGlobals "ImpossibleError" = some (some (.ref CI)))
    (z_isinstance : PySem.W.nsIn K mainGlobals "isinstance" = some none)
    (z_int : PySem.W.nsIn K mainGlobals "int" = some none)
    (z_bool : PySem.W.nsIn K mainGlobals "bool" = some none)
    (z_len : PySem.W.nsIn K mainGlobals "len" = some none)
    (z_min : PySem.W.nsIn K mainGlobals "min" = some none)
    (z_max : PySem.W.nsIn K mainGlobals "max" = some none)
    (z_list : PySem.W.nsIn K mainGlobals "list" = some none)
    (z_tuple : PySem.W.nsIn K mainGlobals "tuple" = some none)
    (z_range : PySem.W.nsIn K mainGlobals "range" = some none)
    (z_ValueError : PySem.W.nsIn K mainGlobals "ValueError" = some none)
    (cl_Stay : Cls K C)
    (na_Stay_come : NoAttr K C "come")
    (na_Stay_go : NoAttr K C "go")
    (mk_Stay : PySem.W.makesIn K C = true)
    (kc_Stay : PySem.W.keepIn K (.ref C) = true)
    (ca_Stay : PySem.W.findIn K (.ref C) "__class__" = some (some (.builtin "object.__class__")))
    (cm_Stay : PySem.W.mroIn K C (.type "object") = some true)
    (cn : PySem.W.specialIn K (.builtin "object.__class__") "__get__" = some (some (.builtin "getset_descriptor.__get__")))
    (ct : PySem.W.takesIn K (.builtin "object.__class__") = some true)
    (er_EmptyStay : PySem.ErrX.ErrTxt PR K mg "EmptyStay" CE fE ["come", "go"])
    (er_NoDays : PlainErr K mg "NoDays" CD)
    (ek_D : ExcK K CD)
    (exmD : PySem.W.exmOne K (.ref CD) (.ref CD) = some true)
    (exmA : PySem.W.exmOne K (.ref CD) (.ref CA) = some true)
    (kD1 : PySem.W.kitOne K (.ref CD) (.type "ValueError") = some true)
    (kD2 : PySem.W.kitOne K (.ref CD) (.ref CA) = some true)
    (kD3 : PySem.W.kitAny K (.ref CD) [.ref CU, .ref CT, .ref CI, .ref CE] = some false)
    (m_Stay_init : MethAt K C "__init__" "Stay.__init__" s_Stay_init)
    (m_Stay_meets : MethAt K C "meets" "Stay.meets" s_Stay_meets)
    (m_Stay_within : MethAt K C "within" "Stay.within" s_Stay_within)
    (m_Stay_crosses : MethAt K C "crosses" "Stay.crosses" s_Stay_crosses)
    (m_Stay_parts_without : MethAt K C "parts_without" "Stay.parts_without" s_Stay_parts_without)
    (s_around : StaAt K C "around" "Stay.around" s_Stay_around)
    (d__law_draws : DefAt K mg "_law_draws" "_law_draws" s__law_draws)
    (d__law_take : DefAt K mg "_law_take" "_law_take" s__law_take)
    (d__law_far : DefAt K mg "_law_far" "_law_far" s__law_far)
    (d__law_number : DefAt K mg "_law_number" "_law_number" s__law_number)
    (d__law_is : DefAt K mg "_law_is" "_law_is" s__law_is)
    (d__law_starts : DefAt K mg "_law_starts" "_law_starts" s__law_starts)
    (d__law_row : DefAt K mg "_law_row" "_law_row" s__law_row)
    (d__law_days : DefAt K mg "_law_days" "_law_days" s__law_days)
    (d__law_runs : DefAt K mg "_law_runs" "_law_runs" s__law_runs)
    (d__law_truth : DefAt K mg "_law_truth" "_law_truth" s__law_truth)
    (d__law_placed : DefAt K mg "_law_placed" "_law_placed" s__law_placed)
    (d__law_stays : DefAt K mg "_law_stays" "_law_stays" s__law_stays)
    (d__law_parted : DefAt K mg "_law_parted" "_law_parted" s__law_parted)
    (d__law_listed : DefAt K mg "_law_listed" "_law_listed" s__law_listed)
    (d__law_around : DefAt K mg "_law_around" "_law_around" s__law_around)
    (d__law_no_days : DefAt K mg "_law_no_days" "_law_no_days" s__law_no_days)
    (d__law_caught : DefAt K mg "_law_caught" "_law_caught" s__law_caught)
    (d_law : DefAt K mg "law" "law" s_law) :
    DefAt K mg "law" "law" s_law ∧ ∀ {f : Addr} {fd : FuncData}, Fun K "law" "law" s_law f fd → ∀ base : Heap, FnOk PR w K mg base (L2.CX PR w) 5 f fd ["_law_script"] (spLaw K) := by
  have z := fun {n : Str} (e : PySem.W.nsIn K mainGlobals n = some none) => PySem.W.mg_none_of X G e
  have y := fun {n : Str} {v : Value} (e : PySem.W.nsIn K mainGlobals n = some (some v)) => PySem.W.mg_of X G e
  have T : Txt PR K mg C CE fE CD CA CU CT CI := ⟨cl_Stay, na_Stay_come, na_Stay_go, ca_Stay, cn, ct, cm_Stay, z z_isinstance, z z_int, z z_bool, z z_len, z z_min, z z_max, z z_list, z z_tuple, z z_range, z z_ValueError, y a_Stay, er_EmptyStay, er_NoDays, y a_EmptyStay, y a_NoDays, y a_ArchiveError, y a_UnknownError, y a_TextError, y a_ImpossibleError,
    kit_ty (by decide +kernel), kit_ty (by decide +kernel), kit_ty (by decide +kernel), kit_ty (by decide +kernel), ek_D, exmD, exmA, kD1, kD2, kD3⟩
  refine ⟨d_law, fun {f fd} F base => ?_⟩
  have c_Stay : Mak PR w K mg base 1 "Stay" C (sp_init C CE) := mak_of m_Stay_init T.g_Stay mk_Stay kc_Stay b_Stay_init fun F => ok_init F T
  have c_Stay_meets : Met PR w K mg base 1 C "meets" (sp_cmp C RMeets) := met_of m_Stay_meets T.cl b_Stay_meets fun F => ok_meets F T
  have c_Stay_within : Met PR w K mg base 1 C "within" (sp_cmp C RWithin) := met_of m_Stay_within T.cl b_Stay_within fun F => ok_within F T
  have c_Stay_crosses : Met PR w K mg base 2 C "crosses" (sp_cmp C RCrosses) := met_of m_Stay_crosses T.cl b_Stay_crosses fun F => ok_crosses F T c_Stay_meets c_Stay_within
  have c_Stay_parts : Met PR w K mg base 3 C "parts_without" (sp_parts C) := met_of m_Stay_parts_without T.cl b_Stay_parts_without fun F => ok_parts F T c_Stay c_Stay_meets
  have c_Stay_around : Sta PR w K mg base 3 C "around" (sp_around K C CD) := sta_of s_around b_Stay_around fun F => ok_around F T c_Stay
  have c__law_draws : Cal PR w K mg base 1 "_law_draws" (sp_draws K) := cal_of d__law_draws b__law_draws fun F => ok_draws F T 
  have c__law_take : Cal PR w K mg base 1 "_law_take" sp_take := cal_of d__law_take b__law_take fun F => ok_take F T 
  have c__law_far : Cal PR w K mg base 2 "_law_far" (sp_num RFar) := cal_of d__law_far b__law_far fun F => ok_far F T c__law_take
  have c__law_number : Cal PR w K mg base 1 "_law_number" sp_number := cal_of d__law_number b__law_number fun F => ok_number F T 
  have c__law_truth : Cal PR w K mg base 1 "_law_truth" sp_truth := cal_of d__law_truth b__law_truth fun F => ok_truth F T 
  have c__law_is : Cal PR w K mg base 2 "_law_is" (sp_is C) := cal_of d__law_is b__law_is fun F => ok_is F T c__law_number
  have c__law_starts : Cal PR w K mg base 3 "_law_starts" sp_starts := cal_of d__law_starts b__law_starts fun F => ok_starts F T c__law_take c__law_far
  have c__law_row : Cal PR w K mg base 2 "_law_row" sp_row := cal_of d__law_row b__law_row fun F => ok_row F T c__law_take
  have c__law_days : Cal PR w K mg base 1 "_law_days" sp_days := cal_of d__law_days b__law_days fun F => ok_days F T 
  have c__law_runs : Cal PR w K mg base 1 "_law_runs" sp_runs := cal_of d__law_runs b__law_runs fun F => ok_runs F T 
  have c__law_placed : Cal PR w K mg base 3 "_law_placed" (sp_placed C) := cal_of d__law_placed b__law_placed fun F => ok_placed F T c_Stay_meets c_Stay_within c_Stay_crosses c__law_truth
  have c__law_stays : Cal PR w K mg base 3 "_law_stays" (sp_stays C) := cal_of d__law_stays b__law_stays fun F => ok_stays F T c__law_is c__law_days
  have c__law_parted : Cal PR w K mg base 4 "_law_parted" (sp_parted C) := cal_of d__law_parted b__law_parted fun F => ok_parted F T c__law_runs c_Stay_parts c__law_stays
  have c__law_listed : Cal PR w K mg base 2 "_law_listed" sp_listed := cal_of d__law_listed b__law_listed fun F => ok_listed F T c__law_take
  have c__law_around : Cal PR w K mg base 4 "_law_around" sp_aroundL := cal_of d__law_around b__law_around fun F => ok_aroundL F T c_Stay_around c__law_is
  have c__law_no_days : Cal PR w K mg base 4 "_law_no_days" (sp_none K) := cal_of d__law_no_days b__law_no_days fun F => ok_no_days F T c_Stay_around
  have c__law_caught : Cal PR w K mg base 4 "_law_caught" sp_caught := cal_of d__law_caught b__law_caught fun F => ok_caught F T c_Stay_around
  exact ok_law F T c_Stay c_Stay_parts c__law_draws c__law_take c__law_starts c__law_row c__law_days c__law_placed c__law_parted c__law_listed c__law_around c__law_no_days c__law_caught c__law_is
end K17

set_option Elab.async false
set_option linter.all false
open PySem PySem.W PyProof.Rows L2 MyL K17
set_option maxRecDepth 100000 in
set_option maxHeartbeats 0 in
theorem PySem.Challenge.cw_fittingpasts_k17_stay_parts_holds : PySem.Challenge.rw_fittingpasts_k17_stay_parts.Holds := by
  w_on; o_law; k_head; (case hw => w_witness2)
  k_fill
  refine law_walk (l := PySem.Challenge.rw_fittingpasts_k17_stay_parts) (k := 5) (x := "_law_script") (st := s_law) rfl rfl ⟨rfl, by decide, by decide⟩ (fun w h Y => PySem.W.kIn_of Y) (fun _ _ _ _ _ _ _ _ => .of_eq rfl) ?F
  case F =>
    intro w mg h KX G
    refine' K17.all_mk KX G ?a_Stay ?a_EmptyStay ?a_NoDays ?a_ArchiveError ?a_UnknownError ?a_TextError ?a_ImpossibleError ?z_isinstance ?z_int ?z_bool ?z_len ?z_min ?z_max ?z_list ?z_tuple ?z_range ?z_ValueError ?cl_Stay ?na_Stay_come ?na_Stay_go ?mk_Stay ?kc_Stay ?ca_Stay ?cm_Stay ?cn ?ct ?er_EmptyStay ?er_NoDays ?ek_D ?exmD ?exmA ?kD1 ?kD2 ?kD3 ?m_Stay_init ?m_Stay_meets ?m_Stay_within ?m_Stay_crosses ?m_Stay_parts_without ?s_around ?d__law_draws ?d__law_take ?d__law_far ?d__law_number ?d__law_is ?d__law_starts ?d__law_row ?d__law_days ?d__law_runs ?d__law_truth ?d__law_placed ?d__law_stays ?d__law_parted ?d__law_listed ?d__law_around ?d__law_no_days ?d__law_caught ?d_law
    (case a_Stay => k_is)
    (case a_EmptyStay => k_is)
    (case a_NoDays => k_is)
    (case a_ArchiveError => k_is)
    (case a_UnknownError => k_is)
    (case a_TextError => k_is)
    (case a_ImpossibleError => k_is)
    (case z_isinstance => k_is)
    (case z_int => k_is)
    (case z_bool => k_is)
    (case z_len => k_is)
    (case z_min => k_is)
    (case z_max => k_is)
    (case z_list => k_is)
    (case z_tuple => k_is)
    (case z_range => k_is)
    (case z_ValueError => k_is)
    (case cl_Stay => refine' ⟨?a, ?b, ?c, ?d⟩; (case a => k_is); (case b => k_is); (case c => k_is); (case d => k_is))
    (case na_Stay_come => unfold NoAttr; k_is)
    (case na_Stay_go => unfold NoAttr; k_is)
    (case mk_Stay => k_is)
    (case kc_Stay => k_is)
    (case ca_Stay => k_is)
    (case cm_Stay => k_is)
    (case cn => k_is)
    (case ct => k_is)
    (case er_EmptyStay => refine' PySem.ErrX.err_mk KX G e_EmptyStay ?g1 ?g2 ?g3 ?g4 ?g5 ?g6 ?g7 ?g8 ?g9 ?h1 ?h2 ?h3 ?h4 ?h5 ?h6 ?h7 ?h8 ?h9 ?i1 ?i2 ?i3; (case g1 => k_is); (case g2 => k_is); (case g3 => k_is); (case g4 => decide +kernel); (case g5 => k_is); (case g6 => (intro f hf; simp only [List.mem_cons, List.not_mem_nil, or_false] at hf; rcases hf with rfl | rfl; all_goals k_is)); (case g7 => k_is); (case g8 => k_is); (case g9 => k_is); (case h1 => k_is); (case h2 => k_is); (case h3 => k_is); (case h4 => k_is); (case h5 => ks_is); (case h6 => k_is); (case h7 => k_is); (case h8 => k_is); (case h9 => k_is); (case i1 => rfl); (case i2 => decide +kernel); (case i3 => k_is))
    (case er_NoDays => refine' plain_mk KX G ?a ?b ?c ?d ?e; (case a => k_is); (case b => k_is); (case c => kernel_rfl); (case d => k_is); (case e => k_is))
    (case ek_D => refine' PySem.ErrX.exck_mk ?a ?b ?c ?d ?e ?f ?g ?h; (case a => kernel_rfl); (case b => k_is); (case c => k_is); (case d => k_is); (case e => k_is); (case f => k_is); (case g => k_is); (case h => k_is))
    (case exmD => kernel_rfl)
    (case exmA => kernel_rfl)
    (case kD1 => kernel_rfl)
    (case kD2 => kernel_rfl)
    (case kD3 => kernel_rfl)
    (case m_Stay_init => refine' gmeth (st := s_Stay_init) ?a ?i ?l ?c ?k; (case a => k_is); (case i => k_is); (case l => k_is); (case c => k_is); (case k => k_is))
    (case m_Stay_meets => refine' gmeth (st := s_Stay_meets) ?a ?i ?l ?c ?k; (case a => k_is); (case i => k_is); (case l => k_is); (case c => k_is); (case k => k_is))
    (case m_Stay_within => refine' gmeth (st := s_Stay_within) ?a ?i ?l ?c ?k; (case a => k_is); (case i => k_is); (case l => k_is); (case c => k_is); (case k => k_is))
    (case m_Stay_crosses => refine' gmeth (st := s_Stay_crosses) ?a ?i ?l ?c ?k; (case a => k_is); (case i => k_is); (case l => k_is); (case c => k_is); (case k => k_is))
    (case m_Stay_parts_without => refine' gmeth (st := s_Stay_parts_without) ?a ?i ?l ?c ?k; (case a => k_is); (case i => k_is); (case l => k_is); (case c => k_is); (case k => k_is))
    (case s_around => refine' gsta (st := s_Stay_around) ?a ?b ?c ?d ?l ?e ?f; (case a => k_is); (case b => k_is); (case c => k_is); (case d => k_is); (case l => k_is); (case e => k_is); (case f => k_is))
    (case d__law_draws => refine' gdef (st := s__law_draws) KX G ?a ?l ?c ?k; (case a => k_is); (case l => k_is); (case c => k_is); (case k => k_is))
    (case d__law_take => refine' gdef (st := s__law_take) KX G ?a ?l ?c ?k; (case a => k_is); (case l => k_is); (case c => k_is); (case k => k_is))
    (case d__law_far => refine' gdef (st := s__law_far) KX G ?a ?l ?c ?k; (case a => k_is); (case l => k_is); (case c => k_is); (case k => k_is))
    (case d__law_number => refine' gdef (st := s__law_number) KX G ?a ?l ?c ?k; (case a => k_is); (case l => k_is); (case c => k_is); (case k => k_is))
    (case d__law_is => refine' gdef (st := s__law_is) KX G ?a ?l ?c ?k; (case a => k_is); (case l => k_is); (case c => k_is); (case k => k_is))
    (case d__law_starts => refine' gdef (st := s__law_starts) KX G ?a ?l ?c ?k; (case a => k_is); (case l => k_is); (case c => k_is); (case k => k_is))
    (case d__law_row => refine' gdef (st := s__law_row) KX G ?a ?l ?c ?k; (case a => k_is); (case l => k_is); (case c => k_is); (case k => k_is))
    (case d__law_days => refine' gdef (st := s__law_days) KX G ?a ?l ?c ?k; (case a => k_is); (case l => k_is); (case c => k_is); (case k => k_is))
    (case d__law_runs => refine' gdef (st := s__law_runs) KX G ?a ?l ?c ?k; (case a => k_is); (case l => k_is); (case c => k_is); (case k => k_is))
    (case d__law_truth => refine' gdef (st := s__law_truth) KX G ?a ?l ?c ?k; (case a => k_is); (case l => k_is); (case c => k_is); (case k => k_is))
    (case d__law_placed => refine' gdef (st := s__law_placed) KX G ?a ?l ?c ?k; (case a => k_is); (case l => k_is); (case c => k_is); (case k => k_is))
    (case d__law_stays => refine' gdef (st := s__law_stays) KX G ?a ?l ?c ?k; (case a => k_is); (case l => k_is); (case c => k_is); (case k => k_is))
    (case d__law_parted => refine' gdef (st := s__law_parted) KX G ?a ?l ?c ?k; (case a => k_is); (case l => k_is); (case c => k_is); (case k => k_is))
    (case d__law_listed => refine' gdef (st := s__law_listed) KX G ?a ?l ?c ?k; (case a => k_is); (case l => k_is); (case c => k_is); (case k => k_is))
    (case d__law_around => refine' gdef (st := s__law_around) KX G ?a ?l ?c ?k; (case a => k_is); (case l => k_is); (case c => k_is); (case k => k_is))
    (case d__law_no_days => refine' gdef (st := s__law_no_days) KX G ?a ?l ?c ?k; (case a => k_is); (case l => k_is); (case c => k_is); (case k => k_is))
    (case d__law_caught => refine' gdef (st := s__law_caught) KX G ?a ?l ?c ?k; (case a => k_is); (case l => k_is); (case c => k_is); (case k => k_is))
    (case d_law => refine' gdef (st := s_law) KX G ?a ?l ?c ?k; (case a => k_is); (case l => k_is); (case c => k_is); (case k => k_is))
#print axioms PySem.Challenge.cw_fittingpasts_k17_stay_parts_holds

