import PyProof.Rows.All
import Wide.All
import OpenK.AllK
import Wide.FinOn
import KE.KExcSuper
import HandS.Exc
import HandS.ExcInit
import KE.KOpsOwn
import KE.KCallOwn
import KE.KExcIs
import HandS.ForExc
import HandS.ForMost
import HandS.HotCalls
import HandS.More
import HandS.SlotsOwn
import HandS.MakeKw
import HandS.IsInst
import HandS.ExcField
import HandS.Wide
import HandS.FStr
import HandS.EndBits
import HandS.Property
import HandS.ClsMeth
import HandS.ExcOwn
import HandS.Star
import KE.GoesMore
import HandS.Iter
import PyProof.ListRange
import HandS.Conv
import HandS.Sort
import HandS.Style
import PySem.Challenge.RW_fittingpasts_k32_shelf_pairs
set_option Elab.async false
set_option linter.all false
set_option maxRecDepth 100000
set_option maxHeartbeats 4000000
/-! An own error whose body of __init__ is super().__init__('..') and then self.f = f for each field f. -/
namespace PySem
namespace ErrX
open PySem.W PySem.Calls PyProof.Rows PySem.HandSPX
/-- self.f = f for each name -/
inductive Asgs : List Str → List Stmt → Prop
  | nil : Asgs [] []
  | cons {f : Str} {fs : List Str} {r : List Stmt} {q1 q2 q3 q4 : Pos} : (f == ("__debug__" : Str)) = false → Asgs fs r → Asgs (f :: fs) (.Assign [.Attribute (.Name "self" q1) f q2] (.Name f q3) q4 :: r)
/-- what the written part says of the error's class at C and of its __init__ at fI -/
structure ErrTxt (prog : Program) (K : Frag) (mg : Str → Option Value) (x : Str) (C fI : Addr) (fs : List Str) : Prop where
  gC : mg x = some (.ref C)
  gS : mg "super" = none
  cls : ∃ nm q N bs bm sn sub ab col dd k0 k1 k2 k3 k5, K.lookup C = some (excClassObj nm q C N bs bm true sn sub ab col dd k0 k1 k2 k3 k5 "ValueError.__new__") ∧ refsVE bm = true
  sa : findIn K (.ref C) "__setattr__" = some (some (.builtin "object.__setattr__"))
  no : ∀ f ∈ fs, findIn K (.ref C) f = some none
  iC : findIn K (.ref C) "__init__" = some (some (.ref fI))
  tC : typeIn K (.ref fI) = some (.type "function")
  kC : keepIn K (.ref C) = true
  exC : subIn K (.ref C) (.type "BaseException") = some true
  veC : subIn K (.ref C) (.type "ValueError") = some true
  tyC : typeIn K (.ref C) = some (.type "type")
  op : nsIn K cStatics "thirdparty.any" = some none
  al : ks_superIn K C C "__init__" = some (some (.builtin "ValueError.__init__"))
  slf : mroIn K C (.ref C) = some true
  fn : ∃ (oc : Value) (od : Option Addr) (qual : Str) (params : Arguments) (scope : Scope) (rest : List Stmt) (doc pm : Value) (an : Option Addr) (cda : Addr) (ct : Value) (cc : Addr) (osl : Array (Option Value)) (txt : Str) (j : Nat) (p0 p1 p2 p3 p4 p5 : Pos) (ar : Arg)
      (ccl : Value) (cdd : Option Addr) (vs : Array Value) (ccs : Array (Option Value)) (file : Str) (tf : Tok) (cl : Value) (cld : Option Addr) (csl : Array (Option Value)),
    K.lookup fI = some ⟨oc, od, .func (ksFn "__init__" qual params (.Expr (.Call (.Attribute (.Call (.Name "super" p0) [] [] p1) "__init__" p2) [.Constant (.str txt) j p3] [] p4) p5 :: rest) scope .none .none doc pm an (.ref cda) ct cc), osl⟩ ∧ codeIn K (.ref cda) qual = true ∧
    K.lookup cda = some ⟨ccl, cdd, .fields vs, ccs⟩ ∧ vs[2]? = some (.str file tf) ∧ ((prog.main.file : Str) == file) = true ∧ K.lookup cc = some ⟨cl, cld, .cell (some (.ref C)), csl⟩ ∧
    (∀ env : Env, eval (.Call (.Attribute (.Call (.Name "super" p0) [] [] p1) "__init__" p2) [.Constant (.str txt) j p3] [] p4) env = (do
      let ov ← attributeBase (.Call (.Name "super" p0) [] [] p1) "__init__" env (eval (.Call (.Name "super" p0) [] [] p1) env)
      standAt p2.atName
      let (f, first) ← holding [ov] (getMethod ov "__init__" (do return (← importBound (.Call (.Name "super" p0) [] [] p1) env).getD true))
      callWith p4 f first (backTo p4 (starEach [.Constant (.str txt) j p3] env)) [])) ∧
    (prog.main.scope.names.lookup ("super" : Str)).isSome = false ∧
    (params.posonlyargs ++ params.args).head? = some ar ∧ ar.arg = "self" ∧
    scope.kind = .function ∧ scope.isCoroutine = false ∧ scope.isGenerator = false ∧ (∀ x ∈ scope.names, x.2 ≠ .cell) ∧ scope.names.lookup ("super" : Str) = some .globalImplicit ∧ scope.names.lookup ("__class__" : Str) = some .free ∧
    scope.names.lookup ("self" : Str) = some .local ∧ (∀ f ∈ fs, scope.names.lookup f = some .local) ∧ (("self" : Str) :: fs).Nodup ∧
    Asgs fs rest ∧ ∀ us : List Value, us.length = fs.length + 1 → bindArgs (ksFn "__init__" qual params (.Expr (.Call (.Attribute (.Call (.Name "super" p0) [] [] p1) "__init__" p2) [.Constant (.str txt) j p3] [] p4) p5 :: rest) scope .none .none doc pm an (.ref cda) ct cc) ⟨us, []⟩ = pure (((("self" : Str) :: fs)).zip us)

theorem lookup_rev : ∀ {l : List (Str × Value)} {x : Str} {v : Value}, (l.map (·.1)).Nodup → l.lookup x = some v → l.reverse.lookup x = some v := by
  intro l x v nd h
  have key : ∀ (m : List (Str × Value)), (m.map (·.1)).Nodup → (x, v) ∈ m → m.lookup x = some v := by
    intro m
    induction m with
    | nil => intro _ h; cases h
    | cons p m ih =>
      intro nd h
      obtain ⟨y, u⟩ := p
      rw [List.map_cons, List.nodup_cons] at nd
      rcases List.mem_cons.mp h with e | e
      · cases e; simp [List.lookup]
      · have hne : (x == y) = false := by
          rw [beq_eq_false_iff_ne]
          rintro rfl
          exact nd.1 (List.mem_map_of_mem (f := (·.1)) e)
        simp [List.lookup, hne]
        exact ih nd.2 e
  refine key _ ?_ (List.mem_reverse.mpr (PySem.mem_of_lookup h))
  rw [List.map_reverse]
  exact List.pairwise_reverse.mpr (nd.imp Ne.symm)

/-- what stands at the exception behind the stores: the fields so far (the last one first) -/
def DictOf (x : Addr) (n : Nat) (h : Heap) (fl : List (Str × Value)) (dv : Option Addr) : Prop :=
  match fl with
  | [] => dv = none
  | _ => ∃ dx, dv = some dx ∧ n ≤ dx ∧ dx ≠ x ∧ ∃ mA, h.Ns1 dx mA ∧ (∀ y, mA y = fl.lookup y)
theorem dictOf_cons {x : Addr} {n : Nat} {h : Heap} {fl : List (Str × Value)} {dv : Option Addr} {f : Str} {v : Value} : DictOf x n h ((f, v) :: fl) dv = ∃ dx, dv = some dx ∧ n ≤ dx ∧ dx ≠ x ∧ ∃ mA, h.Ns1 dx mA ∧ (∀ y, mA y = ((f, v) :: fl).lookup y) := rfl
abbrev excD (C t : Addr) (d : Option Addr) : Obj := { cls := .ref C, dict := d, data := .fields #[.ref t, .none, .none, .none, .bool false, .none] }
theorem lookup_ite (f y : Str) (v : Value) (fl : List (Str × Value)) : ((f, v) :: fl).lookup y = if y = f then some v else fl.lookup y := by
  by_cases h : y = f
  · subst h; simp [List.lookup]
  · have e : (y == f) = false := by simpa using h
    rw [if_neg h]; simp [List.lookup, e]
section
variable {prog : Program} {w : World} {A : Around} {E : Value → Shared → Prop} {K : Frag} {mg : Str → Option Value} {C fI : Addr}
theorem run_asgs {env : Env} {x t0 : Addr} {n : Nat} {m : Str → Option Value} {cd : ClassData} (hcd : clsIn K C = some cd) (hmr : refsVE cd.mro = true) (hh : cd.hasDict = true) (sa : findIn K (.ref C) "__setattr__" = some (some (.builtin "object.__setattr__")))
    (hnx : K.lookup x = none) (hk : env.scope.kind = .function) (hself : env.kindOf "self" = some .local) (mself : m "self" = some (.ref x)) (hLx : env.locals ≠ x) (hLn : env.locals < n) {Q : Flow → Shared → Prop} :
    ∀ {fs : List Str} {rest : List Stmt} {vs : List Value} {fl : List (Str × Value)} {dv : Option Addr} {s : Shared}, Asgs fs rest → vs.length = fs.length → (∀ p ∈ fs.zip vs, m p.1 = some p.2 ∧ env.kindOf p.1 = some .local ∧ findIn K (.ref C) p.1 = some none) → fl.length + fs.length ≤ 900 →
    K.In s.heap → s.heap.Ns env.locals m → s.heap.get? x = some (excD C t0 dv) → n ≤ s.heap.objs.size → DictOf x n s.heap fl dv → (∀ dx, dv = some dx → K.lookup dx = none ∧ dx ≠ env.locals) →
    (∀ h' tk dv', (∀ b o, b ≠ x → some b ≠ dv → s.heap.get? b = some o → h'.get? b = some o) → h'.get? x = some (excD C t0 dv') → DictOf x n h' ((fs.zip vs).reverse ++ fl) dv' → Q .next { s with heap := h', toks := tk }) →
    wpAny (model prog w) A (execs rest env) Q E s := by
  intro fs
  induction fs with
  | nil =>
    intro rest vs fl dv s ha hl _ _ _ _ hx _ hd _ hq
    cases ha
    refine wpAny_execs_nil ?_
    have := hq s.heap s.toks dv (fun b o _ _ e => e) hx (by simpa using hd)
    exact this
  | cons f fs ih =>
    intro rest vs fl dv s ha hl hm hz X hn hx hsz hd hdv hq
    cases ha with
    | cons hdb ha' =>
    cases vs with
    | nil => cases hl
    | cons v vs =>
    have hl' : vs.length = fs.length := by simpa using hl
    obtain ⟨mv, kv, nov⟩ := hm (f, v) (by simp)
    have hm' : ∀ p ∈ fs.zip vs, m p.1 = some p.2 ∧ env.kindOf p.1 = some .local ∧ findIn K (.ref C) p.1 = some none := fun p hp => hm p (by simp [hp])
    have hz' : fl.length + (fs.length + 1) ≤ 900 := by simpa using hz
    refine wpAny_execs_cons (plainObj_wpAny_Assign_Attribute ?_ (by rfl))
    refine wpAny_Name (wpAny_loadName_local hk kv hn mv ?_) hdb
    refine wpAny_Name (wpAny_loadName_local hk hself hn mself ?_) (by decide)
    show wpAny _ _ (setAttr (.ref x) f v) _ _ _
    obtain ⟨hp, g, d, tk, os⟩ := s
    cases fl with
    | nil =>
      have e0 : dv = none := hd
      subst e0
      refine set_plain X (ox := excD C t0 none) (od := none) ⟨hx, rfl, rfl, trivial⟩ sa ?_
      refine exc_osa X hx hcd hmr hh nov (fun h' tk' dx k dn dne hx' hn' => ?_)
      have ndl : ∀ {b o}, hp.get? b = some o → b ≠ dx := fun {b o} q => Nat.ne_of_lt (Nat.lt_of_lt_of_le (Heap.lt_size q) dn)
      have hnL : h'.Ns env.locals m := by
        obtain ⟨o, es, ep, ho, r⟩ := hn
        exact ⟨o, es, ep, k _ o hLx ho, r⟩
      have hsz' : n ≤ h'.objs.size := by
        have := Heap.lt_size (show h'.get? x = some _ from hx')
        obtain ⟨o, es, ep, ho, r⟩ := hn'
        have z := Heap.lt_size ho
        exact Nat.le_of_lt (Nat.lt_of_le_of_lt (Nat.le_trans hsz dn) z)
      have X' : K.In h' := fun a o e => k a o (fun z => by rw [z, hnx] at e; cases e) (X a o e)
      refine ih (fl := [(f, v)]) (dv := some dx) (s := ⟨h', g, d, tk', os⟩) ha' hl' hm' (by simp; omega) X' hnL hx' hsz' ?_ ?_ ?_
      · refine ⟨dx, rfl, Nat.le_trans hsz dn, dne, _, hn', fun y => ?_⟩
        rw [lookup_ite]
        rfl
      · intro dx' e
        cases e
        refine ⟨?_, ?_⟩
        · cases q : K.lookup dx with
          | none => rfl
          | some o => exact absurd (Heap.lt_size (X _ _ q)) (Nat.not_lt.mpr dn)
        · exact Ne.symm (Nat.ne_of_lt (Nat.lt_of_lt_of_le hLn (Nat.le_trans hsz dn)))
      · intro h2 tk2 dv2 k2 hx2 hd2
        refine hq h2 tk2 dv2 (fun b o hb _ e => k2 b o hb (fun z => ndl e (Option.some.inj z)) (k b o hb e)) hx2 ?_
        simpa using hd2
    | cons p0 fl =>
      obtain ⟨dx, rfl, dn, dne, mA, hns, hmA⟩ := hd
      obtain ⟨nK, nL⟩ := hdv dx rfl
      have hw : Within mA ((p0 :: fl).map (·.1)) := fun y hy => by
        rw [hmA y] at hy
        cases q : (p0 :: fl).lookup y with
        | none => exact absurd q hy
        | some u => exact List.mem_map_of_mem (f := (·.1)) (PySem.mem_of_lookup q)
      obtain ⟨oD, _, _, hoD, _, _⟩ := hns.count hw
      refine set_plain X (ox := excD C t0 (some dx)) (od := some oD) ⟨hx, rfl, rfl, hoD⟩ sa ?_
      refine PySem.OEX.osa_old X hx hns hw (by rw [List.length_map]; simp at hz' ⊢; omega) hcd hmr hh nov (fun h' tk' k hn' => ?_)
      have hnL : h'.Ns env.locals m := by
        obtain ⟨o, es, ep, ho, r⟩ := hn
        exact ⟨o, es, ep, k _ o (Ne.symm nL) ho, r⟩
      have hx' : h'.get? x = some (excD C t0 (some dx)) := k _ _ (Ne.symm dne) hx
      have hsz' : n ≤ h'.objs.size := by
        obtain ⟨o, es, ep, ho, r⟩ := hn'
        have z := Heap.lt_size ho
        exact Nat.le_of_lt (Nat.lt_of_le_of_lt dn z)
      have X' : K.In h' := fun a o e => k a o (fun z => by rw [z, nK] at e; cases e) (X a o e)
      refine ih (fl := (f, v) :: p0 :: fl) (dv := some dx) (s := ⟨h', g, d, tk', os⟩) ha' hl' hm' (by simp at hz' ⊢; omega) X' hnL hx' hsz' ?_ hdv ?_
      · refine ⟨dx, rfl, dn, dne, _, hn', fun y => ?_⟩
        rw [lookup_ite, hmA y]
      · intro h2 tk2 dv2 k2 hx2 hd2
        refine hq h2 tk2 dv2 (fun b o hb hb2 e => k2 b o hb hb2 (k b o (fun z => hb2 (by rw [z])) e)) hx2 ?_
        simpa using hd2
end
end ErrX
end PySem

set_option Elab.async false
set_option linter.all false
set_option maxRecDepth 100000
set_option maxHeartbeats 4000000
namespace PySem
namespace ErrX
open PySem.W PySem.Calls PyProof.Rows PySem.HandSPX
section
variable {prog : Program} {w : World} {A : Around} {E : Value → Shared → Prop} {K : Frag} {mg : Str → Option Value} {C fI : Addr} {R : Result → Shared → Prop}
/-- the call of super().__init__ as a wrapper -/
theorem call_mw {h : Heap} {g : Array GenState} {d : Drawn} {t : Nat} {os : OsState} {nm q : Str} {N : Addr} {bs bm : List Value} {hdct : Bool} {sn : List Str} {sub : List Value} {ab : Bool} {col : Option Bool} {dd : Option Addr} {k0 k1 k2 k3 k5 : Option Value} {u e t0 : Addr} {rest : List Value} {Q : Value → Shared → Prop}
    (hC : h.get? C = some (excClassObj nm q C N bs bm hdct sn sub ab col dd k0 k1 k2 k3 k5 "ValueError.__new__")) (he : h.get? e = some (excO C t0)) (hu : h.get? u = some (kxs_mw "ValueError.__init__" e)) (hrest : rest.length ≤ sizeLine)
    (hq : ∀ h' t1, (∀ b o, b ≠ e → h.get? b = some o → h'.get? b = some o) → h'.get? e = some (excO C t1) → Q .none ⟨h', g, d, t, os⟩) :
    wpAny (model prog w) A (call (.ref u) rest) Q E ⟨h, g, d, t, os⟩ := by
  refine wpAny_call (codeAny_of_tree ?_)
  show wpAny _ A.in1 (callAny (.ref u) ⟨rest, []⟩) _ _ _
  simp only [callAny]
  refine wpAny_bind (wpAny_load hu ?_)
  simp only [kxs_mw, show (Value.type "method-wrapper" == Value.type "method" || Value.type "method-wrapper" == Value.type "builtin_function_or_method" || Value.type "method-wrapper" == Value.type "method-wrapper") = true by decide, if_true]
  refine KFB.if_so (by decide) ?_
  refine wpAny_bind (check_bound_init PySem.F.excBase_ValueError.toExcCallFacts hC he rfl ?_)
  refine wpAny_bind (wpAny_pure (wpAny_pure ?_))
  refine ⟨plainId_quiet PySem.F.excBase_ValueError.init.plain _, codeAny_builtin PySem.F.excBase_ValueError.initEntry ?_⟩
  exact exc_init_tree (cls := .ref C) (t0 := t0) (dv := none) (c2 := .none) (c3 := .none) (b4 := .bool false) he hrest fun h' k e' _ => hq h' _ k e'
theorem str_size (v : Value) : [v].length ≤ sizeLine := by
  rw [sizeLine_eq]
  exact (by decide : 1 ≤ 16777216)
theorem run_init {x0 : Str} {fs : List Str} (T : ErrTxt prog K mg x0 C fI fs) (hfs : fs.length ≤ 100) {s : Shared} {x t0 : Addr} {vs : List Value} (hl : vs.length = fs.length) (X : K.In s.heap) (hlim : s.heap.NoLimit) (hg : s.heap.Ns mainGlobals mg)
    (hb : ∃ mb, s.heap.Ns builtinsNs mb ∧ ∀ y : Str, y ≠ "__name__" → mb y = bootBuiltins y) (hx : s.heap.get? x = some (excO C t0)) (hnx : K.lookup x = none) (hroom : A.depth < recursionLimit)
    (hq : ∀ h' tk t1 dv, (∀ b o, b ≠ x → s.heap.get? b = some o → h'.get? b = some o) → h'.get? x = some (excD C t1 dv) → DictOf x s.heap.objs.size h' (fs.zip vs).reverse dv → R (.ok (.ret .none)) { s with heap := h', toks := tk }) :
    codeAny (model prog w) A (.call (.ref fI) ⟨.ref x :: vs, []⟩) R s := by
  obtain ⟨oc, od, qual, params, scope, rest, doc, pm, an, cda, ct, cc, osl, txt, j, p0, p1, p2, p3, p4, p5, ar, ccl, cdd, cvs, ccs, file, tf, cl, cld, csl, lf, hcd, lcd, hvs, hfile, lcc, heq, htop, hhd, hself, hk, hco, hgen, hcell, hks, hkc, hks1, hkf, nd, hasg, hbind⟩ := T.fn
  obtain ⟨nm, q, N, bs, bm, sn, sub, ab, col, dd, k0, k1, k2, k3, k5, hC, hbm⟩ := T.cls
  have hcl : clsIn K C = some { name := nm, bases := bs, mro := .ref C :: bm, ns := N, qualname := q, hasDict := true, slotNames := sn, subclasses := sub, abstract := ab, collection := col, hasDel := false } := by unfold clsIn; rw [hC] <;> rfl
  have hxn : s.heap.objs.size ≠ x := Nat.ne_of_gt (Heap.lt_size hx)
  have hal := T.al
  unfold ks_superIn at hal
  rw [hcl] at hal
  refine ks_codeAny_call_defAt (binds := ((("self" : Str) :: fs)).zip (.ref x :: vs)) hroom (X _ _ lf) rfl hlim (codeRec_of X hcd) rfl (BindsTo.of_eq (hbind _ (by simp [hl]))) hcell (fun y hy => ?_) (fun h1 hn1 k1' => ?_) hco hgen hk
  · have := (List.of_mem_zip (show (y.1, y.2) ∈ _ from hy)).1
    rcases List.mem_cons.mp this with e | e
    · rw [e]; exact hks1
    · exact hkf _ e
  obtain ⟨hp, g, d, tk, os⟩ := s
  dsimp only at *
  have X1 : K.In h1 := X.keeps k1'
  have hx1 := k1' _ _ hx
  have mself : (fun y => (((("self" : Str) :: fs)).zip (.ref x :: vs)).reverse.lookup y) "self" = some (Value.ref x) := by
    refine lookup_rev ?_ (by simp [List.zip_cons_cons, List.lookup])
    rw [List.map_fst_zip (by simp [hl])]
    exact nd
  have mfs : ∀ p ∈ fs.zip vs, (fun y => (((("self" : Str) :: fs)).zip (.ref x :: vs)).reverse.lookup y) p.1 = some p.2 ∧ (ksEnv qual scope hp.objs.size fI (.ref cda) cc).kindOf p.1 = some .local ∧ findIn K (.ref C) p.1 = some none := by
    intro p hp'
    have hpf := (List.of_mem_zip (show (p.1, p.2) ∈ _ from hp')).1
    refine ⟨lookup_rev ?_ ?_, hkf _ hpf, T.no _ hpf⟩
    · rw [List.map_fst_zip (by simp [hl])]
      exact nd
    · have key : ∀ (m : List (Str × Value)), (m.map (·.1)).Nodup → p ∈ m → m.lookup p.1 = some p.2 := by
        intro m
        induction m with
        | nil => intro _ h; cases h
        | cons r m ih =>
          intro nd h
          obtain ⟨y, u⟩ := r
          rw [List.map_cons, List.nodup_cons] at nd
          rcases List.mem_cons.mp h with e | e
          · rw [e]; simp [List.lookup]
          · have hne : (p.1 == y) = false := by
              rw [beq_eq_false_iff_ne]
              rintro rfl
              exact nd.1 (List.mem_map_of_mem (f := (·.1)) e)
            simp [List.lookup, hne]
            exact ih nd.2 e
      refine key _ ?_ (by rw [List.zip_cons_cons]; exact List.mem_cons_of_mem _ hp')
      rw [List.map_fst_zip (by simp [hl])]
      exact nd
  generalize hm : (fun y => (((("self" : Str) :: fs)).zip (.ref x :: vs)).reverse.lookup y) = m at hn1 mself mfs
  have J : InstAt h1 x (excO C t0) C none := ⟨hx1, rfl, rfl, trivial⟩
  obtain ⟨oD, hD1, hD2⟩ : ∃ oD, h1.get? C = some oD ∧ ∃ cd, oD.data = .cls cd := ⟨_, X1 _ _ hC, _, rfl⟩
  obtain ⟨cdD, hD2⟩ := hD2
  obtain ⟨mb, hb1, hb2⟩ := hb
  have hint : interactive (callEnv (ksFn "__init__" qual params (.Expr (.Call (.Attribute (.Call (.Name "super" p0) [] [] p1) "__init__" p2) [.Constant (.str txt) j p3] [] p4) p5 :: rest) scope .none .none doc pm an (.ref cda) ct cc) hp.objs.size fI) = false := by
    show (scope.kind == .module && _) = false
    rw [hk]
    rfl
  -- super().__init__('..')
  refine ks_wpAt_execs_cons (ks_wpAt_Expr_any (ks_wpAt_MethodCall ?_ (heq _)) hint)
  refine ks_wpAt_super_base (env := ksEnv qual scope hp.objs.size fI (.ref cda) cc) hks hkc (by decide) rfl (X1 _ _ lf) rfl hhd rfl (X1 _ _ lcd) rfl hvs hfile htop ?_
  refine ks_loadName_global hk hks (loadGlobal_builtin (env := ksEnv qual scope hp.objs.size fI (.ref cda) cc) (hg.keeps k1') T.gS (hb1.keeps k1') ((hb2 _ (by decide)).trans (by decide +kernel : bootBuiltins "super" = some (.type "super"))) ⟨rfl, ?_⟩)
  refine wpAny_loadName_free hk hkc rfl ⟨_, X1 _ _ lcc, rfl⟩ ?_
  rw [hself]
  refine wpAny_loadName_local hk hks1 hn1 mself ?_
  refine ks_wpAny_isType_cls hD1 hD2 ⟨rfl, ?_⟩
  refine ks_wpAny_call_super hD1 hD2 J.at_ J.cls (fun c e => ?_) (looks_mroIn X1 T.slf) (fun h2 hso k2 => ?_)
  · cases e
  have X2 : K.In h2 := X1.keeps k2
  have hx2 := k2 _ _ hx1
  have J2 : InstAt h2 x (excO C t0) C none := ⟨hx2, rfl, rfl, trivial⟩
  refine kxs_getMethod (l₀ := Value.ref C :: bm) kxs_ValueError hso (looks_opaque X2 T.op) ?_ rfl X2 hal (J2.type.andThen (looks_subIn X2 T.veC)) (fun z => by rw [z, hC] at hnx; cases hnx) (by decide) ?_
  · exact fun A Q E s k q => wpAny_bind ((looks_clsIn X2 hcl) A _ E s k (wpAny_pure q))
  have hmw : (h2.push (kxs_mw "ValueError.__init__" x)).get? h2.objs.size = some (kxs_mw "ValueError.__init__" x) := Heap.get?_push_at rfl rfl
  have k3' : ∀ b o, h2.get? b = some o → (h2.push (kxs_mw "ValueError.__init__" x)).get? b = some o := fun b o e => Heap.get?_push_of_some _ e
  refine kxs_callWith (i := "ValueError.__init__") (x := x) (by rfl) ?_
  refine evalArgs_plain (spliced_cons (Constant_str (k := j) (pos := p3) (spliced_nil ?_)))
  refine ⟨hmw, ?_⟩
  refine call_mw (k3' _ _ (X2 _ _ hC)) (k3' _ _ hx2) hmw (str_size _) fun h4 t4 k4 hx4 => ?_
  have kA : ∀ b o, b ≠ x → h1.get? b = some o → h4.get? b = some o := fun b o hb e => k4 b o hb (k3' b o (k2 b o e))
  have X4 : K.In h4 := fun a o e => kA a o (fun z => by rw [z, hnx] at e; cases e) (X1 a o e)
  have hnL : h4.Ns hp.objs.size m := by
    obtain ⟨o, es, ep, ho, r⟩ := hn1
    exact ⟨o, es, ep, kA _ o hxn ho, r⟩
  have hs4 : hp.objs.size < h4.objs.size := by
    obtain ⟨o, es, ep, ho, r⟩ := hnL
    exact Heap.lt_size ho
  refine wpAt_of_wpAny ?_
  refine run_asgs (env := ksEnv qual scope hp.objs.size fI (.ref cda) cc) (n := hp.objs.size + 1) (fl := []) (dv := none) (s := ⟨h4, g, d, _, os⟩) hcl (show refsVE (.ref C :: bm) = true from hbm) rfl T.sa hnx hk hks1 mself hxn (Nat.lt_succ_self _) hasg hl mfs (by simp; omega) X4 hnL hx4 hs4 rfl (fun dx e => nomatch e) ?_
  intro h' tk' dv' k' hx' hd'
  refine hq h' tk' t4 dv' (fun b o hb e => k' b o hb (fun z => nomatch z) (kA b o hb (k1' b o e))) hx' ?_
  rw [List.append_nil] at hd'
  cases hz : (fs.zip vs).reverse with
  | nil =>
    rw [hz] at hd'
    exact hd'
  | cons p r =>
    rw [hz] at hd'
    obtain ⟨dx, e, dn, r⟩ := hd'
    exact ⟨dx, e, Nat.le_of_succ_le dn, r⟩
/-- what is made by C(..) -/
structure Made (h h' : Heap) (e C : Addr) (dv : Option Addr) (fl : List (Str × Value)) : Prop where
  keep : ∀ b o, h.get? b = some o → h'.get? b = some o
  new : h.objs.size ≤ e
  obj : ∃ t1, h'.get? e = some (excD C t1 dv)
  dct : DictOf e h.objs.size h' fl dv
theorem run_made {x0 : Str} {fs : List Str} (T : ErrTxt prog K mg x0 C fI fs) (hfs : fs.length ≤ 100) {s : Shared} {vs : List Value} (hl : vs.length = fs.length) (X : K.In s.heap) (hlim : s.heap.NoLimit) (hg : s.heap.Ns mainGlobals mg)
    (hb : ∃ mb, s.heap.Ns builtinsNs mb ∧ ∀ y : Str, y ≠ "__name__" → mb y = bootBuiltins y) (hroom : A.depth + 1 < recursionLimit)
    (hq : ∀ h' tk e dv, Made s.heap h' e C dv (fs.zip vs).reverse → R (.ok (.ret (.ref e))) { s with heap := h', toks := tk }) :
    codeAny (model prog w) A (.call (.ref C) ⟨vs, []⟩) R s := by
  obtain ⟨nm, q, N, bs, bm, sn, sub, ab, col, dd, k0, k1, k2, k3, k5, hC, hbm⟩ := T.cls
  obtain ⟨hp, g, dr, tk, os⟩ := s
  have k : ∀ b o, hp.get? b = some o → ((hp.push (kdv_tup vs)).push (excO C hp.objs.size)).get? b = some o := fun b o e => Heap.get?_push_of_some _ (Heap.get?_push_of_some _ e)
  have hget : ((hp.push (kdv_tup vs)).push (excO C hp.objs.size)).get? (hp.objs.size + 1) = some (excO C hp.objs.size) := by heap_get
  have hnx : K.lookup (hp.objs.size + 1) = none := by
    cases e : K.lookup (hp.objs.size + 1) with
    | none => rfl
    | some o =>
      have z : hp.get? (hp.objs.size + 1) = some o := X _ _ e
      exact absurd (Nat.lt_of_succ_lt (Heap.lt_size z)) (Nat.lt_irrefl _)
  obtain ⟨mb, hb1, hb2⟩ := hb
  have hvl : vs.length ≤ sizeLine := by rw [hl, sizeLine_eq]; omega
  refine call_own PySem.F.excBase_ValueError (fun X => refsVE_contains X bm hbm) (X _ _ hC) (looks_findIn X T.iC) (fun self => bind_fn X self T.tC) hvl ?_
  refine run_init (s := ⟨(hp.push (kdv_tup vs)).push (excO C hp.objs.size), g, dr, tk, os⟩) T hfs hl (X.keeps k) (hlim.keeps k) (hg.keeps k) ⟨mb, hb1.keeps k, hb2⟩ hget hnx ?_ fun h' tk' t1 dv k' hx hd => ?_
  · show A.depth + 1 < recursionLimit
    exact hroom
  · have old : ∀ b o, hp.get? b = some o → h'.get? b = some o := fun b o e => k' b o (Nat.ne_of_lt (Nat.lt_succ_of_lt (Heap.lt_size e))) (k b o e)
    refine ⟨rfl, hq h' tk' (hp.objs.size + 1) dv ⟨old, Nat.le_succ _, ⟨_, hx⟩, ?_⟩⟩
    cases hz : (fs.zip vs).reverse with
    | nil =>
      rw [hz] at hd
      exact hd
    | cons p r =>
      rw [hz] at hd
      obtain ⟨dx, e, dn, r⟩ := hd
      refine ⟨dx, e, Nat.le_trans ?_ dn, r⟩
      simp only [Heap.size_push]
      exact Nat.le_trans (Nat.le_succ _) (Nat.le_succ _)
end
end ErrX
end PySem
namespace L2
open PySem PySem.Spec PyProof.Rows
theorem relO_zip {vs : List V} {us : List Value} (r : Vals vs us) : ∀ (fs : List Str), fs.length = vs.length → ∀ f, RelO ((fs.zip vs).lookup f) ((fs.zip us).lookup f) := by
  induction r with
  | nil => intro fs h f; simp; trivial
  | cons rv rr ih =>
    intro fs h f
    cases fs with
    | nil => cases h
    | cons g fs =>
      rw [List.zip_cons_cons, List.zip_cons_cons, lookup_put, PySem.ErrX.lookup_ite]
      by_cases e : f = g
      · rw [if_pos e, if_pos e]; exact rv
      · rw [if_neg e, if_neg e]; exact ih fs (by simpa using h) f
theorem vals_reverse {vs : List V} {us : List Value} (r : Vals vs us) : Vals vs.reverse us.reverse := by
  induction r with
  | nil => exact .nil
  | cons rv rr ih =>
    rw [List.reverse_cons, List.reverse_cons]
    exact Vals.append ih (.cons rv .nil)
section
variable {X : Cx} {C fI : Addr}
/-- C(e, ..), an own error with the fields fs -/
def errQ (C : Addr) (fs : List Str) (vs : List V) (H1 : Hp) (Q : XK) : Prop :=
  match fs with
  | [] => Q (.ref C) none H1
  | f :: r => ∀ d, H1 d = none → Q (.ref C) (some d) (upd H1 d (.xd ((f :: r).reverse.zip vs.reverse)))
def tMkErr (C : Addr) (fs : List Str) (ta : TA) : St → Hp → XK → Prop := fun σ H Q => ta σ H fun vs H1 => vs.length = fs.length ∧ errQ C fs vs H1 Q
theorem mk_err_end {x0 : Str} {fs : List Str} {pins : List (Addr × Obj)} {σ : St} {H1 : Hp} {Q : XK} {s1 : Shared} {us : List Value} {vs : List V} (T : PySem.ErrX.ErrTxt X.prog X.K X.mg x0 C fI fs) (hfs : fs.length ≤ 100) {k : Nat} (hr : Room k X.A)
    (I1 : Inv X pins σ H1 s1) (r1 : Vals vs us) (hl : vs.length = fs.length) (q : errQ C fs vs H1 Q) :
    wpAny (model X.prog X.w) X.A (call (.ref C) us) (MkP X pins σ Q) X.xe s1 := by
  have hlim := I1.nolimit
  obtain ⟨mb, hb1, hb2⟩ := I1.mod.blt
  have hul : us.length = fs.length := by rw [← r1.length]; exact hl
  obtain ⟨hp, g, dr, tk, os⟩ := s1
  refine wpAny_call (PySem.ErrX.run_made (A := X.A) T hfs hul I1.kIn hlim (I1.mod.glob.keeps I1.bk) ⟨mb, hb1.keeps I1.bk, hb2⟩ (by have := hr.dp; omega) fun h' tk' e dv M => ?_)
  show MkP X pins σ Q (.ref e) ⟨h', g, dr, tk', os⟩
  obtain ⟨t1, hoe⟩ := M.obj
  have hzip : (fs.zip us).reverse = fs.reverse.zip us.reverse := by
    have hz := List.reverse_zipWith (f := Prod.mk) (l := fs) (l' := us) (by rw [hul])
    simpa [List.zip] using hz
  have hd := M.dct
  rw [hzip] at hd
  cases fs with
  | nil =>
    have e0 : dv = none := by simpa [PySem.ErrX.DictOf] using hd
    subst e0
    obtain ⟨G', g1, g2⟩ := restrict h' fun b => decide (b ≠ e)
    have gk : ∀ b, b ≠ e → G'.get? b = h'.get? b := fun b hb => g1 b (decide_eq_true hb)
    have ge : G'.get? e = none := g2 e (by simp)
    have old : ∀ b o, hp.get? b = some o → G'.get? b = some o := fun b o q => (gk b (Nat.ne_of_lt (Nat.lt_of_lt_of_le (Heap.lt_size q) M.new))).trans (M.keep b o q)
    have J : Inv X pins σ H1 ⟨G', g, dr, tk', os⟩ := I1.kept (t' := tk') old
    refine ⟨e, _, _, ⟨G', g, dr, tk', os⟩, _, .ref C, none, rfl, J, fun b o q => ?_, ge, hoe, ⟨rfl, rfl⟩, rfl, rfl, I1.hok.fresh M.new, rfl, I1.bare, raises_own T.exC T.tyC, q⟩
    by_cases hb : b = e
    · have q' : G'.get? b = some o := q
      rw [hb, ge] at q'; cases q'
    · exact (gk b hb).symm.trans q
  | cons f fs =>
    have hne : ∃ p r, (f :: fs).reverse.zip us.reverse = p :: r := by
      cases hz : (f :: fs).reverse.zip us.reverse with
      | nil =>
        have := congrArg List.length hz
        rw [List.length_zip, List.length_reverse, List.length_reverse, hul] at this
        simp at this
      | cons p r => exact ⟨p, r, rfl⟩
    obtain ⟨p, r, hne⟩ := hne
    rw [hne] at hd
    obtain ⟨d, e0, dn, dne, mA, hns, hmA⟩ := hd
    subst e0
    rw [← hne] at hmA
    obtain ⟨G', g1, g2⟩ := restrict h' fun b => decide (b ≠ e)
    have gk : ∀ b, b ≠ e → G'.get? b = h'.get? b := fun b hb => g1 b (decide_eq_true hb)
    have ge : G'.get? e = none := g2 e (by simp)
    have old : ∀ b o, hp.get? b = some o → G'.get? b = some o := fun b o q => (gk b (Nat.ne_of_lt (Nat.lt_of_lt_of_le (Heap.lt_size q) M.new))).trans (M.keep b o q)
    have ob : ObjOk X.prog X.w (upd H1 d (.xd ((f :: fs).reverse.zip vs.reverse))) G' d (.xd ((f :: fs).reverse.zip vs.reverse)) :=
      ⟨mA, hns.at (fun o q => (gk d dne).trans q), fun y => by rw [hmA y]; exact relO_zip (vals_reverse r1) _ (by rw [List.length_reverse, List.length_reverse, hl]) y⟩
    have J : Inv X pins σ (upd H1 d (.xd ((f :: fs).reverse.zip vs.reverse))) ⟨G', g, dr, tk', os⟩ := I1.laid (t' := tk') old dn ob
    refine ⟨e, _, _, ⟨G', g, dr, tk', os⟩, _, .ref C, some d, rfl, J, fun b o q => ?_, ge, hoe, ⟨rfl, rfl⟩, rfl, rfl, ?_, rfl, I1.bare, raises_own T.exC T.tyC, q d (I1.hok.fresh dn)⟩
    · by_cases hb : b = e
      · have q' : G'.get? b = some o := q
        rw [hb, ge] at q'; cases q'
      · exact (gk b hb).symm.trans q
    · rw [upd_ne (Ne.symm dne)]
      exact I1.hok.fresh M.new
theorem pmk_err {x0 : Str} {fs : List Str} {a : Expr} {es : List Expr} {ta : TA} {p pos : Pos} {k : Nat} (T : PySem.ErrX.ErrTxt X.prog X.K X.mg x0 C fI fs) (hfs : fs.length ≤ 100) (hr : Room k X.A) (ha : PA X (a :: es) ta) (hg : Gl X x0 := by rfl) (hdb : (x0 == ("__debug__" : Str)) = false := by decide)
    (he : starEach (a :: es) X.env = (false, eval a X.env) :: starEach es X.env := by rfl) (hpl : (backTo pos (starEach es X.env)).any (·.1) = false := by rfl) :
    PMk X (.Call (.Name x0 p) (a :: es) [] pos) (tMkErr C fs ta) := by
  intro pins s σ H Q I h
  refine wpAny_Call_Name_kw (ld_glob I hg T.gC ?_ hdb)
  refine PySem.W.callWith_K (h₀ := X.base) I.ok.mod.kin T.kC (thn (ha.run pos pins s σ H _ I h) fun us s1 hh => ?_) he hpl
  obtain ⟨vs, H1, I1, r1, hl, q⟩ := hh
  exact ⟨I1.kIn, mk_err_end T hfs hr I1 r1 hl q⟩
theorem pmk_err0 {x0 : Str} {p pos : Pos} {k : Nat} (T : PySem.ErrX.ErrTxt X.prog X.K X.mg x0 C fI []) (hr : Room k X.A) (hg : Gl X x0 := by rfl) (hdb : (x0 == ("__debug__" : Str)) = false := by decide) :
    PMk X (.Call (.Name x0 p) [] [] pos) (tMkErr C [] tNil) := by
  intro pins s σ H Q I h
  obtain ⟨hl, q⟩ := h
  refine wpAny_Call_Name_kw (ld_glob I hg T.gC ?_ hdb)
  exact PySem.W.callWith_K0 I.kIn T.kC (mk_err_end (us := []) (vs := []) T (Nat.zero_le _) hr I .nil rfl q)
end
end L2

set_option Elab.async false
set_option linter.all false
set_option maxRecDepth 100000
set_option maxHeartbeats 4000000
/-! Calls, makings and operators by defs of one's own, each as one rule. -/
namespace MyL
open PySem PySem.Spec PyProof.Rows L2
/-- a def of the module by its name -/
structure Cal (P : Program) (w : World) (K : PySem.W.Frag) (mg : Str → Option Value) (base : Heap) (k : Nat) (x : Str) (sp : Sp) : Prop where
  ex : ∃ (f : Addr) (fd : FuncData) (ps : List Str), mg x = some (.ref f) ∧ PySem.W.keepIn K (.ref f) = true ∧ Binds K fd ps [] ∧ FnOk P w K mg base (L2.CX P w) k f fd ps sp
/-- a class of the module by its name, made by its __init__ -/
structure Mak (P : Program) (w : World) (K : PySem.W.Frag) (mg : Str → Option Value) (base : Heap) (k : Nat) (x : Str) (C : Addr) (sp : Sp) : Prop where
  ex : ∃ (f : Addr) (fd : FuncData) (ps : List Str), mg x = some (.ref C) ∧ Mk K C f ∧ Binds K fd ps [] ∧ FnOk P w K mg base (L2.CX P w) k f fd ps sp
/-- a method of the class at C -/
structure Met (P : Program) (w : World) (K : PySem.W.Frag) (mg : Str → Option Value) (base : Heap) (k : Nat) (C : Addr) (m : Str) (sp : Sp) : Prop where
  ex : ∃ (f : Addr) (fd : FuncData) (ps : List Str), Cls K C ∧ Meth K C m f ∧ Binds K fd ps [] ∧ FnOk P w K mg base (L2.CX P w) k f fd ps sp
section
variable {P : Program} {w : World} {K : PySem.W.Frag} {mg : Str → Option Value} {base : Heap} {k : Nat} {x m : Str} {C : Addr} {sp : Sp}
theorem raw0 {CX : CXT} {f : Addr} {fd : FuncData} {ps : List Str} (F : FnOk P w K mg base CX k f fd ps sp) (hb : Binds K fd ps []) : FnR P w K mg base CX k f sp := by
  have h := F.raw hb (dvs := []) .nil
  intro A outer s H us vs Q E hr e0 r hs
  exact h A outer s H us vs Q E hr e0 r (by show sp (vs ++ []) H Q E; rw [List.append_nil]; exact hs)
end
section
variable {X : Cx} {W : WX} {pins : List (Addr × Obj)} {σ : L2.St} {H : Hp} {s : Shared} {k : Nat} {f C : Addr} {sp : Sp} {Q : VK} {us : List Value} {vs : List V}
/-- the callee runs below the running body, what it raises goes to W -/
theorem run_S {A : Around} (F : FnR X.prog X.w X.K X.mg X.base (L2.CX X.prog X.w) k f sp) (tk : Takes X W) (hr : Room k A) (e0 : Env0 X.prog X.w X.K X.mg X.base A X.stack s H) (I : Inv X pins σ H s) (r : Vals vs us) (h : sp vs H Q (WE W σ)) :
    codeAny (model X.prog X.w) A (.call (.ref f) ⟨us, []⟩) (fun r s' => match r with | .ok (.ret v) => EP X pins σ Q v s' | .ok _ => False | .error e => X.xe e s') s := by
  refine codeAny_mono (F A X.stack s H us vs Q (WE W σ) hr e0 r h) fun r s' hq => ?_
  match r, hq with
  | .error e, hq => exact passAt tk σ pins H s e s' I hq
  | .ok (.ret u), hq => exact I.after hq
  | .ok .next, hq => exact hq.elim
  | .ok .brk, hq => exact hq.elim
  | .ok .cont, hq => exact hq.elim
/-- C(..) with what __init__ raises going to W -/
theorem make_S {fd : FuncData} {ps : List Str} (M : Mk X.K C f) (F : FnOk X.prog X.w X.K X.mg X.base (L2.CX X.prog X.w) k f fd ps sp) (tk : Takes X W) (hr : Room (k + 1) X.A) (hb : Binds X.K fd ps []) (I : Inv X pins σ H s) (r : Vals vs us)
    (h : ∀ x dx, H x = none → H dx = none → dx ≠ x → sp (.ref x :: vs) (upd (upd H dx (.own x)) x (.ins C dx [])) (fun v H2 => v = .non ∧ Q (.ref x) H2) (WE W σ)) :
    wpAny (model X.prog X.w) X.A (call (.ref C) us) (EP X pins σ Q) X.xe s := by
  have hq := h (s.heap.objs.size + 1) s.heap.objs.size (I.hok.fresh (Nat.le_succ _)) (I.hok.fresh (Nat.le_refl _)) (Nat.ne_of_lt (Nat.lt_succ_self _))
  have I2 := Inv.made (C := C) I
  have r2 : Vals (V.ref (s.heap.objs.size + 1) :: vs) (Value.ref (s.heap.objs.size + 1) :: us) := .cons rfl r
  have hl : (Value.ref (s.heap.objs.size + 1) :: us ++ []).length = ps.length := by
    rw [List.append_nil, ← r2.length]; exact F.len _ _ _ _ hq
  have hbd := hb _ (Value.ref (s.heap.objs.size + 1) :: us) I2.kIn hl
  rw [List.append_nil] at hbd
  refine wpAny_call (make_map (f := f) I.kIn M.makes M.init (beq_iff_eq.mp M.fn) (codeAny_mono (F.run _ X.stack _ _ ⟨Value.ref (s.heap.objs.size + 1) :: us, []⟩ _ _ _ (WE W σ) (hr.make C us [])
    (I2.env0.make C us []) hbd r2 hq) fun r s' hq' => ?_))
  match r, hq' with
  | .error e, hq' => exact passAt tk σ pins _ _ e s' I2 hq'
  | .ok (.ret u), hq' =>
    obtain ⟨v, H', I3, rv, ev, q3⟩ := I2.after hq'
    subst ev
    exact ⟨rv, ⟨V.ref (s.heap.objs.size + 1), H', I3, rfl, q3⟩⟩
  | .ok .next, hq' => exact hq'.elim
  | .ok .brk, hq' => exact hq'.elim
  | .ok .cont, hq' => exact hq'.elim
end
/-! ### the rules -/
def tMakeS (C : Addr) (sp : Sp) (W : WX) (t : TA) : TE := fun σ H Q => t σ H fun vs H1 => ∀ x dx, H1 x = none → H1 dx = none → dx ≠ x → sp (.ref x :: vs) (upd (upd H1 dx (.own x)) x (.ins C dx [])) (fun v H2 => v = .non ∧ Q (.ref x) H2) (WE W σ)
def tMethS (C : Addr) (m : Str) (sp : Sp) (W : WX) (ta : TE) (t : TA) : TE := fun σ H Q => ta σ H fun x H1 => ∃ a dx fs, x = .ref a ∧ H1 a = some (.ins C dx fs) ∧ fs.lookup m = none ∧ t σ H1 fun vs H2 => sp (.ref a :: vs) H2 Q (WE W σ)
section
variable {X : Cx} {W : WX} {k j : Nat} {C : Addr} {sp : Sp} {x m : Str} {p pos apos : Pos} {e o : Expr} {es : List Expr} {ta : TE} {t : TA}
theorem c_call (c : Cal X.prog X.w X.K X.mg X.base k x sp) (tk : Takes X W) (hr : Room j X.A) (hk : k ≤ j) (ha : PA X (e :: es) t) (hg : Gl X x := by rfl)
    (hdb : (x == ("__debug__" : Str)) = false := by decide) (he : starEach (e :: es) X.env = (false, eval e X.env) :: starEach es X.env := by rfl) (hpl : (backTo pos (starEach es X.env)).any (·.1) = false := by rfl) :
    PE X (.Call (.Name x p) (e :: es) [] pos) (tCallS sp (WE W) t) := by
  obtain ⟨f, fd, ps, hm, kp, b, F⟩ := c.ex
  exact pe_callS F (hr.mono hk) hg hm kp b (fun σ => passAt tk σ) ha hdb he hpl
theorem c_call0 (c : Cal X.prog X.w X.K X.mg X.base k x sp) (tk : Takes X W) (hr : Room j X.A) (hk : k ≤ j) (hg : Gl X x := by rfl)
    (hdb : (x == ("__debug__" : Str)) = false := by decide) : PE X (.Call (.Name x p) [] [] pos) (tCallS sp (WE W) tNil) := by
  obtain ⟨f, fd, ps, hm, kp, b, F⟩ := c.ex
  refine ⟨fun pins s σ H Q I h => ?_⟩
  exact wpAny_Call_Name_kw (ld_glob I hg hm (PySem.W.callWith_K0 I.kIn kp (run_fnS (E := WE W) (us := []) F (hr.mono hk) b (passAt tk σ) I .nil h)) hdb)
theorem c_make (c : Mak X.prog X.w X.K X.mg X.base k x C sp) (tk : Takes X W) (hr : Room j X.A) (hk : k + 1 ≤ j) (ha : PA X (e :: es) t) (hg : Gl X x := by rfl)
    (hdb : (x == ("__debug__" : Str)) = false := by decide) (he : starEach (e :: es) X.env = (false, eval e X.env) :: starEach es X.env := by rfl) (hpl : (backTo pos (starEach es X.env)).any (·.1) = false := by rfl) :
    PE X (.Call (.Name x p) (e :: es) [] pos) (tMakeS C sp W t) := by
  obtain ⟨f, fd, ps, hm, M, b, F⟩ := c.ex
  refine ⟨fun pins s σ H Q I h => ?_⟩
  refine wpAny_Call_Name_kw (ld_glob I hg hm ?_ hdb)
  refine PySem.W.callWith_K (h₀ := X.base) I.ok.mod.kin M.kp (thn (ha.run pos pins s σ H _ I h) fun us s1 hh => ?_) he hpl
  obtain ⟨vs, H1, I1, r, q⟩ := hh
  exact ⟨I1.kIn, make_S M F tk (hr.mono hk) b I1 r q⟩
theorem c_meth {pl : Sem Bool} (c : Met X.prog X.w X.K X.mg X.base k C m sp) (tk : Takes X W) (hr : Room j X.A) (hk : k ≤ j) (ho : PE X o ta) (ha : PA X (e :: es) t)
    (hst : starEach (e :: es) X.env = (false, eval e X.env) :: starEach es X.env := by rfl) (hpl : (backTo pos (starEach es X.env)).any (·.1) = false := by rfl)
    (ht : eval (.Call (.Attribute o m apos) (e :: es) [] pos) X.env = (do
      let ov ← eval o X.env
      standAt apos.atName
      let (f, first) ← holding [ov] (getMethod ov m pl)
      callWith pos f first (backTo pos (starEach (e :: es) X.env)) (backToKw pos (keywordEach [] X.env))) := by rfl) :
    PE X (.Call (.Attribute o m apos) (e :: es) [] pos) (tMethS C m sp W ta t) := by
  obtain ⟨f, fd, ps, cl, hm, b, F⟩ := c.ex
  refine ⟨fun pins s σ H Q I h => ?_⟩
  refine PySem.W.methodCall_KW (pl := pl) (thn (ho.run pins s σ H _ I h) fun u s1 hh => ?_) ht
  obtain ⟨x, H1, I1, rx, a, dx, fs, ex, ea, l, q⟩ := hh
  subst ex
  obtain rfl : u = Value.ref a := rx
  refine getmeth_ok I1 ea cl hm l ?_
  refine PySem.W.callWith_K (first := [.ref a]) (h₀ := X.base) I.ok.mod.kin hm.kp (thn (ha.run pos pins s1 σ H1 _ I1 q) fun us s2 hh => ?_) hst hpl
  obtain ⟨vs, H2, I2, r, q2⟩ := hh
  exact ⟨I2.kIn, run_fnS (E := WE W) (us := .ref a :: us) (vs := .ref a :: vs) F (hr.mono hk) b (passAt tk σ) I2 (.cons rfl r) q2⟩
theorem c_meth0 {pl : Sem Bool} (c : Met X.prog X.w X.K X.mg X.base k C m sp) (tk : Takes X W) (hr : Room j X.A) (hk : k ≤ j) (ho : PE X o ta)
    (ht : eval (.Call (.Attribute o m apos) [] [] pos) X.env = (do
      let ov ← eval o X.env
      standAt apos.atName
      let (f, first) ← holding [ov] (getMethod ov m pl)
      callWith pos f first (backTo pos (starEach [] X.env)) (backToKw pos (keywordEach [] X.env))) := by rfl) :
    PE X (.Call (.Attribute o m apos) [] [] pos) (tMethS C m sp W ta tNil) := by
  obtain ⟨f, fd, ps, cl, hm, b, F⟩ := c.ex
  refine ⟨fun pins s σ H Q I h => ?_⟩
  refine PySem.W.methodCall_KW (pl := pl) (thn (ho.run pins s σ H _ I h) fun u s1 hh => ?_) ht
  obtain ⟨x, H1, I1, rx, a, dx, fs, ex, ea, l, q⟩ := hh
  subst ex
  obtain rfl : u = Value.ref a := rx
  refine getmeth_ok I1 ea cl hm l ?_
  exact PySem.W.callWith_K0 (first := [.ref a]) I1.kIn hm.kp (run_fnS (E := WE W) (us := [.ref a]) (vs := [.ref a]) F (hr.mono hk) b (passAt tk σ) I1 (.cons rfl .nil) q)
end
/-! ### operators by own methods -/
/-- the class at C has the def for the special name at f -/
structure Spc (P : Program) (w : World) (K : PySem.W.Frag) (mg : Str → Option Value) (base : Heap) (k : Nat) (C : Addr) (m : Str) (sp : Sp) : Prop where
  ex : ∃ f : Addr, PySem.W.findIn K (.ref C) m = some (some (.ref f)) ∧ PySem.W.isFn K (.ref f) = true ∧ FnR P w K mg base (L2.CX P w) k f sp
/-- a + n and the like, n a whole number -/
structure NumC (K : PySem.W.Frag) (C : Addr) (op : Operator) : Prop where
  sf : PySem.W.selfFirst K C = true
  r : PySem.W.findIn K (.ref C) (dunderR op.info.2) = some none
  it : PySem.W.subIn K (.type "int") (.ref C) = some false
  i1 : ∃ fo, PySem.W.findIn K (.type "int") (PySem.dunder op.info.2) = some fo
  i2 : ∃ ro, PySem.W.findIn K (.type "int") (dunderR op.info.2) = some ro
def tOwnN (C : Addr) (sp : Sp) (W : WX) (ta tb : TE) : TE := fun σ H Q => ta σ H fun x H1 => tb σ H1 fun y H2 => ∃ a dx fs j, x = .ref a ∧ y = .int j ∧ H2 a = some (.ins C dx fs) ∧ sp [.ref a, .int j] H2 Q (WE W σ)
def tOwnO (C : Addr) (sp : Sp) (W : WX) (ta tb : TE) : TE := fun σ H Q => ta σ H fun x H1 => tb σ H1 fun y H2 => ∃ a dx fs b dy gs, x = .ref a ∧ y = .ref b ∧ H2 a = some (.ins C dx fs) ∧ H2 b = some (.ins C dy gs) ∧ sp [.ref a, .ref b] H2 Q (WE W σ)
def rOwnEq (C : Addr) (sp : Sp) : R2 := fun x y H Q => ∃ a dx fs b dy gs, x = .ref a ∧ y = .ref b ∧ H a = some (.ins C dx fs) ∧ H b = some (.ins C dy gs) ∧ sp [.ref a, .ref b] H (fun v H' => ∃ c, v = .bl c ∧ Q v H') (fun _ _ _ => False)
def rOwnIn (C : Addr) (sp : Sp) : R2 := fun y x H Q => ∃ a dx fs, x = .ref a ∧ H a = some (.ins C dx fs) ∧ sp [.ref a, y] H (fun v H' => ∃ c, v = .bl c ∧ Q v H') (fun _ _ _ => False)
def rOwnU (C : Addr) (sp : Sp) : V → Hp → VK → Prop := fun x H Q => ∃ a dx fs, x = .ref a ∧ H a = some (.ins C dx fs) ∧ sp [.ref a] H Q (fun _ _ _ => False)
def rOwnStr (C : Addr) (sp : Sp) : List V → Hp → VK → Prop := fun xs H Q => ∃ a dx fs, xs = [.ref a] ∧ H a = some (.ins C dx fs) ∧ sp [.ref a] H (fun v H' => ∃ z, v = .str z ∧ Q v H') (fun _ _ _ => False)
section
variable {X : Cx} {W : WX} {k j : Nat} {C : Addr} {sp : Sp} {a b : Expr} {ta tb : TE} {pos : Pos}
theorem c_opN {op : Operator} (c : Spc X.prog X.w X.K X.mg X.base k C (PySem.dunder op.info.2) sp) (n : NumC X.K C op) (tk : Takes X W) (hr : Room j X.A) (hk : k ≤ j) (ha : PE X a ta) (hb : PE X b tb) : PE X (.BinOp a op b pos) (tOwnN C sp W ta tb) := by
  obtain ⟨f, hs, hf, F⟩ := c.ex
  obtain ⟨fo, h1⟩ := n.i1
  obtain ⟨ro, h2⟩ := n.i2
  refine ⟨fun pins s σ H Q I h => wpAny_BinOp (binT ha hb I h fun v u s2 x y H2 I2 rx ry q => ?_)⟩
  obtain ⟨p, dx, fs, i, rfl, rfl, hp, hsp⟩ := q
  obtain rfl : v = Value.ref p := rx
  obtain ⟨t, rfl⟩ := ry
  obtain ⟨mA, J, _⟩ := ins_get I2.hok hp
  obtain ⟨od, J, _⟩ := J.look
  obtain ⟨m, hF⟩ := I2.fr
  refine PySem.W.ksp_binT (T := "int") (rc := none) hF I2.ok.mod.kin J rfl n.sf hs hf n.r (.inl rfl) h1 h2 n.it ?_
  refine wpAny_mono (wpAny_call (run_S (us := [.ref p, .int i t]) (vs := [.ref p, .int i]) F tk (hr.mono hk) I2.env0 I2 (.cons rfl (.cons ⟨t, rfl⟩ .nil)) hsp)) (fun w s' z => ?_) fun _ _ x => x
  obtain ⟨z', H', I', rz, qz⟩ := z
  exact SlX.cmpback rz ⟨z', H', I', rz, qz⟩
theorem c_opO {op : Operator} (c : Spc X.prog X.w X.K X.mg X.base k C (PySem.dunder op.info.2) sp) (sf : PySem.W.selfFirst X.K C = true) (tk : Takes X W) (hr : Room j X.A) (hk : k ≤ j) (ha : PE X a ta) (hb : PE X b tb) : PE X (.BinOp a op b pos) (tOwnO C sp W ta tb) := by
  obtain ⟨f, hs, hf, F⟩ := c.ex
  refine ⟨fun pins s σ H Q I h => wpAny_BinOp (binT ha hb I h fun v u s2 x y H2 I2 rx ry q => ?_)⟩
  obtain ⟨p, dx, fs, p2, dy, gs, rfl, rfl, hp, hp2, hsp⟩ := q
  obtain rfl : v = Value.ref p := rx
  obtain rfl : u = Value.ref p2 := ry
  obtain ⟨mA, J, _⟩ := ins_get I2.hok hp
  obtain ⟨od, J, _⟩ := J.look
  obtain ⟨mB, J', _⟩ := ins_get I2.hok hp2
  obtain ⟨od', J', _⟩ := J'.look
  obtain ⟨m, hF⟩ := I2.fr
  refine PySem.W.binop_K hF I2.ok.mod.kin J J'.type sf hs hf ?_
  refine wpAny_mono (wpAny_call (run_S (us := [.ref p, .ref p2]) (vs := [.ref p, .ref p2]) F tk (hr.mono hk) I2.env0 I2 (.cons rfl (.cons rfl .nil)) hsp)) (fun w s' z => ?_) fun _ _ x => x
  obtain ⟨z', H', I', rz, qz⟩ := z
  exact SlX.cmpback rz ⟨z', H', I', rz, qz⟩
theorem c_eq (c : Spc X.prog X.w X.K X.mg X.base k C "__eq__" sp) (hr : Room j X.A) (hk : k ≤ j) : OpR X (compareOp .Eq) (rOwnEq C sp) := by
  intro pins s σ H x y v u Q I rx ry h
  obtain ⟨f, hs, hf, F⟩ := c.ex
  obtain ⟨p, dx, fs, p2, dy, gs, rfl, rfl, hp, hp2, hsp⟩ := h
  obtain rfl : v = Value.ref p := rx
  obtain rfl : u = Value.ref p2 := ry
  obtain ⟨mA, J, _⟩ := ins_get I.hok hp
  obtain ⟨od, J, _⟩ := J.look
  obtain ⟨mB, J', _⟩ := ins_get I.hok hp2
  obtain ⟨od', J', _⟩ := J'.look
  obtain ⟨m, hF⟩ := I.fr
  show wpAny _ _ (richCompare .Eq (.ref p) (.ref p2)) _ _ _
  refine PySem.W.cmp_K (op := .Eq) (tb := .ref C) hr.units0 hF I.ok.mod.kin J J'.type (by simp [PySem.W.notFirst]) hs hf ?_
  refine wpAny_mono (wpAny_call (run_S (W := fun _ _ _ _ => False) (us := [.ref p, .ref p2]) (vs := [.ref p, .ref p2]) F takes0 (hr.mono hk) I.env0 I (.cons rfl (.cons rfl .nil)) hsp)) (fun w s' z => ?_) fun _ _ x => x
  obtain ⟨z', H', I', rz, c, ec, qz⟩ := z
  exact SlX.cmpback rz ⟨z', H', I', rz, qz⟩
theorem c_in (c : Spc X.prog X.w X.K X.mg X.base k C "__contains__" sp) (hr : Room j X.A) (hk : k ≤ j) : OpR X (compareOp .In) (rOwnIn C sp) := by
  intro pins s σ H y x u v Q I ry rx h
  obtain ⟨f, hs, hf, F⟩ := c.ex
  obtain ⟨p, dx, fs, rfl, hp, hsp⟩ := h
  obtain rfl : v = Value.ref p := rx
  obtain ⟨mA, J, _⟩ := ins_get I.hok hp
  obtain ⟨od, J, _⟩ := J.look
  obtain ⟨m, hF⟩ := I.fr
  refine PySem.W.in_K hF I.ok.mod.kin J hs hf ?_
  refine wpAny_mono (wpAny_call (run_S (W := fun _ _ _ _ => False) (us := [.ref p, u]) (vs := [.ref p, y]) F takes0 (hr.mono hk) I.env0 I (.cons rfl (.cons ry .nil)) hsp)) (fun w s' z => ?_) fun _ _ x => x
  obtain ⟨z', H', I', rz, c, ec, qz⟩ := z
  subst ec
  obtain rfl : w = Value.bool c := rz
  exact wpAny_truthy_bool ⟨.bl c, H', I', rfl, qz⟩
theorem c_neg (c : Spc X.prog X.w X.K X.mg X.base k C "__neg__" sp) (hr : Room j X.A) (hk : k ≤ j) : UnR X (unaryOp .USub) (rOwnU C sp) := by
  intro pins s σ H x v Q I rx h
  obtain ⟨f, hs, hf, F⟩ := c.ex
  obtain ⟨p, dx, fs, rfl, hp, hsp⟩ := h
  obtain rfl : v = Value.ref p := rx
  obtain ⟨mA, J, _⟩ := ins_get I.hok hp
  obtain ⟨od, J, _⟩ := J.look
  obtain ⟨m, hF⟩ := I.fr
  exact PySem.W.ksp_neg hF I.ok.mod.kin J hs hf (wpAny_call (run_S (W := fun _ _ _ _ => False) (us := [.ref p]) (vs := [.ref p]) F takes0 (hr.mono hk) I.env0 I (.cons rfl .nil) hsp))
theorem c_str (c : Spc X.prog X.w X.K X.mg X.base k C "__str__" sp) (hr : Room j X.A) (hk : k + 2 ≤ j) : CallR X (.type "str") (rOwnStr C sp) := by
  intro pins s σ H xs us Q I r h
  obtain ⟨f, hs, hf, F⟩ := c.ex
  obtain ⟨p, dx, fs, rfl, hp, hsp⟩ := h
  obtain ⟨u, rfl, ru⟩ := r.one
  obtain rfl : u = Value.ref p := ru
  obtain ⟨mA, J, _⟩ := ins_get I.hok hp
  obtain ⟨od, J, _⟩ := J.look
  have hr2 : Room k X.A.in1.in1 := (show Room (k + 1) X.A.in1 from Room.in1 (hr.mono hk)).in1
  refine PySem.W.kso_call hr2.units0 I.kIn J hs hf ?_
  refine wpAny_mono (wpAny_call (run_S (W := fun _ _ _ _ => False) (us := [.ref p]) (vs := [.ref p]) F takes0 hr2 I.env0.in1.in1 I (.cons rfl .nil) hsp)) (fun w s' z => ?_) fun _ _ x => x
  obtain ⟨z', H', I', rz, y, ey, qz⟩ := z
  subst ey
  obtain ⟨t, rfl⟩ := rz
  exact ⟨.str y, H', I', ⟨t, rfl⟩, qz⟩
end
end MyL

set_option Elab.async false
set_option linter.all false
set_option maxRecDepth 100000
set_option maxHeartbeats 4000000
/-! Defs that raise nothing and run whatever is handled; isinstance of a caught error. -/
namespace MyL
open PySem PySem.Spec PyProof.Rows L2
/-- a def that lets nothing out, wherever it is called -/
def FnQ (P : Program) (w : World) (K : PySem.W.Frag) (mg : Str → Option Value) (base : Heap) (k : Nat) (f : Addr) (sp : Sp) : Prop :=
  ∀ (A : Around) (outer : List Env) (s : Shared) (H : Hp) (us : List Value) (vs : List V) (Q : VK), L2H.RoomH k A → Env0 P w K mg base A outer s H → Vals vs us → sp vs H Q (fun _ _ _ => False) →
    codeAny (model P w) A (.call (.ref f) ⟨us, []⟩) (CR (fun _ _ _ _ _ _ => False) outer P w H s Q (fun _ _ _ => False)) s
structure CalQ (P : Program) (w : World) (K : PySem.W.Frag) (mg : Str → Option Value) (base : Heap) (k : Nat) (x : Str) (sp : Sp) : Prop where
  ex : ∃ f : Addr, mg x = some (.ref f) ∧ PySem.W.keepIn K (.ref f) = true ∧ FnQ P w K mg base k f sp
def cxQ (P : Program) (w : World) (K : PySem.W.Frag) (mg : Str → Option Value) (base : Heap) (N : List Str) (qual : Str) (scope : Scope) (f : Addr) (cd : Value) (A : Around) (outer : List Env) (s : Shared) (H : Hp) : Cx :=
  { cxOf (fun _ _ _ _ _ _ => False) P w K mg base N qual scope f cd A outer s H (fun _ _ _ => False) with calm := false, xe := fun _ _ => False }
theorem inv_startQ {P : Program} {w : World} {K : PySem.W.Frag} {mg : Str → Option Value} {base : Heap} {N ps : List Str} {qual : Str} {scope : Scope} {f : Addr} {cd : Value} {A : Around} {outer : List Env} {s s1 : Shared} {H : Hp} {us : List Value} {vs : List V}
    (S : FnScope N ps scope) (e0 : Env0 P w K mg base A outer s H) (hl : vs.length = ps.length) (r : Vals vs us)
    (x : InCallC s s.heap.objs.size (bindL (envOfC qual scope s.heap.objs.size f cd).kindOf (ps.zip us) fun _ => none) (cellsFrom (s.heap.objs.size + 1) scope.names []) (bindC (envOfC qual scope s.heap.objs.size f cd).kindOf (ps.zip us) fun _ => none) s1) :
    Inv (cxQ P w K mg base N qual scope f cd A outer s H) [] (start N vs) H s1 := by
  have I := inv_start (CX := fun _ _ _ _ _ _ => False) (E := fun _ _ _ => False) (A := { A with handled := none }) (N := N) S rfl ⟨e0.frames, e0.mod, e0.bs, e0.bsz, e0.funs, e0.frf, e0.hok, e0.bare⟩ hl r x
  exact ⟨⟨I.ok.mod, I.ok.kind, I.ok.glob, I.ok.blt, I.ok.above, I.ok.inj, I.ok.has, I.ok.cab, fun z => Bool.noConfusion (show false = true from z), Around.frames_deeper e0.frames, I.ok.stk, I.ok.exf, I.ok.bs, I.ok.bsz, I.ok.noex, I.ok.exfs, I.ok.funs, I.ok.frf⟩,
    I.os, I.bare, I.base, I.loc, I.cell, I.free, I.freeC, I.pin, I.hok, I.len⟩
section
variable {P : Program} {w : World} {K : PySem.W.Frag} {mg : Str → Option Value} {base : Heap}
theorem Fun.okQ {x qual : Str} {st : Stmt} {f : Addr} {fd : FuncData} {N ps : List Str} {k : Nat} {sp : Sp} (F : L2.Fun K x qual st f fd) (S : FnScope N ps (defScope st)) (hb : Binds K fd ps []) (len : ∀ vs H Q E, sp vs H Q E → vs.length = ps.length)
    (hbody : ∀ (cdv : Value) (A : Around) (outer : List Env) (s : Shared) (H : Hp) (vs : List V) (Q : VK), L2H.RoomH k (A.deeper (envOfC qual (defScope st) s.heap.objs.size f cdv)) → sp vs H Q (fun _ _ _ => False) →
      ∃ t, PSs (cxQ P w K mg base N qual (defScope st) f cdv A outer s H) (defBody st) t ∧ t { nx := fun _ H' => Q .non H', rt := Q } (start N vs) H) : FnQ P w K mg base (k + 1) f sp := by
  obtain ⟨oc, od, kV, doc, pm, an, cdv, ct, osl, rfl, lk, hcd⟩ := F.ex
  intro A outer s H us vs Q hr e0 r hsp
  have hl := len _ _ _ _ hsp
  have KX : K.In s.heap := e0.mod.kin.keeps fun b o e => (e0.bs b o e).1
  have lim : s.heap.NoLimit := e0.mod.nolimit.keeps fun b o e => (e0.bs b o e).1
  have hb' := hb s us KX (by rw [List.append_nil, ← r.length]; exact hl)
  rw [List.append_nil] at hb'
  refine codeAny_call_function hr.depth (KX _ _ lk) rfl S.co S.gen rfl (PySem.W.codeRec_of KX hcd) (hb' _ _ _ _ ?_)
  refine wpAny_newFunctionEnv_cells S.kind (fun y hy => ?_) fun env he s1 x => ?_
  · rcases S.par y.1 (List.of_mem_zip (show (y.1, y.2) ∈ _ from hy)).1 with q | q
    · exact .inl q
    · exact .inr ⟨q, PySem.W.cellsFrom_some _ _ _ (.inl q)⟩
  subst he
  refine ⟨lim.keeps x.toInCall.keep, codeAny_func ?_⟩
  obtain ⟨t, ht, hq⟩ := hbody cdv A outer s H vs Q (hr.deeper _) hsp
  have I : Inv (cxQ P w K mg base N qual (defScope st) f cdv A outer s H) [] (start N vs) H s1 := inv_startQ S e0 hl r x
  refine wpAny_mono (ht.run [] s1 (start N vs) H _ I hq) (fun fl s' hs => ?_) fun e s' hs => (show False from hs).elim
  match fl, hs with
  | .ret u, hs =>
    obtain ⟨v, σ', H', J, rv, q⟩ := hs
    exact ⟨v, H', J.os, J.bare, J.base, J.hok, rv, q⟩
  | .next, hs =>
    obtain ⟨σ', H', J, q⟩ := hs
    exact ⟨.non, H', J.os, J.bare, J.base, J.hok, rfl, q⟩
  | .brk, hs =>
    obtain ⟨_, _, _, q⟩ := hs
    exact q.elim
  | .cont, hs =>
    obtain ⟨_, _, _, q⟩ := hs
    exact q.elim
end
theorem roomQ {j : Nat} {A : Around} (r : Room j A) (h : Option Value) : L2H.RoomH j (A.mark h) := ⟨r.dp, r.un⟩
section
variable {X : Cx} {k j : Nat} {sp : Sp} {x : Str} {p pos : Pos} {e : Expr} {es : List Expr} {t : TA}
theorem q_call (c : CalQ X.prog X.w X.K X.mg X.base k x sp) (hr : L2H.RoomH j X.A) (hk : k ≤ j) (ha : PA X (e :: es) t) (hg : Gl X x := by rfl)
    (hdb : (x == ("__debug__" : Str)) = false := by decide) (he : starEach (e :: es) X.env = (false, eval e X.env) :: starEach es X.env := by rfl) (hpl : (backTo pos (starEach es X.env)).any (·.1) = false := by rfl) :
    PE X (.Call (.Name x p) (e :: es) [] pos) (tCallS sp (fun _ _ _ _ => False) t) := by
  obtain ⟨f, hm, kp, F⟩ := c.ex
  refine ⟨fun pins s σ H Q I h => ?_⟩
  refine wpAny_Call_Name_kw (ld_glob I hg hm ?_ hdb)
  refine PySem.W.callWith_K (h₀ := X.base) I.ok.mod.kin kp (thn (ha.run pos pins s σ H _ I h) fun us s1 hh => ?_) he hpl
  obtain ⟨vs, H1, I1, r, q⟩ := hh
  refine ⟨I1.kIn, wpAny_call (codeAny_mono (F X.A X.stack s1 H1 us vs Q (hr.mono hk) I1.env0 r q) fun r s' hq => ?_)⟩
  match r, hq with
  | .error e, hq => exact (show False from hq).elim
  | .ok (.ret u), hq => exact I1.after hq
  | .ok .next, hq => exact hq.elim
  | .ok .brk, hq => exact hq.elim
  | .ok .cont, hq => exact hq.elim
end
/-! ### isinstance of the caught error -/
structure ExcK (K : PySem.W.Frag) (D : Addr) : Prop where
  cl : (PySem.W.clsIn K D).isSome = true
  ga : PySem.W.findIn K (.ref D) "__getattribute__" = some (some (.builtin "BaseException.__getattribute__"))
  gg : PySem.W.findIn K (.ref D) "__getattr__" = some none
  sb : PySem.W.subIn K (.ref D) (.type "BaseException") = some true
  ca : PySem.W.findIn K (.ref D) "__class__" = some (some (.builtin "object.__class__"))
  cn : PySem.W.specialIn K (.builtin "object.__class__") "__get__" = some (some (.builtin "getset_descriptor.__get__"))
  ct : PySem.W.takesIn K (.builtin "object.__class__") = some true
  cm : PySem.W.mroIn K D (.type "object") = some true
def DOk (H : Hp) : Option Addr → Prop
  | none => True
  | some dd => ∃ fs, H dd = some (.xd fs)
def rIsX (K : PySem.W.Frag) (cls : Value) (d : Option Addr) (a : Addr) : List V → Hp → VK → Prop := fun xs H Q => ∃ (D : Addr) (c : V) (cv : Value) (b : Bool), cls = .ref D ∧ ExcK K D ∧ DOk H d ∧ xs = [.ref a, c] ∧ ClsV c cv ∧ PySem.W.kitOne K (.ref D) cv = some b ∧ Q (.bl b) H
def rIsXT (K : PySem.W.Frag) (cls : Value) (d : Option Addr) (a : Addr) : List V → Hp → VK → Prop := fun xs H Q => ∃ (D tp : Addr) (cs : List V) (us : List Value) (b : Bool), cls = .ref D ∧ ExcK K D ∧ DOk H d ∧ xs = [.ref a, .ref tp] ∧ H tp = some (.tup cs) ∧ Paired ClsV cs us ∧ PySem.W.kitAny K (.ref D) us = some b ∧ Q (.bl b) H
section
variable {X : Cx} {a D : Addr} {oe : Obj} {cls : Value} {d : Option Addr} {pn pins : List (Addr × Obj)} {σ : L2.St} {H : Hp} {s : Shared}
theorem exc_inst (hz : Zc (.ref D) d oe) (hf : ∃ vs, oe.data = .fields vs) (hd : DOk H d) (I : Inv (X.suite a ((a, oe) :: pn)) pins σ H s) : ∃ od, PySem.W.InstAt s.heap a oe D od := by
  obtain ⟨hget, _⟩ := I.pin (a, oe) (List.mem_append_left _ List.mem_cons_self)
  obtain ⟨vs, hv⟩ := hf
  have hnc : PySem.W.notCls oe = true := by
    unfold PySem.W.notCls
    rw [hv]
  cases d with
  | none =>
    refine ⟨none, hget, hz.1, hnc, ?_⟩
    rw [hz.2]
    trivial
  | some dd =>
    obtain ⟨fs, hx⟩ := hd
    have hx : ObjOk X.prog X.w H s.heap dd (.xd fs) := I.hok dd _ hx
    obtain ⟨mA, hns, _⟩ := hx
    obtain ⟨od, ho, _⟩ := lookIn_ns hns
    refine ⟨some od, hget, hz.1, hnc, ?_⟩
    rw [hz.2]
    exact ho
theorem call_isX (hz : Zc cls d oe) (hf : ∃ vs, oe.data = .fields vs) : CallR (X.suite a ((a, oe) :: pn)) (.builtin "isinstance") (rIsX X.K cls d a) := by
  intro pins s σ H xs us Q I r h
  obtain ⟨D, c, cv, b, rfl, C, hd, rfl, hc, e, q⟩ := h
  obtain ⟨od, J⟩ := exc_inst hz hf hd I
  match us, r with
  | [u1, u2], .cons r1 (.cons r2 .nil) =>
    obtain rfl : u1 = Value.ref a := r1
    have e2 := hc.eq r2
    subst e2
    exact PySem.W.kia_one (PySem.W.kitx_exc C.cl C.ga C.gg C.sb C.ca C.cn C.ct C.cm) I.kIn J e (fun z => nomatch z) fun tk => ⟨.bl b, H, I.tok tk, rfl, q⟩
theorem call_isXT (hz : Zc cls d oe) (hf : ∃ vs, oe.data = .fields vs) : CallR (X.suite a ((a, oe) :: pn)) (.builtin "isinstance") (rIsXT X.K cls d a) := by
  intro pins s σ H xs us Q I r h
  obtain ⟨D, tp, cs, ws, b, rfl, C, hd, rfl, hT, k, e, q⟩ := h
  obtain ⟨od, J⟩ := exc_inst hz hf hd I
  match us, r with
  | [u1, u2], .cons r1 (.cons r2 .nil) =>
    obtain rfl : u1 = Value.ref a := r1
    obtain rfl : u2 = Value.ref tp := r2
    obtain ⟨_, its, rv, o, h1, h2, n, h3⟩ := (show ObjOk X.prog X.w H s.heap tp (.tup cs) from I.hok tp _ hT)
    have e3 := ClsV.all k rv
    subst e3
    obtain ⟨oc, od', dt, sl⟩ := o
    simp only at h2 h3
    subst h2 h3
    exact PySem.W.kia_tup (PySem.W.kitx_exc C.cl C.ga C.gg C.sb C.ca C.cn C.ct C.cm) I.kIn J h1 e (fun z => nomatch z) fun tk => ⟨.bl b, H, I.tok tk, rfl, q⟩
end
end MyL

set_option Elab.async false
set_option linter.all false
set_option maxRecDepth 100000
set_option maxHeartbeats 4000000
/-! What is known of the heap, and readings taken apart step by step. -/
namespace MyL
open PySem L2
/-- behind B, of which only the objects at ms may have changed: H holds f (handed in) and l (made here) -/
structure Mem (B : Hp) (ms : List Addr) (H : Hp) (f l : List (Addr × HO)) : Prop where
  atF : ∀ p ∈ f, H p.1 = some p.2
  atL : ∀ p ∈ l, H p.1 = some p.2
  nd : ((l ++ f).map (·.1)).Nodup
  keep : ∀ a o, B a = some o → a ∉ ms → H a = some o
  tr : ∀ m ∈ ms, H m ≠ none
  new : ∀ p ∈ l, B p.1 = none
theorem Same.of_keep {B H : Hp} {f l : List (Addr × HO)} (M : Mem B [] H f l) : Same B H := fun a o h => M.keep a o h (by simp)
theorem mem_start {H : Hp} {ms : List Addr} {f : List (Addr × HO)} (h : ∀ p ∈ f, H p.1 = some p.2) (nd : (f.map (·.1)).Nodup) (tr : ∀ m ∈ ms, m ∈ f.map (·.1)) : Mem H ms H f [] :=
  ⟨h, (fun _ h => nomatch h), by simpa using nd, fun _ _ h _ => h, (fun m hm z => by
    obtain ⟨p, hp, e⟩ := List.mem_map.mp (tr m hm)
    have := h p hp
    rw [e, z] at this; cases this), (fun _ h => nomatch h)⟩
section
variable {B H H' : Hp} {ms : List Addr} {f l : List (Addr × HO)} {p a : Addr} {o o' : HO}
theorem Mem.fresh (M : Mem B ms H f l) (h : H p = none) : B p = none := by
  cases e : B p with
  | none => rfl
  | some u =>
    by_cases hm : p ∈ ms
    · exact absurd h (M.tr p hm)
    · rw [M.keep p u e hm] at h; cases h
theorem Mem.ne (M : Mem B ms H f l) (h : H p = none) : p ∉ (l ++ f).map (·.1) := fun hm => by
  obtain ⟨q, hq, e⟩ := List.mem_map.mp hm
  rcases List.mem_append.mp hq with z | z
  · have := M.atL q z; rw [e, h] at this; cases this
  · have := M.atF q z; rw [e, h] at this; cases this
theorem Mem.same (M : Mem B ms H f l) (s : Same H H') : Mem B ms H' f l :=
  ⟨fun p hp => s _ _ (M.atF p hp), fun p hp => s _ _ (M.atL p hp), M.nd, fun a o h hm => s _ _ (M.keep a o h hm), fun m hm => by
    cases e : H m with
    | none => exact absurd e (M.tr m hm)
    | some o => rw [s _ _ e]; exact (fun z => nomatch z), M.new⟩
theorem same_alloc (h : H p = none) : Same H (upd H p o) := fun a u e => by
  rw [upd_ne (ne_of_none e h)]; exact e
theorem Mem.sameNew (M : Mem B ms H f l) (s : Same H H') (h : H p = none) (h' : H' p = some o) : Mem B ms H' f ((p, o) :: l) :=
  let M' := M.same s
  ⟨M'.atF, fun q hq => by
    rcases List.mem_cons.mp hq with rfl | hq
    · exact h'
    · exact M'.atL q hq, by
      show (p :: ((l ++ f).map (·.1))).Nodup
      exact List.nodup_cons.mpr ⟨M.ne h, M.nd⟩, M'.keep, M'.tr, fun q hq => by
    rcases List.mem_cons.mp hq with rfl | hq
    · exact M.fresh h
    · exact M.new q hq⟩
theorem Mem.alloc (M : Mem B ms H f l) (h : H p = none) : Mem B ms (upd H p o) f ((p, o) :: l) := M.sameNew (same_alloc h) h upd_same
/-- something that stands in the heap is known of, too -/
theorem Mem.drop {q : Addr × HO} (M : Mem B ms H f (q :: l)) : Mem B ms H f l :=
  ⟨M.atF, fun p hp => M.atL p (List.mem_cons_of_mem _ hp), by
    have := M.nd
    rw [List.cons_append, List.map_cons, List.nodup_cons] at this
    exact this.2, M.keep, M.tr, fun p hp => M.new p (List.mem_cons_of_mem _ hp)⟩
theorem Mem.setL {l1 l2 : List (Addr × HO)} (M : Mem B ms H f (l1 ++ (a, o) :: l2)) : Mem B ms (upd H a o') f (l1 ++ (a, o') :: l2) := by
  have nd := M.nd
  have hne : ∀ q ∈ l1 ++ l2 ++ f, q.1 ≠ a := by
    have e : ((l1 ++ (a, o) :: l2 ++ f).map (·.1)) = l1.map (·.1) ++ a :: (l2 ++ f).map (·.1) := by simp
    rw [e, List.nodup_append] at nd
    obtain ⟨_, n2, n3⟩ := nd
    rw [List.nodup_cons] at n2
    intro q hq z
    rw [List.append_assoc] at hq
    rcases List.mem_append.mp hq with hq | hq
    · exact n3 _ (List.mem_map_of_mem hq) _ List.mem_cons_self z
    · exact n2.1 (by rw [← z]; exact List.mem_map_of_mem hq)
  have hB : B a = none := M.new (a, o) (by simp)
  refine ⟨fun q hq => ?_, fun q hq => ?_, by simpa using nd, fun b u h hm => ?_, fun m hm z => ?_, fun q hq => ?_⟩
  · rw [upd_ne (hne q (by simp [hq]))]; exact M.atF q hq
  · rcases List.mem_append.mp hq with h | h
    · rw [upd_ne (hne q (by simp [h]))]; exact M.atL q (by simp [h])
    · rcases List.mem_cons.mp h with rfl | h
      · exact upd_same
      · rw [upd_ne (hne q (by simp [h]))]; exact M.atL q (by simp [h])
  · rw [upd_ne (ne_of_none h hB)]; exact M.keep b u h hm
  · by_cases e : m = a
    · rw [e, upd_same] at z; cases z
    · rw [upd_ne e] at z; exact M.tr m hm z
  · rcases List.mem_append.mp hq with h | h
    · exact M.new q (by simp [h])
    · rcases List.mem_cons.mp h with rfl | h
      · exact hB
      · exact M.new q (by simp [h])
theorem Mem.setF {f1 f2 : List (Addr × HO)} (M : Mem B ms H (f1 ++ (a, o) :: f2) l) (ha : a ∈ ms) : Mem B ms (upd H a o') (f1 ++ (a, o') :: f2) l := by
  have nd := M.nd
  have hne : ∀ q ∈ l ++ f1 ++ f2, q.1 ≠ a := by
    have e : ((l ++ (f1 ++ (a, o) :: f2)).map (·.1)) = (l ++ f1).map (·.1) ++ a :: f2.map (·.1) := by simp
    rw [e, List.nodup_append] at nd
    obtain ⟨_, n2, n3⟩ := nd
    rw [List.nodup_cons] at n2
    intro q hq z
    rcases List.mem_append.mp hq with hq | hq
    · exact n3 _ (List.mem_map_of_mem hq) _ List.mem_cons_self z
    · exact n2.1 (by rw [← z]; exact List.mem_map_of_mem hq)
  refine ⟨fun q hq => ?_, fun q hq => ?_, by simpa using nd, fun b u h hm => ?_, fun m hm z => ?_, M.new⟩
  · rcases List.mem_append.mp hq with h | h
    · rw [upd_ne (hne q (by simp [h]))]; exact M.atF q (by simp [h])
    · rcases List.mem_cons.mp h with rfl | h
      · exact upd_same
      · rw [upd_ne (hne q (by simp [h]))]; exact M.atF q (by simp [h])
  · rw [upd_ne (hne q (by simp [hq]))]; exact M.atL q hq
  · rw [upd_ne (fun z => hm (by rw [z]; exact ha))]; exact M.keep b u h hm
  · by_cases e : m = a
    · rw [e, upd_same] at z; cases z
    · rw [upd_ne e] at z; exact M.tr m hm z
/-- all but the objects at ms is as it was -/
def Keep (ms : List Addr) (H H' : Hp) : Prop := (∀ a o, H a = some o → a ∉ ms → H' a = some o) ∧ ∀ m ∈ ms, H' m ≠ none
theorem Mem.keeps (M : Mem B ms H f l) : Keep ms B H := ⟨M.keep, M.tr⟩
theorem Mem.getF (M : Mem B ms H f l) (h : (a, o) ∈ f) : H a = some o := M.atF _ h
theorem Mem.getL (M : Mem B ms H f l) (h : (a, o) ∈ l) : H a = some o := M.atL _ h
/-- behind a call that may have changed the first of what was handed in -/
theorem Mem.call1 {f : List (Addr × HO)} (M : Mem B ms H ((a, o) :: f) l) (ha : a ∈ ms) (k : Keep [a] H H') (h' : H' a = some o') : Mem B ms H' ((a, o') :: f) l := by
  have nd := M.nd
  have hne : ∀ q ∈ l ++ f, q.1 ≠ a := by
    rw [List.map_append, List.map_cons, List.nodup_append] at nd
    obtain ⟨_, n2, n3⟩ := nd
    rw [List.nodup_cons] at n2
    intro q hq z
    rcases List.mem_append.mp hq with hq | hq
    · exact n3 _ (List.mem_map.mpr ⟨q, hq, rfl⟩) _ List.mem_cons_self z
    · exact n2.1 (List.mem_map.mpr ⟨q, hq, z⟩)
  refine ⟨fun q hq => ?_, fun q hq => ?_, by simpa using nd, fun b u h hm => ?_, fun m hm z => ?_, M.new⟩
  · rcases List.mem_cons.mp hq with rfl | h
    · exact h'
    · exact k.1 _ _ (M.atF q (by simp [h])) (by simpa using hne q (by simp [h]))
  · exact k.1 _ _ (M.atL q hq) (by simpa using hne q (by simp [hq]))
  · exact k.1 _ _ (M.keep b u h hm) (by intro z; rw [List.mem_singleton] at z; exact hm (by rw [z]; exact ha))
  · cases e : H m with
    | none => exact M.tr m hm e
    | some u =>
      by_cases hma : m = a
      · rw [hma, h'] at z; cases z
      · rw [k.1 _ _ e (by simpa using hma)] at z; cases z
end
/-! ### steps -/
section
variable {n : L2.St → Hp → Prop} {r : VK} {b c : L2.St → Hp → Prop} {σ : L2.St} {H : Hp} {t u : TS} {te ta tb : TE} {tt tu : TT} {Q : VK} {QB : Bool → Hp → Prop} {QA : List V → Hp → Prop} {v : V} {i : Nat} {tA : TA}
theorem k_seq (h : t ⟨u ⟨n, r, b, c⟩, r, b, c⟩ σ H) : tSeq t u ⟨n, r, b, c⟩ σ H := h
theorem k_next (h : n σ H) : tNext ⟨n, r, b, c⟩ σ H := h
theorem k_break (h : b σ H) : tBreak ⟨n, r, b, c⟩ σ H := h
theorem k_cont (h : c σ H) : tCont ⟨n, r, b, c⟩ σ H := h
theorem k_asg (h : te σ H fun v H1 => n (σ.set i (some v)) H1) : tAsg te (gName i) ⟨n, r, b, c⟩ σ H := h
theorem k_ret (h : te σ H r) : tRet te ⟨n, r, b, c⟩ σ H := h
theorem k_retN (h : r .non H) : tRetN ⟨n, r, b, c⟩ σ H := h
theorem k_drop (h : te σ H fun _ H1 => n σ H1) : tDrop te ⟨n, r, b, c⟩ σ H := h
theorem k_ifS (h : tt σ H fun k H1 => if k = true then t ⟨n, r, b, c⟩ σ H1 else u ⟨n, r, b, c⟩ σ H1) : tIfS tt t u ⟨n, r, b, c⟩ σ H := h
theorem k_var (h : σ[i]? = some (some v)) (q : Q v H) : tVar i σ H Q := ⟨v, h, q⟩
theorem k_c (q : Q v H) : tC v σ H Q := q
theorem k_op {rr : R2} (h : ta σ H fun x H1 => tb σ H1 fun y H2 => rr x y H2 Q) : tOp rr ta tb σ H Q := h
theorem k_un {ru : V → Hp → VK → Prop} (h : ta σ H fun x H1 => ru x H1 Q) : tUn ru ta σ H Q := h
theorem k_test (h : te σ H fun x H' => ∃ k, x = .bl k ∧ QB k H') : tTest te σ H QB := h
theorem k_B (h : te σ H fun x H' => ∃ k, x = .bl k ∧ QB k H') : tB te σ H QB := h
theorem k_bl {k : Bool} {PB : Bool → Prop} (h : PB k) : ∃ k', V.bl k = .bl k' ∧ PB k' := ⟨k, rfl, h⟩
theorem k_and (h : tt σ H fun k H1 => if k = true then tu σ H1 QB else QB false H1) : tAnd tt tu σ H QB := h
theorem k_or (h : tt σ H fun k H1 => if k = true then QB true H1 else tu σ H1 QB) : tOr tt tu σ H QB := h
theorem k_not (h : tt σ H fun k H1 => QB (!k) H1) : tNot tt σ H QB := h
theorem k_andV (h : ta σ H fun x H1 => ∃ k, x = .bl k ∧ if k = true then tb σ H1 Q else Q (.bl false) H1) : tAndV ta tb σ H Q := h
theorem k_orV (h : ta σ H fun x H1 => ∃ k, x = .bl k ∧ if k = true then Q (.bl true) H1 else tb σ H1 Q) : tOrV ta tb σ H Q := h
theorem k_notV (h : ta σ H fun x H1 => ∃ k, x = .bl k ∧ Q (.bl (!k)) H1) : tNotV ta σ H Q := h
theorem k_ifE (h : tt σ H fun k H1 => if k = true then ta σ H1 Q else tb σ H1 Q) : tIf tt ta tb σ H Q := h
theorem k_nil (h : QA [] H) : tNil σ H QA := h
theorem k_cons (h : te σ H fun x H1 => tA σ H1 fun xs H2 => QA (x :: xs) H2) : tCons te tA σ H QA := h
theorem k_cb {rc : List V → Hp → VK → Prop} (h : tA σ H fun vs H1 => rc vs H1 Q) : tCB rc tA σ H Q := h
theorem k_callS {sp : Sp} {E : L2.St → XK} (h : tA σ H fun vs H1 => sp vs H1 Q (E σ)) : tCallS sp E tA σ H Q := h
theorem k_I {C : Int → Int → Prop} {g : Int → Int → V} {x y : Int} (hc : C x y) (q : Q (g x y) H) : rI C g (.int x) (.int y) H Q := ⟨x, y, rfl, rfl, hc, q⟩
theorem k_I0 {g : Int → Int → V} {x y : Int} (q : Q (g x y) H) : rI0 g (.int x) (.int y) H Q := ⟨x, y, rfl, rfl, q⟩
theorem k_U {g : Int → V} {x : Int} (q : Q (g x) H) : rU g (.int x) H Q := ⟨x, rfl, q⟩
theorem k_eqI {x y : Int} (q : Q (.bl (decide (x = y))) H) : rEq (.int x) (.int y) H Q := ⟨rfl, by
  have e : decide (V.int x = V.int y) = decide (x = y) := by
    by_cases h : x = y
    · subst h; simp
    · rw [decide_eq_false h, decide_eq_false (fun z => h (V.int.inj z))]
  rw [e]; exact q⟩
theorem k_neI {x y : Int} (q : Q (.bl (!decide (x = y))) H) : rNe (.int x) (.int y) H Q := ⟨rfl, by
  have e : decide (V.int x = V.int y) = decide (x = y) := by
    by_cases h : x = y
    · subst h; simp
    · rw [decide_eq_false h, decide_eq_false (fun z => h (V.int.inj z))]
  rw [e]; exact q⟩
theorem k_eqB {x y : Bool} (q : Q (.bl (x == y)) H) : rEq (.bl x) (.bl y) H Q := ⟨rfl, by
  have e : decide (V.bl x = V.bl y) = (x == y) := by cases x <;> cases y <;> simp
  rw [e]; exact q⟩
theorem k_neB {x y : Bool} (q : Q (.bl (!(x == y))) H) : rNe (.bl x) (.bl y) H Q := ⟨rfl, by
  have e : decide (V.bl x = V.bl y) = (x == y) := by cases x <;> cases y <;> simp
  rw [e]; exact q⟩
theorem k_eqS {x y : Str} (q : Q (.bl (decide (x = y))) H) : rEq (.str x) (.str y) H Q := ⟨rfl, by
  have e : decide (V.str x = V.str y) = decide (x = y) := by
    by_cases h : x = y
    · subst h; simp
    · rw [decide_eq_false h, decide_eq_false (fun z => h (V.str.inj z))]
  rw [e]; exact q⟩
theorem k_neS {x y : Str} (q : Q (.bl (!decide (x = y))) H) : rNe (.str x) (.str y) H Q := ⟨rfl, by
  have e : decide (V.str x = V.str y) = decide (x = y) := by
    by_cases h : x = y
    · subst h; simp
    · rw [decide_eq_false h, decide_eq_false (fun z => h (V.str.inj z))]
  rw [e]; exact q⟩
theorem k_iteD {p : Prop} [Decidable p] {A Z : Prop} (h1 : p → A) (h2 : ¬ p → Z) : if decide p = true then A else Z := by
  by_cases h : p
  · rw [if_pos (decide_eq_true h)]; exact h1 h
  · rw [if_neg (by simpa using h)]; exact h2 h
theorem k_iteN {p : Prop} [Decidable p] {A Z : Prop} (h1 : ¬ p → A) (h2 : p → Z) : if (!decide p) = true then A else Z := by
  by_cases h : p
  · rw [if_neg (by simpa using h)]; exact h2 h
  · rw [if_pos (by simpa using h)]; exact h1 h
theorem k_iteB {k : Bool} {A Z : Prop} (h1 : k = true → A) (h2 : k = false → Z) : if k = true then A else Z := by
  cases k with
  | true => rw [if_pos rfl]; exact h1 rfl
  | false => rw [if_neg Bool.false_ne_true]; exact h2 rfl
/-- new things -/
def newL (xs : List V) (H : Hp) (Q : VK) : Prop := xs.length ≤ sizeLine ∧ ∀ p, H p = none → Q (.ref p) (upd H p (.lst xs))
def newT (xs : List V) (H : Hp) (Q : VK) : Prop := xs.length ≤ sizeLine ∧ ∀ p, H p = none → Q (.ref p) (upd H p (.tup xs))
theorem k_lst {B : Hp} {ms : List Addr} {f l : List (Addr × HO)} {xs : List V} (M : Mem B ms H f l) (hl : xs.length ≤ sizeLine) (k : ∀ p H', Mem B ms H' f ((p, .lst xs) :: l) → Q (.ref p) H') : newL xs H Q :=
  ⟨hl, fun p hp => k p _ (M.alloc hp)⟩
theorem k_tup {B : Hp} {ms : List Addr} {f l : List (Addr × HO)} {xs : List V} (M : Mem B ms H f l) (hl : xs.length ≤ sizeLine) (k : ∀ p H', Mem B ms H' f ((p, .tup xs) :: l) → Q (.ref p) H') : newT xs H Q :=
  ⟨hl, fun p hp => k p _ (M.alloc hp)⟩
theorem k_lst0 (h : tA σ H fun xs H1 => newL xs H1 Q) : tLst tA σ H Q := h
theorem k_tup0 (h : tA σ H fun xs H1 => newT xs H1 Q) : tTup tA σ H Q := h
/-- an attribute -/
theorem k_fld0 {K : PySem.W.Frag} {f : Str} (h : ta σ H fun x H1 => ∃ a C dx fs v, x = .ref a ∧ H1 a = some (.ins C dx fs) ∧ Cls K C ∧ NoAttr K C f ∧ fs.lookup f = some v ∧ Q v H1) : tFld K ta f σ H Q := h
theorem k_fld {K : PySem.W.Frag} {f : Str} {a C dx : Addr} {fs : List (Str × V)} {v : V} (h : H a = some (.ins C dx fs)) (hc : Cls K C) (hn : NoAttr K C f) (hl : fs.lookup f = some v) {PV : V → Prop} (q : PV v) :
    ∃ a' C' dx' fs' v', V.ref a = .ref a' ∧ H a' = some (.ins C' dx' fs') ∧ Cls K C' ∧ NoAttr K C' f ∧ fs'.lookup f = some v' ∧ PV v' := ⟨a, C, dx, fs, v, rfl, h, hc, hn, hl, q⟩
/-- an item -/
theorem k_ixL {K : PySem.W.Frag} {p : Addr} {xs : List V} {j : Int} {v : V} (h : H p = some (.lst xs)) (ha : atI xs j = some v) (q : Q v H) : rIxL K (.ref p) (.int j) H Q := ⟨p, xs, j, v, rfl, rfl, SqL.of h, ha, q⟩
theorem k_ixT {K : PySem.W.Frag} {p : Addr} {xs : List V} {j : Int} {v : V} (h : H p = some (.tup xs)) (ha : atI xs j = some v) (q : Q v H) : rIxT K (.ref p) (.int j) H Q := ⟨p, xs, j, v, rfl, rfl, SqT.of h, ha, q⟩
end
end MyL

set_option Elab.async false
set_option linter.all false
set_option maxRecDepth 100000
set_option maxHeartbeats 4000000
namespace MyL
open PySem PySem.Spec PyProof.Rows L2
section
variable {X : Cx} {e a b : Expr} {t t' ta tb : TE} {pos : Pos}
theorem pe_imp (h : PE X e t) (hi : ∀ σ H Q, t' σ H Q → t σ H Q) : PE X e t' := ⟨fun pins s σ H Q I q => h.run pins s σ H Q I (hi _ _ _ q)⟩
/-- a * b -/
def CMulU (i j : Int) : Prop := CMul i j ∨ CMulW i j
theorem op_mulU : OpR X (binaryOp .Mult) (rI CMulU fun i j => .int (i * j)) := by
  intro pins s σ H x y v u Q I rx ry h
  obtain ⟨i, j, ex, ey, hc, q⟩ := h
  rcases hc with hc | hc
  · exact op_mul pins s σ H x y v u Q I rx ry ⟨i, j, ex, ey, hc, q⟩
  · exact op_mulW pins s σ H x y v u Q I rx ry ⟨i, j, ex, ey, hc, q⟩
/-- a written power -/
theorem pe_powC {i j n : Int} {k1 k2 : Nat} {p1 p2 : Pos} (hc : CPow i j := by unfold CPow; decide) (hv : i ^ j.toNat = n := by decide +kernel) : PE X (.BinOp (.Constant (.int i) k1 p1) .Pow (.Constant (.int j) k2 p2) pos) (tC (.int n)) :=
  pe_imp (pe_op op_pow pe_int pe_int) fun σ H Q q => ⟨i, j, rfl, rfl, hc, by show Q (.int (i ^ j.toNat)) H; rw [hv]; exact q⟩
/-- a written number below zero -/
theorem pe_negC {i : Int} {k1 : Nat} {p1 : Pos} : PE X (.UnaryOp .USub (.Constant (.int i) k1 p1) pos) (tC (.int (-i))) :=
  pe_imp (pe_un un_neg pe_int) fun σ H Q q => ⟨i, rfl, q⟩
end
section
variable {P : Program} {w : World} {K : PySem.W.Frag} {mg : Str → Option Value} {base : Heap}
/-- a def that may raise, by its body; what leaves the frame is the caller's wish -/
theorem okT {x qual : Str} {st : Stmt} {f : Addr} {fd : FuncData} {N ps : List Str} {k : Nat} {sp : Sp} (F : L2.Fun K x qual st f fd) (S : FnScope N ps (defScope st)) (len : ∀ vs H Q E, sp vs H Q E → vs.length = ps.length)
    (hbody : ∀ (cdv : Value) (A : Around) (outer : List Env) (s : Shared) (H : Hp) (vs : List V) (Q : VK) (E : XK), Room k (A.deeper (envOfC qual (defScope st) s.heap.objs.size f cdv)) →
      Takes (cxOf (L2.CX P w) P w K mg base N qual (defScope st) f cdv A outer s H E) (fun c d _ H => E c d H) → sp vs H Q E →
      ∃ t, PSs (cxOf (L2.CX P w) P w K mg base N qual (defScope st) f cdv A outer s H E) (defBody st) t ∧ t ⟨fun _ H' => Q .non H', Q, fun _ _ => False, fun _ _ => False⟩ (start N vs) H) : FnOk P w K mg base (L2.CX P w) (k + 1) f fd ps sp :=
  F.okX S len fun cdv A outer s H vs Q E hr h => hbody cdv A outer s H vs Q E hr (takes_of rfl rfl rfl rfl) h
end
/-! ### built-ins of one argument -/
def rInt1 : List V → Hp → VK → Prop := fun xs H Q => ∃ i, xs = [.int i] ∧ Q (.int i) H
def rAbs1 : List V → Hp → VK → Prop := fun xs H Q => ∃ i : Int, xs = [.int i] ∧ Q (.int (if i < 0 then -i else i)) H
def rStrI : List V → Hp → VK → Prop := fun xs H Q => ∃ i : Int, xs = [.int i] ∧ i.natAbs.log2 < 1920 ∧ Q (.str (toString i)) H
def rLenQ (K : PySem.W.Frag) : List V → Hp → VK → Prop := fun xs H Q => ∃ p ys, xs = [.ref p] ∧ (SqL K H p ys ∨ SqT K H p ys) ∧ Q (.int ys.length) H
def rMin2 : List V → Hp → VK → Prop := fun xs H Q => ∃ i j : Int, xs = [.int i, .int j] ∧ Q (.int (if j < i then j else i)) H
def rMax2 : List V → Hp → VK → Prop := fun xs H Q => ∃ i j : Int, xs = [.int i, .int j] ∧ Q (.int (if j > i then j else i)) H
section
variable {X : Cx}
theorem b_int : CallR X (.type "int") rInt1 := fun pins s σ H xs us Q I r h => call_int1 pins s σ H xs us Q I r (.inl h)
theorem b_abs : CallR X (.builtin "abs") rAbs1 := call_abs
theorem b_strI : CallR X (.type "str") rStrI := call_str_int
theorem b_len : CallR X (.builtin "len") (rLenQ X.K) := call_len_seq
theorem b_min2 (hc : X.calm = true) : CallR X (.builtin "min") rMin2 := call_min2 hc
theorem b_max2 (hc : X.calm = true) : CallR X (.builtin "max") rMax2 := call_max2 hc
end
section
variable {H : Hp} {Q : VK} {i j : Int} {K : PySem.W.Frag}
theorem k_int1 (q : Q (.int i) H) : rInt1 [.int i] H Q := ⟨i, rfl, q⟩
theorem k_abs1 (q : Q (.int (if i < 0 then -i else i)) H) : rAbs1 [.int i] H Q := ⟨i, rfl, q⟩
theorem k_strI (h : i.natAbs.log2 < 1920) (q : Q (.str (toString i)) H) : rStrI [.int i] H Q := ⟨i, rfl, h, q⟩
theorem k_lenL {p : Addr} {ys : List V} (h : H p = some (.lst ys)) (q : Q (.int ys.length) H) : rLenQ K [.ref p] H Q := ⟨p, ys, rfl, .inl (SqL.of h), q⟩
theorem k_lenT {p : Addr} {ys : List V} (h : H p = some (.tup ys)) (q : Q (.int ys.length) H) : rLenQ K [.ref p] H Q := ⟨p, ys, rfl, .inr (SqT.of h), q⟩
theorem k_min2 (q : Q (.int (if j < i then j else i)) H) : rMin2 [.int i, .int j] H Q := ⟨i, j, rfl, q⟩
theorem k_max2 (q : Q (.int (if j > i then j else i)) H) : rMax2 [.int i, .int j] H Q := ⟨i, j, rfl, q⟩
/-- isinstance of numbers and truths -/
theorem k_isiI {c : String} {b : Bool} (e : PySem.W.kitOne K (.type "int") (.type c) = some b) (q : Q (.bl b) H) : rIsi K [.int i, .ty c] H Q := ⟨_, _, _, _, b, rfl, .ty c, .base (.int i), e, q⟩
/-- the rest of a division -/
theorem k_mod {x y : Int} {g : Int → Int → V} {C : Int → Int → Prop} (hc : C x y) (q : Q (g x y) H) : rI C g (.int x) (.int y) H Q := ⟨x, y, rfl, rfl, hc, q⟩
/-- xs[j] = v, xs made here or handed in to be changed -/
theorem k_sub0 {σ : L2.St} {n : L2.St → Hp → Prop} {r : VK} {b c : L2.St → Hp → Prop} {te to ti : TE} {ts : TSet} (h : te σ H fun v H1 => to σ H1 fun o H2 => ti σ H2 fun i H3 => ts o i v H3 fun H4 => n σ H4) : tAsg te (gSub to ti ts) ⟨n, r, b, c⟩ σ H := h
theorem k_setL {QH : Hp → Prop} {p : Addr} {xs : List V} {k : Int} {jn : Nat} {v : V} (h : H p = some (.lst xs)) (hi : ixN xs.length k = some jn) (q : QH (upd H p (.lst (xs.set jn v)))) : rSetL (.ref p) (.int k) v H QH := ⟨p, xs, k, jn, rfl, rfl, h, hi, q⟩
end
end MyL

set_option Elab.async false
set_option linter.all false
set_option maxRecDepth 100000
set_option maxHeartbeats 4000000
namespace MyL
open PySem L2
/-! ### the steps of a reading, as one word -/
theorem k_iteNT {A Z : Prop} (h : Z) : if (!true) = true then A else Z := h
theorem k_iteNF {A Z : Prop} (h : A) : if (!false) = true then A else Z := h
theorem divW {i j : Int} (h : 0 < j) (h2 : j < 2 ^ 64) : CDivW i j := ⟨h, by
  have e : j.natAbs < 2 ^ 64 := by omega
  exact Nat.lt_of_le_of_lt (Nat.log2_lt (by omega) |>.mpr e |> Nat.le_of_lt) (by decide)⟩
theorem cxK {CX : CXT} {P : Program} {w : World} {K : PySem.W.Frag} {mg : Str → Option Value} {base : Heap} {N : List Str} {qual : Str} {scope : Scope} {f : Addr} {cd : Value} {A : Around} {outer : List Env} {s : Shared} {H : Hp} {E : XK} : (cxOf CX P w K mg base N qual scope f cd A outer s H E).K = K := rfl
theorem cxQK {P : Program} {w : World} {K : PySem.W.Frag} {mg : Str → Option Value} {base : Heap} {N : List Str} {qual : Str} {scope : Scope} {f : Addr} {cd : Value} {A : Around} {outer : List Env} {s : Shared} {H : Hp} : (cxQ P w K mg base N qual scope f cd A outer s H).K = K := rfl
theorem mulL {i j : Int} (h : -(2 ^ 64) < i) (h2 : i < 2 ^ 64) : CMulU i j := .inl (.inl ⟨h, h2⟩)
theorem mulR {i j : Int} (h : -(2 ^ 64) < j) (h2 : j < 2 ^ 64) : CMulU i j := .inl (.inr ⟨h, h2⟩)
theorem atI_map {ns : List Int} {j : Int} (h0 : 0 ≤ j) (h1 : j < ns.length) : atI (ns.map V.int) j = some (.int (ns.getD j.toNat 0)) := by
  have hj : j.toNat < ns.length := by omega
  unfold atI ixN
  rw [List.length_map, if_pos h0, if_pos h1]
  simp [hj]
theorem k_lenM {K : PySem.W.Frag} {H : Hp} {Q : VK} {p : Addr} {ns : List Int} (h : H p = some (.lst (ns.map V.int))) (q : Q (.int ns.length) H) : rLenQ K [.ref p] H Q := ⟨p, _, rfl, .inl (SqL.of h), by rw [List.length_map]; exact q⟩
theorem sz {n : Nat} (h : n ≤ 100000) : n ≤ sizeLine := Nat.le_trans h (by decide)
section
variable {B H : Hp} {ms : List Addr} {f l : List (Addr × HO)} {QH : Hp → Prop} {p : Addr} {xs : List V} {k : Int} {jn : Nat} {v : V} {x0 x1 x2 x3 : Addr × HO}
theorem k_setF0 (M : Mem B ms H ((p, .lst xs) :: f) l) (hm : p ∈ ms) (hi : ixN xs.length k = some jn) (q : ∀ H', Mem B ms H' ((p, .lst (xs.set jn v)) :: f) l → QH H') : rSetL (.ref p) (.int k) v H QH :=
  ⟨p, xs, k, jn, rfl, rfl, M.getF List.mem_cons_self, hi, q _ (Mem.setF (f1 := []) M hm)⟩
theorem k_setL0 (M : Mem B ms H f ((p, .lst xs) :: l)) (hi : ixN xs.length k = some jn) (q : ∀ H', Mem B ms H' f ((p, .lst (xs.set jn v)) :: l) → QH H') : rSetL (.ref p) (.int k) v H QH :=
  ⟨p, xs, k, jn, rfl, rfl, M.getL List.mem_cons_self, hi, q _ (Mem.setL (l1 := []) M)⟩
theorem k_setL1 (M : Mem B ms H f (x0 :: (p, .lst xs) :: l)) (hi : ixN xs.length k = some jn) (q : ∀ H', Mem B ms H' f (x0 :: (p, .lst (xs.set jn v)) :: l) → QH H') : rSetL (.ref p) (.int k) v H QH :=
  ⟨p, xs, k, jn, rfl, rfl, M.getL (by simp), hi, q _ (Mem.setL (l1 := [x0]) M)⟩
theorem k_setL2 (M : Mem B ms H f (x0 :: x1 :: (p, .lst xs) :: l)) (hi : ixN xs.length k = some jn) (q : ∀ H', Mem B ms H' f (x0 :: x1 :: (p, .lst (xs.set jn v)) :: l) → QH H') : rSetL (.ref p) (.int k) v H QH :=
  ⟨p, xs, k, jn, rfl, rfl, M.getL (by simp), hi, q _ (Mem.setL (l1 := [x0, x1]) M)⟩
end

section
variable {B H H' : Hp} {ms : List Addr} {f l : List (Addr × HO)} {p a : Addr} {o o' u : HO}
theorem Mem.call1New {f : List (Addr × HO)} (M : Mem B ms H ((a, o) :: f) l) (ha : a ∈ ms) (k : Keep [a] H H') (h' : H' a = some o') (hn : H p = none) (hp : H' p = some u) : Mem B ms H' ((a, o') :: f) ((p, u) :: l) := by
  have M1 := M.call1 ha k h'
  have hpa : p ≠ a := fun z => by
    have := M.getF (a := a) (o := o) List.mem_cons_self
    rw [← z, hn] at this; cases this
  have hne : p ∉ (l ++ (a, o') :: f).map (·.1) := by
    have h := M.ne hn
    simpa using h
  refine ⟨M1.atF, fun q hq => ?_, ?_, M1.keep, M1.tr, fun q hq => ?_⟩
  · rcases List.mem_cons.mp hq with rfl | hq
    · exact hp
    · exact M1.atL q hq
  · show (p :: ((l ++ (a, o') :: f).map (·.1))).Nodup
    exact List.nodup_cons.mpr ⟨hne, M1.nd⟩
  · rcases List.mem_cons.mp hq with rfl | hq
    · exact M.fresh hn
    · exact M.new q hq
theorem Keep.of_same (h : Same H H') : Keep [] H H' := ⟨fun a o e _ => h a o e, fun _ h => nomatch h⟩
end
section
variable {K : PySem.W.Frag} {H : Hp} {Q : VK} {p : Addr} {j a b c d e g : Int}
theorem k_ix2 (h : H p = some (.lst [.int a, .int b])) (h0 : 0 ≤ j) (h1 : j < 2) (q : ∀ n, n = a ∨ n = b → Q (.int n) H) : rIxL K (.ref p) (.int j) H Q := by
  obtain rfl | rfl : j = 0 ∨ j = 1 := by omega
  · exact ⟨p, _, _, _, rfl, rfl, SqL.of h, rfl, q _ (by simp)⟩
  · exact ⟨p, _, _, _, rfl, rfl, SqL.of h, rfl, q _ (by simp)⟩
theorem k_ix3 (h : H p = some (.lst [.int a, .int b, .int c])) (h0 : 0 ≤ j) (h1 : j < 3) (q : ∀ n, n = a ∨ n = b ∨ n = c → Q (.int n) H) : rIxL K (.ref p) (.int j) H Q := by
  obtain rfl | rfl | rfl : j = 0 ∨ j = 1 ∨ j = 2 := by omega
  · exact ⟨p, _, _, _, rfl, rfl, SqL.of h, rfl, q _ (by simp)⟩
  · exact ⟨p, _, _, _, rfl, rfl, SqL.of h, rfl, q _ (by simp)⟩
  · exact ⟨p, _, _, _, rfl, rfl, SqL.of h, rfl, q _ (by simp)⟩
theorem k_ix4 (h : H p = some (.lst [.int a, .int b, .int c, .int d])) (h0 : 0 ≤ j) (h1 : j < 4) (q : ∀ n, n = a ∨ n = b ∨ n = c ∨ n = d → Q (.int n) H) : rIxL K (.ref p) (.int j) H Q := by
  obtain rfl | rfl | rfl | rfl : j = 0 ∨ j = 1 ∨ j = 2 ∨ j = 3 := by omega
  · exact ⟨p, _, _, _, rfl, rfl, SqL.of h, rfl, q _ (by simp)⟩
  · exact ⟨p, _, _, _, rfl, rfl, SqL.of h, rfl, q _ (by simp)⟩
  · exact ⟨p, _, _, _, rfl, rfl, SqL.of h, rfl, q _ (by simp)⟩
  · exact ⟨p, _, _, _, rfl, rfl, SqL.of h, rfl, q _ (by simp)⟩
end
end MyL

set_option Elab.async false
set_option linter.all false
set_option maxRecDepth 100000
set_option maxHeartbeats 4000000
namespace MyL
open PySem L2
section
variable {n : L2.St → Hp → Prop} {r : VK} {b c : L2.St → Hp → Prop} {σ : L2.St} {H : Hp} {te ta tb : TE} {Q : VK} {tA : TA} {K : PySem.W.Frag} {C : Addr} {sp : Sp} {W : WX}
/-- C(..), its values at hand -/
def newO (C : Addr) (sp : Sp) (vs : List V) (H : Hp) (Q : VK) (E : XK) : Prop := ∀ x dx, H x = none → H dx = none → dx ≠ x → sp (.ref x :: vs) (upd (upd H dx (.own x)) x (.ins C dx [])) (fun v H2 => v = .non ∧ Q (.ref x) H2) E
theorem k_make0 (h : tA σ H fun vs H1 => newO C sp vs H1 Q (WE W σ)) : tMakeS C sp W tA σ H Q := h
theorem k_meth0 {m : Str} (h : ta σ H fun x H1 => ∃ a dx fs, x = .ref a ∧ H1 a = some (.ins C dx fs) ∧ fs.lookup m = none ∧ tA σ H1 fun vs H2 => sp (.ref a :: vs) H2 Q (WE W σ)) : tMethS C m sp W ta tA σ H Q := h
theorem k_meth {m : Str} {a dx : Addr} {fs : List (Str × V)} {PQ : Addr → Prop} (h : H a = some (.ins C dx fs)) (hl : fs.lookup m = none) (q : PQ a) : ∃ a' dx' fs', V.ref a = .ref a' ∧ H a' = some (.ins C dx' fs') ∧ fs'.lookup m = none ∧ PQ a' := ⟨a, dx, fs, rfl, h, hl, q⟩
theorem k_ownN0 (h : ta σ H fun x H1 => tb σ H1 fun y H2 => ∃ a dx fs j, x = .ref a ∧ y = .int j ∧ H2 a = some (.ins C dx fs) ∧ sp [.ref a, .int j] H2 Q (WE W σ)) : tOwnN C sp W ta tb σ H Q := h
theorem k_ownO0 (h : ta σ H fun x H1 => tb σ H1 fun y H2 => ∃ a dx fs b dy gs, x = .ref a ∧ y = .ref b ∧ H2 a = some (.ins C dx fs) ∧ H2 b = some (.ins C dy gs) ∧ sp [.ref a, .ref b] H2 Q (WE W σ)) : tOwnO C sp W ta tb σ H Q := h
theorem k_ownN {a dx : Addr} {fs : List (Str × V)} {j : Int} {E : XK} (h : H a = some (.ins C dx fs)) (q : sp [.ref a, .int j] H Q E) : ∃ a' dx' fs' j', V.ref a = .ref a' ∧ V.int j = .int j' ∧ H a' = some (.ins C dx' fs') ∧ sp [.ref a', .int j'] H Q E := ⟨a, dx, fs, j, rfl, rfl, h, q⟩
theorem k_ownO {a dx b dy : Addr} {fs gs : List (Str × V)} {E : XK} (h : H a = some (.ins C dx fs)) (h2 : H b = some (.ins C dy gs)) (q : sp [.ref a, .ref b] H Q E) : ∃ a' dx' fs' b' dy' gs', V.ref a = .ref a' ∧ V.ref b = .ref b' ∧ H a' = some (.ins C dx' fs') ∧ H b' = some (.ins C dy' gs') ∧ sp [.ref a', .ref b'] H Q E := ⟨a, dx, fs, b, dy, gs, rfl, rfl, h, h2, q⟩
theorem k_ownEq {a dx b dy : Addr} {fs gs : List (Str × V)} (h : H a = some (.ins C dx fs)) (h2 : H b = some (.ins C dy gs)) (q : sp [.ref a, .ref b] H (fun v H' => ∃ c, v = .bl c ∧ Q v H') (fun _ _ _ => False)) : rOwnEq C sp (.ref a) (.ref b) H Q := ⟨a, dx, fs, b, dy, gs, rfl, rfl, h, h2, q⟩
theorem k_ownIn {a dx : Addr} {fs : List (Str × V)} {y : V} (h : H a = some (.ins C dx fs)) (q : sp [.ref a, y] H (fun v H' => ∃ c, v = .bl c ∧ Q v H') (fun _ _ _ => False)) : rOwnIn C sp y (.ref a) H Q := ⟨a, dx, fs, rfl, h, q⟩
theorem k_ownU {a dx : Addr} {fs : List (Str × V)} (h : H a = some (.ins C dx fs)) (q : sp [.ref a] H Q (fun _ _ _ => False)) : rOwnU C sp (.ref a) H Q := ⟨a, dx, fs, rfl, h, q⟩
theorem k_ownStr {a dx : Addr} {fs : List (Str × V)} (h : H a = some (.ins C dx fs)) (q : sp [.ref a] H (fun v H' => ∃ z, v = .str z ∧ Q v H') (fun _ _ _ => False)) : rOwnStr C sp [.ref a] H Q := ⟨a, dx, fs, rfl, h, q⟩
theorem k_st {z : Str} {PS : Str → Prop} (q : PS z) : ∃ z', V.str z = .str z' ∧ PS z' := ⟨z, rfl, q⟩
/-- isinstance of an instance and its own class -/
theorem k_isiO {a dx : Addr} {fs : List (Str × V)} (h : H a = some (.ins C dx fs)) (cl : Cls K C) (ha : PySem.W.findIn K (.ref C) "__class__" = some (some (.builtin "object.__class__"))) (hn : PySem.W.specialIn K (.builtin "object.__class__") "__get__" = some (some (.builtin "getset_descriptor.__get__")))
    (ht : PySem.W.takesIn K (.builtin "object.__class__") = some true) (hm : PySem.W.mroIn K C (.type "object") = some true) (q : Q (.bl true) H) : rIsi K [.ref a, .ref C] H Q :=
  ⟨_, _, _, _, true, rfl, .own C, .base (.ins h cl ha hn ht hm), by simp [PySem.W.kitOne], q⟩
/-- self.f = e -/
theorem k_sfld0 {f : Str} (h : te σ H fun y H1 => ta σ H1 fun x H2 => ∃ a C dx fs, x = .ref a ∧ H2 a = some (.ins C dx fs) ∧ Cls K C ∧ NoAttr K C f ∧ fs.length < 1000 ∧ n σ (upd H2 a (.ins C dx (putF f y fs)))) : sFld K ta te f ⟨n, r, b, c⟩ σ H := h
theorem k_sfld {f : Str} {a dx : Addr} {fs : List (Str × V)} {y : V} {PQ : Hp → Prop} (h : H a = some (.ins C dx fs)) (cl : Cls K C) (na : NoAttr K C f) (hl : fs.length < 1000) (q : PQ (upd H a (.ins C dx (putF f y fs)))) :
    ∃ a' C' dx' fs', V.ref a = .ref a' ∧ H a' = some (.ins C' dx' fs') ∧ Cls K C' ∧ NoAttr K C' f ∧ fs'.length < 1000 ∧ PQ (upd H a' (.ins C' dx' (putF f y fs'))) := ⟨a, C, dx, fs, rfl, h, cl, na, hl, q⟩
/-- f'..' -/
theorem k_jnil {acc : Str} {QS : Str → Hp → Prop} (q : QS acc H) : tJs [] acc σ H QS := q
theorem k_jcons {t : TE} {ts : List TE} {acc : Str} {QS : Str → Hp → Prop} (q : t σ H fun x H1 => ∃ y : Str, x = .str y ∧ (acc ++ y).length ≤ sizeLine ∧ tJs ts (acc ++ y) σ H1 QS) : tJs (t :: ts) acc σ H QS := q
theorem k_jst {acc y : Str} {PS : Str → Prop} (h : (acc ++ y).length ≤ sizeLine) (q : PS y) : ∃ y' : Str, V.str y = .str y' ∧ (acc ++ y').length ≤ sizeLine ∧ PS y' := ⟨y, rfl, h, q⟩
theorem k_fmt0 (q : te σ H fun x H1 => (∃ y : Str, x = .str y ∧ y.length ≤ sizeLine ∧ Q (.str y) H1) ∨ ∃ i : Int, x = .int i ∧ i.natAbs.log2 < 1920 ∧ Q (.str (toString i)) H1) : tFmt te σ H Q := q
theorem k_fmtI {i : Int} {P1 : Str → Prop} {P2 : Int → Prop} (h : i.natAbs.log2 < 1920) (q : P2 i) : (∃ y : Str, V.int i = .str y ∧ y.length ≤ sizeLine ∧ P1 y) ∨ ∃ i' : Int, V.int i = .int i' ∧ i'.natAbs.log2 < 1920 ∧ P2 i' := .inr ⟨i, rfl, h, q⟩
theorem k_fmtS {z : Str} {P1 : Str → Prop} {P2 : Int → Prop} (h : z.length ≤ sizeLine) (q : P1 z) : (∃ y : Str, V.str z = .str y ∧ y.length ≤ sizeLine ∧ P1 y) ∨ ∃ i' : Int, V.str z = .int i' ∧ i'.natAbs.log2 < 1920 ∧ P2 i' := .inl ⟨z, rfl, h, q⟩
theorem k_addS {x y : Str} {P2 : Str → Str → Prop} (h : x.length + y.length ≤ sizeLine) (q : P2 x y) : ∃ i j, V.str x = .str i ∧ V.str y = .str j ∧ i.length + j.length ≤ sizeLine ∧ P2 i j := ⟨x, y, rfl, rfl, h, q⟩
/-- xs + ys -/
theorem k_cat {B : Hp} {ms : List Addr} {f l : List (Addr × HO)} {p q : Addr} {xs ys : List V} (M : Mem B ms H f l) (h1 : H p = some (.lst xs)) (h2 : H q = some (.lst ys)) (hl : xs.length + ys.length ≤ sizeLine) (k : ∀ a H', Mem B ms H' f ((a, .lst (xs ++ ys)) :: l) → Q (.ref a) H') : rCat (.ref p) (.ref q) H Q :=
  ⟨p, q, xs, ys, rfl, rfl, h1, h2, hl, fun a ha => k a _ (M.alloc ha)⟩
/-- xs[a:b] -/
theorem k_sl0 {rr : V → Option Int → Option Int → Hp → VK → Prop} {tl th : TO} (h : te σ H fun x H1 => tl σ H1 fun l H2 => th σ H2 fun u H3 => rr x l u H3 Q) : tSl rr te tl th σ H Q := h
theorem k_slL {B : Hp} {ms : List Addr} {f l : List (Addr × HO)} {p : Addr} {xs : List V} {lo hi : Option Int} (M : Mem B ms H f l) (h1 : SqL K H p xs) (k : ∀ a H', Mem B ms H' f ((a, .lst (cutV xs lo hi)) :: l) → Q (.ref a) H') : rSlL K (.ref p) lo hi H Q :=
  ⟨p, xs, rfl, h1, fun a ha => k a _ (M.alloc ha)⟩
theorem k_nopart {QO : Option Int → Hp → Prop} (q : QO none H) : tNoPart σ H QO := q
theorem k_part {QO : Option Int → Hp → Prop} (q : te σ H fun x H1 => ∃ i, x = .int i ∧ QO (some i) H1) : tPart te σ H QO := q
theorem k_parti {i : Int} {PQ : Int → Prop} (q : PQ i) : ∃ i', V.int i = .int i' ∧ PQ i' := ⟨i, rfl, q⟩
end
section
variable {σ : L2.St} {H : Hp} {tA : TA} {C : Addr} {fs : List Str} {X : XK} {f g h : Str} {v u t : V}
theorem k_err0 (q : tA σ H fun vs H1 => vs.length = fs.length ∧ errQ C fs vs H1 X) : tMkErr C fs tA σ H X := q
theorem k_errQ0 (q : X (.ref C) none H) : ([] : List V).length = ([] : List Str).length ∧ errQ C [] [] H X := ⟨rfl, q⟩
theorem k_errQ1 (q : ∀ d, H d = none → X (.ref C) (some d) (upd H d (.xd [(f, v)]))) : [v].length = [f].length ∧ errQ C [f] [v] H X := ⟨rfl, q⟩
theorem k_errQ2 (q : ∀ d, H d = none → X (.ref C) (some d) (upd H d (.xd [(g, u), (f, v)]))) : [v, u].length = [f, g].length ∧ errQ C [f, g] [v, u] H X := ⟨rfl, q⟩
theorem k_errQ3 (q : ∀ d, H d = none → X (.ref C) (some d) (upd H d (.xd [(h, t), (g, u), (f, v)]))) : [v, u, t].length = [f, g, h].length ∧ errQ C [f, g, h] [v, u, t] H X := ⟨rfl, q⟩
end
/-- a class of the module, as a value -/
theorem g_ref {X : Cx} {x : Str} {C : Addr} {pos : Pos} (hm : X.mg x = some (.ref C)) (hg : Gl X x := by rfl) (hd : (x == ("__debug__" : Str)) = false := by decide) : PE X (.Name x pos) (tC (.ref C)) := pe_glob (v := .ref C) hg hm rfl hd
/-- a built-in class, as a value -/
theorem g_ty {X : Cx} {x : Str} {n : String} {pos : Pos} (hm : X.mg x = none) (hv : bootBuiltins x = some (.type n)) (hg : Gl X x := by rfl) (hn : x ≠ "__name__" := by decide) (hd : (x == ("__debug__" : Str)) = false := by decide) : PE X (.Name x pos) (tC (.ty n)) := pe_bltn (v := .ty n) hg hm hv rfl hn hd
theorem log2_64 {i : Int} (h : -(2 ^ 64) < i) (h2 : i < 2 ^ 64) : i.natAbs.log2 < 1920 := by
  by_cases e : i.natAbs = 0
  · rw [e]; decide
  · exact Nat.lt_of_lt_of_le ((Nat.log2_lt e).mpr (show i.natAbs < 2 ^ 64 by omega)) (by decide)
theorem strI_len {i : Int} (h : -(2 ^ 64) < i) (h2 : i < 2 ^ 64) : (Str.ofString (toString i)).length ≤ 31 := by
  rw [PySem.ofString_length]
  exact int_text_length_le10 (k := 30) (by decide) (by omega)
end MyL

set_option Elab.async false
set_option linter.all false
set_option maxRecDepth 100000
set_option maxHeartbeats 4000000
/-! Loops by a word between two turns. -/
namespace MyL
open PySem L2
/-- for k in a range that begins at lo and has n turns -/
def RngLoop (lo : Int) (n : Nat) (g : TG) (tb : TS) (nx : L2.St → Hp → Prop) (rt : VK) (σ : L2.St) (H : Hp) : Prop :=
  ∃ Pv : Nat → L2.St → Hp → Prop, Pv 0 σ H ∧ (∀ i σ' H', i < n → Pv i σ' H' → g (.int (lo + i)) σ' H' fun σ2 H2 => tb ⟨Pv (i + 1), rt, nx, Pv (i + 1)⟩ σ2 H2) ∧ ∀ σ' H', Pv n σ' H' → nx σ' H'
/-- for x in a list of xs -/
def LstLoop (K : PySem.W.Frag) (a : Addr) (xs : List V) (g : TG) (tb : TS) (nx : L2.St → Hp → Prop) (rt : VK) (σ : L2.St) (H : Hp) : Prop :=
  ∃ Pv : Nat → L2.St → Hp → Prop, Pv 0 σ H ∧ (∀ i σ' H', i ≤ xs.length → Pv i σ' H' → SqL K H' a xs) ∧ (∀ i x σ' H', xs[i]? = some x → Pv i σ' H' → g x σ' H' fun σ2 H2 => tb ⟨Pv (i + 1), rt, nx, Pv (i + 1)⟩ σ2 H2) ∧ ∀ σ' H', Pv xs.length σ' H' → nx σ' H'
def TupLoop (K : PySem.W.Frag) (a : Addr) (xs : List V) (g : TG) (tb : TS) (nx : L2.St → Hp → Prop) (rt : VK) (σ : L2.St) (H : Hp) : Prop :=
  ∃ Pv : Nat → L2.St → Hp → Prop, Pv 0 σ H ∧ (∀ i σ' H', i ≤ xs.length → Pv i σ' H' → SqT K H' a xs) ∧ (∀ i x σ' H', xs[i]? = some x → Pv i σ' H' → g x σ' H' fun σ2 H2 => tb ⟨Pv (i + 1), rt, nx, Pv (i + 1)⟩ σ2 H2) ∧ ∀ σ' H', Pv xs.length σ' H' → nx σ' H'
/-- a comprehension over a range, over a list -/
def LcR (lo : Int) (n : Nat) (g : TG) (tt : TT) (te : TE) (vs : List Nat) (σ : L2.St) (H : Hp) (Q : VK) : Prop :=
  ∀ D, H D = none → ∃ Pv : Nat → Hp → Prop, Pv 0 (upd H D (.lst [])) ∧ (∀ i H', i < n → Pv i H' → g (.int (lo + i)) (wipe σ vs) H' fun σ2 H2 => wipe σ2 vs = wipe σ vs ∧ tt σ2 H2 fun b H3 =>
    if b = true then te σ2 H3 fun y H4 => ∃ acc, H4 D = some (.lst acc) ∧ acc.length < sizeLine ∧ Pv (i + 1) (upd H4 D (.lst (acc ++ [y]))) else Pv (i + 1) H3) ∧ ∀ H', Pv n H' → Q (.ref D) H'
def LcL (K : PySem.W.Frag) (a : Addr) (xs : List V) (g : TG) (tt : TT) (te : TE) (vs : List Nat) (σ : L2.St) (H : Hp) (Q : VK) : Prop :=
  ∀ D, H D = none → ∃ Pv : Nat → Hp → Prop, Pv 0 (upd H D (.lst [])) ∧ (∀ i H', i ≤ xs.length → Pv i H' → SqL K H' a xs) ∧ (∀ i x H', xs[i]? = some x → Pv i H' → g x (wipe σ vs) H' fun σ2 H2 => wipe σ2 vs = wipe σ vs ∧ tt σ2 H2 fun b H3 =>
    if b = true then te σ2 H3 fun y H4 => ∃ acc, H4 D = some (.lst acc) ∧ acc.length < sizeLine ∧ Pv (i + 1) (upd H4 D (.lst (acc ++ [y]))) else Pv (i + 1) H3) ∧ ∀ H', Pv xs.length H' → Q (.ref D) H'
def iJ (J : It) : TI := fun _ H R => R J H
section
variable {nx : L2.St → Hp → Prop} {rt : VK} {bk ct : L2.St → Hp → Prop} {σ : L2.St} {H : Hp} {tb : TS} {g : TG} {te tl : TE} {tt : TT} {Q : VK} {tA : TA} {K : PySem.W.Frag} {D : Ends} {vs : List Nat}
theorem k_forR1 (h : tA σ H fun vs H1 => ∃ j : Int, vs = [.int j] ∧ -(2 ^ 62) ≤ j ∧ j < 2 ^ 62 ∧ tFor (iJ (Itr 0 j.toNat)) g tb D σ H1) : tFor (iRng1 tA) g tb D σ H := h
theorem k_forR2 (h : tA σ H fun vs H1 => ∃ i j : Int, vs = [.int i, .int j] ∧ (-(2 ^ 62) ≤ i ∧ i < 2 ^ 62 ∧ -(2 ^ 62) ≤ j ∧ j < 2 ^ 62) ∧ tFor (iJ (Itr i (j - i).toNat)) g tb D σ H1) : tFor (iRng2 tA) g tb D σ H := h
theorem k_forL (h : tl σ H fun x H1 => ∃ a, x = .ref a ∧ (∃ xs, SqL K H1 a xs) ∧ tFor (iJ (Itl K a)) g tb D σ H1) : tFor (iList K tl) g tb D σ H := h
theorem k_forT (h : tl σ H fun x H1 => ∃ a, x = .ref a ∧ (∃ xs, SqT K H1 a xs) ∧ tFor (iJ (Itt K a)) g tb D σ H1) : tFor (iTup K tl) g tb D σ H := h
theorem k_lcR1 (h : tA σ H fun zs H1 => ∃ j : Int, zs = [.int j] ∧ -(2 ^ 62) ≤ j ∧ j < 2 ^ 62 ∧ tLc (iJ (Itr 0 j.toNat)) g tt te vs σ H1 Q) : tLc (iRng1 tA) g tt te vs σ H Q := h
theorem k_lcR2 (h : tA σ H fun zs H1 => ∃ i j : Int, zs = [.int i, .int j] ∧ (-(2 ^ 62) ≤ i ∧ i < 2 ^ 62 ∧ -(2 ^ 62) ≤ j ∧ j < 2 ^ 62) ∧ tLc (iJ (Itr i (j - i).toNat)) g tt te vs σ H1 Q) : tLc (iRng2 tA) g tt te vs σ H Q := h
theorem k_lcL (h : tl σ H fun x H1 => ∃ a, x = .ref a ∧ (∃ xs, SqL K H1 a xs) ∧ tLc (iJ (Itl K a)) g tt te vs σ H1 Q) : tLc (iList K tl) g tt te vs σ H Q := h
theorem k_rng1 {n : Int} {PR : Int → Prop} (h1 : -(2 ^ 62) ≤ n) (h2 : n < 2 ^ 62) (q : PR n) : ∃ j : Int, [V.int n] = [.int j] ∧ -(2 ^ 62) ≤ j ∧ j < 2 ^ 62 ∧ PR j := ⟨n, rfl, h1, h2, q⟩
theorem k_rng2 {m n : Int} {PR : Int → Int → Prop} (h1 : -(2 ^ 62) ≤ m) (h2 : m < 2 ^ 62) (h3 : -(2 ^ 62) ≤ n) (h4 : n < 2 ^ 62) (q : PR m n) : ∃ i j : Int, [V.int m, V.int n] = [.int i, .int j] ∧ (-(2 ^ 62) ≤ i ∧ i < 2 ^ 62 ∧ -(2 ^ 62) ≤ j ∧ j < 2 ^ 62) ∧ PR i j := ⟨m, n, rfl, ⟨h1, h2, h3, h4⟩, q⟩
theorem k_lstAt {p : Addr} {xs : List V} {PR : Addr → Prop} (h : SqL K H p xs) (q : PR p) : ∃ a, V.ref p = .ref a ∧ (∃ xs, SqL K H a xs) ∧ PR a := ⟨p, rfl, ⟨xs, h⟩, q⟩
theorem k_tupAt {p : Addr} {xs : List V} {PR : Addr → Prop} (h : SqT K H p xs) (q : PR p) : ∃ a, V.ref p = .ref a ∧ (∃ xs, SqT K H a xs) ∧ PR a := ⟨p, rfl, ⟨xs, h⟩, q⟩
theorem rng_loop {lo : Int} {n : Nat} (h : RngLoop lo n g tb nx rt σ H) : tFor (iJ (Itr lo n)) g tb ⟨nx, rt, bk, ct⟩ σ H := by
  obtain ⟨Pv, h0, hs, hd⟩ := h
  exact for_range (D := ⟨nx, rt, bk, ct⟩) Pv h0 hs hd
theorem lst_loop {a : Addr} {xs : List V} (h : LstLoop K a xs g tb nx rt σ H) : tFor (iJ (Itl K a)) g tb ⟨nx, rt, bk, ct⟩ σ H := by
  obtain ⟨Pv, h0, hl, hs, hd⟩ := h
  exact for_list (D := ⟨nx, rt, bk, ct⟩) Pv h0 hl hs hd
theorem tup_loop {a : Addr} {xs : List V} (h : TupLoop K a xs g tb nx rt σ H) : tFor (iJ (Itt K a)) g tb ⟨nx, rt, bk, ct⟩ σ H := by
  obtain ⟨Pv, h0, hl, hs, hd⟩ := h
  exact for_tup (D := ⟨nx, rt, bk, ct⟩) Pv h0 hl hs hd
theorem lc_rng {lo : Int} {n : Nat} (h : LcR lo n g tt te vs σ H Q) : tLc (iJ (Itr lo n)) g tt te vs σ H Q := fun D hD => by
  obtain ⟨Pv, h0, hs, hd⟩ := h D hD
  exact lc_range Pv h0 hs hd
theorem lc_lst {a : Addr} {xs : List V} (h : LcL K a xs g tt te vs σ H Q) : tLc (iJ (Itl K a)) g tt te vs σ H Q := fun D hD => by
  obtain ⟨Pv, h0, hl, hs, hd⟩ := h D hD
  exact lc_list Pv h0 hl hs hd
theorem k_iteNE {x : Bool} {A Z : Prop} (h : Z) : if (!(x == x)) = true then A else Z := by
  rw [if_neg (by simp)]; exact h
theorem k_iteNS {z : Str} {A Z : Prop} (h : Z) : if (!decide (z = z)) = true then A else Z := by
  rw [if_neg (by simp)]; exact h
theorem k_gName {i : Nat} {v : V} {QG : L2.St → Hp → Prop} (q : QG (σ.set i (some v)) H) : gName i v σ H QG := q
theorem Mem.one {B : Hp} {ms : List Addr} {f l : List (Addr × HO)} {x : Addr × HO} (M : Mem B ms H f (x :: l)) : Mem B ms H f [x] := by
  refine ⟨M.atF, fun p hp => M.atL p (by simp at hp; simp [hp]), ?_, M.keep, M.tr, fun p hp => M.new p (by simp at hp; simp [hp])⟩
  have nd := M.nd
  simp only [List.cons_append, List.map_cons, List.nodup_cons, List.map_append, List.nil_append, List.nodup_append, List.mem_append, List.append_eq] at nd ⊢
  exact ⟨fun z => nd.1 (.inr z), nd.2.2.1⟩
theorem Mem.none {B : Hp} {ms : List Addr} {f l : List (Addr × HO)} (M : Mem B ms H f l) : Mem B ms H f [] := by
  refine ⟨M.atF, (fun p hp => nomatch hp), ?_, M.keep, M.tr, (fun p hp => nomatch hp)⟩
  have nd := M.nd
  rw [List.map_append, List.nodup_append] at nd
  simpa using nd.2.1
/-- a comprehension over a range without a test, whose element is reckoned and makes nothing -/
theorem lcR_pure {B : Hp} {ms : List Addr} {f l : List (Addr × HO)} {lo : Int} {n j : Nat} (M : Mem B ms H f l) (v : Nat → V) (hn : n ≤ 50000) (hw : ∀ x, wipe ((wipe σ vs).set j (some x)) vs = wipe σ vs)
    (he : ∀ (i : Nat) H' D (R : VK), i < n → Mem B ms H' f ((D, .lst ((List.range i).map v)) :: l) → (∀ H4, Mem B ms H4 f ((D, .lst ((List.range i).map v)) :: l) → R (v i) H4) → te ((wipe σ vs).set j (some (.int (lo + i)))) H' R)
    (k : ∀ D H', Mem B ms H' f ((D, .lst ((List.range n).map v)) :: l) → Q (.ref D) H') : tLc (iJ (Itr lo n)) (gName j) tYes te vs σ H Q := by
  refine lc_rng fun D hD => ⟨fun i H' => Mem B ms H' f ((D, .lst ((List.range i).map v)) :: l), M.alloc hD, fun i H' hi M' => ⟨hw _, ?_⟩, fun H' M' => k D H' M'⟩
  refine iteT (B := Mem B ms H' f ((D, .lst ((List.range (i + 1)).map v)) :: l)) (he i H' D _ hi M' fun H4 M4 => ⟨_, M4.getL List.mem_cons_self, ?_, ?_⟩)
  · rw [List.length_map, List.length_range]; exact Nat.lt_of_lt_of_le hi (Nat.le_trans hn (by decide))
  · dsimp only; rw [List.range_succ, List.map_append]; exact Mem.setL (l1 := []) M4
/-- .. over a list -/
theorem lcL_pure {B : Hp} {ms : List Addr} {f l : List (Addr × HO)} {a : Addr} {xs : List V} {j : Nat} (M : Mem B ms H f l) (hx : ∀ H', Mem B ms H' f l → SqL K H' a xs) (v : Nat → V) (hn : xs.length ≤ 50000) (hw : ∀ x, wipe ((wipe σ vs).set j (some x)) vs = wipe σ vs)
    (he : ∀ (i : Nat) x H' D (R : VK), xs[i]? = some x → Mem B ms H' f ((D, .lst ((List.range i).map v)) :: l) → (∀ H4, Mem B ms H4 f ((D, .lst ((List.range i).map v)) :: l) → R (v i) H4) → te ((wipe σ vs).set j (some x)) H' R)
    (k : ∀ D H', Mem B ms H' f ((D, .lst ((List.range xs.length).map v)) :: l) → Q (.ref D) H') : tLc (iJ (Itl K a)) (gName j) tYes te vs σ H Q := by
  refine lc_lst (xs := xs) fun D hD => ⟨fun i H' => Mem B ms H' f ((D, .lst ((List.range i).map v)) :: l), M.alloc hD, fun i H' _ M' => hx H' M'.drop, fun i x H' hi M' => ⟨hw _, ?_⟩, fun H' M' => k D H' M'⟩
  refine iteT (B := Mem B ms H' f ((D, .lst ((List.range (i + 1)).map v)) :: l)) (he i x H' D _ hi M' fun H4 M4 => ⟨_, M4.getL List.mem_cons_self, ?_, ?_⟩)
  · rw [List.length_map, List.length_range]; exact Nat.lt_of_lt_of_le (List.getElem?_eq_some_iff.mp hi).1 (Nat.le_trans hn (by decide))
  · dsimp only; rw [List.range_succ, List.map_append]; exact Mem.setL (l1 := []) M4
end
end MyL

set_option Elab.async false
set_option linter.all false
set_option maxRecDepth 100000
set_option maxHeartbeats 4000000
/-! What is asked of a caught error, step by step. -/
namespace MyL
open PySem L2
section
variable {K : PySem.W.Frag} {H : Hp} {Q : VK} {D a dd C1 C2 C3 : Addr} {fs : List (Str × V)} {b : Bool} {σ : L2.St} {te : TE} {f : Str} {v : V}
theorem k_isXo (hD : ExcK K D) (hd : H dd = some (.xd fs)) (e : PySem.W.kitOne K (.ref D) (.ref C1) = some b) (q : Q (.bl b) H) : rIsX K (.ref D) (some dd) a [.ref a, .ref C1] H Q := ⟨D, _, _, b, rfl, hD, ⟨fs, hd⟩, rfl, .own C1, e, q⟩
theorem k_isXs (hD : ExcK K D) (hd : H dd = some (.xd fs)) (q : Q (.bl true) H) : rIsX K (.ref D) (some dd) a [.ref a, .ref D] H Q := k_isXo hD hd (by simp [PySem.W.kitOne]) q
theorem k_isXt {n : String} (hD : ExcK K D) (hd : H dd = some (.xd fs)) (e : PySem.W.kitOne K (.ref D) (.type n) = some b) (q : Q (.bl b) H) : rIsX K (.ref D) (some dd) a [.ref a, .ty n] H Q := ⟨D, _, _, b, rfl, hD, ⟨fs, hd⟩, rfl, .ty n, e, q⟩
theorem k_isX3 {tp : Addr} (hD : ExcK K D) (hd : H dd = some (.xd fs)) (ht : H tp = some (.tup [.ref C1, .ref C2, .ref C3])) (e : PySem.W.kitAny K (.ref D) [.ref C1, .ref C2, .ref C3] = some b) (q : Q (.bl b) H) : rIsXT K (.ref D) (some dd) a [.ref a, .ref tp] H Q :=
  ⟨D, tp, _, _, b, rfl, hD, ⟨fs, hd⟩, rfl, ht, .cons (.own C1) (.cons (.own C2) (.cons (.own C3) .nil)), e, q⟩
theorem k_isX2 {tp : Addr} (hD : ExcK K D) (hd : H dd = some (.xd fs)) (ht : H tp = some (.tup [.ref C1, .ref C2])) (e : PySem.W.kitAny K (.ref D) [.ref C1, .ref C2] = some b) (q : Q (.bl b) H) : rIsXT K (.ref D) (some dd) a [.ref a, .ref tp] H Q :=
  ⟨D, tp, _, _, b, rfl, hD, ⟨fs, hd⟩, rfl, ht, .cons (.own C1) (.cons (.own C2) .nil), e, q⟩
theorem k_xf0 {cls : Value} {d : Option Addr} (h : te σ H fun x H1 => x = .ref a ∧ cls = .ref D ∧ ∃ (dd : Addr) (fs : List (Str × V)) (v : V), d = some dd ∧ H1 dd = some (.xd fs) ∧ fs.lookup f = some v ∧ Q v H1) : tXf a cls d D f te σ H Q := h
theorem k_xf {PV : V → Prop} (hd : H dd = some (.xd fs)) (hl : fs.lookup f = some v) (q : PV v) : V.ref a = .ref a ∧ Value.ref D = .ref D ∧ ∃ (dd' : Addr) (fs' : List (Str × V)) (v' : V), some dd = some dd' ∧ H dd' = some (.xd fs') ∧ fs'.lookup f = some v' ∧ PV v' := ⟨rfl, rfl, dd, fs, v, rfl, hd, hl, q⟩
theorem xd1 {g : Str} {v : V} : List.lookup g [(g, v)] = some v := by simp [List.lookup]
theorem xd2 {g h : Str} {v u : V} (n : ¬ g = h) : List.lookup g [(h, u), (g, v)] = some v := by
  rw [lookup_put, if_neg n, lookup_put, if_pos rfl]
/-- the clause takes the error -/
theorem k_caught {K : PySem.W.Frag} {c : Value} {i : Nat} {ts : Addr → Value → Option Addr → TS} {Wout : WX} {nx : L2.St → Hp → Prop} {rt : VK} {bk ct : L2.St → Hp → Prop} {cls : Value} {d : Option Addr} (h : PySem.W.exmOne K cls c = some true)
    (q : ∀ a, H a = none → ts a cls d ⟨fun σ' H' => nx (σ'.set i none) H', rt, fun σ' H' => bk (σ'.set i none) H', fun σ' H' => ct (σ'.set i none) H'⟩ (σ.set i (some (.ref a))) H) : wAs K c i ts Wout ⟨nx, rt, bk, ct⟩ cls d σ H :=
  ⟨true, h, fun _ => q, fun z => nomatch z⟩
/-- the script's list -/
theorem k_lenS {p : Addr} {ns : List Int} (h : SqL K H p (ns.map V.int)) (q : Q (.int ns.length) H) : rLenQ K [.ref p] H Q := ⟨p, _, rfl, .inl h, by rw [List.length_map]; exact q⟩
theorem k_ixS {p : Addr} {xs : List V} {j : Int} {v : V} (h : SqL K H p xs) (ha : atI xs j = some v) (q : Q v H) : rIxL K (.ref p) (.int j) H Q := ⟨p, xs, j, v, rfl, rfl, h, ha, q⟩
theorem cut_all {xs : List V} {n : Int} (h : (xs.length : Int) ≤ n) : cutV xs none (some n) = xs := by
  unfold cutV
  have h0 : HT.sIx xs.length 0 none = 0 := rfl
  have h1 : HT.sIx xs.length xs.length (some n) = xs.length := by
    show (if n < 0 then (n + (xs.length : Int)).toNat else min n.toNat xs.length) = xs.length
    rw [if_neg (by omega)]
    omega
  rw [h0, h1]
  simp
end
end MyL

set_option Elab.async false
set_option linter.all false
set_option maxRecDepth 100000
set_option maxHeartbeats 4000000
/-! A class of one's own made by keywords alone. -/
namespace MyL
open PySem PySem.Spec PyProof.Rows L2
structure MakK (P : Program) (w : World) (K : PySem.W.Frag) (mg : Str → Option Value) (base : Heap) (k : Nat) (x : Str) (C : Addr) (ks : List Str) (pm : {α : Type} → List α → List α) (sp : Sp) : Prop where
  ex : ∃ (f : Addr) (fd : FuncData) (ps : List Str), mg x = some (.ref C) ∧ Mk K C f ∧ (∀ (s : Shared) (u : Value) (ws : List Value), K.In s.heap → ws.length = ks.length → BindsTo s fd ⟨[u], ks.zip ws⟩ (ps.zip (u :: pm ws))) ∧
    (∀ (zs : List V) (ws : List Value), Vals zs ws → zs.length = ks.length → Vals (pm zs) (pm ws)) ∧ FnOk P w K mg base (L2.CX P w) k f fd ps sp
def tMakeK (C : Addr) (sp : Sp) (pm : List V → List V) (n : Nat) (W : WX) (tk : TA) : TE := fun σ H Q => tk σ H fun zs H1 => zs.length = n ∧ newO C sp (pm zs) H1 Q (WE W σ)
section
variable {X : Cx} {W : WX} {k j : Nat} {C : Addr} {sp : Sp} {x : Str} {p pos : Pos} {kws : List Keyword} {ks : List Str} {t : TA} {pm : {α : Type} → List α → List α}
theorem c_makeK (c : MakK X.prog X.w X.K X.mg X.base k x C ks pm sp) (tk : Takes X W) (hr : Room j X.A) (hk : k + 1 ≤ j) (hkw : PK X kws t) (hg : Gl X x := by rfl) (hall : (backToKw pos (keywordEach kws X.env)).all (·.1.isSome) = true := by rfl) (hks : (backToKw pos (keywordEach kws X.env)).filterMap (·.1) = ks := by rfl)
    (hdb : (x == ("__debug__" : Str)) = false := by decide) (hpl : ((backTo pos (starEach [] X.env)).any (·.1) || (backToKw pos (keywordEach kws X.env)).any (·.1.isNone)) = false := by rfl) :
    PE X (.Call (.Name x p) [] kws pos) (tMakeK C sp pm ks.length W t) := by
  obtain ⟨f, fd, ps, hm, M, hb, hrel, F⟩ := c.ex
  refine ⟨fun pins s σ H Q I h => ?_⟩
  refine wpAny_Call_Name_kw (ld_glob I hg hm ?_ hdb)
  refine PySem.W.callWith_KW0 (first := []) (h₀ := X.base) I.ok.mod.kin M.kp hall (thn (hkw.run pos pins s σ H _ I h) fun ws s1 hh => ?_) hpl
  obtain ⟨zs, H1, I1, rz, hl, q⟩ := hh
  refine ⟨I1.kIn, ?_⟩
  rw [hks]
  have hwl : ws.length = ks.length := by rw [← rz.length]; exact hl
  have hq := q (s1.heap.objs.size + 1) s1.heap.objs.size (I1.hok.fresh (Nat.le_succ _)) (I1.hok.fresh (Nat.le_refl _)) (Nat.ne_of_lt (Nat.lt_succ_self _))
  have I2 := Inv.made (C := C) I1
  have r2 : Vals (V.ref (s1.heap.objs.size + 1) :: pm zs) (Value.ref (s1.heap.objs.size + 1) :: pm ws) := .cons rfl (hrel zs ws rz hl)
  have hr2 : Room (k + 1) X.A := hr.mono hk
  show wpAny _ _ (call (.ref C) [] (ks.zip ws)) _ _ _
  refine wpAny_call (make_map (f := f) I1.kIn M.makes M.init (beq_iff_eq.mp M.fn) (codeAny_mono (F.run _ X.stack _ _ ⟨[Value.ref (s1.heap.objs.size + 1)], ks.zip ws⟩ (Value.ref (s1.heap.objs.size + 1) :: pm ws) _ _ (WE W σ) (hr2.make C [] (ks.zip ws))
    (I2.env0.make C [] (ks.zip ws)) (hb _ _ ws I2.kIn hwl) r2 hq) fun r s' hq' => ?_))
  match r, hq' with
  | .error e, hq' => exact passAt tk σ pins _ _ e s' I2 hq'
  | .ok (.ret u), hq' =>
    obtain ⟨v, H', I3, rv, ev, q3⟩ := I2.after hq'
    subst ev
    exact ⟨rv, ⟨V.ref (s1.heap.objs.size + 1), H', I3, rfl, q3⟩⟩
  | .ok .next, hq' => exact hq'.elim
  | .ok .brk, hq' => exact hq'.elim
  | .ok .cont, hq' => exact hq'.elim
theorem k_makeK0 {σ : L2.St} {H : Hp} {Q : VK} {pm : List V → List V} {n : Nat} (h : t σ H fun zs H1 => zs.length = n ∧ newO C sp (pm zs) H1 Q (WE W σ)) : tMakeK C sp pm n W t σ H Q := h
end
/-- two turned about -/
def swap2 {α : Type} : List α → List α
  | [a, b] => [b, a]
  | l => l
theorem k_swap2 {H : Hp} {Q : VK} {E : XK} {C : Addr} {sp : Sp} {u v : V} (q : newO C sp [v, u] H Q E) : [u, v].length = 2 ∧ newO C sp (swap2 [u, v]) H Q E := ⟨rfl, q⟩
end MyL

set_option Elab.async false
set_option linter.all false
set_option maxRecDepth 100000
set_option maxHeartbeats 4000000
/-! A comprehension whose element makes an object at every turn. -/
namespace MyL
open PySem L2
section
variable {σ : L2.St} {H : Hp} {te : TE} {Q : VK} {K : PySem.W.Frag} {vs : List Nat} {B : Hp} {ms : List Addr} {f l : List (Addr × HO)}
theorem Mem.swap {x y : Addr × HO} (M : Mem B ms H f (x :: y :: l)) : Mem B ms H f (y :: x :: l) := by
  refine ⟨M.atF, fun p hp => M.atL p ?_, ?_, M.keep, M.tr, fun p hp => M.new p ?_⟩
  · simp at hp ⊢; rcases hp with h | h | h <;> simp [h]
  · have nd := M.nd
    simp only [List.cons_append, List.map_cons, List.nodup_cons, List.mem_cons, not_or] at nd ⊢
    exact ⟨⟨fun z => nd.1.1 z.symm, nd.2.1⟩, nd.1.2, nd.2.2⟩
  · simp at hp ⊢; rcases hp with h | h | h <;> simp [h]
theorem lcL_new {O : V → HO → Prop} {a : Addr} {xs : List V} {j : Nat} (M : Mem B ms H f l) (hx : ∀ H' l', Mem B ms H' f l' → SqL K H' a xs) (hn : xs.length ≤ 50000) (hw : ∀ x, wipe ((wipe σ vs).set j (some x)) vs = wipe σ vs)
    (he : ∀ x H' l' (R : VK), x ∈ xs → Mem B ms H' f l' → (∀ y o H4, O x o → Mem B ms H4 f ((y, o) :: l') → R (.ref y) H4) → te ((wipe σ vs).set j (some x)) H' R)
    (k : ∀ (D : Addr) (zs : List (Addr × HO)) (H' : Hp), zs.length = xs.length → (∀ (n : Nat) (x : V) (z : Addr × HO), xs[n]? = some x → zs[n]? = some z → O x z.2) → Mem B ms H' f ((D, .lst (zs.map fun z => V.ref z.1)) :: (zs.reverse ++ l)) → Q (.ref D) H') : tLc (iJ (Itl K a)) (gName j) tYes te vs σ H Q := by
  refine lc_lst (xs := xs) fun D hD => ⟨fun i H' => ∃ zs : List (Addr × HO), zs.length = i ∧ (∀ (n : Nat) (x : V) (z : Addr × HO), xs[n]? = some x → zs[n]? = some z → O x z.2) ∧ Mem B ms H' f ((D, .lst (zs.map fun z => V.ref z.1)) :: (zs.reverse ++ l)), ?_, ?_, ?_, ?_⟩
  · exact ⟨[], rfl, (fun n x z _ h => by simp at h), M.alloc hD⟩
  · rintro i H' _ ⟨zs, _, _, M'⟩
    exact hx H' _ M'
  · rintro i x H' hi ⟨zs, hz, hO, M'⟩
    refine ⟨hw _, ?_⟩
    refine iteT (B := ∃ zs : List (Addr × HO), zs.length = i + 1 ∧ (∀ (n : Nat) (x : V) (z : Addr × HO), xs[n]? = some x → zs[n]? = some z → O x z.2) ∧ Mem B ms H' f ((D, .lst (zs.map fun z => V.ref z.1)) :: (zs.reverse ++ l))) (he x H' _ _ (List.mem_of_getElem? hi) M' fun y o H4 ho M4 => ?_)
    have hil : i < xs.length := by
      have := List.getElem?_eq_some_iff.1 hi
      exact this.1
    refine ⟨_, M4.getL (List.mem_cons_of_mem _ List.mem_cons_self), ?_, zs ++ [(y, o)], ?_, ?_, ?_⟩
    · rw [List.length_map, hz]; exact Nat.lt_of_lt_of_le hil (Nat.le_trans hn (by decide))
    · simp [hz]
    · intro n x' z hx' hz'
      by_cases hlt : n < i
      · rw [List.getElem?_append_left (by omega)] at hz'
        exact hO n x' z hx' hz'
      · have hni : n = i := by
          have := (List.getElem?_eq_some_iff.1 hz').1
          simp at this
          omega
        subst hni
        rw [List.getElem?_append_right (by omega), hz, Nat.sub_self] at hz'
        rw [hi] at hx'
        simp at hx' hz'
        subst hx' hz'
        exact ho
    · have := (Mem.setL (l1 := [(y, o)]) (o' := .lst (List.map (fun z : Addr × HO => V.ref z.1) (zs ++ [(y, o)]))) M4).swap
      simpa using this
  · rintro H' ⟨zs, hz, hO, M'⟩
    exact k D zs H' hz hO M'
theorem k_swapK {E : XK} {C : Addr} {sp : Sp} {u v : V} {s t : Str} (q : newO C sp [v, u] H Q E) : [u, v].length = [s, t].length ∧ newO C sp (swap2 [u, v]) H Q E := ⟨rfl, q⟩
theorem k_iteNEq {x y : Bool} {A Z : Prop} (e : x = y) (h : Z) : if (!(x == y)) = true then A else Z := by
  subst e; rw [if_neg (by simp)]; exact h
end
end MyL

set_option Elab.async false
set_option linter.all false
set_option maxRecDepth 100000
set_option maxHeartbeats 4000000
/-! The end: what the top has written, def by def, and the law's own head. -/
namespace MyL
open PySem PySem.Spec PyProof.Rows L2
def DefAt (K : PySem.W.Frag) (mg : Str → Option Value) (x qual : Str) (st : Stmt) : Prop := ∃ (f : Addr) (fd : FuncData), mg x = some (.ref f) ∧ Fun K x qual st f fd
def MethAt (K : PySem.W.Frag) (C : Addr) (m qual : Str) (st : Stmt) : Prop := ∃ (f : Addr) (fd : FuncData), PySem.W.findIn K (.ref C) m = some (some (.ref f)) ∧ PySem.W.isFn K (.ref f) = true ∧ Fun K m qual st f fd
section
variable {P : Program} {w : World} {K : PySem.W.Frag} {mg : Str → Option Value} {base h : Heap} {k : Nat} {C f : Addr} {x m qual : Str} {sp : Sp} {st : Stmt} {fd : FuncData} {ps : List Str} {oc : Value} {od an : Option Addr} {osl : Array (Option Value)} {kV doc pm cdv ct : Value}
theorem gdef (X : K.In h) (G : h.Ns mainGlobals mg) (a : PySem.W.nsIn K mainGlobals x = some (some (.ref f))) (l : K.lookup f = some ⟨oc, od, .func (PySem.W.fnOf x qual (defArgs st) (defBody st) (defScope st) .none kV doc pm an cdv ct), osl⟩)
    (c : PySem.W.codeIn K cdv qual = true) (kp : PySem.W.keepIn K (.ref f) = true) : DefAt K mg x qual st := ⟨f, _, PySem.W.mg_of X G a, fun_mk l c kp⟩
theorem gmeth (a : PySem.W.findIn K (.ref C) m = some (some (.ref f))) (i : PySem.W.isFn K (.ref f) = true) (l : K.lookup f = some ⟨oc, od, .func (PySem.W.fnOf m qual (defArgs st) (defBody st) (defScope st) .none kV doc pm an cdv ct), osl⟩)
    (c : PySem.W.codeIn K cdv qual = true) (kp : PySem.W.keepIn K (.ref f) = true) : MethAt K C m qual st := ⟨f, _, a, i, fun_mk l c kp⟩
/-- the arguments of a def of the text bind by place -/
def BindsSt (x qual : Str) (st : Stmt) (ps : List Str) : Prop := ∀ (kV doc pm : Value) (an : Option Addr) (cdv ct : Value) (us : List Value), us.length = ps.length → bindArgs (PySem.W.fnOf x qual (defArgs st) (defBody st) (defScope st) .none kV doc pm an cdv ct) ⟨us, []⟩ = pure (ps.zip us)
theorem cal_of (D : DefAt K mg x qual st) (hb : BindsSt x qual st ps) (ok : ∀ {f : Addr} {fd : FuncData}, Fun K x qual st f fd → FnOk P w K mg base (L2.CX P w) k f fd ps sp) : Cal P w K mg base k x sp := by
  obtain ⟨f, fd, a, F⟩ := D
  exact ⟨f, fd, ps, a, F.kp, F.binds hb, ok F⟩
theorem calQ_of (D : DefAt K mg x qual st) (hb : BindsSt x qual st ps) (ok : ∀ {f : Addr} {fd : FuncData}, Fun K x qual st f fd → Binds K fd ps [] → FnQ P w K mg base k f sp) : CalQ P w K mg base k x sp := by
  obtain ⟨f, fd, a, F⟩ := D
  exact ⟨f, a, F.kp, ok F (F.binds hb)⟩
theorem spc_of (D : MethAt K C m qual st) (hb : BindsSt m qual st ps) (ok : ∀ {f : Addr} {fd : FuncData}, Fun K m qual st f fd → FnOk P w K mg base (L2.CX P w) k f fd ps sp) : Spc P w K mg base k C m sp := by
  obtain ⟨f, fd, a, i, F⟩ := D
  exact ⟨f, a, i, raw0 (ok F) (F.binds hb)⟩
theorem met_of (D : MethAt K C m qual st) (cl : Cls K C) (hb : BindsSt m qual st ps) (ok : ∀ {f : Addr} {fd : FuncData}, Fun K m qual st f fd → FnOk P w K mg base (L2.CX P w) k f fd ps sp) : Met P w K mg base k C m sp := by
  obtain ⟨f, fd, a, i, F⟩ := D
  exact ⟨f, fd, ps, cl, ⟨a, i, F.kp⟩, F.binds hb, ok F⟩
theorem mak_of (D : MethAt K C "__init__" qual st) (gC : mg x = some (.ref C)) (mk : PySem.W.makesIn K C = true) (kc : PySem.W.keepIn K (.ref C) = true) (hb : BindsSt "__init__" qual st ps) (ok : ∀ {f : Addr} {fd : FuncData}, Fun K "__init__" qual st f fd → FnOk P w K mg base (L2.CX P w) k f fd ps sp) : Mak P w K mg base k x C sp := by
  obtain ⟨f, fd, a, i, F⟩ := D
  exact ⟨f, fd, ps, gC, ⟨mk, a, i, kc⟩, F.binds hb, ok F⟩
def KwSt (x qual : Str) (st : Stmt) (ps ks : List Str) (pm : {α : Type} → List α → List α) : Prop := ∀ (kV doc pm' : Value) (an : Option Addr) (cdv ct : Value) (u : Value) (ws : List Value), ws.length = ks.length → bindArgs (PySem.W.fnOf x qual (defArgs st) (defBody st) (defScope st) .none kV doc pm' an cdv ct) ⟨[u], ks.zip ws⟩ = pure (ps.zip (u :: pm ws))
theorem swap2_vals {zs : List V} {ws : List Value} (r : Vals zs ws) : Vals (swap2 zs) (swap2 ws) := by
  cases r with
  | nil => exact .nil
  | cons h1 r1 =>
    cases r1 with
    | nil => exact .cons h1 .nil
    | cons h2 r2 =>
      cases r2 with
      | nil => exact .cons h2 (.cons h1 .nil)
      | cons h3 r3 => exact .cons h1 (.cons h2 (.cons h3 r3))
theorem makK_of {ks : List Str} (D : MethAt K C "__init__" qual st) (gC : mg x = some (.ref C)) (mk : PySem.W.makesIn K C = true) (kc : PySem.W.keepIn K (.ref C) = true) (hb : KwSt "__init__" qual st ps ks swap2) (ok : ∀ {f : Addr} {fd : FuncData}, Fun K "__init__" qual st f fd → FnOk P w K mg base (L2.CX P w) k f fd ps sp) : MakK P w K mg base k x C ks swap2 sp := by
  obtain ⟨f, fd, a, i, F⟩ := D
  obtain ⟨oc, od, kV, doc, pm', an, cdv, ct, osl, rfl, lk, hcd⟩ := id F.ex
  exact ⟨f, _, ps, gC, ⟨mk, a, i, kc⟩, fun s u ws _ hl => .of_eq (hb kV doc pm' an cdv ct u ws hl), fun zs ws r _ => swap2_vals r, ok F⟩
def spLaw (K : PySem.W.Frag) : Sp := fun vs H Q _ => ∃ (a : Addr) (ns : List Int), vs = [.ref a] ∧ SqL K H a (ns.map V.int) ∧ ns.length ≤ 63 ∧ ∀ H', Q (.bl true) H'
end
theorem law_walk {l : PySem.W.OpenLaw} {k : Nat} {q : Program} {loose : List Str} {XP : (Str → Option Value) → Heap → Prop} {YP : World → Heap → Prop} {d : DefRec} {K : Params → PySem.W.Frag} {st : Stmt} {x : Str} (hn : l.most = some 63) (hdf : d.params.defaults = []) (hr : Room k callerA)
    (hY : ∀ (w : World) (h : Heap), YP w h → (K w.params).In h)
    (hb : ∀ (kV doc pm : Value) (an : Option Addr) (cdv ct : Value) (s : Shared) (u : Value), BindsTo s (PySem.W.fnOf d.name d.name (defArgs st) (defBody st) (defScope st) .none kV doc pm an cdv ct) ⟨[u], []⟩ [(x, u)])
    (F : ∀ (w : World) (mg : Str → Option Value) (h : Heap), (K w.params).In h → h.Ns mainGlobals mg → DefAt (K w.params) mg d.name d.name st ∧ ∀ {f : Addr} {fd : FuncData}, Fun (K w.params) d.name d.name st f fd → ∀ base : Heap, FnOk l.prog w (K w.params) mg base (L2.CX l.prog w) k f fd [x] (spLaw (K w.params))) :
    PySem.W.WalkO q loose XP YP l.row.toRowW d [] (fun f vs => PySem.call f vs) := by
  refine L2.walk_of (n := 63) (k := k) (x := x) (CX := fun w => L2.CX l.prog w) (sp := fun w => spLaw (K w.params)) hn (by decide) hdf hr hY (fun w mg fa h KX G hmg => ?_) (fun _ _ a ns hl _ hS => ⟨a, ns, rfl, hS, hl, fun _ => rfl⟩) fun _ _ _ _ _ ⟨_, _, _, _, _, _, _, _, _, _, _, _, z⟩ => z
  obtain ⟨⟨f, fd, a, Fn⟩, ok⟩ := F w mg h KX G
  have e := hmg.symm.trans a
  cases e
  obtain ⟨oc, od, kV, doc, pm, an, cdv, ct, osl, rfl, lk, hcd⟩ := id Fn.ex
  exact ⟨_, fun s u => hb kV doc pm an cdv ct s u, fun base _ _ => ok Fn base⟩
end MyL

set_option Elab.async false
set_option linter.all false
set_option maxRecDepth 100000
set_option maxHeartbeats 4000000
/-! The end, for error classes of one's own. -/
namespace PySem.ErrX
open PySem PySem.W PySem.Spec PyProof.Rows L2 PySem.ErrX HandSPX
/-- what the text of an error's __init__ says -/
def ErrSt (prog : Program) (qual : Str) (st : Stmt) (fs : List Str) : Prop :=
  ∃ (rest : List Stmt) (txt : Str) (j : Nat) (p0 p1 p2 p3 p4 p5 : Pos) (ar : Arg),
    defBody st = .Expr (.Call (.Attribute (.Call (.Name "super" p0) [] [] p1) "__init__" p2) [.Constant (.str txt) j p3] [] p4) p5 :: rest ∧
    (∀ env : Env, eval (.Call (.Attribute (.Call (.Name "super" p0) [] [] p1) "__init__" p2) [.Constant (.str txt) j p3] [] p4) env = (do
      let ov ← attributeBase (.Call (.Name "super" p0) [] [] p1) "__init__" env (eval (.Call (.Name "super" p0) [] [] p1) env)
      standAt p2.atName
      let (f, first) ← holding [ov] (getMethod ov "__init__" (do return (← importBound (.Call (.Name "super" p0) [] [] p1) env).getD true))
      callWith p4 f first (backTo p4 (starEach [.Constant (.str txt) j p3] env)) [])) ∧
    (prog.main.scope.names.lookup ("super" : Str)).isSome = false ∧
    ((defArgs st).posonlyargs ++ (defArgs st).args).head? = some ar ∧ ar.arg = "self" ∧
    (defScope st).kind = .function ∧ (defScope st).isCoroutine = false ∧ (defScope st).isGenerator = false ∧ (∀ x ∈ (defScope st).names, x.2 ≠ .cell) ∧ (defScope st).names.lookup ("super" : Str) = some .globalImplicit ∧ (defScope st).names.lookup ("__class__" : Str) = some .free ∧
    (defScope st).names.lookup ("self" : Str) = some .local ∧ (∀ f ∈ fs, (defScope st).names.lookup f = some .local) ∧ (("self" : Str) :: fs).Nodup ∧
    Asgs fs rest ∧ ∀ (doc pm : Value) (an : Option Addr) (cda : Addr) (ct : Value) (cc : Addr) (us : List Value), us.length = fs.length + 1 → bindArgs (ksFn "__init__" qual (defArgs st) (defBody st) (defScope st) .none .none doc pm an (.ref cda) ct cc) ⟨us, []⟩ = pure (((("self" : Str) :: fs)).zip us)
theorem fn_mk {prog : Program} {K : Frag} {C fI : Addr} {fs : List Str} {st : Stmt} {qual : Str} {oc : Value} {od : Option Addr} {doc pm : Value} {an : Option Addr} {cda : Addr} {ct : Value} {cc : Addr} {osl : Array (Option Value)} {ccl : Value} {cdd : Option Addr} {vs : Array Value} {ccs : Array (Option Value)} {file : Str} {tf : Tok} {cl : Value} {cld : Option Addr} {csl : Array (Option Value)}
    (S : ErrSt prog qual st fs) (l : K.lookup fI = some ⟨oc, od, .func (ksFn "__init__" qual (defArgs st) (defBody st) (defScope st) .none .none doc pm an (.ref cda) ct cc), osl⟩) (hc : codeIn K (.ref cda) qual = true) (l2 : K.lookup cda = some ⟨ccl, cdd, .fields vs, ccs⟩) (hv : vs[2]? = some (.str file tf)) (hf : ((prog.main.file : Str) == file) = true)
    (l3 : K.lookup cc = some ⟨cl, cld, .cell (some (.ref C)), csl⟩) :
    ∃ (oc : Value) (od : Option Addr) (qual : Str) (params : Arguments) (scope : Scope) (rest : List Stmt) (doc pm : Value) (an : Option Addr) (cda : Addr) (ct : Value) (cc : Addr) (osl : Array (Option Value)) (txt : Str) (j : Nat) (p0 p1 p2 p3 p4 p5 : Pos) (ar : Arg)
      (ccl : Value) (cdd : Option Addr) (vs : Array Value) (ccs : Array (Option Value)) (file : Str) (tf : Tok) (cl : Value) (cld : Option Addr) (csl : Array (Option Value)),
    K.lookup fI = some ⟨oc, od, .func (ksFn "__init__" qual params (.Expr (.Call (.Attribute (.Call (.Name "super" p0) [] [] p1) "__init__" p2) [.Constant (.str txt) j p3] [] p4) p5 :: rest) scope .none .none doc pm an (.ref cda) ct cc), osl⟩ ∧ codeIn K (.ref cda) qual = true ∧
    K.lookup cda = some ⟨ccl, cdd, .fields vs, ccs⟩ ∧ vs[2]? = some (.str file tf) ∧ ((prog.main.file : Str) == file) = true ∧ K.lookup cc = some ⟨cl, cld, .cell (some (.ref C)), csl⟩ ∧
    (∀ env : Env, eval (.Call (.Attribute (.Call (.Name "super" p0) [] [] p1) "__init__" p2) [.Constant (.str txt) j p3] [] p4) env = (do
      let ov ← attributeBase (.Call (.Name "super" p0) [] [] p1) "__init__" env (eval (.Call (.Name "super" p0) [] [] p1) env)
      standAt p2.atName
      let (f, first) ← holding [ov] (getMethod ov "__init__" (do return (← importBound (.Call (.Name "super" p0) [] [] p1) env).getD true))
      callWith p4 f first (backTo p4 (starEach [.Constant (.str txt) j p3] env)) [])) ∧
    (prog.main.scope.names.lookup ("super" : Str)).isSome = false ∧
    (params.posonlyargs ++ params.args).head? = some ar ∧ ar.arg = "self" ∧
    scope.kind = .function ∧ scope.isCoroutine = false ∧ scope.isGenerator = false ∧ (∀ x ∈ scope.names, x.2 ≠ .cell) ∧ scope.names.lookup ("super" : Str) = some .globalImplicit ∧ scope.names.lookup ("__class__" : Str) = some .free ∧
    scope.names.lookup ("self" : Str) = some .local ∧ (∀ f ∈ fs, scope.names.lookup f = some .local) ∧ (("self" : Str) :: fs).Nodup ∧
    Asgs fs rest ∧ ∀ us : List Value, us.length = fs.length + 1 → bindArgs (ksFn "__init__" qual params (.Expr (.Call (.Attribute (.Call (.Name "super" p0) [] [] p1) "__init__" p2) [.Constant (.str txt) j p3] [] p4) p5 :: rest) scope .none .none doc pm an (.ref cda) ct cc) ⟨us, []⟩ = pure (((("self" : Str) :: fs)).zip us) := by
  obtain ⟨rest, txt, j, p0, p1, p2, p3, p4, p5, ar, e, h1, h2, h3, h4, h5, h6, h7, h8, h9, h10, h11, h12, h13, h14, h15⟩ := S
  have h15' := h15 doc pm an cda ct cc
  rw [e] at l h15'
  exact ⟨oc, od, qual, defArgs st, defScope st, rest, doc, pm, an, cda, ct, cc, osl, txt, j, p0, p1, p2, p3, p4, p5, ar, ccl, cdd, vs, ccs, file, tf, cl, cld, csl, l, hc, l2, hv, hf, l3, h1, h2, h3, h4, h5, h6, h7, h8, h9, h10, h11, h12, h13, h14, h15'⟩
theorem err_mk {prog : Program} {K : Frag} {h : Heap} {mg : Str → Option Value} {x : Str} {C fI : Addr} {fs : List Str} {st : Stmt} {qual : Str} {oc : Value} {od : Option Addr} {doc pm : Value} {an : Option Addr} {cda : Addr} {ct : Value} {cc : Addr} {osl : Array (Option Value)} {ccl : Value} {cdd : Option Addr} {vs : Array Value} {ccs : Array (Option Value)} {file : Str} {tf : Tok} {cl : Value} {cld : Option Addr} {csl : Array (Option Value)}
    {nm q N bs bm sn sub ab col dd k0 k1 k2 k3 k5}
    (X : K.In h) (G : h.Ns mainGlobals mg) (S : ErrSt prog qual st fs) (gC : nsIn K mainGlobals x = some (some (.ref C))) (gS : nsIn K mainGlobals "super" = some none)
    (xL : K.lookup C = some (excClassObj nm q C N bs bm true sn sub ab col dd k0 k1 k2 k3 k5 "ValueError.__new__")) (xM : refsVE bm = true)
    (sa : findIn K (.ref C) "__setattr__" = some (some (.builtin "object.__setattr__"))) (no : ∀ f ∈ fs, findIn K (.ref C) f = some none) (iC : findIn K (.ref C) "__init__" = some (some (.ref fI))) (tC : typeIn K (.ref fI) = some (.type "function")) (kC : keepIn K (.ref C) = true)
    (exC : subIn K (.ref C) (.type "BaseException") = some true) (veC : subIn K (.ref C) (.type "ValueError") = some true) (tyC : typeIn K (.ref C) = some (.type "type")) (op : nsIn K cStatics "thirdparty.any" = some none) (al : ks_superIn K C C "__init__" = some (some (.builtin "ValueError.__init__"))) (slf : mroIn K C (.ref C) = some true)
    (l : K.lookup fI = some ⟨oc, od, .func (ksFn "__init__" qual (defArgs st) (defBody st) (defScope st) .none .none doc pm an (.ref cda) ct cc), osl⟩) (hc : codeIn K (.ref cda) qual = true) (l2 : K.lookup cda = some ⟨ccl, cdd, .fields vs, ccs⟩) (hv : vs[2]? = some (.str file tf)) (hf : ((prog.main.file : Str) == file) = true)
    (l3 : K.lookup cc = some ⟨cl, cld, .cell (some (.ref C)), csl⟩) : ErrTxt prog K mg x C fI fs :=
  ⟨mg_of X G gC, mg_none_of X G gS, ⟨nm, q, N, bs, bm, sn, sub, ab, col, dd, k0, k1, k2, k3, k5, xL, xM⟩, sa, no, iC, tC, kC, exC, veC, tyC, op, al, slf, fn_mk S l hc l2 hv hf l3⟩
theorem exck_mk {K : Frag} {D : Addr} (cl : (clsIn K D).isSome = true) (ga : findIn K (.ref D) "__getattribute__" = some (some (.builtin "BaseException.__getattribute__"))) (gg : findIn K (.ref D) "__getattr__" = some none) (sb : subIn K (.ref D) (.type "BaseException") = some true)
  (ca : findIn K (.ref D) "__class__" = some (some (.builtin "object.__class__"))) (cn : specialIn K (.builtin "object.__class__") "__get__" = some (some (.builtin "getset_descriptor.__get__"))) (ct : takesIn K (.builtin "object.__class__") = some true) (cm : mroIn K D (.type "object") = some true) : MyL.ExcK K D := ⟨cl, ga, gg, sb, ca, cn, ct, cm⟩
theorem int_has {K : Frag} {x : Str} (h : (fastLookup "int" x).isSome = true) : ∃ fo, findIn K (.type "int") x = some fo := Option.isSome_iff_exists.mp h
theorem num_mk {K : Frag} {C : Addr} {op : Operator} (sf : selfFirst K C = true) (r : findIn K (.ref C) (dunderR op.info.2) = some none) (it : subIn K (.type "int") (.ref C) = some false) (h1 : (fastLookup "int" (PySem.dunder op.info.2)).isSome = true) (h2 : (fastLookup "int" (dunderR op.info.2)).isSome = true) : MyL.NumC K C op := ⟨sf, r, it, int_has h1, int_has h2⟩
end PySem.ErrX

set_option Elab.async false
set_option linter.all false
set_option maxRecDepth 100000
set_option maxHeartbeats 4000000
/-! != by an own __eq__; properties. -/
namespace MyL
open PySem PySem.Spec PyProof.Rows L2
section
variable {prog : Program} {w : World} {A : Around} {E : Value → Shared → Prop} {s : Shared} {K : PySem.W.Frag} {x C L f : Addr} {h₀ : Heap} {m : Str → Option Value} {ox : Obj} {od : Option Obj} {name : Str} {b tb : Value}
theorem ifBound_B {M : Model} {args : List Value} {id : String} {Q : Option Value → Shared → Prop} (X : K.In s.heap) (I : PySem.W.InstAt s.heap x ox C od) (hs : PySem.W.findIn K (.ref C) name = some (some (.builtin id))) (hb : ∀ self, bindSpecial (.builtin id) self = pure (.builtin id, [self]))
    (h : wpAny M A (call (.builtin id) (.ref x :: args)) (fun v => Q (some v)) E s) : wpAny M A (callSpecialIfBound? (.ref x) name args) Q E s := by
  simp only [callSpecialIfBound?, bindSpecialIfBound?]
  refine wpAny_holding (wpAny_bind (wpAny_bind (wpAny_bind (I.type.here ((PySem.W.looks_findIn X hs).here ?_)))))
  simp only [hb]
  refine wpAny_bind (wpAny_askSetting (wpAny_ite ?_))
  have fin : wpAny M A (call (.builtin id) ([.ref x] ++ args) >>= fun v => pure (some v)) Q E s := wpAny_bind (wpAny_mono h (fun v s' h' => wpAny_pure h') fun _ _ h' => h')
  split
  · exact wpAny_bind (wpAny_pure (wpAny_pure fin))
  · exact wpAny_tryCatch (wpAny_bind (wpAny_pure (wpAny_pure fin)))
theorem objNe_own {Q : Fin → Shared → Prop} (hu : A.units < cLine) (X : K.In s.heap) (I : PySem.W.InstAt s.heap x ox C od) (hs : PySem.W.findIn K (.ref C) "__eq__" = some (some (.ref f))) (hf : PySem.W.isFn K (.ref f) = true)
    (hcall : wpAny (model prog w) A (call (.ref f) [.ref x, b]) (fun v s' => ∃ c, v = .bool c ∧ Q (.done (.ret (.bool (!c)))) s') E s) :
    wpAny (model prog w) A (Builtin.«object.__ne__» ⟨[.ref x, b], []⟩) Q E s := by
  unfold Builtin.«object.__ne__»
  repeat (first
    | with_reducible refine wpAny_cRoomFor hu ?_
    | (refine wpAny_bind (m := callSpecialIfBound? (.ref x) (Str.ofString "__eq__") [b])
        (PySem.W.ifBound_K X I hs hf (wpAny_mono hcall (fun r s' hr => by
          obtain ⟨c, rfl, hq⟩ := hr
          repeat (first | exact hq | exact wpAny_pure hq | exact wpAny_truthy_bool hq | (refine wpAny_bind (m := truthy (.bool _)) (wpAny_truthy_bool ?_)) | wp_step)) fun _ _ e => e)))
    | wp_step)
theorem ne_own {Q : Value → Shared → Prop} (hu : A.units + 1 < cLine) (X : K.In s.heap) (I : PySem.W.InstAt s.heap x ox C od) (hb : PySem.W.Looks (model prog w) s.heap (typeOf b) (.ref C)) (hn : PySem.W.findIn K (.ref C) "__ne__" = some (some (.builtin "object.__ne__"))) (hm : PySem.W.mroIn K C (.type "object") = some true)
    (hs : PySem.W.findIn K (.ref C) "__eq__" = some (some (.ref f))) (hf : PySem.W.isFn K (.ref f) = true)
    (hcall : wpAny (model prog w) A.in1 (call (.ref f) [.ref x, b]) (fun v s' => ∃ c, v = .bool c ∧ Q (.bool (!c)) s') E s) : wpAny (model prog w) A (richCompare .NotEq (.ref x) b) Q E s := by
  have one : wpAny (model prog w) A (tryCompare (.ref x) "__ne__" b) (fun r s' => ∃ v, r = some v ∧ Q v s') E s := by
    unfold tryCompare
    refine wpAny_bind (ifBound_B X I hn F.cmp_object.ne.bind (wpAny_call (codeAny_call_builtin F.cmp_object.ne.plain F.cmpEntry_ne (@PySem.W.check_slot (model prog w) _ _ s "object.__ne__" "object" "__ne__" (.ref x) [b] [] _ F.cmpKind_ne F.cmpSplit_ne (I.type.andThen (PySem.W.looks_mroIn X hm)) (F.cmpArgs_ne _ _)
      (objNe_own (A := A.in1) hu X I hs hf (wpAny_mono hcall (fun v s' hv => ?_) fun _ _ e => e))))))
    obtain ⟨c, rfl, hq⟩ := hv
    exact ⟨c, rfl, wpAny_pure ⟨_, rfl, hq⟩⟩
  unfold richCompare
  simp only [oneThing_ref]
  refine wpAny_holding (wpAny_bind (wpAny_cRoomFor (Nat.lt_of_succ_lt hu) ?_))
  rw [cmpInfo_NotEq]
  dsimp only
  refine wpAny_bind (I.type.here (wpAny_bind (hb.here ?_)))
  rw [show (Value.ref C != Value.ref C) = false from by simp]
  simp only [Bool.false_eq_true, if_false]
  refine wpAny_bind (wpAny_pure ?_)
  simp only [Bool.false_eq_true, if_false]
  refine wpAny_bind (wpAny_mono one (fun r s' z => ?_) fun _ _ e => e)
  obtain ⟨v, rfl, hq⟩ := z
  exact wpAny_pure hq
end
def rOwnNe (C : Addr) (sp : Sp) : R2 := fun x y H Q => ∃ a dx fs b dy gs, x = .ref a ∧ y = .ref b ∧ H a = some (.ins C dx fs) ∧ H b = some (.ins C dy gs) ∧ sp [.ref a, .ref b] H (fun v H' => ∃ c, v = .bl c ∧ Q (.bl (!c)) H') (fun _ _ _ => False)
structure NeC (K : PySem.W.Frag) (C : Addr) : Prop where
  ne : PySem.W.findIn K (.ref C) "__ne__" = some (some (.builtin "object.__ne__"))
  mro : PySem.W.mroIn K C (.type "object") = some true
section
variable {X : Cx} {W : WX} {k j : Nat} {C : Addr} {sp : Sp}
theorem c_ne (c : Spc X.prog X.w X.K X.mg X.base k C "__eq__" sp) (n : NeC X.K C) (hr : Room j X.A) (hk : k + 1 ≤ j) : OpR X (compareOp .NotEq) (rOwnNe C sp) := by
  intro pins s σ H x y v u Q I rx ry h
  obtain ⟨f, hs, hf, F⟩ := c.ex
  obtain ⟨p, dx, fs, p2, dy, gs, rfl, rfl, hp, hp2, hsp⟩ := h
  obtain rfl : v = Value.ref p := rx
  obtain rfl : u = Value.ref p2 := ry
  obtain ⟨mA, J, _⟩ := ins_get I.hok hp
  obtain ⟨od, J, _⟩ := J.look
  obtain ⟨mB, J', _⟩ := ins_get I.hok hp2
  obtain ⟨od', J', _⟩ := J'.look
  show wpAny _ _ (richCompare .NotEq (.ref p) (.ref p2)) _ _ _
  refine ne_own (Nat.lt_of_le_of_lt (Nat.add_le_add_left (by decide : 1 ≤ 64) _) hr.units) I.kIn J J'.type n.ne n.mro hs hf ?_
  have z := run_S (A := X.A.in1) (W := fun _ _ _ _ => False) (us := [.ref p, .ref p2]) (vs := [.ref p, .ref p2]) F takes0 (hr.mono hk).in1 I.env0.in1 I (.cons rfl (.cons rfl .nil)) hsp
  refine wpAny_mono (wpAny_call z) (fun w s' z => ?_) fun _ _ x => x
  obtain ⟨z', H', I', rz, c, ec, qz⟩ := z
  subst ec
  exact ⟨c, rz, .bl (!c), H', I', rfl, qz⟩
end
end MyL
namespace MyL
open PySem PySem.Spec PyProof.Rows L2
/-- a property of the class at C -/
structure Prp (P : Program) (w : World) (K : PySem.W.Frag) (mg : Str → Option Value) (base : Heap) (k : Nat) (C : Addr) (f : Str) (sp : Sp) : Prop where
  ex : ∃ (p g : Addr) (fd : FuncData) (ps : List Str), Cls K C ∧ PropOf K C f p g ∧ Binds K fd ps [] ∧ FnOk P w K mg base (L2.CX P w) k g fd ps sp
section
variable {X : Cx} {k j : Nat} {C : Addr} {sp : Sp} {f : Str} {e : Expr} {ta : TE} {pos : Pos}
theorem c_prop (c : Prp X.prog X.w X.K X.mg X.base k C f sp) (hr : Room j X.A) (hk : k + 1 ≤ j) (he : PE X e ta) (hab : attributeBase e f X.env (eval e X.env) = eval e X.env := by rfl) : PE X (.Attribute e f pos) (tProp C sp [] (fun _ _ _ => False) ta) := by
  obtain ⟨p, g, fd, ps, cl, hp, hb, F⟩ := c.ex
  exact pe_prop he cl hp F (hr.mono hk) hb .nil (fun _ _ _ _ _ _ _ ⟨_, _, _, _, _, _, _, _, _, _, _, _, z⟩ => z.elim) hab
end
section
variable {σ : L2.St} {H : Hp} {Q : VK} {C : Addr} {sp : Sp} {ta : TE} {K : PySem.W.Frag} {E : XK}
theorem k_prop0 (h : ta σ H fun x H1 => ∃ a dx fs, x = .ref a ∧ H1 a = some (.ins C dx fs) ∧ sp [.ref a] H1 Q E) : tProp C sp [] E ta σ H Q := h
theorem k_prop {a dx : Addr} {fs : List (Str × V)} (h : H a = some (.ins C dx fs)) (q : sp [.ref a] H Q E) : ∃ a' dx' fs', V.ref a = .ref a' ∧ H a' = some (.ins C dx' fs') ∧ sp [.ref a'] H Q E := ⟨a, dx, fs, rfl, h, q⟩
theorem k_ownNe {a dx b dy : Addr} {fs gs : List (Str × V)} (h1 : H a = some (.ins C dx fs)) (h2 : H b = some (.ins C dy gs)) (q : sp [.ref a, .ref b] H (fun v H' => ∃ c, v = .bl c ∧ Q (.bl (!c)) H') (fun _ _ _ => False)) : rOwnNe C sp (.ref a) (.ref b) H Q := ⟨a, dx, fs, b, dy, gs, rfl, rfl, h1, h2, q⟩
theorem k_neBack {PB : Bool → Prop} {c : Bool} (q : PB c) : ∃ c', V.bl c = .bl c' ∧ PB c' := ⟨c, rfl, q⟩
theorem beq_dec {i k : Int} : (i == k) = decide (i = k) := rfl
theorem k_eqP {a b : Addr} {i j k l : Int} (h1 : H a = some (.tup [.int i, .int j])) (h2 : H b = some (.tup [.int k, .int l])) (q : Q (.bl (decide (i = k) && decide (j = l))) H) : rEqD K (.ref a) (.ref b) H Q := by
  refine ⟨.tuple [.int i, .int j], .tuple [.int k, .int l], .tup (SqT.of h1) (.cons (.int _) (.cons (.int _) .nil)), .tup (SqT.of h2) (.cons (.int _) (.cons (.int _) .nil)), rfl, rfl, ?_⟩
  have : PyData.eqv (.tuple [.int i, .int j]) (.tuple [.int k, .int l]) = (decide (i = k) && decide (j = l)) := by
    simp only [PyData.eqv, PyData.eqvAll, Bool.and_true]
    rfl
  rw [this]; exact q
theorem k_neP {a b : Addr} {i j k l : Int} (h1 : H a = some (.tup [.int i, .int j])) (h2 : H b = some (.tup [.int k, .int l])) (q : Q (.bl (!(decide (i = k) && decide (j = l)))) H) : rNeD K (.ref a) (.ref b) H Q := by
  refine ⟨.tuple [.int i, .int j], .tuple [.int k, .int l], .tup (SqT.of h1) (.cons (.int _) (.cons (.int _) .nil)), .tup (SqT.of h2) (.cons (.int _) (.cons (.int _) .nil)), rfl, rfl, ?_⟩
  have : PyData.eqv (.tuple [.int i, .int j]) (.tuple [.int k, .int l]) = (decide (i = k) && decide (j = l)) := by
    simp only [PyData.eqv, PyData.eqvAll, Bool.and_true]
    rfl
  rw [this]; exact q
end
end MyL

set_option Elab.async false
set_option linter.all false
set_option maxRecDepth 100000
set_option maxHeartbeats 4000000
namespace MyL
open PySem PySem.Spec PyProof.Rows L2
def PropAt (K : PySem.W.Frag) (C : Addr) (m qual : Str) (st : Stmt) : Prop := ∃ (p g : Addr) (fd : FuncData), PropOf K C m p g ∧ Fun K m qual st g fd
section
variable {P : Program} {w : World} {K : PySem.W.Frag} {mg : Str → Option Value} {base h : Heap} {k : Nat} {C f p : Addr} {x m qual : Str} {sp : Sp} {st : Stmt} {fd : FuncData} {ps : List Str} {oc : Value} {od an : Option Addr} {osl : Array (Option Value)} {kV doc pm cdv ct : Value} {rest : List Value}
theorem gprop (a : PySem.W.findIn K (.ref C) m = some (some (.ref p))) (g : PySem.W.specialIn K (.ref p) "__get__" = some (some (.builtin "property.__get__"))) (t : PySem.W.takesIn K (.ref p) = some true) (r : PySem.W.recIn K p "property" = some (.ref f :: rest))
    (l : K.lookup f = some ⟨oc, od, .func (PySem.W.fnOf m qual (defArgs st) (defBody st) (defScope st) .none kV doc pm an cdv ct), osl⟩)
    (c : PySem.W.codeIn K cdv qual = true) (kp : PySem.W.keepIn K (.ref f) = true) : PropAt K C m qual st := ⟨p, f, _, ⟨a, g, t, rest, r⟩, fun_mk l c kp⟩
theorem prp_of (D : PropAt K C m qual st) (cl : Cls K C) (hb : BindsSt m qual st ps) (ok : ∀ {f : Addr} {fd : FuncData}, Fun K m qual st f fd → FnOk P w K mg base (L2.CX P w) k f fd ps sp) : Prp P w K mg base k C m sp := by
  obtain ⟨p, f, fd, a, F⟩ := D
  exact ⟨p, f, fd, ps, cl, a, F.binds hb, ok F⟩
end
section
variable {σ : L2.St} {H : Hp} {Q : VK} {K : PySem.W.Frag} {p : Addr} {xs : List V}
theorem k_chain {r r' : R2} {ta tb tc : TE} (h : ta σ H fun x H1 => tb σ H1 fun y H2 => r x y H2 fun z H3 => ∃ k, z = .bl k ∧ (if k = true then tc σ H3 fun w' H4 => r' y w' H4 Q else Q (.bl false) H3)) : tChain r r' ta tb tc σ H Q := h
/-- an item of a list of whole numbers, each within R -/
theorem k_ixAll {R : Int → Prop} {j : Int} (h : H p = some (.lst xs)) (h0 : 0 ≤ j) (h1 : j < xs.length) (hR : ∀ x ∈ xs, ∃ n : Int, x = .int n ∧ R n) (q : ∀ n, R n → Q (.int n) H) : rIxL K (.ref p) (.int j) H Q := by
  obtain ⟨i, rfl⟩ := Int.eq_ofNat_of_zero_le h0
  have hi : i < xs.length := by omega
  obtain ⟨n, e, hn⟩ := hR _ (List.getElem_mem hi)
  exact ⟨p, xs, (i : Int), .int n, rfl, rfl, SqL.of h, atI_nat (by rw [List.getElem?_eq_getElem hi, e]), q n hn⟩
theorem k_ixAllT {R : Int → Prop} {j : Int} (h : H p = some (.tup xs)) (h0 : 0 ≤ j) (h1 : j < xs.length) (hR : ∀ x ∈ xs, ∃ n : Int, x = .int n ∧ R n) (q : ∀ n, R n → Q (.int n) H) : rIxT K (.ref p) (.int j) H Q := by
  obtain ⟨i, rfl⟩ := Int.eq_ofNat_of_zero_le h0
  have hi : i < xs.length := by omega
  obtain ⟨n, e, hn⟩ := hR _ (List.getElem_mem hi)
  exact ⟨p, xs, (i : Int), .int n, rfl, rfl, SqT.of h, atI_nat (by rw [List.getElem?_eq_getElem hi, e]), q n hn⟩
end
end MyL

set_option Elab.async false
set_option linter.all false
set_option maxRecDepth 100000
set_option maxHeartbeats 4000000
namespace MyL
open PySem PySem.Spec PyProof.Rows L2
section
variable {K : PySem.W.Frag} {D dd a C1 C2 C3 C4 : Addr} {H : Hp} {Q : VK} {fs : List (Str × V)} {b : Bool}
theorem k_isX4 {tp : Addr} (hD : ExcK K D) (hd : H dd = some (.xd fs)) (ht : H tp = some (.tup [.ref C1, .ref C2, .ref C3, .ref C4])) (e : PySem.W.kitAny K (.ref D) [.ref C1, .ref C2, .ref C3, .ref C4] = some b) (q : Q (.bl b) H) : rIsXT K (.ref D) (some dd) a [.ref a, .ref tp] H Q :=
  ⟨D, tp, _, _, b, rfl, hD, ⟨fs, hd⟩, rfl, ht, .cons (.own C1) (.cons (.own C2) (.cons (.own C3) (.cons (.own C4) .nil))), e, q⟩
theorem k_ixT2 {p : Addr} {i j n : Int} (h : H p = some (.tup [.int i, .int j])) (h0 : 0 ≤ n) (h1 : n < 2) (q : ∀ m, m = i ∨ m = j → Q (.int m) H) : rIxT K (.ref p) (.int n) H Q :=
  k_ixAllT (R := fun m => m = i ∨ m = j) h h0 (by simpa using h1) (fun x hx => by simp at hx; rcases hx with rfl | rfl <;> exact ⟨_, rfl, by simp⟩) q
theorem Mem.atB {B : Hp} {f l : List (Addr × HO)} {o : HO} (M : Mem B [] H f l) (h : B a = some o) : H a = some o := Same.of_keep M a o h
theorem xdH {g : Str} {v : V} {l : List (Str × V)} : List.lookup g ((g, v) :: l) = some v := by simp [List.lookup]
end
end MyL

set_option Elab.async false
set_option linter.all false
set_option maxRecDepth 100000
set_option maxHeartbeats 4000000
/-! Static methods by the class; own errors without own __init__. -/
namespace MyL
open PySem PySem.Spec PyProof.Rows L2
/-- C.m is a staticmethod: its record at p, its def at g -/
structure StaOf (K : PySem.W.Frag) (C : Addr) (m : Str) (p g : Addr) : Prop where
  ga : PySem.W.specialIn K (.ref C) "__getattribute__" = some (some (.builtin "type.__getattribute__"))
  rd : PySem.W.readsIn K C (.type "type") = true
  at_ : PySem.W.findCls K (.ref C) (.type "type") m = some (.get (.builtin "staticmethod.__get__") (.ref p) .none (.ref C))
  rc : ∃ rest, PySem.W.recIn K p "staticmethod" = some (.ref g :: rest)
  kp : PySem.W.keepIn K (.ref g) = true
structure Sta (P : Program) (w : World) (K : PySem.W.Frag) (mg : Str → Option Value) (base : Heap) (k : Nat) (C : Addr) (m : Str) (sp : Sp) : Prop where
  ex : ∃ (p g : Addr) (fd : FuncData) (ps : List Str), StaOf K C m p g ∧ Binds K fd ps [] ∧ FnOk P w K mg base (L2.CX P w) k g fd ps sp
def tSta (C : Addr) (sp : Sp) (W : WX) (ta : TE) (t : TA) : TE := fun σ H Q => ta σ H fun x H1 => x = .ref C ∧ t σ H1 fun vs H2 => sp vs H2 Q (WE W σ)
section
variable {X : Cx} {W : WX} {k j : Nat} {C : Addr} {sp : Sp} {x m : Str} {p pos apos : Pos} {e o : Expr} {es : List Expr} {ta : TE} {t : TA}
theorem c_sta {pl : Sem Bool} (c : Sta X.prog X.w X.K X.mg X.base k C m sp) (tk : Takes X W) (hr : Room j X.A) (hk : k ≤ j) (ho : PE X o ta) (ha : PA X (e :: es) t)
    (hst : starEach (e :: es) X.env = (false, eval e X.env) :: starEach es X.env := by rfl) (hpl : (backTo pos (starEach es X.env)).any (·.1) = false := by rfl)
    (ht : eval (.Call (.Attribute o m apos) (e :: es) [] pos) X.env = (do
      let ov ← eval o X.env
      standAt apos.atName
      let (f, first) ← holding [ov] (getMethod ov m pl)
      callWith pos f first (backTo pos (starEach (e :: es) X.env)) (backToKw pos (keywordEach [] X.env))) := by rfl) :
    PE X (.Call (.Attribute o m apos) (e :: es) [] pos) (tSta C sp W ta t) := by
  obtain ⟨p, g, fd, ps, hm, b, F⟩ := c.ex
  obtain ⟨rest, hrec⟩ := hm.rc
  refine ⟨fun pins s σ H Q I h => ?_⟩
  refine PySem.W.methodCall_KW (pl := pl) (thn (ho.run pins s σ H _ I h) fun u s1 hh => ?_) ht
  obtain ⟨x, H1, I1, rx, ex, q⟩ := hh
  subst ex
  obtain rfl : u = Value.ref C := rx
  have I1' := I1.tok (s1.toks + 1)
  refine PySem.W.method_cls I1.kIn hm.ga (PySem.W.cls_bind I1.kIn hm.rd hm.at_ (wpAny_call (PySem.W.sm_get (s := { s1 with toks := s1.toks + 1 }) I1.kIn hrec (PySem.W.handed_on rfl ?_))))
  refine PySem.W.callWith_K (first := []) (h₀ := X.base) I.ok.mod.kin hm.kp (thn (ha.run pos pins _ σ H1 _ I1' q) fun us s2 hh => ?_) hst hpl
  obtain ⟨vs, H2, I2, r, q2⟩ := hh
  exact ⟨I2.kIn, run_fnS (E := WE W) (us := us) (vs := vs) F (hr.mono hk) b (passAt tk σ) I2 r q2⟩
end
/-- an own error whose class has no __init__ of its own -/
structure PlainErr (K : PySem.W.Frag) (mg : Str → Option Value) (x : Str) (C : Addr) : Prop where
  gC : mg x = some (.ref C)
  kC : PySem.W.keepIn K (.ref C) = true
  exc : PySem.W.excIn K C [.type "ValueError", .type "Exception", .type "BaseException", .type "object"] "ValueError.__new__" = true
  sb : PySem.W.subIn K (.ref C) (.type "BaseException") = some true
  ty : PySem.W.typeIn K (.ref C) = some (.type "type")
theorem pmk_plain0 {X : Cx} {x : Str} {C : Addr} {p pos : Pos} (T : PlainErr X.K X.mg x C) (hg : Gl X x := by rfl) (hdb : (x == ("__debug__" : Str)) = false := by decide) : PMk X (.Call (.Name x p) [] [] pos) (fun _ H Q => Q (.ref C) none H) := by
  intro pins s σ H Q I h
  refine wpAny_Call_Name_kw (ld_glob I hg T.gC (PySem.W.callWith_K0 I.kIn T.kC ?_) hdb)
  obtain ⟨bm, N, nm, qn, bs, hdct, sn, sub, ab, col, dd, k0, k1, k2, k3, k5, mN, hC, hN, hni, T'⟩ := exc_obj I.kIn T.exc
  refine wpAny_call_exc_subT PySem.F.excBase_ValueError T' hC hN hni (fun h' e hm => ?_) (Nat.zero_le _)
  exact mk_of I hm (raises_own T.sb T.ty) h (I.hok.gone hm.new)
section
variable {K : PySem.W.Frag} {D a C1 C2 C3 C4 : Addr} {H : Hp} {Q : VK} {b : Bool}
theorem k_isX0o (hD : ExcK K D) (e : PySem.W.kitOne K (.ref D) (.ref C1) = some b) (q : Q (.bl b) H) : rIsX K (.ref D) none a [.ref a, .ref C1] H Q := ⟨D, _, _, b, rfl, hD, trivial, rfl, .own C1, e, q⟩
theorem k_isX0s (hD : ExcK K D) (q : Q (.bl true) H) : rIsX K (.ref D) none a [.ref a, .ref D] H Q := k_isX0o hD (by simp [PySem.W.kitOne]) q
theorem k_isX0t {n : String} (hD : ExcK K D) (e : PySem.W.kitOne K (.ref D) (.type n) = some b) (q : Q (.bl b) H) : rIsX K (.ref D) none a [.ref a, .ty n] H Q := ⟨D, _, _, b, rfl, hD, trivial, rfl, .ty n, e, q⟩
theorem k_isX04 {tp : Addr} (hD : ExcK K D) (ht : H tp = some (.tup [.ref C1, .ref C2, .ref C3, .ref C4])) (e : PySem.W.kitAny K (.ref D) [.ref C1, .ref C2, .ref C3, .ref C4] = some b) (q : Q (.bl b) H) : rIsXT K (.ref D) none a [.ref a, .ref tp] H Q :=
  ⟨D, tp, _, _, b, rfl, hD, trivial, rfl, ht, .cons (.own C1) (.cons (.own C2) (.cons (.own C3) (.cons (.own C4) .nil))), e, q⟩
end
section
variable {σ : L2.St} {H : Hp} {Q : VK} {C : Addr} {sp : Sp} {W : WX} {ta : TE} {t : TA}
theorem k_sta0 (h : ta σ H fun x H1 => x = .ref C ∧ t σ H1 fun vs H2 => sp vs H2 Q (WE W σ)) : tSta C sp W ta t σ H Q := h
theorem k_sta {PR : Prop} (q : PR) : V.ref C = .ref C ∧ PR := ⟨rfl, q⟩
end
end MyL

set_option Elab.async false
set_option linter.all false
set_option maxRecDepth 100000
set_option maxHeartbeats 4000000
/-! min and max of a list or a tuple of whole numbers. -/
namespace MyL
open PySem PySem.Spec PyProof.Rows L2
section
variable {prog : Program} {w : World} {A : Around} {E : Value → Shared → Prop} {s : Shared} {l : Addr} {xs : Array (Int × Tok)}
theorem iter_intTup {Q : Value → Shared → Prop} (hl : s.heap.IsTuple l (intItems xs))
    (h : ∀ s₂ : Shared, s₂ = { s with heap := s.heap.push { cls := .type "tuple_iterator", data := .fields #[.ref l, .int 0 0] } } →
      (s₂.heap.IsTupleIter s.heap.objs.size l 0 ∧ s₂.heap.IsTuple l (intItems xs)) → (∀ b ∈ [s.heap.objs.size, l], b < s₂.heap.objs.size) → l ≠ s.heap.objs.size → Q (.ref s.heap.objs.size) s₂) :
    wpAny (model prog w) A (pyIter (.ref l)) Q E s := by
  have hlt : l < s.heap.objs.size := by obtain ⟨_, e, _⟩ := hl; exact Heap.lt_size e
  refine wpAny_pyIter_tuple hl (h _ rfl ⟨⟨_, Heap.get?_push_size _ rfl, rfl, rfl⟩, hl.push _⟩ (fun b hb => ?_) (Nat.ne_of_lt hlt))
  show b < (s.heap.push _).objs.size
  rw [Heap.size_push]
  rcases List.mem_cons.mp hb with rfl | hb
  · exact Nat.lt_succ_self _
  · rcases List.mem_cons.mp hb with rfl | hb
    · exact Nat.lt_succ_of_lt hlt
    · cases hb
theorem old_keptT {o0 : Obj} {h' : Heap} (hk : ∀ b o, b ∉ [s.heap.objs.size] → (s.heap.push o0).get? b = some o → h'.get? b = some o) :
    ∀ b o, s.heap.get? b = some o → h'.get? b = some o := fun b o e => by
  refine hk b o (fun hm => ?_) (Heap.get?_push_of_some _ e)
  rcases List.mem_cons.mp hm with e1 | hm
  · exact absurd (e1 ▸ Heap.lt_size e) (Nat.lt_irrefl _)
  · cases hm
theorem max_intTup {Q : Value → Shared → Prop} (hh : A.handled = none) (hl : s.heap.IsTuple l (intItems xs)) (hne : 0 < xs.size)
    (h : ∀ v h' tk, (intItems xs)[argBest (fun i j => decide (numAt xs i > numAt xs j)) (xs.size - 1)]? = some v → (∀ b o, s.heap.get? b = some o → h'.get? b = some o) → Q v { s with heap := h', toks := tk }) :
    wpAny (model prog w) A (call (.builtin "max") [.ref l]) Q E s := by
  refine call_max_walk (iter_intTup hl fun s₂ e st hfp hlI => ?_)
  subst e
  refine ⟨_, _, _, _, _, _, _, rfl, Walks.tuple (A := A.in1) hh _ l hlI (intItems xs), st, hfp, by simpa [intItems] using hne, CmpOf.ints_gt (numAt xs) (fun _ _ => intItems_at), fun v h' tk hP hk => ?_⟩
  exact h v h' tk (by simpa [intItems] using hP) (old_keptT hk)
theorem min_intTup {Q : Value → Shared → Prop} (hh : A.handled = none) (hl : s.heap.IsTuple l (intItems xs)) (hne : 0 < xs.size)
    (h : ∀ v h' tk, (intItems xs)[argBest (fun i j => decide (numAt xs i < numAt xs j)) (xs.size - 1)]? = some v → (∀ b o, s.heap.get? b = some o → h'.get? b = some o) → Q v { s with heap := h', toks := tk }) :
    wpAny (model prog w) A (call (.builtin "min") [.ref l]) Q E s := by
  refine call_min_walk (iter_intTup hl fun s₂ e st hfp hlI => ?_)
  subst e
  refine ⟨_, _, _, _, _, _, _, rfl, Walks.tuple (A := A.in1) hh _ l hlI (intItems xs), st, hfp, by simpa [intItems] using hne, CmpOf.ints_lt (numAt xs) (fun _ _ => intItems_at), fun v h' tk hP hk => ?_⟩
  exact h v h' tk (by simpa [intItems] using hP) (old_keptT hk)
theorem max_rawT {its : List Value} {ns : List Int} {Q : Value → Shared → Prop} (hh : A.handled = none) (hl : s.heap.IsTuple l its.toArray) (hi : IntsAre its ns) (hne : 0 < ns.length)
    (h : ∀ h' tk M t', (∀ b o, s.heap.get? b = some o → h'.get? b = some o) → M ∈ ns → (∀ a, a ∈ ns → a ≤ M) → Q (.int M t') { s with heap := h', toks := tk }) : wpAny (model prog w) A (call (.builtin "max") [.ref l]) Q E s := by
  obtain ⟨xs, e⟩ := hi.allInts.items
  have hn : numsOf (intItems xs).toList = ns := by rw [← e]; exact hi.numsOf
  rw [nums_intItems] at hn
  subst hn
  rw [e] at hl
  have hsz : 0 < xs.size := by simpa using hne
  refine max_intTup hh hl hsz fun v h' tk hv hk => ?_
  obtain ⟨t, rfl⟩ := intItems_at hv
  obtain ⟨h1, h2⟩ := argBest_gt (numAt xs) (xs.size - 1)
  refine h h' tk _ t hk ?_ fun a ha => ?_
  · rw [numAt_eq]; exact PySem.getD_mem (by rw [List.length_map, Array.length_toList]; omega)
  · obtain ⟨j, hj, rfl⟩ := mem_getD ha
    rw [List.length_map, Array.length_toList] at hj
    rw [← numAt_eq]; exact h2 j (by omega)
theorem min_rawT {its : List Value} {ns : List Int} {Q : Value → Shared → Prop} (hh : A.handled = none) (hl : s.heap.IsTuple l its.toArray) (hi : IntsAre its ns) (hne : 0 < ns.length)
    (h : ∀ h' tk M t', (∀ b o, s.heap.get? b = some o → h'.get? b = some o) → M ∈ ns → (∀ a, a ∈ ns → M ≤ a) → Q (.int M t') { s with heap := h', toks := tk }) : wpAny (model prog w) A (call (.builtin "min") [.ref l]) Q E s := by
  obtain ⟨xs, e⟩ := hi.allInts.items
  have hn : numsOf (intItems xs).toList = ns := by rw [← e]; exact hi.numsOf
  rw [nums_intItems] at hn
  subst hn
  rw [e] at hl
  have hsz : 0 < xs.size := by simpa using hne
  refine min_intTup hh hl hsz fun v h' tk hv hk => ?_
  obtain ⟨t, rfl⟩ := intItems_at hv
  obtain ⟨h1, h2⟩ := argBest_lt (numAt xs) (xs.size - 1)
  refine h h' tk _ t hk ?_ fun a ha => ?_
  · rw [numAt_eq]; exact PySem.getD_mem (by rw [List.length_map, Array.length_toList]; omega)
  · obtain ⟨j, hj, rfl⟩ := mem_getD ha
    rw [List.length_map, Array.length_toList] at hj
    rw [← numAt_eq]; exact h2 j (by omega)
end
def rMaxQ (K : PySem.W.Frag) : List V → Hp → VK → Prop := fun vs H Q => ∃ (a : Addr) (ns : List Int), vs = [V.ref a] ∧ (SqL K H a (ns.map V.int) ∨ SqT K H a (ns.map V.int)) ∧ 0 < ns.length ∧ ∀ m, m ∈ ns → (∀ y, y ∈ ns → y ≤ m) → Q (.int m) H
def rMinQ (K : PySem.W.Frag) : List V → Hp → VK → Prop := fun vs H Q => ∃ (a : Addr) (ns : List Int), vs = [V.ref a] ∧ (SqL K H a (ns.map V.int) ∨ SqT K H a (ns.map V.int)) ∧ 0 < ns.length ∧ ∀ m, m ∈ ns → (∀ y, y ∈ ns → m ≤ y) → Q (.int m) H
section
variable {X : Cx}
theorem b_maxQ (hc : X.calm = true) : CallR X (.builtin "max") (rMaxQ X.K) := by
  intro pins s σ H vs us Q I r h
  obtain ⟨a, ns, rfl, hs | hs, hne, q⟩ := h
  · exact cr_max hc pins s σ H _ us Q I r ⟨a, ns, rfl, hs, hne, q⟩
  · obtain ⟨its, rv, hl, _⟩ := I.tuple hs
    rw [Vals.ref1 r]
    obtain ⟨o, ho, hc', n, hd⟩ := hl
    exact max_rawT (I.ok.hd hc) ⟨o, ho, hc', n, hd⟩ rv.ints hne fun h' tk m t' hk h1 h2 => ⟨.int _, H, I.kept hk, ⟨_, rfl⟩, q m h1 h2⟩
theorem b_minQ (hc : X.calm = true) : CallR X (.builtin "min") (rMinQ X.K) := by
  intro pins s σ H vs us Q I r h
  obtain ⟨a, ns, rfl, hs | hs, hne, q⟩ := h
  · exact cr_min hc pins s σ H _ us Q I r ⟨a, ns, rfl, hs, hne, q⟩
  · obtain ⟨its, rv, hl, _⟩ := I.tuple hs
    rw [Vals.ref1 r]
    obtain ⟨o, ho, hc', n, hd⟩ := hl
    exact min_rawT (I.ok.hd hc) ⟨o, ho, hc', n, hd⟩ rv.ints hne fun h' tk m t' hk h1 h2 => ⟨.int _, H, I.kept hk, ⟨_, rfl⟩, q m h1 h2⟩
end
end MyL

set_option Elab.async false
set_option linter.all false
set_option maxRecDepth 100000
set_option maxHeartbeats 4000000
/-! Steps for list methods, list(..), tuple(..), in, tests against [], comprehensions with a test. -/
namespace MyL
open PySem PySem.Spec PyProof.Rows L2
section
variable {X : Cx}
def rListOf (K : PySem.W.Frag) : List V → Hp → VK → Prop := fun xs H Q => ∃ p ys, xs = [.ref p] ∧ (SqL K H p ys ∨ SqT K H p ys) ∧ ∀ l, H l = none → Q (.ref l) (upd H l (.lst ys))
def rTupleOf (K : PySem.W.Frag) : List V → Hp → VK → Prop := fun xs H Q => ∃ p ys, xs = [.ref p] ∧ ((SqL K H p ys ∧ ∀ l, H l = none → Q (.ref l) (upd H l (.tup ys))) ∨ (SqT K H p ys ∧ Q (.ref p) H))
theorem b_listOf : CallR X (.type "list") (rListOf X.K) := call_list_of
theorem b_tupleOf : CallR X (.type "tuple") (rTupleOf X.K) := call_tuple_of
end
section
variable {σ : L2.St} {H : Hp} {Q : VK} {K : PySem.W.Frag} {T : String} {r : V → List V → Hp → VK → Prop} {to te : TE} {t : TA} {tt : TT} {B : Hp} {ms : List Addr} {f l : List (Addr × HO)} {p : Addr} {xs : List V} {y : V} {x0 x1 x2 x3 : Addr × HO} {vs : List Nat}
theorem k_bm (h : to σ H fun x H1 => tyV K T x H1 ∧ t σ H1 fun xs H2 => r x xs H2 Q) : tBM K T r to t σ H Q := h
theorem k_bm0 (h : to σ H fun x H1 => tyV K T x H1 ∧ r x [] H1 Q) : tBM0 K T r to σ H Q := h
theorem k_tyL {PR : Prop} (h : H p = some (.lst xs)) (q : PR) : tyV K "list" (.ref p) H ∧ PR := ⟨.inl ⟨rfl, xs, SqL.of h⟩, q⟩
theorem k_appL0 (M : Mem B ms H f ((p, .lst xs) :: l)) (hs : xs.length < sizeLine) (q : ∀ H', Mem B ms H' f ((p, .lst (xs ++ [y])) :: l) → Q .non H') : rAppend (.ref p) [y] H Q :=
  ⟨p, xs, y, rfl, rfl, M.getL List.mem_cons_self, hs, q _ (Mem.setL (l1 := []) M)⟩
theorem k_appL1 (M : Mem B ms H f (x0 :: (p, .lst xs) :: l)) (hs : xs.length < sizeLine) (q : ∀ H', Mem B ms H' f (x0 :: (p, .lst (xs ++ [y])) :: l) → Q .non H') : rAppend (.ref p) [y] H Q :=
  ⟨p, xs, y, rfl, rfl, M.getL (by simp), hs, q _ (Mem.setL (l1 := [x0]) M)⟩
theorem k_appL2 (M : Mem B ms H f (x0 :: x1 :: (p, .lst xs) :: l)) (hs : xs.length < sizeLine) (q : ∀ H', Mem B ms H' f (x0 :: x1 :: (p, .lst (xs ++ [y])) :: l) → Q .non H') : rAppend (.ref p) [y] H Q :=
  ⟨p, xs, y, rfl, rfl, M.getL (by simp), hs, q _ (Mem.setL (l1 := [x0, x1]) M)⟩
theorem k_appL3 (M : Mem B ms H f (x0 :: x1 :: x2 :: (p, .lst xs) :: l)) (hs : xs.length < sizeLine) (q : ∀ H', Mem B ms H' f (x0 :: x1 :: x2 :: (p, .lst (xs ++ [y])) :: l) → Q .non H') : rAppend (.ref p) [y] H Q :=
  ⟨p, xs, y, rfl, rfl, M.getL (by simp), hs, q _ (Mem.setL (l1 := [x0, x1, x2]) M)⟩
theorem k_revL0 (M : Mem B ms H f ((p, .lst xs) :: l)) (q : ∀ H', Mem B ms H' f ((p, .lst xs.reverse) :: l) → Q .non H') : rReverse (.ref p) [] H Q :=
  ⟨p, xs, rfl, rfl, M.getL List.mem_cons_self, q _ (Mem.setL (l1 := []) M)⟩
theorem k_revL1 (M : Mem B ms H f (x0 :: (p, .lst xs) :: l)) (q : ∀ H', Mem B ms H' f (x0 :: (p, .lst xs.reverse) :: l) → Q .non H') : rReverse (.ref p) [] H Q :=
  ⟨p, xs, rfl, rfl, M.getL (by simp), q _ (Mem.setL (l1 := [x0]) M)⟩
theorem k_listOf (M : Mem B ms H f l) (h : SqL K H p xs ∨ SqT K H p xs) (q : ∀ d H', Mem B ms H' f ((d, .lst xs) :: l) → Q (.ref d) H') : rListOf K [.ref p] H Q := ⟨p, xs, rfl, h, fun d hd => q d _ (M.alloc hd)⟩
theorem k_tupleOf (M : Mem B ms H f l) (h : SqL K H p xs) (q : ∀ d H', Mem B ms H' f ((d, .tup xs) :: l) → Q (.ref d) H') : rTupleOf K [.ref p] H Q := ⟨p, xs, rfl, .inl ⟨h, fun d hd => q d _ (M.alloc hd)⟩⟩
theorem k_tupleOfT (h : SqT K H p xs) (q : Q (.ref p) H) : rTupleOf K [.ref p] H Q := ⟨p, xs, rfl, .inr ⟨h, q⟩⟩
theorem inV_ints {n : Int} {ns : List Int} : inV (.int n) (ns.map V.int) = decide (n ∈ ns) := by
  rw [Bool.eq_iff_iff]
  simp [inV, eqV]
theorem flat_ints {ns : List Int} : (ns.map V.int).all flatV = true := by simp [flatV]
theorem k_inI {n : Int} {ns : List Int} (h : SqL K H p (ns.map V.int) ∨ SqT K H p (ns.map V.int)) (q : Q (.bl (decide (n ∈ ns))) H) : rIn K false (.int n) (.ref p) H Q :=
  ⟨p, _, rfl, h, rfl, flat_ints, by show Q (.bl (inV (.int n) (ns.map V.int))) H; rw [inV_ints]; exact q⟩
/-- a list against [] -/
theorem k_neNil {b : Addr} {ds : List PyData} (h1 : SqL K H p xs) (h2 : H b = some (.lst [])) (hd : DpAll K H xs ds) (hs : SeqAt.shaped (.list ds) = true) (q : Q (.bl (!xs.isEmpty)) H) : rNeD K (.ref p) (.ref b) H Q := by
  refine ⟨.list ds, .list [], .lst h1 hd, .lst (SqL.of h2) .nil, hs, by decide +kernel, ?_⟩
  have e : PyData.eqv (.list ds) (.list []) = xs.isEmpty := by
    cases hd with
    | nil => rfl
    | cons _ _ => rfl
  rw [e]; exact q
theorem dp_ints {ns : List Int} : DpAll K H (ns.map V.int) (ns.map PyData.int) := by
  induction ns with
  | nil => exact .nil
  | cons n ns ih => exact .cons (.int n) ih
theorem lcL_sel {a : Addr} {j : Nat} (M : Mem B ms H f l) (hx : ∀ H' D acc, Mem B ms H' f ((D, .lst acc) :: l) → SqL K H' a xs) (P : V → Bool) (v : V → V) (hn : xs.length ≤ 50000) (hw : ∀ x, wipe ((wipe σ vs).set j (some x)) vs = wipe σ vs)
    (ht : ∀ x H' D acc (R : Bool → Hp → Prop), x ∈ xs → Mem B ms H' f ((D, .lst acc) :: l) → (∀ H4, Mem B ms H4 f ((D, .lst acc) :: l) → R (P x) H4) → tt ((wipe σ vs).set j (some x)) H' R)
    (he : ∀ x H' D acc (R : VK), x ∈ xs → P x = true → Mem B ms H' f ((D, .lst acc) :: l) → (∀ H4, Mem B ms H4 f ((D, .lst acc) :: l) → R (v x) H4) → te ((wipe σ vs).set j (some x)) H' R)
    (k : ∀ (D : Addr) (H' : Hp), Mem B ms H' f ((D, .lst ((xs.filter P).map v)) :: l) → Q (.ref D) H') : tLc (iJ (Itl K a)) (gName j) tt te vs σ H Q := by
  refine lc_lst (xs := xs) fun D hD => ⟨fun i H' => Mem B ms H' f ((D, .lst (((xs.take i).filter P).map v)) :: l), M.alloc hD, fun i H' _ M' => hx H' D _ M', fun i x H' hi M' => ⟨hw _, ?_⟩, fun H' M' => k D H' (by dsimp only at M'; rw [List.take_length] at M'; exact M')⟩
  have hm := List.mem_of_getElem? hi
  have hil := (List.getElem?_eq_some_iff.mp hi).1
  have htk : xs.take (i + 1) = xs.take i ++ [x] := by rw [List.take_add_one, hi]; rfl
  refine ht x H' D _ _ hm M' fun H4 M4 => ?_
  by_cases hp : P x = true
  · rw [hp, if_pos rfl]
    refine he x H4 D _ _ hm hp M4 fun H5 M5 => ⟨_, M5.getL List.mem_cons_self, ?_, ?_⟩
    · rw [List.length_map]
      have h1 := List.length_filter_le P (xs.take i)
      have h2 := List.length_take_le i xs
      exact Nat.lt_of_le_of_lt (Nat.le_trans h1 h2) (Nat.lt_of_lt_of_le hil (Nat.le_trans hn (by decide)))
    · dsimp only
      rw [htk, List.filter_append, List.map_append]
      have e : ([x].filter P).map v = [v x] := by simp [hp]
      rw [e]; exact Mem.setL (l1 := []) M5
  · have hf : P x = false := by simpa using hp
    rw [hf, if_neg (by decide)]
    dsimp only
    rw [htk, List.filter_append]
    have e : [x].filter P = [] := by simp [hf]
    rw [e, List.append_nil]; exact M4
end
end MyL
namespace MyL
open PySem PySem.Spec PyProof.Rows L2
def StaAt (K : PySem.W.Frag) (C : Addr) (m qual : Str) (st : Stmt) : Prop := ∃ (p g : Addr) (fd : FuncData), StaOf K C m p g ∧ Fun K m qual st g fd
section
variable {P : Program} {w : World} {K : PySem.W.Frag} {mg : Str → Option Value} {base h : Heap} {k : Nat} {C f p : Addr} {x m qual : Str} {sp : Sp} {st : Stmt} {fd : FuncData} {ps : List Str} {oc : Value} {od an : Option Addr} {osl : Array (Option Value)} {kV doc pm cdv ct : Value} {rest : List Value}
theorem gsta (ga : PySem.W.specialIn K (.ref C) "__getattribute__" = some (some (.builtin "type.__getattribute__"))) (rd : PySem.W.readsIn K C (.type "type") = true)
    (a : PySem.W.findCls K (.ref C) (.type "type") m = some (.get (.builtin "staticmethod.__get__") (.ref p) .none (.ref C))) (r : PySem.W.recIn K p "staticmethod" = some (.ref f :: rest))
    (l : K.lookup f = some ⟨oc, od, .func (PySem.W.fnOf m qual (defArgs st) (defBody st) (defScope st) .none kV doc pm an cdv ct), osl⟩)
    (c : PySem.W.codeIn K cdv qual = true) (kp : PySem.W.keepIn K (.ref f) = true) : StaAt K C m qual st := ⟨p, f, _, ⟨ga, rd, a, ⟨rest, r⟩, kp⟩, fun_mk l c kp⟩
theorem sta_of (D : StaAt K C m qual st) (hb : BindsSt m qual st ps) (ok : ∀ {f : Addr} {fd : FuncData}, Fun K m qual st f fd → FnOk P w K mg base (L2.CX P w) k f fd ps sp) : Sta P w K mg base k C m sp := by
  obtain ⟨p, f, fd, a, F⟩ := D
  exact ⟨p, f, fd, ps, a, F.binds hb, ok F⟩
theorem plain_mk (X : K.In h) (G : h.Ns mainGlobals mg) (g : PySem.W.nsIn K mainGlobals x = some (some (.ref C))) (kC : PySem.W.keepIn K (.ref C) = true) (e : PySem.W.excIn K C [.type "ValueError", .type "Exception", .type "BaseException", .type "object"] "ValueError.__new__" = true)
    (sb : PySem.W.subIn K (.ref C) (.type "BaseException") = some true) (ty : PySem.W.typeIn K (.ref C) = some (.type "type")) : PlainErr K mg x C := ⟨PySem.W.mg_of X G g, kC, e, sb, ty⟩
end
end MyL

set_option Elab.async false
set_option linter.all false
set_option maxRecDepth 100000
set_option maxHeartbeats 4000000
/-! Walks over a list or a tuple, unpacking, while, all, extend; pairs of numbers in the heap. -/
namespace MyL
open PySem PySem.Spec PyProof.Rows L2
/-- a list or a tuple of xs -/
def Sq (H : Hp) (a : Addr) (xs : List V) : Prop := H a = some (.lst xs) ∨ H a = some (.tup xs)
theorem Sq.same {H H' : Hp} {a : Addr} {xs : List V} (h : Sq H a xs) (s : Same H H') : Sq H' a xs := h.elim (fun z => .inl (s _ _ z)) fun z => .inr (s _ _ z)
def rIsN0 : R2 := fun x y H Q => y = .non ∧ Q (.bl (decide (x = .non))) H
def rNotN0 : R2 := fun x y H Q => y = .non ∧ Q (.bl (!decide (x = .non))) H
theorem op_isN0 {X : Cx} : OpR X (compareOp .Is) rIsN0 := op_isN
theorem op_notN0 {X : Cx} : OpR X (compareOp .IsNot) rNotN0 := op_notN
def iOr (a b : TI) : TI := fun σ H R => a σ H R ∨ b σ H R
section
variable {X : Cx} {tg l : Expr} {tl : TE} {a b : TI}
theorem pi_or (h1 : PI X tg l a) (h2 : PI X tg l b) : PI X tg l (iOr a b) := ⟨fun pins s σ H R I h => h.elim (h1.run pins s σ H R I) (h2.run pins s σ H R I)⟩
theorem pi_seq (h : PE X l tl) : PI X tg l (iOr (iList X.K tl) (iTup X.K tl)) := pi_or (pi_list h) (pi_tup h)
end
section
variable {nx : L2.St → Hp → Prop} {rt : VK} {bk ct : L2.St → Hp → Prop} {σ : L2.St} {H : Hp} {tb : TS} {g : TG} {te tl : TE} {tt : TT} {Q : VK} {tA : TA} {K : PySem.W.Frag} {D : Ends} {vs : List Nat} {B : Hp} {ms : List Addr} {f l : List (Addr × HO)}
theorem sq_loop {n : Nat} {a : Addr} {xs : List V} (hv : σ[n]? = some (some (.ref a))) (hq : Sq H a xs) (Pv : Nat → L2.St → Hp → Prop) (h0 : Pv 0 σ H) (hk : ∀ i σ' H', i ≤ xs.length → Pv i σ' H' → Same H H')
    (hs : ∀ i x σ' H', xs[i]? = some x → Pv i σ' H' → g x σ' H' fun σ2 H2 => tb ⟨Pv (i + 1), rt, nx, Pv (i + 1)⟩ σ2 H2) (hd : ∀ σ' H', Pv xs.length σ' H' → nx σ' H') : tFor (iOr (iList K (tVar n)) (iTup K (tVar n))) g tb ⟨nx, rt, bk, ct⟩ σ H := by
  rcases hq with hq | hq
  · exact .inl ⟨_, hv, a, rfl, ⟨xs, SqL.of hq⟩, lst_loop (K := K) ⟨Pv, h0, fun i σ' H' hi hp => SqL.of (hk i σ' H' hi hp _ _ hq), hs, hd⟩⟩
  · exact .inr ⟨_, hv, a, rfl, ⟨xs, SqT.of hq⟩, tup_loop (K := K) ⟨Pv, h0, fun i σ' H' hi hp => SqT.of (hk i σ' H' hi hp _ _ hq), hs, hd⟩⟩
def LcT (K : PySem.W.Frag) (a : Addr) (xs : List V) (g : TG) (tt : TT) (te : TE) (vs : List Nat) (σ : L2.St) (H : Hp) (Q : VK) : Prop :=
  ∀ D, H D = none → ∃ Pv : Nat → Hp → Prop, Pv 0 (upd H D (.lst [])) ∧ (∀ i H', i ≤ xs.length → Pv i H' → SqT K H' a xs) ∧ (∀ i x H', xs[i]? = some x → Pv i H' → g x (wipe σ vs) H' fun σ2 H2 => wipe σ2 vs = wipe σ vs ∧ tt σ2 H2 fun b H3 =>
    if b = true then te σ2 H3 fun y H4 => ∃ acc, H4 D = some (.lst acc) ∧ acc.length < sizeLine ∧ Pv (i + 1) (upd H4 D (.lst (acc ++ [y]))) else Pv (i + 1) H3) ∧ ∀ H', Pv xs.length H' → Q (.ref D) H'
theorem lc_tupW {a : Addr} {xs : List V} (h : LcT K a xs g tt te vs σ H Q) : tLc (iJ (Itt K a)) g tt te vs σ H Q := fun D hD => by
  obtain ⟨Pv, h0, hl, hs, hd⟩ := h D hD
  exact lc_tup Pv h0 hl hs hd
theorem k_lcT (h : tl σ H fun x H1 => ∃ a, x = .ref a ∧ (∃ xs, SqT K H1 a xs) ∧ tLc (iJ (Itt K a)) g tt te vs σ H1 Q) : tLc (iTup K tl) g tt te vs σ H Q := h
theorem lcT_pure {a : Addr} {xs : List V} {j : Nat} (M : Mem B ms H f l) (hx : ∀ H', Mem B ms H' f l → SqT K H' a xs) (v : Nat → V) (hn : xs.length ≤ 50000) (hw : ∀ x, wipe ((wipe σ vs).set j (some x)) vs = wipe σ vs)
    (he : ∀ (i : Nat) x H' D (R : VK), xs[i]? = some x → Mem B ms H' f ((D, .lst ((List.range i).map v)) :: l) → (∀ H4, Mem B ms H4 f ((D, .lst ((List.range i).map v)) :: l) → R (v i) H4) → te ((wipe σ vs).set j (some x)) H' R)
    (k : ∀ D H', Mem B ms H' f ((D, .lst ((List.range xs.length).map v)) :: l) → Q (.ref D) H') : tLc (iJ (Itt K a)) (gName j) tYes te vs σ H Q := by
  refine lc_tupW (xs := xs) fun D hD => ⟨fun i H' => Mem B ms H' f ((D, .lst ((List.range i).map v)) :: l), M.alloc hD, fun i H' _ M' => hx H' M'.drop, fun i x H' hi M' => ⟨hw _, ?_⟩, fun H' M' => k D H' M'⟩
  refine iteT (B := Mem B ms H' f ((D, .lst ((List.range (i + 1)).map v)) :: l)) (he i x H' D _ hi M' fun H4 M4 => ⟨_, M4.getL List.mem_cons_self, ?_, ?_⟩)
  · rw [List.length_map, List.length_range]; exact Nat.lt_of_lt_of_le (List.getElem?_eq_some_iff.mp hi).1 (Nat.le_trans hn (by decide))
  · dsimp only; rw [List.range_succ, List.map_append]; exact Mem.setL (l1 := []) M4
theorem lcQ_pure {n : Nat} {a : Addr} {xs : List V} {j : Nat} (hv : σ[n]? = some (some (.ref a))) (hq : Sq H a xs) (M : Mem B ms H f l) (hx : ∀ H', Mem B ms H' f l → Same H H') (v : Nat → V) (hn : xs.length ≤ 50000) (hw : ∀ x, wipe ((wipe σ vs).set j (some x)) vs = wipe σ vs)
    (he : ∀ (i : Nat) x H' D (R : VK), xs[i]? = some x → Mem B ms H' f ((D, .lst ((List.range i).map v)) :: l) → (∀ H4, Mem B ms H4 f ((D, .lst ((List.range i).map v)) :: l) → R (v i) H4) → te ((wipe σ vs).set j (some x)) H' R)
    (k : ∀ D H', Mem B ms H' f ((D, .lst ((List.range xs.length).map v)) :: l) → Q (.ref D) H') : tLc (iOr (iList K (tVar n)) (iTup K (tVar n))) (gName j) tYes te vs σ H Q := by
  rcases hq with hq | hq
  · exact .inl ⟨_, hv, a, rfl, ⟨xs, SqL.of hq⟩, lcL_pure M (fun H' M' => SqL.of (hx H' M' _ _ hq)) v hn hw he k⟩
  · exact .inr ⟨_, hv, a, rfl, ⟨xs, SqT.of hq⟩, lcT_pure M (fun H' M' => SqT.of (hx H' M' _ _ hq)) v hn hw he k⟩
/-- a comprehension over a range with a test, whose element is a new object -/
theorem lcR_selNew {lo : Int} {n j : Nat} (M : Mem B ms H f l) (P : Nat → Bool) (O : Nat → HO) (hn : n ≤ 50000) (hw : ∀ x, wipe ((wipe σ vs).set j (some x)) vs = wipe σ vs)
    (ht : ∀ (i : Nat) H' l' (R : Bool → Hp → Prop), i < n → Mem B ms H' f l' → (∀ H4, Mem B ms H4 f l' → R (P i) H4) → tt ((wipe σ vs).set j (some (.int (lo + i)))) H' R)
    (he : ∀ (i : Nat) H' l' (R : VK), i < n → P i = true → Mem B ms H' f l' → (∀ y H4, Mem B ms H4 f ((y, O i) :: l') → R (.ref y) H4) → te ((wipe σ vs).set j (some (.int (lo + i)))) H' R)
    (k : ∀ (D : Addr) (zs : List (Addr × HO)) (H' : Hp), zs.map (·.2) = ((List.range n).filter P).map O → Mem B ms H' f ((D, .lst (zs.map fun z => V.ref z.1)) :: (zs.reverse ++ l)) → Q (.ref D) H') : tLc (iJ (Itr lo n)) (gName j) tt te vs σ H Q := by
  refine lc_rng fun D hD => ⟨fun i H' => ∃ zs : List (Addr × HO), zs.map (·.2) = ((List.range i).filter P).map O ∧ Mem B ms H' f ((D, .lst (zs.map fun z => V.ref z.1)) :: (zs.reverse ++ l)), ?_, ?_, ?_⟩
  · exact ⟨[], rfl, M.alloc hD⟩
  · rintro i H' hi ⟨zs, hz, M'⟩
    refine ⟨hw _, ?_⟩
    refine ht i H' _ _ hi M' fun H4 M4 => ?_
    by_cases hp : P i = true
    · rw [hp, if_pos rfl]
      refine he i H4 _ _ hi hp M4 fun y H5 M5 => ⟨_, M5.getL (List.mem_cons_of_mem _ List.mem_cons_self), ?_, zs ++ [(y, O i)], ?_, ?_⟩
      · have e := congrArg List.length hz
        rw [List.length_map, List.length_map] at e
        have h1 := List.length_filter_le P (List.range i)
        rw [List.length_range] at h1
        rw [List.length_map]
        exact Nat.lt_of_lt_of_le (by omega : zs.length < n) (Nat.le_trans hn (by decide))
      · rw [List.map_append, hz, List.range_succ, List.filter_append, List.map_append]
        simp [hp]
      · have := (Mem.setL (l1 := [(y, O i)]) (o' := .lst (List.map (fun z : Addr × HO => V.ref z.1) (zs ++ [(y, O i)]))) M5).swap
        simpa using this
    · have hf : P i = false := by simpa using hp
      rw [hf, if_neg (by decide)]
      refine ⟨zs, ?_, M4⟩
      rw [hz, List.range_succ, List.filter_append]
      simp [hf]
  · rintro H' ⟨zs, hz, M'⟩
    exact k D zs H' hz M'
/-! ### unpacking -/
theorem k_asgT {n : Nat} {t : TGs} (h : te σ H fun x H1 => gTup K n t x σ H1 nx) : tAsg te (gTup K n t) ⟨nx, rt, bk, ct⟩ σ H := h
theorem k_gTup {n : Nat} {t : TGs} {p : Addr} {xs : List V} {QG : L2.St → Hp → Prop} (h : H p = some (.tup xs)) (hl : xs.length = n) (q : t xs σ H QG) : gTup K n t (.ref p) σ H QG := ⟨p, xs, rfl, SqT.of h, hl, q⟩
theorem k_gCons {t : TG} {u : TGs} {v : V} {r : List V} {QG : L2.St → Hp → Prop} (q : t v σ H fun σ' H' => u r σ' H' QG) : gCons t u (v :: r) σ H QG := ⟨v, r, rfl, q⟩
theorem k_gNil {QG : L2.St → Hp → Prop} (q : QG σ H) : gNil [] σ H QG := ⟨rfl, q⟩
theorem k_par {i j : Nat} (h : tA σ H fun vs H1 => ∃ v w, vs = [v, w] ∧ nx ((σ.set i (some v)).set j (some w)) H1) : tPar i j tA ⟨nx, rt, bk, ct⟩ σ H := h
theorem k_two {v w : V} {PR : V → V → Prop} (q : PR v w) : ∃ v' w', [v, w] = [v', w'] ∧ PR v' w' := ⟨v, w, rfl, q⟩
/-! ### while -/
theorem k_while {tc : TT} (Pv : L2.St → Hp → Prop) (μ : L2.St → Hp → Nat) (h0 : Pv σ H)
    (hs : ∀ σ' H', Pv σ' H' → tc σ' H' fun b H1 => if b = true then ∃ N : L2.St → Hp → Prop, (∀ σ2 H2, N σ2 H2 → ∃ m', m' < μ σ' H' ∧ (m' = μ σ2 H2 ∧ Pv σ2 H2)) ∧ tb ⟨N, rt, nx, N⟩ σ' H1 else nx σ' H1) : tWhile tc tb ⟨nx, rt, bk, ct⟩ σ H := by
  refine ⟨fun m σ H => m = μ σ H ∧ Pv σ H, ⟨_, rfl, h0⟩, ?_⟩
  rintro m σ' H' ⟨rfl, p⟩
  exact hs σ' H' p
theorem k_turn {Pv : L2.St → Hp → Prop} {μ : L2.St → Hp → Nat} {m : Nat} (h : tb ⟨fun σ2 H2 => Pv σ2 H2 ∧ μ σ2 H2 < m, rt, nx, fun σ2 H2 => Pv σ2 H2 ∧ μ σ2 H2 < m⟩ σ H) :
    ∃ N : L2.St → Hp → Prop, (∀ σ2 H2, N σ2 H2 → ∃ m', m' < m ∧ (m' = μ σ2 H2 ∧ Pv σ2 H2)) ∧ tb ⟨N, rt, nx, N⟩ σ H := ⟨_, fun σ2 H2 ⟨a, b⟩ => ⟨_, b, rfl, a⟩, h⟩
/-! ### all, isinstance, is None -/
theorem k_all {p : Addr} {bs : List Bool} (h : H p = some (.lst (bs.map V.bl))) (q : Q (.bl (bs.all id)) H) : rAll K [.ref p] H Q := ⟨p, bs, rfl, SqL.of h, q⟩
theorem k_isiL {p : Addr} {xs : List V} {c : String} {b : Bool} (h : H p = some (.lst xs)) (e : PySem.W.kitOne K (.type "list") (.type c) = some b) (q : Q (.bl b) H) : rIsi K [.ref p, .ty c] H Q := ⟨_, _, _, _, b, rfl, .ty c, .base (.lst h), e, q⟩
theorem k_isiT {p : Addr} {xs : List V} {c : String} {b : Bool} (h : H p = some (.tup xs)) (e : PySem.W.kitOne K (.type "tuple") (.type c) = some b) (q : Q (.bl b) H) : rIsi K [.ref p, .ty c] H Q := ⟨_, _, _, _, b, rfl, .ty c, .base (.tup h), e, q⟩
theorem k_isN {x : V} (q : Q (.bl (decide (x = .non))) H) : rIsN0 x .non H Q := ⟨rfl, q⟩
theorem k_notN {x : V} (q : Q (.bl (!decide (x = .non))) H) : rNotN0 x .non H Q := ⟨rfl, q⟩
theorem k_eqV {x y : V} (h : scal x y = true) (q : Q (.bl (decide (x = y))) H) : rEq x y H Q := ⟨h, q⟩
theorem k_neV {x y : V} (h : scal x y = true) (q : Q (.bl (!decide (x = y))) H) : rNe x y H Q := ⟨h, q⟩
theorem k_ixQ {p : Addr} {xs : List V} {j : Int} {v : V} (h : Sq H p xs) (ha : atI xs j = some v) (q : Q v H) : rIx K (.ref p) (.int j) H Q := by
  rcases h with h | h
  · exact .inl ⟨p, xs, j, v, rfl, rfl, SqL.of h, ha, q⟩
  · exact .inr (.inl ⟨p, xs, j, v, rfl, rfl, SqT.of h, ha, q⟩)
theorem k_lenQ {p : Addr} {xs : List V} (h : Sq H p xs) (q : Q (.int xs.length) H) : rLenQ K [.ref p] H Q := ⟨p, xs, rfl, h.elim (fun z => .inl (SqL.of z)) fun z => .inr (SqT.of z), q⟩
/-! ### what was made, in another order -/
theorem Mem.perm {l' : List (Addr × HO)} (M : Mem B ms H f l) (h : l.Perm l') : Mem B ms H f l' :=
  ⟨M.atF, fun p hp => M.atL p (h.mem_iff.mpr hp), by
    have e := (h.append_right f).map (·.1)
    exact e.nodup_iff.mp M.nd, M.keep, M.tr, fun p hp => M.new p (h.mem_iff.mpr hp)⟩
theorem Mem.sub {l' : List (Addr × HO)} (M : Mem B ms H f l) (h : l'.Sublist l) : Mem B ms H f l' :=
  ⟨M.atF, fun p hp => M.atL p (h.subset hp), by
    have e := (h.append_right f).map (·.1)
    exact e.nodup M.nd, M.keep, M.tr, fun p hp => M.new p (h.subset hp)⟩
theorem k_ext {p b : Addr} {xs zs : List V} (M : Mem B ms H f ((p, .lst xs) :: l)) (hb : H b = some (.lst zs)) (hs : xs.length + zs.length ≤ sizeLine) (q : ∀ H', Mem B ms H' f ((p, .lst (xs ++ zs)) :: l) → Q .non H') : rExtend (.ref p) [.ref b] H Q :=
  ⟨p, b, xs, zs, rfl, rfl, M.getL List.mem_cons_self, hb, hs, q _ (Mem.setL (l1 := []) M)⟩
/-! ### pairs of numbers -/
abbrev Pr := Int × Int
abbrev prO (s : Pr) : HO := .tup [.int s.1, .int s.2]
/-- xs are the pairs ss, each told by R -/
def PG (R : Addr → Pr → Prop) (xs : List V) (ss : List Pr) : Prop := xs.length = ss.length ∧ ∀ (i : Nat) (x : V) (s : Pr), xs[i]? = some x → ss[i]? = some s → ∃ p, x = .ref p ∧ R p s
/-- .. in the heap -/
abbrev Prs (H : Hp) : List V → List Pr → Prop := PG fun p s => H p = some (prO s)
/-- .. among what was made -/
abbrev PrL (l : List (Addr × HO)) : List V → List Pr → Prop := PG fun p s => (p, prO s) ∈ l
section
variable {R R' : Addr → Pr → Prop} {xs ys : List V} {ss ts : List Pr}
theorem PG.nil : PG R [] [] := ⟨rfl, fun i x s h => by simp at h⟩
theorem PG.get (h : PG R xs ss) {i : Nat} {x : V} (hx : xs[i]? = some x) : ∃ s p, ss[i]? = some s ∧ x = .ref p ∧ R p s := by
  have hi := (List.getElem?_eq_some_iff.mp hx).1
  rw [h.1] at hi
  obtain ⟨p, e, hp⟩ := h.2 i x _ hx (List.getElem?_eq_getElem hi)
  exact ⟨_, p, List.getElem?_eq_getElem hi, e, hp⟩
theorem PG.mono (h : PG R xs ss) (k : ∀ p s, R p s → R' p s) : PG R' xs ss :=
  ⟨h.1, fun i x s a b => (h.2 i x s a b).imp fun p ⟨e, z⟩ => ⟨e, k p s z⟩⟩
theorem PG.append (h1 : PG R xs ss) (h2 : PG R ys ts) : PG R (xs ++ ys) (ss ++ ts) := by
  refine ⟨by rw [List.length_append, List.length_append, h1.1, h2.1], fun i x s hx hs => ?_⟩
  by_cases hi : i < xs.length
  · rw [List.getElem?_append_left hi] at hx
    rw [List.getElem?_append_left (by rw [← h1.1]; exact hi)] at hs
    exact h1.2 i x s hx hs
  · rw [List.getElem?_append_right (by omega)] at hx
    rw [List.getElem?_append_right (by rw [← h1.1]; omega), ← h1.1] at hs
    exact h2.2 _ x s hx hs
theorem PG.one {p : Addr} {s : Pr} (h : R p s) : PG R [.ref p] [s] := ⟨rfl, fun i x s' a b => by
  cases i with
  | zero => simp at a b; subst a b; exact ⟨p, rfl, h⟩
  | succ i => simp at a⟩
theorem Prs.same {H' : Hp} (h : Prs H xs ss) (k : Same H H') : Prs H' xs ss := h.mono fun p s e => k _ _ e
theorem PrL.prs (M : Mem B ms H f l) (h : PrL l xs ss) : Prs H xs ss := h.mono fun p s e => M.getL e
theorem PrL.more {l' : List (Addr × HO)} (h : PrL l xs ss) (k : ∀ z ∈ l, z ∈ l') : PrL l' xs ss := h.mono fun p s e => k _ e
/-- new objects as pairs -/
theorem PG.ofNew {zs : List (Addr × HO)} (h : zs.map (·.2) = ss.map prO) : PrL zs (zs.map fun z => V.ref z.1) ss := by
  have e := congrArg List.length h
  rw [List.length_map, List.length_map] at e
  refine ⟨by rw [List.length_map]; exact e, fun i x s hx hs => ?_⟩
  rw [List.getElem?_map] at hx
  cases hz : zs[i]? with
  | none => rw [hz] at hx; simp at hx
  | some z =>
    rw [hz] at hx
    simp at hx
    have h1 : (zs.map (·.2))[i]? = some z.2 := by rw [List.getElem?_map, hz]; rfl
    rw [h, List.getElem?_map, hs] at h1
    simp at h1
    refine ⟨z.1, hx.symm, ?_⟩
    show (z.1, prO s) ∈ zs
    rw [h1]
    exact List.mem_of_getElem? hz
end
theorem atI_nat {xs : List V} {i : Nat} {x : V} (h : xs[i]? = some x) : atI xs (i : Int) = some x := by
  have hi := (List.getElem?_eq_some_iff.mp h).1
  unfold atI ixN
  rw [if_pos (by omega), if_pos (by omega)]
  simpa using h
theorem atI_nat0 {xs : List V} {i : Nat} {x : V} (h : xs[i]? = some x) : atI xs (0 + (i : Int)) = some x := by rw [Int.zero_add]; exact atI_nat h
theorem atI_0 {xs : List V} {x : V} (h : xs[0]? = some x) : atI xs 0 = some x := atI_nat (i := 0) h
theorem map_range_getD {α β : Type} {ss : List α} {d : α} {v : α → β} : (List.range ss.length).map (fun i => v (ss.getD i d)) = ss.map v := by
  refine List.ext_getElem? fun i => ?_
  rw [List.getElem?_map, List.getElem?_map]
  by_cases hi : i < ss.length
  · rw [List.getElem?_range hi, List.getElem?_eq_getElem hi]; simp [hi]
  · rw [List.getElem?_eq_none (by simpa using hi), List.getElem?_eq_none (by omega)]; rfl
theorem getD_of {α : Type} {ss : List α} {i : Nat} {s d : α} (h : ss[i]? = some s) : ss.getD i d = s := by
  rw [List.getD_eq_getElem?_getD, h]; rfl
theorem all_at {α : Type} {ss : List α} {p : α → Bool} {i : Nat} {s : α} (h : ss[i]? = some s) (hp : p s = false) : ss.all p = false := by
  rw [List.all_eq_false]; exact ⟨s, List.mem_of_getElem? h, by rw [hp]; exact Bool.false_ne_true⟩
theorem all_next {α : Type} {ss : List α} {p : α → Bool} {i : Nat} {s : α} (h : ss[i]? = some s) (hp : p s = true) (ha : (ss.take i).all p = true) : (ss.take (i + 1)).all p = true := by
  rw [List.take_add_one, h, List.all_append, ha]; simp [hp]
theorem Mem.front1 {x0 y : Addr × HO} (M : Mem B ms H f (x0 :: y :: l)) : Mem B ms H f (y :: x0 :: l) := M.swap
theorem Mem.front2 {x0 x1 y : Addr × HO} (M : Mem B ms H f (x0 :: x1 :: y :: l)) : Mem B ms H f (y :: x0 :: x1 :: l) := M.perm ((List.Perm.cons x0 (List.Perm.swap y x1 l)).trans (List.Perm.swap y x0 _))
theorem Mem.front3 {x0 x1 x2 y : Addr × HO} (M : Mem B ms H f (x0 :: x1 :: x2 :: y :: l)) : Mem B ms H f (y :: x0 :: x1 :: x2 :: l) := M.perm ((List.Perm.cons x0 ((List.Perm.cons x1 (List.Perm.swap y x2 l)).trans (List.Perm.swap y x1 _))).trans (List.Perm.swap y x0 _))
theorem Mem.frontA {zs : List (Addr × HO)} {x0 y : Addr × HO} (M : Mem B ms H f (x0 :: (zs ++ y :: l))) : Mem B ms H f (y :: x0 :: (zs ++ l)) := M.perm ((List.Perm.cons x0 List.perm_middle).trans (List.Perm.swap y x0 _))
theorem k_isNn (q : Q (.bl true) H) : rIsN0 .non .non H Q := ⟨rfl, by rw [decide_eq_true rfl]; exact q⟩
theorem k_isNi {i : Int} (q : Q (.bl false) H) : rIsN0 (.int i) .non H Q := ⟨rfl, by rw [decide_eq_false (fun z => nomatch z)]; exact q⟩
theorem k_notNn (q : Q (.bl false) H) : rNotN0 .non .non H Q := ⟨rfl, by rw [decide_eq_true rfl]; exact q⟩
theorem k_notNi {i : Int} (q : Q (.bl true) H) : rNotN0 (.int i) .non H Q := ⟨rfl, by rw [decide_eq_false (fun z => nomatch z)]; exact q⟩
abbrev pd (s : Pr) : PyData := .tuple [.int s.1, .int s.2]
theorem Prs.dp {xs : List V} {ss : List Pr} (h : Prs H xs ss) : DpAll K H xs (ss.map pd) := by
  induction xs generalizing ss with
  | nil =>
    have e := h.1
    cases ss with
    | nil => exact .nil
    | cons s ss => simp at e
  | cons x xs ih =>
    have e := h.1
    cases ss with
    | nil => simp at e
    | cons s ss =>
      obtain ⟨p, rfl, hp⟩ := h.2 0 x s rfl rfl
      refine .cons (.tup (SqT.of hp) (.cons (.int _) (.cons (.int _) .nil))) (ih ⟨by simpa using e, fun i x s a b => h.2 (i + 1) x s (by simpa using a) (by simpa using b)⟩)
theorem pd_lay (ss : List Pr) : PyData.canLayAll0 (ss.map pd) = true := by
  induction ss with
  | nil => rfl
  | cons s ss ih => simp only [List.map_cons, PyData.canLayAll0, PyData.canLay0, ih, Bool.and_self]
theorem pd_depth (ss : List Pr) : PyData.depthAll (ss.map pd) ≤ 1 := by
  induction ss with
  | nil => simp [PyData.depthAll]
  | cons s ss ih => simp only [List.map_cons, PyData.depthAll, PyData.depth]; omega
theorem pd_shaped (ss : List Pr) : SeqAt.shaped (.list (ss.map pd)) = true := by
  have h := pd_depth ss
  unfold SeqAt.shaped
  rw [Bool.and_eq_true, decide_eq_true_eq]
  refine ⟨by simp only [PyData.canLay0]; exact pd_lay ss, by simp only [PyData.depth]; omega⟩
theorem pd_eqv (ss : List Pr) : PyData.eqvAll (ss.map pd) (ss.map pd) = true := by
  induction ss with
  | nil => rfl
  | cons s ss ih => simp only [List.map_cons, PyData.eqvAll, PyData.eqv, ih, beq_self_eq_true, Bool.and_self]
theorem k_eqPrs {a b : Addr} {xs ys : List V} {ss : List Pr} (h1 : H a = some (.lst xs)) (h2 : H b = some (.lst ys)) (p1 : Prs H xs ss) (p2 : Prs H ys ss) (q : Q (.bl true) H) : rEqD K (.ref a) (.ref b) H Q :=
  ⟨_, _, .lst (SqL.of h1) p1.dp, .lst (SqL.of h2) p2.dp, pd_shaped ss, pd_shaped ss, by simp only [PyData.eqv]; rw [pd_eqv]; exact q⟩
theorem k_nePrs {a b : Addr} {xs ys : List V} {ss : List Pr} (h1 : H a = some (.lst xs)) (h2 : H b = some (.lst ys)) (p1 : Prs H xs ss) (p2 : Prs H ys ss) (q : Q (.bl false) H) : rNeD K (.ref a) (.ref b) H Q :=
  ⟨_, _, .lst (SqL.of h1) p1.dp, .lst (SqL.of h2) p2.dp, pd_shaped ss, pd_shaped ss, by simp only [PyData.eqv]; rw [pd_eqv]; exact q⟩
theorem k_neNilP {a b : Addr} {xs : List V} {ss : List Pr} (h1 : H a = some (.lst xs)) (h2 : H b = some (.lst [])) (p1 : Prs H xs ss) (q : Q (.bl (!ss.isEmpty)) H) : rNeD K (.ref a) (.ref b) H Q :=
  k_neNil (SqL.of h1) h2 p1.dp (pd_shaped ss) (by
    have e : xs.isEmpty = ss.isEmpty := by
      have := p1.1
      cases xs <;> cases ss <;> simp at this ⊢
    rw [e]; exact q)
end
end MyL

set_option Elab.async false
set_option linter.all false
set_option maxRecDepth 100000
set_option maxHeartbeats 4000000
/-! The box of a script and draws from it; what a call leaves, joined with what was known. -/
namespace MyL
open PySem PySem.Spec PyProof.Rows L2
section
variable {B H H' : Hp} {ms : List Addr} {f g l l2 : List (Addr × HO)} {a bx : Addr} {o o' : HO}
theorem Mem.comp1 (M : Mem B ms H ((bx, o) :: f) l) (hm : bx ∈ ms) (M2 : Mem H [bx] H' ((bx, o') :: g) l2) : Mem B ms H' ((bx, o') :: f) (l2 ++ l) := by
  have nd := M.nd
  have hne : ∀ q ∈ l ++ f, q.1 ≠ bx := by
    rw [List.map_append, List.map_cons, List.nodup_append] at nd
    obtain ⟨_, n2, n3⟩ := nd
    rw [List.nodup_cons] at n2
    intro q hq z
    rcases List.mem_append.mp hq with hq | hq
    · exact n3 _ (List.mem_map.mpr ⟨q, hq, rfl⟩) _ List.mem_cons_self z
    · exact n2.1 (List.mem_map.mpr ⟨q, hq, z⟩)
  have hk : ∀ q ∈ l ++ f, H' q.1 = some q.2 := fun q hq => M2.keep _ _ ((List.mem_append.mp hq).elim (fun z => M.atL q z) fun z => M.atF q (List.mem_cons_of_mem _ z)) (by simpa using hne q hq)
  refine ⟨fun q hq => ?_, fun q hq => ?_, ?_, fun b u h hmb => ?_, fun m hmm z => ?_, fun q hq => ?_⟩
  · rcases List.mem_cons.mp hq with rfl | h
    · exact M2.atF _ List.mem_cons_self
    · exact hk q (List.mem_append_right _ h)
  · rcases List.mem_append.mp hq with h | h
    · exact M2.atL q h
    · exact hk q (List.mem_append_left _ h)
  · rw [List.append_assoc, List.map_append, List.nodup_append]
    have n2 := M2.nd
    rw [List.map_append, List.nodup_append] at n2
    refine ⟨n2.1, by simpa using nd, fun x hx y hy e => ?_⟩
    obtain ⟨q, hq, rfl⟩ := List.mem_map.mp hx
    have h0 := M2.new q hq
    have h1 := M.ne h0
    exact h1 (by simpa [e] using hy)
  · exact M2.keep _ _ (M.keep b u h hmb) (by intro z; rw [List.mem_singleton] at z; exact hmb (by rw [z]; exact hm))
  · by_cases e : m = bx
    · rw [e] at z; exact M2.tr bx (by simp) z
    · cases e2 : H m with
      | none => exact M.tr m hmm e2
      | some u => rw [M2.keep _ _ e2 (by simpa using e)] at z; cases z
  · rcases List.mem_append.mp hq with h | h
    · exact M.fresh (M2.new q h)
    · exact M.new q h
theorem Mem.comp0 (M : Mem B ms H f l) (M2 : Mem H [] H' g l2) : Mem B ms H' f (l2 ++ l) := by
  have hk : ∀ b u, H b = some u → H' b = some u := fun b u h => M2.keep b u h (by simp)
  refine ⟨fun q hq => hk _ _ (M.atF q hq), fun q hq => ?_, ?_, fun b u h hmb => hk _ _ (M.keep b u h hmb), fun m hmm z => ?_, fun q hq => ?_⟩
  · rcases List.mem_append.mp hq with h | h
    · exact M2.atL q h
    · exact hk _ _ (M.atL q h)
  · rw [List.append_assoc, List.map_append, List.nodup_append]
    have n2 := M2.nd
    rw [List.map_append, List.nodup_append] at n2
    refine ⟨n2.1, M.nd, fun x hx y hy e => ?_⟩
    obtain ⟨q, hq, rfl⟩ := List.mem_map.mp hx
    exact M.ne (M2.new q hq) (by rw [e]; exact hy)
  · cases e2 : H m with
    | none => exact M.tr m hmm e2
    | some u => rw [hk _ _ e2] at z; cases z
  · rcases List.mem_append.mp hq with h | h
    · exact M.fresh (M2.new q h)
    · exact M.new q h
end
/-- the box: the script's list at sc, the place, the digits left, the turn, the seed -/
abbrev boxO (sc : Addr) (pos big turn seed : Int) : HO := .lst [.ref sc, .int pos, .int big, .int turn, .int seed]
def sp_draw : Sp := fun vs H Q _ => ∃ (bx sc : Addr) (ns : List Int) (pos big turn seed size : Int), vs = [.ref bx, .int size] ∧ H bx = some (boxO sc pos big turn seed) ∧ H sc = some (.lst (ns.map V.int)) ∧ bx ≠ sc ∧ 0 ≤ pos ∧ 0 ≤ big ∧ 1 ≤ size ∧ size < 2 ^ 64 ∧
  ∀ (d pos' big' turn' : Int) H', 0 ≤ d → d < size → 0 ≤ pos' → 0 ≤ big' → Keep [bx] H H' → H' bx = some (boxO sc pos' big' turn' seed) → Q (.int d) H'
def sp_box (K : PySem.W.Frag) : Sp := fun vs H Q _ => ∃ (a : Addr) (ns : List Int), vs = [.ref a] ∧ SqL K H a (ns.map V.int) ∧ ns.length ≤ 63 ∧ ∀ (bx sc : Addr) (seed : Int) H', H bx = none → H sc = none → bx ≠ sc → Same H H' → H' bx = some (boxO sc 0 0 0 seed) → H' sc = some (.lst (ns.map V.int)) → Q (.ref bx) H'
section
variable {B H : Hp} {ms : List Addr} {f l : List (Addr × HO)} {Q : VK} {E : XK} {bx sc : Addr} {ns : List Int} {pos big turn seed size : Int}
theorem box_ne (M : Mem B ms H ((bx, boxO sc pos big turn seed) :: (sc, .lst (ns.map V.int)) :: f) l) : bx ≠ sc := by
  have nd := M.nd
  rw [List.map_append, List.nodup_append] at nd
  have := nd.2.1
  simp at this
  exact this.1.1
theorem use_draw (M : Mem B ms H ((bx, boxO sc pos big turn seed) :: (sc, .lst (ns.map V.int)) :: f) l) (hm : bx ∈ ms) (h0 : 0 ≤ pos) (h1 : 0 ≤ big) (h2 : 1 ≤ size) (h3 : size < 2 ^ 64)
    (k : ∀ (d pos' big' turn' : Int) H', 0 ≤ d → d < size → 0 ≤ pos' → 0 ≤ big' → Mem B ms H' ((bx, boxO sc pos' big' turn' seed) :: (sc, .lst (ns.map V.int)) :: f) l → Q (.int d) H') : sp_draw [.ref bx, .int size] H Q E :=
  ⟨bx, sc, ns, pos, big, turn, seed, size, rfl, M.getF List.mem_cons_self, M.getF (by simp), box_ne M, h0, h1, h2, h3, fun d pos' big' turn' H' a1 a2 a3 a4 kp hb => k d pos' big' turn' H' a1 a2 a3 a4 (M.call1 hm kp hb)⟩
/-- a def that draws: what it may answer, by the objects that it makes -/
def sp_drawn (ar : List V → Prop) (R : List V → V → List (Addr × HO) → Prop) : Sp := fun vs H Q _ => ∃ (bx sc : Addr) (ns : List Int) (pos big turn seed : Int) (as : List V), vs = .ref bx :: as ∧ ar as ∧ H bx = some (boxO sc pos big turn seed) ∧ H sc = some (.lst (ns.map V.int)) ∧ bx ≠ sc ∧ 0 ≤ pos ∧ 0 ≤ big ∧
  ∀ (v : V) (l2 : List (Addr × HO)) (pos' big' turn' : Int) H', R as v l2 → 0 ≤ pos' → 0 ≤ big' → Mem H [bx] H' [(bx, boxO sc pos' big' turn' seed), (sc, .lst (ns.map V.int))] l2 → Q v H'
theorem use_drawn {ar : List V → Prop} {R : List V → V → List (Addr × HO) → Prop} {as : List V} (M : Mem B ms H ((bx, boxO sc pos big turn seed) :: (sc, .lst (ns.map V.int)) :: f) l) (hm : bx ∈ ms) (h0 : 0 ≤ pos) (h1 : 0 ≤ big) (ha : ar as)
    (k : ∀ (v : V) (l2 : List (Addr × HO)) (pos' big' turn' : Int) H', R as v l2 → 0 ≤ pos' → 0 ≤ big' → Mem B ms H' ((bx, boxO sc pos' big' turn' seed) :: (sc, .lst (ns.map V.int)) :: f) (l2 ++ l) → Q v H') : sp_drawn ar R (.ref bx :: as) H Q E :=
  ⟨bx, sc, ns, pos, big, turn, seed, as, rfl, ha, M.getF List.mem_cons_self, M.getF (by simp), box_ne M, h0, h1, fun v l2 pos' big' turn' H' hr a3 a4 M2 => k v l2 pos' big' turn' H' hr a3 a4 (M.comp1 hm M2)⟩
end
end MyL

set_option Elab.async false
set_option linter.all false
set_option maxRecDepth 100000
set_option maxHeartbeats 4000000
/-! What the residues' defs do (contracts alone), and a comprehension over two ranges. -/
namespace MyL
open PySem PySem.Spec PyProof.Rows L2
def resF (p l : Int) : List (Str × V) := [("place", .int p), ("length", .int l)]
theorem ne_pl : ¬ (("length" : Str) = "place") := by decide +kernel
theorem ne_lp : ¬ (("place" : Str) = "length") := by decide +kernel
theorem resF_place (p l : Int) : (resF p l).lookup ("place" : Str) = some (.int p) := by
  unfold resF; rw [lookup_put, if_pos rfl]
theorem resF_length (p l : Int) : (resF p l).lookup ("length" : Str) = some (.int l) := by
  unfold resF; rw [lookup_put, if_neg ne_pl, lookup_put, if_pos rfl]
theorem resF_put (p l : Int) : putF "length" (.int l) (putF "place" (.int p) []) = resF p l := by
  show (if ("place" : Str) = "length" then _ else (("place" : Str), V.int p) :: [(("length" : Str), V.int l)]) = _
  rw [if_neg ne_lp]; rfl
theorem resF_no {p l : Int} {m : Str} (h1 : ¬ m = "place") (h2 : ¬ m = "length") : (resF p l).lookup m = none := by
  unfold resF; rw [lookup_put, if_neg h1, lookup_put, if_neg h2]; rfl
def sp_res (C CO : Addr) : Sp := fun vs H Q E => ∃ (x dx : Addr) (p l : Int), vs = [.ref x, .int p, .int l] ∧ H x = some (.ins C dx []) ∧
  (1 ≤ l → ∀ H', H' x = some (.ins C dx (resF (p % l) l)) → (∀ b o, H b = some o → b ≠ x → H' b = some o) → Q .non H') ∧
  (l < 1 → ∀ d, H d = none → E (.ref CO) (some d) (upd H d (.xd [("value", .int l)])))
def sp_resEq (C : Addr) : Sp := fun vs H Q _ => ∃ (a dx b dy : Addr) (p l p2 l2 : Int), vs = [.ref a, .ref b] ∧ H a = some (.ins C dx (resF p l)) ∧ H b = some (.ins C dy (resF p2 l2)) ∧ Q (.bl (decide (p = p2) && decide (l = l2))) H
def sp_resIn (C : Addr) : Sp := fun vs H Q _ => ∃ (a dx : Addr) (p l d : Int), vs = [.ref a, .int d] ∧ H a = some (.ins C dx (resF p l)) ∧ 1 ≤ l ∧ Q (.bl (decide ((d - p) % l = 0))) H
section
variable {B H : Hp} {ms : List Addr} {f l : List (Addr × HO)} {Q : VK} {E : XK} {C CO a dx b dy : Addr} {p n p2 n2 d : Int}
theorem use_resEq (h1 : H a = some (.ins C dx (resF p n))) (h2 : H b = some (.ins C dy (resF p2 n2))) (q : Q (.bl (decide (p = p2) && decide (n = n2))) H) : sp_resEq C [.ref a, .ref b] H Q E := ⟨a, dx, b, dy, p, n, p2, n2, rfl, h1, h2, q⟩
theorem use_resIn (h1 : H a = some (.ins C dx (resF p n))) (hl : 1 ≤ n) (q : Q (.bl (decide ((d - p) % n = 0))) H) : sp_resIn C [.ref a, .int d] H Q E := ⟨a, dx, p, n, d, rfl, h1, hl, q⟩
theorem use_res (M : Mem B ms H f l) (h : 1 ≤ n) (k : ∀ x dx H', Mem B ms H' f ((x, .ins C dx (resF (p % n) n)) :: l) → Q (.ref x) H') :
    newO C (sp_res C CO) [.int p, .int n] H Q E := by
  intro x dx hx hdx hne
  refine ⟨x, dx, p, n, rfl, upd_same, fun _ H' hx' hk => ⟨rfl, k x dx H' (M.sameNew (fun a o e => ?_) hx hx')⟩, fun h' => absurd h (by omega)⟩
  have hax : a ≠ x := ne_of_none e hx
  exact hk a o (by rw [upd_ne hax, upd_ne (ne_of_none e hdx)]; exact e) hax
theorem use_resE (M : Mem B ms H f l) (h : n < 1) (k : ∀ d H', Mem B ms H' f ((d, .xd [("value", .int n)]) :: l) → E (.ref CO) (some d) H') : newO C (sp_res C CO) [.int p, .int n] H Q E := by
  intro x dx hx hdx hne
  refine ⟨x, dx, p, n, rfl, upd_same, fun h' => absurd h' (by omega), fun _ d hd => k d _ ?_⟩
  have s1 : Same H (upd (upd H dx (.own x)) x (.ins C dx [])) := fun a o e => by
    rw [upd_ne (ne_of_none e hx), upd_ne (ne_of_none e hdx)]; exact e
  exact M.sameNew (s1.trans (same_alloc hd)) (s1.free hd) upd_same
end
section
variable {σ : L2.St} {H : Hp} {te : TE} {Q : VK} {K : PySem.W.Frag} {vs vs1 : List Nat} {B : Hp} {ms : List Addr} {f l : List (Addr × HO)} {g g1 : TG} {tt tt1 : TT} {wi1 : TI} {tA : TA}
theorem k_xfB {H : Hp} {D dd : Addr} {fs : List (Str × V)} {f : Str} {v : V} {PV : V → Prop} (hd : H dd = some (.xd fs)) (hl : fs.lookup f = some v) (q : PV v) : Value.ref D = .ref D ∧ ∃ (dd' : Addr) (fs' : List (Str × V)) (v' : V), some dd = some dd' ∧ H dd' = some (.xd fs') ∧ fs'.lookup f = some v' ∧ PV v' := ⟨rfl, dd, fs, v, rfl, hd, hl, q⟩
/-- a comprehension over a range with a test, whose element is reckoned -/
theorem lcR_selV {lo : Int} {n j : Nat} (M : Mem B ms H f l) (P : Nat → Bool) (v : Nat → V) (hn : n ≤ 50000) (hw : ∀ x, wipe ((wipe σ vs).set j (some x)) vs = wipe σ vs)
    (ht : ∀ (i : Nat) H' D acc (R : Bool → Hp → Prop), i < n → Mem B ms H' f ((D, .lst acc) :: l) → (∀ H4, Mem B ms H4 f ((D, .lst acc) :: l) → R (P i) H4) → tt ((wipe σ vs).set j (some (.int (lo + i)))) H' R)
    (he : ∀ (i : Nat) H' D acc (R : VK), i < n → P i = true → Mem B ms H' f ((D, .lst acc) :: l) → (∀ H4, Mem B ms H4 f ((D, .lst acc) :: l) → R (v i) H4) → te ((wipe σ vs).set j (some (.int (lo + i)))) H' R)
    (k : ∀ (D : Addr) (H' : Hp), Mem B ms H' f ((D, .lst (((List.range n).filter P).map v)) :: l) → Q (.ref D) H') : tLc (iJ (Itr lo n)) (gName j) tt te vs σ H Q := by
  refine lc_rng fun D hD => ⟨fun i H' => Mem B ms H' f ((D, .lst (((List.range i).filter P).map v)) :: l), M.alloc hD, fun i H' hi M' => ⟨hw _, ?_⟩, fun H' M' => k D H' M'⟩
  refine ht i H' D _ _ hi M' fun H4 M4 => ?_
  by_cases hp : P i = true
  · rw [hp, if_pos rfl]
    refine he i H4 D _ _ hi hp M4 fun H5 M5 => ⟨_, M5.getL List.mem_cons_self, ?_, ?_⟩
    · rw [List.length_map]
      have h1 := List.length_filter_le P (List.range i)
      rw [List.length_range] at h1
      exact Nat.lt_of_lt_of_le (Nat.lt_of_le_of_lt h1 hi) (Nat.le_trans hn (by decide))
    · dsimp only
      rw [List.range_succ, List.filter_append, List.map_append]
      have e : ([i].filter P).map v = [v i] := by simp [hp]
      rw [e]; exact Mem.setL (l1 := []) M5
  · have hf : P i = false := by simpa using hp
    rw [hf, if_neg (by decide)]
    dsimp only
    rw [List.range_succ, List.filter_append]
    have e : [i].filter P = [] := by simp [hf]
    rw [e, List.append_nil]; exact M4
theorem k_lc2R2 (h : tA σ H fun zs H1 => ∃ i j : Int, zs = [.int i, .int j] ∧ (-(2 ^ 62) ≤ i ∧ i < 2 ^ 62 ∧ -(2 ^ 62) ≤ j ∧ j < 2 ^ 62) ∧ tLc2 (iJ (Itr i (j - i).toNat)) g tt wi1 g1 tt1 te vs vs1 σ H1 Q) : tLc2 (iRng2 tA) g tt wi1 g1 tt1 te vs vs1 σ H Q := h
/-- the objects that two ranges give, the second one to the number of the first -/
def tot2 (lo : Int) (O : Nat → Nat → HO) (n : Nat) : List HO := (List.range n).flatMap fun (i : Nat) => (List.range (lo + i).toNat).map (O i)
theorem tot2_succ (lo : Int) (O : Nat → Nat → HO) (n : Nat) : tot2 lo O (n + 1) = tot2 lo O n ++ (List.range (lo + n).toNat).map (O n) := by
  unfold tot2; rw [List.range_succ, List.flatMap_append]; simp
theorem tot2_len {lo : Int} {O : Nat → Nat → HO} {n : Nat} (h : lo + n ≤ 200) : (tot2 lo O n).length ≤ 200 * n := by
  induction n with
  | zero => simp [tot2]
  | succ n ih =>
    rw [tot2_succ, List.length_append, List.length_map, List.length_range]
    have := ih (by omega)
    omega
theorem lc2R_new {lo : Int} {n j j1 : Nat} (M : Mem B ms H f l) (O : Nat → Nat → HO) (h0 : 0 ≤ lo) (hn : n ≤ 200) (h2 : lo + n ≤ 200) (hw : ∀ x, wipe ((wipe σ vs).set j (some x)) vs = wipe σ vs)
    (hw1 : ∀ x y, wipe ((wipe ((wipe σ vs).set j (some x)) vs1).set j1 (some y)) vs1 = wipe ((wipe σ vs).set j (some x)) vs1) (hv : ∀ x, ((wipe σ vs).set j (some x))[j]? = some (some x))
    (he : ∀ (i k : Nat) H' l' (R : VK), i < n → k < (lo + i).toNat → Mem B ms H' f l' → (∀ y H4, Mem B ms H4 f ((y, O i k) :: l') → R (.ref y) H4) → te ((wipe ((wipe σ vs).set j (some (.int (lo + i)))) vs1).set j1 (some (.int (0 + (k : Int))))) H' R)
    (k : ∀ (D : Addr) (zs : List (Addr × HO)) (H' : Hp), zs.map (·.2) = tot2 lo O n → Mem B ms H' f ((D, .lst (zs.map fun z => V.ref z.1)) :: (zs.reverse ++ l)) → Q (.ref D) H') : tLc2 (iJ (Itr lo n)) (gName j) tYes (iRng1 (tCons (tVar j) tNil)) (gName j1) tYes te vs vs1 σ H Q := by
  intro D hD
  refine ⟨fun i m H' => m = n - i ∧ i ≤ n ∧ ∃ zs : List (Addr × HO), zs.map (·.2) = tot2 lo O i ∧ Mem B ms H' f ((D, .lst (zs.map fun z => V.ref z.1)) :: (zs.reverse ++ l)), ⟨n, by simp, Nat.zero_le _, [], rfl, M.alloc hD⟩, ?_⟩
  rintro i m H' ⟨rfl, hi, zs, hz, M'⟩
  by_cases hlt : i < n
  · refine .inr ⟨hlt, fun H2 => ∃ zs : List (Addr × HO), zs.map (·.2) = tot2 lo O (i + 1) ∧ Mem B ms H2 f ((D, .lst (zs.map fun z => V.ref z.1)) :: (zs.reverse ++ l)), fun H2 p2 => ⟨n - (i + 1), by omega, rfl, hlt, p2⟩, fun x H2 y => ?_⟩
    obtain ⟨e, y⟩ := y
    subst e y
    refine ⟨hw _, iteT (B := ∃ zs : List (Addr × HO), zs.map (·.2) = tot2 lo O (i + 1) ∧ Mem B ms H2 f ((D, .lst (zs.map fun z => V.ref z.1)) :: (zs.reverse ++ l))) ?_⟩
    refine ⟨_, hv _, lo + i, rfl, by omega, by omega, ?_⟩
    refine ⟨fun u m H3 => m = (lo + i).toNat - u ∧ u ≤ (lo + i).toNat ∧ ∃ zs : List (Addr × HO), zs.map (·.2) = tot2 lo O i ++ (List.range u).map (O i) ∧ Mem B ms H3 f ((D, .lst (zs.map fun z => V.ref z.1)) :: (zs.reverse ++ l)), ⟨_, rfl, Nat.zero_le _, zs, by simpa using hz, M'⟩, ?_⟩
    rintro u m H3 ⟨rfl, hu, zs, hz, M3⟩
    by_cases hul : u < (lo + i).toNat
    · refine .inr ⟨hul, fun H4 => ∃ zs : List (Addr × HO), zs.map (·.2) = tot2 lo O i ++ (List.range (u + 1)).map (O i) ∧ Mem B ms H4 f ((D, .lst (zs.map fun z => V.ref z.1)) :: (zs.reverse ++ l)), fun H4 p4 => ⟨(lo + i).toNat - (u + 1), by omega, rfl, hul, p4⟩, fun x H4 y => ?_⟩
      obtain ⟨e, y⟩ := y
      subst e y
      refine ⟨hw1 _ _, iteT (B := ∃ zs : List (Addr × HO), zs.map (·.2) = tot2 lo O i ++ (List.range (u + 1)).map (O i) ∧ Mem B ms H4 f ((D, .lst (zs.map fun z => V.ref z.1)) :: (zs.reverse ++ l))) ?_⟩
      refine he i u _ _ _ hlt hul M3 fun y H5 M5 => ⟨_, M5.getL (List.mem_cons_of_mem _ List.mem_cons_self), ?_, zs ++ [(y, O i u)], ?_, ?_⟩
      · have e := congrArg List.length hz
        have ht := tot2_len (lo := lo) (O := O) (n := i) (by omega)
        simp only [List.length_map, List.length_append, List.length_range] at e
        rw [List.length_map]
        exact Nat.lt_of_lt_of_le (m := 50000) (by omega) (by decide)
      · rw [List.map_append, hz, List.range_succ, List.map_append, List.append_assoc]; rfl
      · have := (Mem.setL (l1 := [(y, O i u)]) (o' := .lst (List.map (fun z : Addr × HO => V.ref z.1) (zs ++ [(y, O i u)]))) M5).swap
        simpa using this
    · have e : u = (lo + i).toNat := by omega
      subst e
      exact .inl ⟨Nat.le_refl _, zs, by rw [tot2_succ]; exact hz, M3⟩
  · have e : i = n := by omega
    subst e
    exact .inl ⟨Nat.le_refl _, k D zs H' hz M'⟩
end
end MyL

set_option Elab.async false
set_option linter.all false
set_option maxRecDepth 100000
set_option maxHeartbeats 4000000
/-! Static methods by a positional promise, also without arguments and with a star parameter. -/
namespace MyL
open PySem PySem.Spec PyProof.Rows L2
structure StaR (P : Program) (w : World) (K : PySem.W.Frag) (mg : Str → Option Value) (base : Heap) (k : Nat) (C : Addr) (m : Str) (sp : Sp) : Prop where
  ex : ∃ (p g : Addr), StaOf K C m p g ∧ FnR P w K mg base (L2.CX P w) k g sp
section
variable {X : Cx} {W : WX} {k j : Nat} {C : Addr} {sp : Sp} {x m : Str} {p pos apos : Pos} {e o : Expr} {es : List Expr} {ta : TE} {t : TA}
theorem c_staR {pl : Sem Bool} (c : StaR X.prog X.w X.K X.mg X.base k C m sp) (tk : Takes X W) (hr : Room j X.A) (hk : k ≤ j) (ho : PE X o ta) (ha : PA X (e :: es) t)
    (hst : starEach (e :: es) X.env = (false, eval e X.env) :: starEach es X.env := by rfl) (hpl : (backTo pos (starEach es X.env)).any (·.1) = false := by rfl)
    (ht : eval (.Call (.Attribute o m apos) (e :: es) [] pos) X.env = (do
      let ov ← eval o X.env
      standAt apos.atName
      let (f, first) ← holding [ov] (getMethod ov m pl)
      callWith pos f first (backTo pos (starEach (e :: es) X.env)) (backToKw pos (keywordEach [] X.env))) := by rfl) :
    PE X (.Call (.Attribute o m apos) (e :: es) [] pos) (tSta C sp W ta t) := by
  obtain ⟨p, g, hm, F⟩ := c.ex
  obtain ⟨rest, hrec⟩ := hm.rc
  refine ⟨fun pins s σ H Q I h => ?_⟩
  refine PySem.W.methodCall_KW (pl := pl) (thn (ho.run pins s σ H _ I h) fun u s1 hh => ?_) ht
  obtain ⟨x, H1, I1, rx, ex, q⟩ := hh
  subst ex
  obtain rfl : u = Value.ref C := rx
  have I1' := I1.tok (s1.toks + 1)
  refine PySem.W.method_cls I1.kIn hm.ga (PySem.W.cls_bind I1.kIn hm.rd hm.at_ (wpAny_call (PySem.W.sm_get (s := { s1 with toks := s1.toks + 1 }) I1.kIn hrec (PySem.W.handed_on rfl ?_))))
  refine PySem.W.callWith_K (first := []) (h₀ := X.base) I.ok.mod.kin hm.kp (thn (ha.run pos pins _ σ H1 _ I1' q) fun us s2 hh => ?_) hst hpl
  obtain ⟨vs, H2, I2, r, q2⟩ := hh
  exact ⟨I2.kIn, wpAny_call (run_S F tk (hr.mono hk) I2.env0 I2 r q2)⟩
theorem c_sta0R {pl : Sem Bool} (c : StaR X.prog X.w X.K X.mg X.base k C m sp) (tk : Takes X W) (hr : Room j X.A) (hk : k ≤ j) (ho : PE X o ta)
    (ht : eval (.Call (.Attribute o m apos) [] [] pos) X.env = (do
      let ov ← eval o X.env
      standAt apos.atName
      let (f, first) ← holding [ov] (getMethod ov m pl)
      callWith pos f first (backTo pos (starEach [] X.env)) (backToKw pos (keywordEach [] X.env))) := by rfl) :
    PE X (.Call (.Attribute o m apos) [] [] pos) (tSta C sp W ta tNil) := by
  obtain ⟨p, g, hm, F⟩ := c.ex
  obtain ⟨rest, hrec⟩ := hm.rc
  refine ⟨fun pins s σ H Q I h => ?_⟩
  refine PySem.W.methodCall_KW (pl := pl) (thn (ho.run pins s σ H _ I h) fun u s1 hh => ?_) ht
  obtain ⟨x, H1, I1, rx, ex, q⟩ := hh
  subst ex
  obtain rfl : u = Value.ref C := rx
  have I1' := I1.tok (s1.toks + 1)
  refine PySem.W.method_cls I1.kIn hm.ga (PySem.W.cls_bind I1.kIn hm.rd hm.at_ (wpAny_call (PySem.W.sm_get (s := { s1 with toks := s1.toks + 1 }) I1.kIn hrec (PySem.W.handed_on rfl ?_))))
  exact PySem.W.callWith_K0 (first := []) I1'.kIn hm.kp (wpAny_call (run_S F tk (hr.mono hk) I1'.env0 I1' .nil q))
end
section
variable {P : Program} {w : World} {K : PySem.W.Frag} {mg : Str → Option Value} {base : Heap} {k : Nat} {C : Addr} {m qual : Str} {st : Stmt} {sp : Sp}
/-- what a def with a star parameter alone is promised, by what its body is promised -/
def starSp (sp : Sp) : Sp := fun vs H Q E => vs.length ≤ sizeLine ∧ ∀ p, H p = none → sp [.ref p] (upd H p (.tup vs)) Q E
/-- the arguments of a def of the text with a star parameter alone -/
def StarSt (x qual : Str) (st : Stmt) (pv : Str) : Prop := ∀ (kV doc pm : Value) (an : Option Addr) (cdv ct : Value) (rest : List Value), bindArgs (PySem.W.fnOf x qual (defArgs st) (defBody st) (defScope st) .none kV doc pm an cdv ct) ⟨rest, []⟩ = (newTuple rest >>= fun t => pure [(pv, t)])
theorem okStar {x : Str} {f : Addr} {fd : FuncData} {N : List Str} {pv : Str} (F : L2.Fun K x qual st f fd) (hb : StarSt x qual st pv) (S : FnScope N [pv] (defScope st))
    (hbody : ∀ (cdv : Value) (A : Around) (outer : List Env) (s : Shared) (H : Hp) (vs : List V) (Q : VK) (E : XK), Room k (A.deeper (envOfC qual (defScope st) s.heap.objs.size f cdv)) →
      Takes (cxOf (L2.CX P w) P w K mg base N qual (defScope st) f cdv A outer s H E) (fun c d _ H => E c d H) → sp vs H Q E →
      ∃ t, PSs (cxOf (L2.CX P w) P w K mg base N qual (defScope st) f cdv A outer s H E) (defBody st) t ∧ t ⟨fun _ H' => Q .non H', Q, fun _ _ => False, fun _ _ => False⟩ (start N vs) H) : FnR P w K mg base (L2.CX P w) (k + 1) f (starSp sp) := by
  obtain ⟨oc, od, kV, doc, pm, an, cdv, ct, osl, rfl, lk, hcd⟩ := id F.ex
  refine (StX.fn_star (ps := []) (pv := pv) (sp := sp) lk hcd S StX.cxUp (fun us rest hl => ?_) fun A outer s H vs Q E hr h => hbody cdv A outer s H vs Q E hr (takes_of rfl rfl rfl rfl) h).imp ?_
  · cases us with
    | nil => exact hb kV doc pm an cdv ct rest
    | cons u us => cases hl
  · rintro vs H Q E ⟨hl, h⟩
    exact ⟨[], vs, rfl, rfl, hl, h⟩
theorem staR_of {ps : List Str} (D : StaAt K C m qual st) (hb : BindsSt m qual st ps) (ok : ∀ {f : Addr} {fd : FuncData}, Fun K m qual st f fd → FnOk P w K mg base (L2.CX P w) k f fd ps sp) : StaR P w K mg base k C m sp := by
  obtain ⟨p, f, fd, a, F⟩ := D
  exact ⟨p, f, a, raw0 (ok F) (F.binds hb)⟩
theorem staS_of (D : StaAt K C m qual st) (ok : ∀ {f : Addr} {fd : FuncData}, Fun K m qual st f fd → FnR P w K mg base (L2.CX P w) k f sp) : StaR P w K mg base k C m sp := by
  obtain ⟨p, f, fd, a, F⟩ := D
  exact ⟨p, f, a, ok F⟩
end
end MyL

set_option Elab.async false
set_option linter.all false
set_option maxRecDepth 100000
set_option maxHeartbeats 4000000
/-! enumerate over a tuple that was made here. -/
namespace MyL
open PySem PySem.Spec PyProof.Rows L2
theorem enum_makes {v : Value} {o : Obj} {U : Heap → Prop} (B : Begins v o U) :
    Meets (Builtin.«enumerate.__new__» ⟨[.type "enumerate", v], []⟩) fun _ R s => U s.heap ∧ R (.ok (.ret (.ref (s.heap.push o).objs.size)))
      { s with heap := (s.heap.push o).push { cls := .type "enumerate", data := .fields #[.none, .bool false, .ref s.heap.objs.size, rawInt 0, .none, .none] } } :=
  .of_wp fun prog w A R s hyp => by
    obtain ⟨hp, g, d, tk, os⟩ := s
    obtain ⟨hU, hR⟩ := hyp
    have sb := sub_enumerate
    have goIt : ∀ {A2 : Around} {E2 : Value → Shared → Prop} {Q2 : Value → Shared → Prop}, Q2 (.ref hp.objs.size) ⟨hp.push o, g, d, tk, os⟩ → wpAny (model prog w) A2 (pyIter v) Q2 E2 ⟨hp, g, d, tk, os⟩ := fun z => B.iter prog w _ _ ⟨hp, g, d, tk, os⟩ _ hU z
    wp_walk using goIt
    refine wpAny_stack_any fun st2 => wpAny_pure ?_
    split
    · rename_i cc _ _ _ _ _
      cases (cc == Value.type "enumerate") <;> (wp_walk using goIt; exact ⟨_, rfl, hR⟩)
    · wp_walk using goIt
      exact ⟨_, rfl, hR⟩
theorem enum_call {prog : Program} {w : World} {A : Around} {E : Value → Shared → Prop} {s : Shared} {v : Value} {o : Obj} {U : Heap → Prop} {Q : Value → Shared → Prop} (B : Begins v o U) (hU : U s.heap)
    (fin : ∀ h2, IsEnum h2 (s.heap.objs.size + 1) s.heap.objs.size 0 .none → h2.get? s.heap.objs.size = some o → (∀ b ob, s.heap.get? b = some ob → h2.get? b = some ob) → Q (.ref (s.heap.objs.size + 1)) { s with heap := h2 }) :
    wpAny (model prog w) A (call (.type "enumerate") [v]) Q E s := by
  refine callType_new F.called_enumerate (by decide) (F.typeCall_enumerate_1 v) (F.newCall_enumerate_1 v) (fun ob => F.args_object_init_2 ob v) F.entry_enumerate_new (enum_makes B) ⟨hU, ?_⟩
  have size1 : (s.heap.push o).objs.size = s.heap.objs.size + 1 := Heap.size_push ..
  show _ ∧ _
  rw [size1]
  have isE : IsEnum ((s.heap.push o).push { cls := .type "enumerate", data := .fields #[.none, .bool false, .ref s.heap.objs.size, rawInt 0, .none, .none] }) (s.heap.objs.size + 1) s.heap.objs.size 0 .none := by
    have z := Heap.get?_push_size (s.heap.push o) (o := { cls := .type "enumerate", data := .fields #[.none, .bool false, .ref s.heap.objs.size, rawInt 0, .none, .none] }) rfl
    rw [size1] at z
    exact z
  exact ⟨⟨_, isE, rfl⟩, fin _ isE (Heap.get?_push_of_some _ (Heap.get?_push_size _ B.free)) fun b ob z => Heap.get?_push_of_some _ (Heap.get?_push_of_some _ z)⟩
/-- the tuple at a, each item in a new pair -/
def IteT (a : Addr) : It :=
  ⟨fun i H => ∃ (xs : List V) (x : V), H a = some (.tup xs) ∧ xs[i]? = some x,
   fun i H v H' => ∃ T x, v = .ref T ∧ H T = none ∧ H' = upd H T (.tup [.int (i : Nat), x]) ∧ ∀ xs, H a = some (.tup xs) → xs[i]? = some x,
   fun i H => ∃ xs : List V, H a = some (.tup xs) ∧ xs.length = i⟩
theorem turn_enumT {P : Program} {w : World} {K : PySem.W.Frag} {elts : List Expr} {kk : Nat} {tpos : Pos} (a e it : Addr) :
    Turn P w K (.Tuple elts kk tpos) (IteT a) [e, it] e fun i h => (∃ old, IsEnum h e it ((i : Nat) : Int) old) ∧ h.IsTupleIter it a i ∧ e ≠ it where
  mem := List.mem_cons_self
  obj := fun i h st b hb => by
    obtain ⟨⟨old, he⟩, ⟨o, ho, hc, hd⟩, _⟩ := st
    simp only [List.mem_cons, List.not_mem_nil, or_false] at hb
    rcases hb with rfl | rfl
    · exact ⟨_, he, fun v z => nomatch z⟩
    · exact ⟨o, ho, fun v z => by rw [hd] at z; cases z⟩
  keep := fun i h h2 st k => by
    obtain ⟨⟨old, he⟩, hi, hne⟩ := st
    exact ⟨⟨old, k e (by simp) _ he⟩, hi.at fun o z => k it (by simp) o z, hne⟩
  item := by
    rintro X rfl rfl rfl calm i pins s σ H E I fp ⟨⟨old, he⟩, hit, hne⟩ ⟨xs, x, hq, hx⟩
    obtain ⟨its, rv, tup, _⟩ := I.tuple (SqT.of (K := X.K) hq)
    obtain ⟨u, hu, ru⟩ := rv.get hx
    have apart : ∀ b ∈ [e, it], a ≠ b := fun b hb z => by
      have n := (fp b hb).1
      rw [← z, hq] at n
      cases n
    have elt : e < s.heap.objs.size := Heap.lt_size he
    have ilt : it < s.heap.objs.size := by
      obtain ⟨_, z, _⟩ := hit
      exact Heap.lt_size z
    have isz : i < its.toArray.size := by
      have := (List.getElem?_eq_some_iff.mp hu).1
      simpa using this
    refine wpAny_pyNext_enum_itemD (Draws.tuple (A := X.A.in1) (I.ok.hd calm) it a (apart it (by simp)) its.toArray) he ⟨hit, tup⟩ isz hne (by simp [hne, Ne.symm (apart e (by simp))]) fun y h2 tk hy out st2 hT _ hk => ?_
    have ey : y = u := by
      have : its.toArray[i]? = some u := by simpa using hu
      rw [this] at hy
      exact (Option.some.inj hy).symm
    subst ey
    refine ⟨_, rfl, wpAny_letOwnedTupleGo_enum (s := { s with heap := h2, toks := tk + 1 }) out fun h3 he3 sb => ?_⟩
    have at3 : h3.get? s.heap.objs.size = some { cls := .type "tuple", data := .seq #[.int i tk, y] } := (sb.2 _ (Nat.ne_of_gt elt)).trans hT
    have pair : ObjOk X.prog X.w (upd H s.heap.objs.size (.tup [.int (i : Nat), x])) h3 s.heap.objs.size (.tup [.int (i : Nat), x]) := ⟨by show 2 ≤ sizeLine; decide, [.int i tk, y], .cons ⟨_, rfl⟩ (.cons ru .nil), _, at3, rfl, _, rfl⟩
    have I2 : Inv X pins σ (upd H s.heap.objs.size (.tup [.int (i : Nat), x])) { s with heap := h3, toks := tk + 1 } := I.turnedNew (ch := [e, it]) (fun b ob nb z => (sb.2 b fun q => nb (by simp [q])).trans (hk b ob (fun q => nb (by simp [q])) (fun q => nb (by simp [q])) z)) fp (Nat.le_refl _) pair
    refine ⟨.ref s.heap.objs.size, _, I2, rfl, ⟨_, x, rfl, I.hok.fresh (Nat.le_refl _), rfl, fun ys hy2 => by rw [hq] at hy2; cases hy2; exact hx⟩, ⟨⟨y, ?_⟩, st2.1.at fun ob z => (sb.2 it (Ne.symm hne)).trans z, hne⟩, fun b hb => ?_⟩
    · rw [show ((i + 1 : Nat) : Int) = (i : Int) + 1 by omega]
      exact he3
    · have blt : b < s.heap.objs.size := by
        simp only [List.mem_cons, List.not_mem_nil, or_false] at hb
        rcases hb with rfl | rfl <;> assumption
      rw [upd_ne (Nat.ne_of_lt blt)]
      exact (fp b hb).1
  done := by
    rintro X rfl rfl rfl calm i pins s σ H E I fp ⟨⟨old, he⟩, hit, hne⟩ ⟨xs, hq, hl⟩
    obtain ⟨its, rv, tup, _⟩ := I.tuple (SqT.of (K := X.K) hq)
    have apart : a ≠ it := fun z => by
      have n := (fp it (by simp)).1
      rw [← z, hq] at n
      cases n
    have en : its.toArray.size = i := by
      have := rv.length
      simp
      omega
    obtain ⟨f0, f1, _, f3, f4, f5⟩ := fp it (by simp)
    exact wpAny_pyNext_enum_endD (Draws.tuple (A := X.A.in1) (I.ok.hd calm) it a apart its.toArray) he ⟨by rw [en]; exact hit, tup⟩ fun h2 eb => ⟨rfl, I.turned (t' := s.toks) (fun b ob nb z => eb b ob nb z) f0 f1 f3 f4 f5⟩
  self := fun A i s Q E st z => by
    obtain ⟨⟨_, he⟩, _⟩ := st
    exact wpAny_pyIter_enum he z
def iEnumT (ta : TA) : TI := fun σ H R => ta σ H fun vs H1 => ∃ a xs, vs = [.ref a] ∧ H1 a = some (.tup xs) ∧ R (IteT a) H1
theorem pi_enumT {X : Cx} {e : Expr} {ta : TA} {p pos tpos : Pos} {elts : List Expr} {kk : Nat} (hg : Gl X "enumerate") (hm : X.mg "enumerate" = none) (ha : PA X [e] ta) (hs : starEach [e] X.env = [(false, eval e X.env)] := by rfl) :
    PI X (.Tuple elts kk tpos) (.Call (.Name "enumerate" p) [e] [] pos) (iEnumT ta) := by
  refine ⟨fun pins s σ H R I hyp => Call_ (ld_blt I hg hm boot_enumerate (PyProof.Rows.callWith_type1 (thn (ha.run pos pins s σ H _ I hyp) fun us s1 hq => ?_) hs rfl))⟩
  obtain ⟨vs, H1, I1, r1, a, xs, rfl, hq, q⟩ := hq
  obtain ⟨u, rfl, ru⟩ := r1.one
  cases ru
  obtain ⟨its, rv, tup, _⟩ := I1.tuple (SqT.of (K := X.K) hq)
  refine enum_call (begins_tuple a its.toArray) tup fun h2 isE ho hk => wpAny_pyIter_enum isE ?_
  have I2 : Inv X pins σ H1 { s1 with heap := h2 } := I1.kept (t' := s1.toks) hk
  refine ⟨s1.heap.objs.size + 1, [s1.heap.objs.size + 1, s1.heap.objs.size], _, _, H1, rfl, I2, turn_enumT a (s1.heap.objs.size + 1) s1.heap.objs.size, ⟨⟨.none, isE⟩, ⟨_, ho, rfl, rfl⟩, Nat.succ_ne_self _⟩, fun b hb => ?_, q⟩
  have above : s1.heap.objs.size ≤ b := by
    simp only [List.mem_cons, List.not_mem_nil, or_false] at hb
    rcases hb with rfl | rfl
    · exact Nat.le_add_right _ _
    · exact Nat.le_refl _
  exact I1.fpOk above (I1.hok.fresh above)
end MyL

set_option Elab.async false
set_option linter.all false
set_option maxRecDepth 100000
set_option maxHeartbeats 4000000
/-! list(range(..)), insert, pop(i), truth of lists, enumerate loops; rows of numbers in the heap. -/
namespace MyL
open PySem PySem.Spec PyProof.Rows L2
section
variable {X : Cx}
theorem cr_range1 : CallR X (.type "range") fun vs H Q => ∃ j, vs = [V.int j] ∧ ∀ p, H p = none → Q (.ref p) (upd H p (.rng 0 j)) := by
  rintro pins s σ H vs us Q I r ⟨j, rfl, q⟩
  obtain ⟨u, rfl, t, rfl⟩ := r.one
  refine call_range_1 ⟨.ref s.heap.objs.size, upd H s.heap.objs.size (.rng 0 j), I.laid (t' := s.toks + 1 + 1) (fun b o z => Heap.get?_push_of_some _ z) (Nat.le_refl _) ?_, rfl, q _ (I.hok.fresh (Nat.le_refl _))⟩
  exact ⟨s.toks, t, s.toks + 1, Heap.get?_push_size _ rfl⟩
def rListRng : List V → Hp → VK → Prop := fun vs H Q => ∃ a lo hi, vs = [V.ref a] ∧ H a = some (.rng lo hi) ∧ Builtin.Range.small lo hi 1 = true ∧ (hi - lo).toNat ≤ 2 ^ 24 ∧ ∀ p, H p = none → Q (.ref p) (upd H p (.lst ((List.range (hi - lo).toNat).map fun (i : Nat) => .int (lo + i))))
theorem b_listRng (hc : X.calm = true) : CallR X (.type "list") rListRng := by
  rintro pins s σ H vs us Q I r ⟨a, lo, hi, rfl, ha, hsm, hle, q⟩
  obtain ⟨u, rfl, ru⟩ := r.one
  cases ru
  obtain ⟨t1, t2, t3, ho⟩ := I.hok a _ ha
  have sz : Builtin.Range.rangeSize lo hi 1 = ((hi - lo).toNat : Nat) := by
    unfold Builtin.Range.rangeSize
    rw [if_pos (by decide)]
    split <;> omega
  refine call_list_range (I.ok.hd hc) ho hsm sz hle fun h2 tk acc c2 hk hS hacc => ?_
  have en : acc.toList.length = (hi - lo).toNat := by simpa using hacc.1
  have rv : Vals ((List.range (hi - lo).toNat).map fun (i : Nat) => V.int (lo + i)) acc.toList := by
    rw [← en]
    refine vals_of_get acc.toList (fun (i : Nat) => V.int (lo + i)) fun j v hj => ?_
    obtain ⟨t, e⟩ := hacc.2 j v (by simpa using hj)
    exact ⟨t, by rw [e, Int.mul_one]⟩
  refine ⟨.ref s.heap.objs.size, _, I.laid (t' := tk) hk (Nat.le_refl _) (show ObjOk X.prog X.w _ h2 _ (.lst ((List.range (hi - lo).toNat).map fun (i : Nat) => V.int (lo + i))) from ⟨?_, acc.toList, c2, rv, by simpa using hS⟩), rfl, q _ (I.hok.fresh (Nat.le_refl _))⟩
  rw [List.length_map, List.length_range]
  exact Nat.le_trans hle (by rw [sizeLine_eq]; decide)
theorem pi_enumQ {e : Expr} {ta : TA} {p pos tpos : Pos} {elts : List Expr} {kk : Nat} (hg : Gl X "enumerate") (hm : X.mg "enumerate" = none) (ha : PA X [e] ta) (hs : starEach [e] X.env = [(false, eval e X.env)] := by rfl) :
    PI X (.Tuple elts kk tpos) (.Call (.Name "enumerate" p) [e] [] pos) (iOr (iEnum X.K ta) (iEnumT ta)) := pi_or (pi_enum hg hm ha hs) (pi_enumT hg hm ha hs)
def rInsert : V → List V → Hp → VK → Prop := fun x vs H Q => ∃ (l : Addr) (xs : List V) (i : Int) (y : V), x = .ref l ∧ vs = [.int i, y] ∧ H l = some (.lst xs) ∧ xs.length < sizeLine ∧ 0 ≤ i ∧ i < 2 ^ 63 ∧ Q .non (upd H l (.lst (xs.take i.toNat ++ [y] ++ xs.drop i.toNat)))
theorem mt_insert0 : MtR X "list.insert" rInsert := mt_insert
end
section
variable {nx : L2.St → Hp → Prop} {rt : VK} {bk ct : L2.St → Hp → Prop} {σ : L2.St} {H : Hp} {tb : TS} {g : TG} {te tl : TE} {tt : TT} {Q : VK} {tA : TA} {K : PySem.W.Frag} {B : Hp} {ms : List Addr} {f l : List (Addr × HO)}
theorem enumQ_loop {n : Nat} {a : Addr} {xs : List V} (hv : σ[n]? = some (some (.ref a))) (hq : Sq H a xs) (Pv : Nat → L2.St → Hp → Prop) (h0 : Pv 0 σ H) (hk : ∀ i σ' H' o, i ≤ xs.length → Pv i σ' H' → H a = some o → H' a = some o)
    (hs : ∀ i x σ' H' T, xs[i]? = some x → Pv i σ' H' → H' T = none → g (.ref T) σ' (upd H' T (.tup [.int (i : Nat), x])) fun σ2 H2 => tb ⟨Pv (i + 1), rt, nx, Pv (i + 1)⟩ σ2 H2) (hd : ∀ σ' H', Pv xs.length σ' H' → nx σ' H') :
    tFor (iOr (iEnum K (tCons (tVar n) tNil)) (iEnumT (tCons (tVar n) tNil))) g tb ⟨nx, rt, bk, ct⟩ σ H := by
  rcases hq with hq | hq
  · refine .inl ⟨_, hv, a, xs, rfl, SqL.of hq, fun i m σ' H' => m = xs.length - i ∧ i ≤ xs.length ∧ Pv i σ' H', ⟨_, rfl, Nat.zero_le _, h0⟩, ?_⟩
    rintro i m σ' H' ⟨rfl, hi, hp⟩
    have sq := hk i σ' H' _ hi hp hq
    by_cases hlt : i < xs.length
    · refine .inr ⟨⟨xs, xs[i], SqL.of sq, List.getElem?_eq_getElem hlt⟩, Pv (i + 1), fun σ2 H2 p2 => ⟨xs.length - (i + 1), by omega, rfl, hlt, p2⟩, ?_⟩
      rintro v H2 ⟨T, x, rfl, hT, rfl, hx⟩
      exact hs i x σ' H' T (hx xs (SqL.of sq)) hp hT
    · have e : i = xs.length := by omega
      subst e
      exact .inl ⟨⟨xs, SqL.of sq, Nat.le_refl _⟩, hd σ' H' hp⟩
  · refine .inr ⟨_, hv, a, xs, rfl, hq, fun i m σ' H' => m = xs.length - i ∧ i ≤ xs.length ∧ Pv i σ' H', ⟨_, rfl, Nat.zero_le _, h0⟩, ?_⟩
    rintro i m σ' H' ⟨rfl, hi, hp⟩
    have sq := hk i σ' H' _ hi hp hq
    by_cases hlt : i < xs.length
    · refine .inr ⟨⟨xs, xs[i], sq, List.getElem?_eq_getElem hlt⟩, Pv (i + 1), fun σ2 H2 p2 => ⟨xs.length - (i + 1), by omega, rfl, hlt, p2⟩, ?_⟩
      rintro v H2 ⟨T, x, rfl, hT, rfl, hx⟩
      exact hs i x σ' H' T (hx xs sq) hp hT
    · have e : i = xs.length := by omega
      subst e
      exact .inl ⟨⟨xs, sq, rfl⟩, hd σ' H' hp⟩
theorem k_truL {p : Addr} {xs : List V} {QB : Bool → Hp → Prop} (h : H p = some (.lst xs)) (q : QB (!xs.isEmpty) H) : ∃ k, TruV K (.ref p) H k ∧ QB k H := ⟨_, .inl ⟨xs, SqL.of h, rfl⟩, q⟩
theorem k_truT {p : Addr} {xs : List V} {QB : Bool → Hp → Prop} (h : H p = some (.tup xs)) (q : QB (!xs.isEmpty) H) : ∃ k, TruV K (.ref p) H k ∧ QB k H := ⟨_, .inr (.inl ⟨xs, SqT.of h, rfl⟩), q⟩
theorem k_insert {p : Addr} {xs : List V} {i : Int} {y : V} (M : Mem B ms H f ((p, .lst xs) :: l)) (hs : xs.length < sizeLine) (h0 : 0 ≤ i) (h1 : i < 2 ^ 63) (q : ∀ H', Mem B ms H' f ((p, .lst (xs.take i.toNat ++ [y] ++ xs.drop i.toNat)) :: l) → Q .non H') : rInsert (.ref p) [.int i, y] H Q :=
  ⟨p, xs, i, y, rfl, rfl, M.getL List.mem_cons_self, hs, h0, h1, q _ (Mem.setL (l1 := []) M)⟩
theorem seqIx {i : Int} {n : Nat} (h0 : 0 ≤ i) (h1 : i < n) : seqIndex? i n = some i.toNat := by
  unfold seqIndex?
  simp only
  split
  · omega
  · split
    · rfl
    · rename_i z; simp at z; omega
theorem k_popAt {p : Addr} {xs : List V} {i : Int} {y : V} (M : Mem B ms H f ((p, .lst xs) :: l)) (h0 : 0 ≤ i) (h1 : i < xs.length) (hl : xs.length ≤ 50000) (hy : xs[i.toNat]? = some y) (q : ∀ H', Mem B ms H' f ((p, .lst (xs.eraseIdx i.toNat)) :: l) → Q y H') : rPopAt (.ref p) [.int i] H Q :=
  ⟨p, xs, i, i.toNat, y, rfl, rfl, M.getL List.mem_cons_self, by omega, by omega, seqIx h0 h1, hy, q _ (Mem.setL (l1 := []) M)⟩
theorem k_range1 {j : Int} (M : Mem B ms H f l) (q : ∀ p H', Mem B ms H' f ((p, .rng 0 j) :: l) → Q (.ref p) H') : (fun (vs : List V) (H : Hp) (Q : VK) => ∃ j, vs = [V.int j] ∧ ∀ p, H p = none → Q (.ref p) (upd H p (.rng 0 j))) [.int j] H Q := ⟨j, rfl, fun p hp => q p _ (M.alloc hp)⟩
end
/-! ### things told of a row of values -/
def PX {β : Type} (R : Addr → β → Prop) (xs : List V) (bs : List β) : Prop := xs.length = bs.length ∧ ∀ (i : Nat) (x : V) (b : β), xs[i]? = some x → bs[i]? = some b → ∃ p, x = .ref p ∧ R p b
section
variable {β : Type} {R R' : Addr → β → Prop} {xs ys : List V} {bs cs : List β}
theorem PX.nil : PX R [] [] := ⟨rfl, fun i x s h => by simp at h⟩
theorem PX.get (h : PX R xs bs) {i : Nat} {x : V} (hx : xs[i]? = some x) : ∃ b p, bs[i]? = some b ∧ x = .ref p ∧ R p b := by
  have hi := (List.getElem?_eq_some_iff.mp hx).1
  rw [h.1] at hi
  obtain ⟨p, e, hp⟩ := h.2 i x _ hx (List.getElem?_eq_getElem hi)
  exact ⟨_, p, List.getElem?_eq_getElem hi, e, hp⟩
theorem PX.mono (h : PX R xs bs) (k : ∀ p b, R p b → R' p b) : PX R' xs bs := ⟨h.1, fun i x s a b => (h.2 i x s a b).imp fun p ⟨e, z⟩ => ⟨e, k p s z⟩⟩
theorem PX.append (h1 : PX R xs bs) (h2 : PX R ys cs) : PX R (xs ++ ys) (bs ++ cs) := by
  refine ⟨by rw [List.length_append, List.length_append, h1.1, h2.1], fun i x s hx hs => ?_⟩
  by_cases hi : i < xs.length
  · rw [List.getElem?_append_left hi] at hx
    rw [List.getElem?_append_left (by rw [← h1.1]; exact hi)] at hs
    exact h1.2 i x s hx hs
  · rw [List.getElem?_append_right (by omega)] at hx
    rw [List.getElem?_append_right (by rw [← h1.1]; omega), ← h1.1] at hs
    exact h2.2 _ x s hx hs
theorem PX.one {p : Addr} {b : β} (h : R p b) : PX R [.ref p] [b] := ⟨rfl, fun i x s' a c => by
  cases i with
  | zero => simp at a c; subst a c; exact ⟨p, rfl, h⟩
  | succ i => simp at a⟩
theorem PX.take (h : PX R xs bs) (n : Nat) : PX R (xs.take n) (bs.take n) := by
  refine ⟨by rw [List.length_take, List.length_take, h.1], fun i x s hx hs => ?_⟩
  rw [List.getElem?_take] at hx hs
  split at hx
  · rename_i hn; rw [if_pos hn] at hs; exact h.2 i x s hx hs
  · cases hx
theorem PX.drop (h : PX R xs bs) (n : Nat) : PX R (xs.drop n) (bs.drop n) := by
  refine ⟨by rw [List.length_drop, List.length_drop, h.1], fun i x s hx hs => ?_⟩
  rw [List.getElem?_drop] at hx hs
  exact h.2 _ x s hx hs
theorem PX.reverse (h : PX R xs bs) : PX R xs.reverse bs.reverse := by
  refine ⟨by rw [List.length_reverse, List.length_reverse, h.1], fun i x s hx hs => ?_⟩
  have hi := (List.getElem?_eq_some_iff.mp hx).1
  rw [List.length_reverse] at hi
  rw [List.getElem?_reverse hi] at hx
  rw [List.getElem?_reverse (by rw [← h.1]; exact hi), ← h.1] at hs
  exact h.2 _ x s hx hs
theorem PX.erase (h : PX R xs bs) (n : Nat) : PX R (xs.eraseIdx n) (bs.eraseIdx n) := by
  rw [List.eraseIdx_eq_take_drop_succ, List.eraseIdx_eq_take_drop_succ]
  exact (h.take n).append (h.drop (n + 1))
end
/-! ### rows of numbers -/
abbrev rowO (r : List Int) : HO := .tup (r.map V.int)
abbrev Rws (H : Hp) : List V → List (List Int) → Prop := PX fun p r => H p = some (rowO r)
abbrev RwL (l : List (Addr × HO)) : List V → List (List Int) → Prop := PX fun p r => (p, rowO r) ∈ l
section
variable {B H H' : Hp} {ms : List Addr} {f l l' : List (Addr × HO)} {xs ys : List V} {rs : List (List Int)} {K : PySem.W.Frag} {Q : VK} {a b : Addr}
theorem Rws.same (h : Rws H xs rs) (s : Same H H') : Rws H' xs rs := h.mono fun p r e => s _ _ e
theorem RwL.rws (M : Mem B ms H f l) (h : RwL l xs rs) : Rws H xs rs := h.mono fun p r e => M.getL e
theorem RwL.more (h : RwL l xs rs) (k : ∀ z ∈ l, z ∈ l') : RwL l' xs rs := h.mono fun p r e => k _ e
abbrev rd (r : List Int) : PyData := .tuple (r.map PyData.int)
theorem Rws.dp (h : Rws H xs rs) : DpAll K H xs (rs.map rd) := by
  induction xs generalizing rs with
  | nil =>
    have e := h.1
    cases rs with
    | nil => exact .nil
    | cons s ss => simp at e
  | cons x xs ih =>
    have e := h.1
    cases rs with
    | nil => simp at e
    | cons s ss =>
      obtain ⟨p, rfl, hp⟩ := h.2 0 x s rfl rfl
      exact .cons (.tup (SqT.of hp) dp_ints) (ih ⟨by simpa using e, fun i x s a b => h.2 (i + 1) x s (by simpa using a) (by simpa using b)⟩)
theorem ints_lay (r : List Int) : PyData.canLayAll0 (r.map PyData.int) = true := by
  induction r with
  | nil => rfl
  | cons s ss ih => simp only [List.map_cons, PyData.canLayAll0, PyData.canLay0, ih, Bool.and_self]
theorem ints_depth (r : List Int) : PyData.depthAll (r.map PyData.int) = 0 := by
  induction r with
  | nil => rfl
  | cons s ss ih => simp only [List.map_cons, PyData.depthAll, PyData.depth, ih]; rfl
theorem rd_lay (rs : List (List Int)) : PyData.canLayAll0 (rs.map rd) = true := by
  induction rs with
  | nil => rfl
  | cons s ss ih => simp only [List.map_cons, PyData.canLayAll0, PyData.canLay0, ih, ints_lay, Bool.and_self]
theorem rd_depth (rs : List (List Int)) : PyData.depthAll (rs.map rd) ≤ 1 := by
  induction rs with
  | nil => simp [PyData.depthAll]
  | cons s ss ih => simp only [List.map_cons, PyData.depthAll, PyData.depth, ints_depth]; omega
theorem rd_shaped (rs : List (List Int)) : SeqAt.shaped (.list (rs.map rd)) = true := by
  have h := rd_depth rs
  unfold SeqAt.shaped
  rw [Bool.and_eq_true, decide_eq_true_eq]
  exact ⟨by simp only [PyData.canLay0]; exact rd_lay rs, by simp only [PyData.depth]; omega⟩
theorem ints_eqv (r s : List Int) : PyData.eqvAll (r.map PyData.int) (s.map PyData.int) = decide (r = s) := by
  induction r generalizing s with
  | nil => cases s with
    | nil => rfl
    | cons y s => rfl
  | cons x r ih => cases s with
    | nil => rfl
    | cons y s =>
      simp only [List.map_cons, PyData.eqvAll, PyData.eqv, ih]
      by_cases h : x = y
      · subst h; simp
      · simp [h]
theorem rd_eqv (rs : List (List Int)) : PyData.eqvAll (rs.map rd) (rs.map rd) = true := by
  induction rs with
  | nil => rfl
  | cons s ss ih => simp only [List.map_cons, PyData.eqvAll, PyData.eqv, ints_eqv, ih, decide_true, Bool.and_self]
theorem k_eqRws (h1 : H a = some (.lst xs)) (h2 : H b = some (.lst ys)) (p1 : Rws H xs rs) (p2 : Rws H ys rs) (q : Q (.bl true) H) : rEqD K (.ref a) (.ref b) H Q :=
  ⟨_, _, .lst (SqL.of h1) p1.dp, .lst (SqL.of h2) p2.dp, rd_shaped rs, rd_shaped rs, by simp only [PyData.eqv]; rw [rd_eqv]; exact q⟩
theorem k_eqNil {ds : List PyData} (h1 : SqL K H a xs) (h2 : H b = some (.lst [])) (hd : DpAll K H xs ds) (hs : SeqAt.shaped (.list ds) = true) (q : Q (.bl xs.isEmpty) H) : rEqD K (.ref a) (.ref b) H Q := by
  refine ⟨.list ds, .list [], .lst h1 hd, .lst (SqL.of h2) .nil, hs, by decide +kernel, ?_⟩
  have e : PyData.eqv (.list ds) (.list []) = xs.isEmpty := by
    cases hd with
    | nil => rfl
    | cons _ _ => rfl
  rw [e]; exact q
theorem ints_shaped (r : List Int) : SeqAt.shaped (.list (r.map PyData.int)) = true := by
  unfold SeqAt.shaped
  rw [Bool.and_eq_true, decide_eq_true_eq]
  exact ⟨by simp only [PyData.canLay0]; exact ints_lay r, by simp only [PyData.depth, ints_depth]; omega⟩
end
end MyL

set_option Elab.async false
set_option linter.all false
set_option maxRecDepth 100000
set_option maxHeartbeats 8000000
namespace K32
open PySem L2 MyL
def top (i : Nat) : Stmt := PySem.Challenge.pw_fittingpasts_k32_shelf_pairs.main.body.getD i (.Pass ⟨0, 0, 0, 0⟩)
abbrev s_is_integer : Stmt := top 10
abbrev N_is_integer : List Str := ["value"]
theorem sc_is_integer : FnScope N_is_integer ["value"] (defScope s_is_integer) := ⟨rfl, rfl, rfl, by decide +kernel, rfl, by decide +kernel, by decide +kernel⟩
theorem st_is_integer (a0 : V) : start N_is_integer [a0] = [some a0] := rfl
abbrev s_is_term : Stmt := top 15
abbrev N_is_term : List Str := ["term", "mark", "direction"]
theorem sc_is_term : FnScope N_is_term ["term"] (defScope s_is_term) := ⟨rfl, rfl, rfl, by decide +kernel, rfl, by decide +kernel, by decide +kernel⟩
theorem st_is_term (a0 : V) : start N_is_term [a0] = [some a0, none, none] := rfl
abbrev s_compare_by : Stmt := top 18
abbrev N_compare_by : List Str := ["terms", "first", "second", "mark", "direction"]
theorem sc_compare_by : FnScope N_compare_by ["terms", "first", "second"] (defScope s_compare_by) := ⟨rfl, rfl, rfl, by decide +kernel, rfl, by decide +kernel, by decide +kernel⟩
theorem st_compare_by (a0 a1 a2 : V) : start N_compare_by [a0, a1, a2] = [some a0, some a1, some a2, none, none] := rfl
abbrev s_Rule_init : Stmt := inClass (top 19) 0
abbrev N_Rule_init : List Str := ["self", "terms", "marks", "at", "term"]
theorem sc_Rule_init : FnScope N_Rule_init ["self", "terms"] (defScope s_Rule_init) := ⟨rfl, rfl, rfl, by decide +kernel, rfl, by decide +kernel, by decide +kernel⟩
theorem st_Rule_init (a0 a1 : V) : start N_Rule_init [a0, a1] = [some a0, some a1, none, none, none] := rfl
abbrev s_Rule_compare : Stmt := inClass (top 19) 3
abbrev N_Rule_compare : List Str := ["self", "first", "second"]
theorem sc_Rule_compare : FnScope N_Rule_compare ["self", "first", "second"] (defScope s_Rule_compare) := ⟨rfl, rfl, rfl, by decide +kernel, rfl, by decide +kernel, by decide +kernel⟩
theorem st_Rule_compare (a0 a1 a2 : V) : start N_Rule_compare [a0, a1, a2] = [some a0, some a1, some a2] := rfl
abbrev s_wrong_pairs : Stmt := top 21
abbrev N_wrong_pairs : List Str := ["rule", "shelf", "pairs", "i", "j"]
theorem sc_wrong_pairs : FnScope N_wrong_pairs ["rule", "shelf"] (defScope s_wrong_pairs) := ⟨rfl, rfl, rfl, by decide +kernel, rfl, by decide +kernel, by decide +kernel⟩
theorem st_wrong_pairs (a0 a1 : V) : start N_wrong_pairs [a0, a1] = [some a0, some a1, none, none, none] := rfl
abbrev s_strays : Stmt := top 22
abbrev N_strays : List Str := ["rule", "shelf", "pairs", "at", "pair"]
theorem sc_strays : FnScope N_strays ["rule", "shelf"] (defScope s_strays) := ⟨rfl, rfl, rfl, by decide +kernel, rfl, by decide +kernel, by decide +kernel⟩
theorem st_strays (a0 a1 : V) : start N_strays [a0, a1] = [some a0, some a1, none, none, none] := rfl
abbrev s_slots : Stmt := top 23
abbrev N_slots : List Str := ["rule", "shelf", "roll", "pairs", "first", "second", "found", "k", "after_left", "before_right"]
theorem sc_slots : FnScope N_slots ["rule", "shelf", "roll"] (defScope s_slots) := ⟨rfl, rfl, rfl, by decide +kernel, rfl, by decide +kernel, by decide +kernel⟩
theorem st_slots (a0 a1 a2 : V) : start N_slots [a0, a1, a2] = [some a0, some a1, some a2, none, none, none, none, none, none, none] := rfl
abbrev s__law_box : Stmt := top 25
abbrev N__law_box : List Str := ["_law_script", "_law_place"]
theorem sc__law_box : FnScope N__law_box ["_law_script", "_law_place"] (defScope s__law_box) := ⟨rfl, rfl, rfl, by decide +kernel, rfl, by decide +kernel, by decide +kernel⟩
theorem st__law_box (a0 a1 : V) : start N__law_box [a0, a1] = [some a0, some a1] := rfl
abbrev s__law_take : Stmt := top 26
abbrev N__law_take : List Str := ["_law_bag", "_law_size", "_law_digit", "_law_mixed"]
theorem sc__law_take : FnScope N__law_take ["_law_bag", "_law_size"] (defScope s__law_take) := ⟨rfl, rfl, rfl, by decide +kernel, rfl, by decide +kernel, by decide +kernel⟩
theorem st__law_take (a0 a1 : V) : start N__law_take [a0, a1] = [some a0, some a1, none, none] := rfl
abbrev s__law_integer : Stmt := top 27
abbrev N__law_integer : List Str := ["_law_told"]
theorem sc__law_integer : FnScope N__law_integer ["_law_told"] (defScope s__law_integer) := ⟨rfl, rfl, rfl, by decide +kernel, rfl, by decide +kernel, by decide +kernel⟩
theorem st__law_integer (a0 : V) : start N__law_integer [a0] = [some a0] := rfl
abbrev s__law_value : Stmt := top 28
abbrev N__law_value : List Str := ["_law_bag", "_law_plain", "_law_kind", "_law_size"]
theorem sc__law_value : FnScope N__law_value ["_law_bag", "_law_plain"] (defScope s__law_value) := ⟨rfl, rfl, rfl, by decide +kernel, rfl, by decide +kernel, by decide +kernel⟩
theorem st__law_value (a0 a1 : V) : start N__law_value [a0, a1] = [some a0, some a1, none, none] := rfl
abbrev s__law_terms : Stmt := top 29
abbrev N__law_terms : List Str := ["_law_bag", "_law_many", "_law_marks", "_law_left", "_law_terms_here", "_law_turn", "_law_mark"]
theorem sc__law_terms : FnScope N__law_terms ["_law_bag", "_law_many", "_law_marks"] (defScope s__law_terms) := ⟨rfl, rfl, rfl, by decide +kernel, rfl, by decide +kernel, by decide +kernel⟩
theorem st__law_terms (a0 a1 a2 : V) : start N__law_terms [a0, a1, a2] = [some a0, some a1, some a2, none, none, none, none] := rfl
abbrev s__law_roll : Stmt := top 30
abbrev N__law_roll : List Str := ["_law_bag", "_law_at", "_law_marks", "_law_pool", "_law_row", "_law_mark", "_law_value_here", "_law_near"]
theorem sc__law_roll : FnScope N__law_roll ["_law_bag", "_law_at", "_law_marks", "_law_pool"] (defScope s__law_roll) := ⟨rfl, rfl, rfl, by decide +kernel, rfl, by decide +kernel, by decide +kernel⟩
theorem st__law_roll (a0 a1 a2 a3 : V) : start N__law_roll [a0, a1, a2, a3] = [some a0, some a1, some a2, some a3, none, none, none, none] := rfl
abbrev s__law_side : Stmt := top 31
abbrev N__law_side : List Str := ["_law_terms_here", "_law_one", "_law_two", "_law_mark", "_law_direction"]
theorem sc__law_side : FnScope N__law_side ["_law_terms_here", "_law_one", "_law_two"] (defScope s__law_side) := ⟨rfl, rfl, rfl, by decide +kernel, rfl, by decide +kernel, by decide +kernel⟩
theorem st__law_side (a0 a1 a2 : V) : start N__law_side [a0, a1, a2] = [some a0, some a1, some a2, none, none] := rfl
abbrev s__law_laid : Stmt := top 32
abbrev N__law_laid : List Str := ["_law_terms_here", "_law_rolls", "_law_laid_here", "_law_roll_here", "_law_at", "_law_one"]
theorem sc__law_laid : FnScope N__law_laid ["_law_terms_here", "_law_rolls"] (defScope s__law_laid) := ⟨rfl, rfl, rfl, by decide +kernel, rfl, by decide +kernel, by decide +kernel⟩
theorem st__law_laid (a0 a1 : V) : start N__law_laid [a0, a1] = [some a0, some a1, none, none, none, none] := rfl
abbrev s__law_moved : Stmt := top 33
abbrev N__law_moved : List Str := ["_law_bag", "_law_laid_here", "_law_kind", "_law_rolls", "_law_turn", "_law_at", "_law_roll_here"]
theorem sc__law_moved : FnScope N__law_moved ["_law_bag", "_law_laid_here"] (defScope s__law_moved) := ⟨rfl, rfl, rfl, by decide +kernel, rfl, by decide +kernel, by decide +kernel⟩
theorem st__law_moved (a0 a1 : V) : start N__law_moved [a0, a1] = [some a0, some a1, none, none, none, none, none] := rfl
abbrev s__law_wrong : Stmt := top 34
abbrev N__law_wrong : List Str := ["_law_terms_here", "_law_shelf", "_law_found", "_law_one", "_law_two"]
theorem sc__law_wrong : FnScope N__law_wrong ["_law_terms_here", "_law_shelf"] (defScope s__law_wrong) := ⟨rfl, rfl, rfl, by decide +kernel, rfl, by decide +kernel, by decide +kernel⟩
theorem st__law_wrong (a0 a1 : V) : start N__law_wrong [a0, a1] = [some a0, some a1, none, none, none] := rfl
abbrev s__law_pairs_are : Stmt := top 35
abbrev N__law_pairs_are : List Str := ["_law_told", "_law_due", "_law_at", "_law_pair"]
theorem sc__law_pairs_are : FnScope N__law_pairs_are ["_law_told", "_law_due"] (defScope s__law_pairs_are) := ⟨rfl, rfl, rfl, by decide +kernel, rfl, by decide +kernel, by decide +kernel⟩
theorem st__law_pairs_are (a0 a1 : V) : start N__law_pairs_are [a0, a1] = [some a0, some a1, none, none] := rfl
abbrev s__law_numbers_are : Stmt := top 36
abbrev N__law_numbers_are : List Str := ["_law_told", "_law_due", "_law_at"]
theorem sc__law_numbers_are : FnScope N__law_numbers_are ["_law_told", "_law_due"] (defScope s__law_numbers_are) := ⟨rfl, rfl, rfl, by decide +kernel, rfl, by decide +kernel, by decide +kernel⟩
theorem st__law_numbers_are (a0 a1 : V) : start N__law_numbers_are [a0, a1] = [some a0, some a1, none] := rfl
abbrev s__law_strays : Stmt := top 37
abbrev N__law_strays : List Str := ["_law_terms_here", "_law_shelf", "_law_wrong_here", "_law_found", "_law_at", "_law_rest", "_law_pair"]
theorem sc__law_strays : FnScope N__law_strays ["_law_terms_here", "_law_shelf", "_law_wrong_here"] (defScope s__law_strays) := ⟨rfl, rfl, rfl, by decide +kernel, rfl, by decide +kernel, by decide +kernel⟩
theorem st__law_strays (a0 a1 a2 : V) : start N__law_strays [a0, a1, a2] = [some a0, some a1, some a2, none, none, none, none] := rfl
abbrev s__law_slots_right : Stmt := top 38
abbrev N__law_slots_right : List Str := ["_law_rule", "_law_terms_here", "_law_shelf", "_law_handed", "_law_roll_here", "_law_wrong_here", "_law_told", "refused", "_law_due", "_law_at"]
theorem sc__law_slots_right : FnScope N__law_slots_right ["_law_rule", "_law_terms_here", "_law_shelf", "_law_handed", "_law_roll_here", "_law_wrong_here"] (defScope s__law_slots_right) := ⟨rfl, rfl, rfl, by decide +kernel, rfl, by decide +kernel, by decide +kernel⟩
theorem st__law_slots_right (a0 a1 a2 a3 a4 a5 : V) : start N__law_slots_right [a0, a1, a2, a3, a4, a5] = [some a0, some a1, some a2, some a3, some a4, some a5, none, none, none, none] := rfl
abbrev s__law_asked : Stmt := top 39
abbrev N__law_asked : List Str := ["_law_rule", "_law_terms_here", "_law_shelf", "_law_roll_here", "_law_way", "_law_handed", "_law_wrong_here"]
theorem sc__law_asked : FnScope N__law_asked ["_law_rule", "_law_terms_here", "_law_shelf", "_law_roll_here", "_law_way"] (defScope s__law_asked) := ⟨rfl, rfl, rfl, by decide +kernel, rfl, by decide +kernel, by decide +kernel⟩
theorem st__law_asked (a0 a1 a2 a3 a4 : V) : start N__law_asked [a0, a1, a2, a3, a4] = [some a0, some a1, some a2, some a3, some a4, none, none] := rfl
abbrev s_law : Stmt := top 40
abbrev N_law : List Str := ["_law_script", "_law_bag", "_law_marks", "_law_terms_here", "_law_way", "_law_pool", "_law_many", "_law_rolls", "_law_roll_here", "_law_laid_here", "_law_moved_here", "_law_turned", "_law_rule", "_law_other", "_law_shelf", "_law_at", "_law_term"]
theorem sc_law : FnScope N_law ["_law_script"] (defScope s_law) := ⟨rfl, rfl, rfl, by decide +kernel, rfl, by decide +kernel, by decide +kernel⟩
theorem st_law (a0 : V) : start N_law [a0] = [some a0, none, none, none, none, none, none, none, none, none, none, none, none, none, none, none, none] := rfl
/-! ### the plain law -/
/-- how two rolls stand by the terms -/
def side : List Pr → List Int → List Int → Int
  | [], _, _ => 0
  | (m, d) :: ts, a, b => if a.getD m.toNat 0 = b.getD m.toNat 0 then side ts a b else if a.getD m.toNat 0 > b.getD m.toNat 0 then d else -d
/-- the terms: their marks apart and below n, each up or down -/
structure Tms (n : Int) (ts : List Pr) : Prop where
  rng : ∀ t ∈ ts, 0 ≤ t.1 ∧ t.1 < n
  dir : ∀ t ∈ ts, t.2 = 1 ∨ t.2 = -1
  nd : (ts.map (·.1)).Nodup
theorem side_le {ts : List Pr} (h : ∀ t ∈ ts, t.2 = 1 ∨ t.2 = -1) (a b : List Int) : side ts a b = -1 ∨ side ts a b = 0 ∨ side ts a b = 1 := by
  induction ts with
  | nil => exact .inr (.inl rfl)
  | cons t ts ih =>
    obtain ⟨m, d⟩ := t
    have hd := h (m, d) List.mem_cons_self
    have := ih fun t ht => h t (List.mem_cons_of_mem _ ht)
    unfold side
    dsimp only at hd
    split
    · exact this
    · split <;> omega
theorem side_trans {ts : List Pr} (h : ∀ t ∈ ts, t.2 = 1 ∨ t.2 = -1) {a b c : List Int} (h1 : side ts a b ≤ 0) (h2 : side ts b c ≤ 0) : side ts a c ≤ 0 := by
  induction ts with
  | nil => exact Int.le_refl 0
  | cons t ts ih =>
    obtain ⟨m, d⟩ := t
    have hd := h (m, d) List.mem_cons_self
    have ih := ih fun t ht => h t (List.mem_cons_of_mem _ ht)
    dsimp only at hd
    unfold side at h1 h2 ⊢
    generalize a.getD m.toNat 0 = x at *
    generalize b.getD m.toNat 0 = y at *
    generalize c.getD m.toNat 0 = z at *
    by_cases e1 : x = y
    · rw [if_pos e1] at h1
      by_cases e2 : y = z
      · rw [if_pos e2] at h2
        rw [if_pos (e1.trans e2)]
        exact ih h1 h2
      · rw [if_neg e2] at h2
        rw [if_neg (by omega)]
        split at h2 <;> split <;> omega
    · rw [if_neg e1] at h1
      by_cases e2 : y = z
      · rw [if_neg (by omega)]
        split at h1 <;> split <;> omega
      · rw [if_neg e2] at h2
        split at h1 <;> split at h2 <;> split <;> (try split) <;> omega
/-- the pairs of places whose rolls stand wrong -/
def wrongR (ts : List Pr) (S : List (List Int)) (i : Nat) (js : List Nat) : List Pr := (js.filter fun j => decide (side ts (S.getD i []) (S.getD j []) > 0)).map fun (j : Nat) => ((i : Int), (j : Int))
def wrongP (ts : List Pr) (S : List (List Int)) (is : List Nat) : List Pr := is.flatMap fun i => wrongR ts S i (List.range' (i + 1) (S.length - (i + 1)))
def wrongL (ts : List Pr) (S : List (List Int)) : List Pr := wrongP ts S (List.range S.length)
theorem mem_wrong {ts : List Pr} {S : List (List Int)} {p : Pr} : p ∈ wrongL ts S ↔ ∃ i j : Nat, p = ((i : Int), (j : Int)) ∧ i < j ∧ j < S.length ∧ side ts (S.getD i []) (S.getD j []) > 0 := by
  unfold wrongL wrongP wrongR
  rw [List.mem_flatMap]
  constructor
  · rintro ⟨i, hi, hp⟩
    obtain ⟨j, hj, rfl⟩ := List.mem_map.mp hp
    rw [List.mem_filter, List.mem_range'_1, decide_eq_true_eq] at hj
    exact ⟨i, j, rfl, by omega, by omega, hj.2⟩
  · rintro ⟨i, j, rfl, hij, hj, hs⟩
    refine ⟨i, List.mem_range.mpr (by omega), List.mem_map.mpr ⟨j, ?_, rfl⟩⟩
    rw [List.mem_filter, List.mem_range'_1, decide_eq_true_eq]
    exact ⟨by omega, hs⟩
theorem wrong_nil {ts : List Pr} {S : List (List Int)} : wrongL ts S = [] ↔ ∀ i j : Nat, i < j → j < S.length → side ts (S.getD i []) (S.getD j []) ≤ 0 := by
  rw [List.eq_nil_iff_forall_not_mem]
  constructor
  · intro h i j hij hj
    by_cases hs : side ts (S.getD i []) (S.getD j []) > 0
    · exact absurd (mem_wrong.mpr ⟨i, j, rfl, hij, hj, hs⟩) (h _)
    · omega
  · intro h p hp
    obtain ⟨i, j, _, hij, hj, hs⟩ := mem_wrong.mp hp
    have := h i j hij hj
    omega
theorem getD_erase {S : List (List Int)} {k i : Nat} : (S.eraseIdx k).getD i [] = if i < k then S.getD i [] else S.getD (i + 1) [] := by
  simp only [List.getD_eq_getElem?_getD, List.getElem?_eraseIdx]
  split <;> rfl
/-- without the roll at k nothing is wrong: all wrong pairs have k -/
theorem wrong_erase {ts : List Pr} {S : List (List Int)} {k : Nat} (hk : k < S.length) : wrongL ts (S.eraseIdx k) = [] ↔ ∀ p ∈ wrongL ts S, p.1 = k ∨ p.2 = k := by
  rw [wrong_nil]
  have hl : (S.eraseIdx k).length = S.length - 1 := by rw [List.length_eraseIdx_of_lt hk]
  constructor
  · intro h p hp
    obtain ⟨i, j, rfl, hij, hj, hs⟩ := mem_wrong.mp hp
    by_cases e1 : i = k
    · left; rw [e1]
    by_cases e2 : j = k
    · right; rw [e2]
    exfalso
    have hh := h (if i < k then i else i - 1) (if j < k then j else j - 1) (by split <;> split <;> omega) (by rw [hl]; split <;> omega)
    rw [getD_erase, getD_erase] at hh
    have a1 : (if (if i < k then i else i - 1) < k then S.getD (if i < k then i else i - 1) [] else S.getD ((if i < k then i else i - 1) + 1) []) = S.getD i [] := by
      by_cases hi : i < k
      · rw [if_pos hi, if_pos hi]
      · rw [if_neg hi, if_neg (by omega), show i - 1 + 1 = i by omega]
    have a2 : (if (if j < k then j else j - 1) < k then S.getD (if j < k then j else j - 1) [] else S.getD ((if j < k then j else j - 1) + 1) []) = S.getD j [] := by
      by_cases hi : j < k
      · rw [if_pos hi, if_pos hi]
      · rw [if_neg hi, if_neg (by omega), show j - 1 + 1 = j by omega]
    rw [a1, a2] at hh
    omega
  · intro h i j hij hj
    rw [hl] at hj
    rw [getD_erase, getD_erase]
    by_cases hs : side ts (if i < k then S.getD i [] else S.getD (i + 1) []) (if j < k then S.getD j [] else S.getD (j + 1) []) > 0
    · exfalso
      have := h (((if i < k then i else i + 1 : Nat) : Int), ((if j < k then j else j + 1 : Nat) : Int)) (mem_wrong.mpr ⟨_, _, rfl, by split <;> split <;> omega, by split <;> omega, by
        have b1 : S.getD (if i < k then i else i + 1) [] = if i < k then S.getD i [] else S.getD (i + 1) [] := by split <;> rfl
        have b2 : S.getD (if j < k then j else j + 1) [] = if j < k then S.getD j [] else S.getD (j + 1) [] := by split <;> rfl
        rw [b1, b2]; exact hs⟩)
      dsimp only at this
      rcases this with z | z
      · split at z <;> omega
      · split at z <;> omega
    · omega
/-- the places of strays -/
def strayL (ts : List Pr) (S : List (List Int)) : List Int := ((List.range S.length).filter fun (k : Nat) => (wrongL ts S).any (fun p => decide (p.1 = (k : Int) ∨ p.2 = (k : Int))) && (wrongL ts (S.eraseIdx k)).isEmpty).map fun (k : Nat) => (k : Int)
theorem range_one {n i : Nat} (hi : i < n) : (List.range n).filter (fun k => decide (k = i)) = [i] := by
  induction n with
  | zero => omega
  | succ n ih =>
    rw [List.range_succ, List.filter_append]
    by_cases h : i < n
    · rw [ih h]; simp; omega
    · have e : i = n := by omega
      subst e
      have : (List.range i).filter (fun k => decide (k = i)) = [] := by
        rw [List.filter_eq_nil_iff]; intro k hk hp
        rw [List.mem_range] at hk
        rw [decide_eq_true_eq] at hp
        omega
      rw [this]; simp
theorem range_two {n i j : Nat} (hij : i < j) (hj : j < n) : (List.range n).filter (fun k => decide (k = i ∨ k = j)) = [i, j] := by
  induction n with
  | zero => omega
  | succ n ih =>
    rw [List.range_succ, List.filter_append]
    by_cases h : j < n
    · rw [ih h]; simp; omega
    · have e : j = n := by omega
      subst e
      have : (List.range j).filter (fun k => decide (k = i ∨ k = j)) = (List.range j).filter (fun k => decide (k = i)) := by
        refine List.filter_congr fun k hk => ?_
        rw [List.mem_range] at hk
        exact decide_eq_decide.mpr ⟨fun z => by omega, fun z => .inl z⟩
      rw [this, range_one hij]; simp
theorem filter_two {n i j : Nat} (hij : i < j) (hj : j < n) (P : Nat → Bool) (h : ∀ k, k < n → P k = true → k = i ∨ k = j) : (List.range n).filter P = [i, j].filter P := by
  rw [← range_two hij hj, List.filter_filter]
  refine List.filter_congr fun k hk => ?_
  rw [List.mem_range] at hk
  cases hp : P k with
  | false => rfl
  | true => rw [decide_eq_true (h k hk hp)]; rfl
/-- the strays by the first wrong pair -/
theorem stray_first {ts : List Pr} {S : List (List Int)} {p : Pr} {rest : List Pr} (h : wrongL ts S = p :: rest) : ∃ i j : Nat, p = ((i : Int), (j : Int)) ∧ i < S.length ∧ j < S.length ∧ strayL ts S = ([i, j].filter fun (k : Nat) => (wrongL ts S).all fun q => decide (q.1 = (k : Int) ∨ q.2 = (k : Int))).map fun (k : Nat) => (k : Int) := by
  have hp : p ∈ wrongL ts S := by rw [h]; exact List.mem_cons_self
  obtain ⟨i, j, e, hij, hj, hs⟩ := mem_wrong.mp hp
  refine ⟨i, j, e, by omega, hj, ?_⟩
  unfold strayL
  congr 1
  have key : ∀ k, k < S.length → ((wrongL ts S).any (fun q => decide (q.1 = (k : Int) ∨ q.2 = (k : Int))) && (wrongL ts (S.eraseIdx k)).isEmpty) = (wrongL ts S).all fun q => decide (q.1 = (k : Int) ∨ q.2 = (k : Int)) := fun k hk => by
    have he := wrong_erase (ts := ts) hk
    cases ha : (wrongL ts S).all fun q => decide (q.1 = (k : Int) ∨ q.2 = (k : Int)) with
    | true =>
      rw [List.all_eq_true] at ha
      have h1 := ha p hp
      rw [Bool.and_eq_true]
      refine ⟨List.any_eq_true.mpr ⟨p, hp, h1⟩, ?_⟩
      rw [List.isEmpty_iff]
      exact he.mpr fun q hq => by simpa using ha q hq
    | false =>
      rw [Bool.and_eq_false_iff]
      right
      rw [Bool.eq_false_iff]
      intro z
      rw [List.isEmpty_iff] at z
      have := he.mp z
      rw [List.all_eq_false] at ha
      obtain ⟨q, hq, hn⟩ := ha
      exact hn (decide_eq_true (this q hq))
  rw [List.filter_congr (fun k hk => key k (List.mem_range.mp hk))]
  refine filter_two hij hj _ fun k hk hP => ?_
  rw [List.all_eq_true] at hP
  have := hP p hp
  rw [e] at this
  simp only [decide_eq_true_eq] at this
  omega
theorem stray_none {ts : List Pr} {S : List (List Int)} (h : wrongL ts S = []) : strayL ts S = [] := by
  unfold strayL
  rw [h]
  simp
/-- the places where a roll may be put -/
theorem getD_insert {S : List (List Int)} {r : List Int} {k i : Nat} (hk : k ≤ S.length) : (S.take k ++ [r] ++ S.drop k).getD i [] = if i < k then S.getD i [] else if i = k then r else S.getD (i - 1) [] := by
  simp only [List.getD_eq_getElem?_getD, List.append_assoc]
  by_cases h1 : i < k
  · rw [if_pos h1, List.getElem?_append_left (by rw [List.length_take]; omega), List.getElem?_take, if_pos h1]
  · rw [if_neg h1, List.getElem?_append_right (by rw [List.length_take]; omega), List.length_take, Nat.min_eq_left hk]
    by_cases h2 : i = k
    · subst h2; simp
    · rw [if_neg h2, List.getElem?_append_right (by simp; omega), List.getElem?_drop]
      simp
      congr 2
      omega
theorem slot_iff {ts : List Pr} {S : List (List Int)} {r : List Int} {k : Nat} (hd : ∀ t ∈ ts, t.2 = 1 ∨ t.2 = -1) (hS : wrongL ts S = []) (hk : k ≤ S.length) :
    wrongL ts (S.take k ++ [r] ++ S.drop k) = [] ↔ (k = 0 ∨ side ts (S.getD (k - 1) []) r ≤ 0) ∧ (k = S.length ∨ side ts r (S.getD k []) ≤ 0) := by
  rw [wrong_nil] at hS ⊢
  have hl : (S.take k ++ [r] ++ S.drop k).length = S.length + 1 := by
    simp only [List.length_append, List.length_take, List.length_drop, List.length_cons, List.length_nil]
    omega
  constructor
  · intro h
    constructor
    · by_cases h0 : k = 0
      · exact .inl h0
      · right
        have := h (k - 1) k (by omega) (by rw [hl]; omega)
        rw [getD_insert hk, getD_insert hk, if_pos (by omega), if_neg (by omega), if_pos rfl] at this
        exact this
    · by_cases h0 : k = S.length
      · exact .inl h0
      · right
        have := h k (k + 1) (by omega) (by rw [hl]; omega)
        rw [getD_insert hk, getD_insert hk, if_neg (by omega), if_pos rfl, if_neg (by omega), if_neg (by omega), show k + 1 - 1 = k by omega] at this
        exact this
  · rintro ⟨h1, h2⟩ i j hij hj
    rw [hl] at hj
    rw [getD_insert hk, getD_insert hk]
    by_cases a : i < k
    · rw [if_pos a]
      by_cases b : j < k
      · rw [if_pos b]; exact hS i j hij (by omega)
      · rw [if_neg b]
        have hir : side ts (S.getD i []) r ≤ 0 := by
          have h1' : side ts (S.getD (k - 1) []) r ≤ 0 := h1.resolve_left (by omega)
          by_cases c : i = k - 1
          · rw [c]; exact h1'
          · exact side_trans hd (hS i (k - 1) (by omega) (by omega)) h1'
        by_cases c : j = k
        · rw [if_pos c]; exact hir
        · rw [if_neg c]; exact hS i (j - 1) (by omega) (by omega)
    · rw [if_neg a, if_neg (show ¬ j < k by omega), if_neg (show ¬ j = k by omega)]
      by_cases c : i = k
      · rw [if_pos c]
        have h2' : side ts r (S.getD k []) ≤ 0 := h2.resolve_left (by omega)
        by_cases e : j - 1 = k
        · rw [e]; exact h2'
        · exact side_trans hd h2' (hS k (j - 1) (by omega) (by omega))
      · rw [if_neg c]; exact hS (i - 1) (j - 1) (by omega) (by omega)
def slotL (ts : List Pr) (S : List (List Int)) (r : List Int) : List Int := ((List.range (S.length + 1)).filter fun k => (wrongL ts (S.take k ++ [r] ++ S.drop k)).isEmpty).map fun (k : Nat) => (k : Int)

local macro_rules | `(tactic| walk_at "mem") => `(tactic| first | exact List.mem_cons_self | (refine List.mem_cons_of_mem _ ?_; walk_at "mem"))
local macro_rules | `(tactic| walk_at "hp") => `(tactic| first | assumption | (refine' Mem.getL ?k1 ?k2; (case k1 => assumption); (case k2 => walk_at "mem")) | (refine' Mem.getF ?k1 ?k2; (case k1 => assumption); (case k2 => walk_at "mem")) | (refine' Mem.atB ?k1 ?k2; (case k1 => assumption); (case k2 => assumption)))
local macro_rules | `(tactic| walk_at "cond") => `(tactic| first | omega | assumption | exact mulR (by omega) (by omega) | exact mulL (by omega) (by omega) | exact divW (by omega) (by omega) | decide)
local macro_rules | `(tactic| walk_at "look") => `(tactic| first | assumption | with_unfolding_all rfl | exact atI_map (by omega) (by omega))
local macro_rules | `(tactic| walk_at "go1") => `(tactic| with_reducible first
  | refine k_seq ?_ | refine k_gName ?_ | refine k_asg ?_ | refine k_ret ?_ | refine k_ifS ?_ | refine k_drop ?_ | refine k_next ?_ | refine k_break ?_ | refine k_cont ?_ | refine k_retN ?_
  | (refine' k_var ?k1 ?_; (case k1 => with_unfolding_all rfl)) | refine k_c ?_ | refine k_op ?_ | refine k_un ?_ | refine k_test ?_ | refine k_B ?_ | refine k_bl ?_ | refine k_and ?_ | refine k_or ?_ | refine k_not ?_
  | refine k_andV ?_ | refine k_orV ?_ | refine k_notV ?_ | refine k_ifE ?_ | refine k_nil ?_ | refine k_cons ?_ | refine k_cb ?_ | refine k_callS ?_ | refine k_lst0 ?_ | refine k_tup0 ?_ | refine k_fld0 ?_ | refine k_sub0 ?_ | refine k_make0 ?_ | refine k_prop0 ?_ | refine k_sta0 ?_ | refine k_sta ?_ | refine k_bm ?_ | refine k_bm0 ?_ | refine k_chain ?_ | refine k_makeK0 ?_ | refine k_swapK ?_ | refine k_meth0 ?_ | refine k_ownN0 ?_ | refine k_ownO0 ?_ | refine k_sfld0 ?_ | refine k_jnil ?_ | refine k_jcons ?_ | refine k_fmt0 ?_ | refine k_sl0 ?_ | refine k_nopart ?_ | refine k_part ?_ | refine k_forR1 ?_ | refine k_forR2 ?_ | refine k_forL ?_ | refine k_forT ?_ | refine k_lcR1 ?_ | refine k_lcR2 ?_ | refine k_lcL ?_ | refine k_lcT ?_ | refine k_err0 ?_ | refine k_xf0 ?_ | refine k_errQ1 ?_ | refine k_errQ0 ?_ | refine k_errQ2 ?_ | refine k_errQ3 ?_
  | refine k_I0 ?_ | (refine k_I ?k1 ?_; (case k1 => walk_at "cond")) | refine k_U ?_ | refine k_eqI ?_ | refine k_neI ?_ | refine k_eqB ?_ | refine k_neB ?_ | refine k_eqS ?_ | refine k_neS ?_
  | refine k_int1 ?_ | refine k_abs1 ?_ | refine k_min2 ?_ | refine k_max2 ?_
  | (refine' k_lenM ?k1 ?_; (case k1 => walk_at "hp")) | (refine' k_lenL ?k1 ?_; (case k1 => walk_at "hp")) | (refine' k_lenT ?k1 ?_; (case k1 => walk_at "hp"))
  | (refine' k_lenS ?k1 ?_; (case k1 => assumption)) | (refine' k_ixS ?k1 ?k2 ?_; (case k1 => assumption); (case k2 => walk_at "look"))
  | (refine' k_ixL ?k1 ?k2 ?_; (case k1 => walk_at "hp"); (case k2 => walk_at "look")) | (refine' k_ixT ?k1 ?k2 ?_; (case k1 => walk_at "hp"); (case k2 => walk_at "look"))
  | (refine' k_ix4 ?k1 ?k2 ?k3 ?_; (case k1 => walk_at "hp"); (case k2 => omega); (case k3 => omega); intro n' hn')
  | (refine' k_ix3 ?k1 ?k2 ?k3 ?_; (case k1 => walk_at "hp"); (case k2 => omega); (case k3 => omega); intro n' hn')
  | (refine' k_ix2 ?k1 ?k2 ?k3 ?_; (case k1 => walk_at "hp"); (case k2 => omega); (case k3 => omega); intro n' hn')
  | (refine' k_fld ?k1 ?k2 ?k3 ?k4 ?_; (case k1 => walk_at "hp"); (case k2 => assumption); (case k3 => assumption); (case k4 => walk_at "fld"))
  | (refine' k_lst ?k1 ?k2 ?_; (case k1 => assumption); (case k2 => exact sz (by simp)); intro p' H' M')
  | (refine' k_tup ?k1 ?k2 ?_; (case k1 => assumption); (case k2 => exact sz (by simp)); intro p' H' M')
  | (refine' k_setF0 ?k1 ?k2 ?k3 ?_; (case k1 => assumption); (case k2 => simp); (case k3 => with_unfolding_all rfl); intro H' M'; try simp only [Int.reduceToNat, List.set_cons_succ, List.set_cons_zero] at M')
  | (refine' k_setL0 ?k1 ?k2 ?_; (case k1 => assumption); (case k2 => with_unfolding_all rfl); intro H' M'; try simp only [Int.reduceToNat, List.set_cons_succ, List.set_cons_zero] at M')
  | (refine' k_setL1 ?k1 ?k2 ?_; (case k1 => assumption); (case k2 => with_unfolding_all rfl); intro H' M'; try simp only [Int.reduceToNat, List.set_cons_succ, List.set_cons_zero] at M')
  | (refine' k_setL2 ?k1 ?k2 ?_; (case k1 => assumption); (case k2 => with_unfolding_all rfl); intro H' M'; try simp only [Int.reduceToNat, List.set_cons_succ, List.set_cons_zero] at M')
  | refine iteT ?_ | refine iteF ?_ | refine k_iteNE ?_ | refine k_iteNS ?_ | refine k_iteNT ?_ | refine k_iteNF ?_
  | (refine k_iteD ?_ ?_ <;> intro hc <;> first | (exfalso; omega) | skip)
  | (refine k_iteN ?_ ?_ <;> intro hc <;> first | (exfalso; omega) | skip)
  | (refine' k_ownN ?k1 ?_; (case k1 => walk_at "hp")) | (refine' k_ownO ?k1 ?k2 ?_; (case k1 => walk_at "hp"); (case k2 => walk_at "hp")) | (refine' k_ownEq ?k1 ?k2 ?_; (case k1 => walk_at "hp"); (case k2 => walk_at "hp"))
  | (refine' k_ownIn ?k1 ?_; (case k1 => walk_at "hp")) | (refine' k_ownU ?k1 ?_; (case k1 => walk_at "hp")) | (refine' k_ownStr ?k1 ?_; (case k1 => walk_at "hp"))
  | (refine' k_prop ?k1 ?_; (case k1 => walk_at "hp")) | (refine' k_ownNe ?k1 ?k2 ?_; (case k1 => walk_at "hp"); (case k2 => walk_at "hp")) | (refine' k_eqP ?k1 ?k2 ?_; (case k1 => walk_at "hp"); (case k2 => walk_at "hp")) | (refine' k_neP ?k1 ?k2 ?_; (case k1 => walk_at "hp"); (case k2 => walk_at "hp"))
  | (refine' k_isiO ?k1 ?k2 ?k3 ?k4 ?k5 ?k6 ?_; (case k1 => walk_at "hp"); (case k2 => assumption); (case k3 => assumption); (case k4 => assumption); (case k5 => assumption); (case k6 => assumption))
  | (refine' k_isiI ?k1 ?_; (case k1 => assumption))
  | (refine' k_jst ?k1 ?_; (case k1 => walk_at "size")) | (refine' k_fmtI ?k1 ?_; (case k1 => exact log2_64 (by omega) (by omega))) | (refine' k_strI ?k1 ?_; (case k1 => exact log2_64 (by omega) (by omega)))
  | (refine k_addS ?k1 ?_; (case k1 => walk_at "size")) | refine k_st ?_ | refine k_parti ?_
  | (refine' k_cat ?k1 ?k2 ?k3 ?k4 ?_; (case k1 => assumption); (case k2 => walk_at "hp"); (case k3 => walk_at "hp"); (case k4 => walk_at "size"); intro p' H' M')
  | (refine' k_slL ?k1 ?k2 ?_; (case k1 => assumption); (case k2 => first | assumption | exact SqL.of (by walk_at "hp")); intro p' H' M')
  | (refine k_rng1 ?k1 ?k2 ?_; (case k1 => omega); (case k2 => omega)) | (refine k_rng2 ?k1 ?k2 ?k3 ?k4 ?_; (case k1 => omega); (case k2 => omega); (case k3 => omega); (case k4 => omega))
  | (refine' k_lstAt ?k1 ?_; (case k1 => first | assumption | exact SqL.of (by walk_at "hp"))) | (refine' k_tupAt ?k1 ?_; (case k1 => first | assumption | exact SqT.of (by walk_at "hp")))
  | (refine' k_isXs ?k1 ?k2 ?_; (case k1 => assumption); (case k2 => walk_at "hp")) | (refine' k_isXo ?k1 ?k2 ?k3 ?_; (case k1 => assumption); (case k2 => walk_at "hp"); (case k3 => assumption)) | (refine' k_isXt ?k1 ?k2 ?k3 ?_; (case k1 => assumption); (case k2 => walk_at "hp"); (case k3 => assumption))
  | (refine' k_isX3 ?k1 ?k2 ?k3 ?k4 ?_; (case k1 => assumption); (case k2 => walk_at "hp"); (case k3 => walk_at "hp"); (case k4 => assumption)) | (refine' k_isX2 ?k1 ?k2 ?k3 ?k4 ?_; (case k1 => assumption); (case k2 => walk_at "hp"); (case k3 => walk_at "hp"); (case k4 => assumption))
  | (refine' k_tyL ?k1 ?_; (case k1 => walk_at "hp"))
  | (refine' k_appL0 ?k1 ?k2 ?_; (case k1 => assumption); (case k2 => walk_at "size"); intro H' M') | (refine' k_appL1 ?k1 ?k2 ?_; (case k1 => assumption); (case k2 => walk_at "size"); intro H' M') | (refine' k_appL2 ?k1 ?k2 ?_; (case k1 => assumption); (case k2 => walk_at "size"); intro H' M') | (refine' k_appL3 ?k1 ?k2 ?_; (case k1 => assumption); (case k2 => walk_at "size"); intro H' M')
  | (refine' k_revL0 ?k1 ?_; (case k1 => assumption); intro H' M') | (refine' k_revL1 ?k1 ?_; (case k1 => assumption); intro H' M')
  | (refine' k_isX0s ?k1 ?_; (case k1 => assumption)) | (refine' k_isX0o ?k1 ?k2 ?_; (case k1 => assumption); (case k2 => assumption)) | (refine' k_isX0t ?k1 ?k2 ?_; (case k1 => assumption); (case k2 => assumption)) | (refine' k_isX04 ?k1 ?k2 ?k3 ?_; (case k1 => assumption); (case k2 => walk_at "hp"); (case k3 => assumption))
  | (refine' k_isX4 ?k1 ?k2 ?k3 ?k4 ?_; (case k1 => assumption); (case k2 => walk_at "hp"); (case k3 => walk_at "hp"); (case k4 => assumption)) | (refine' k_ixT2 ?k1 ?k2 ?k3 ?_; (case k1 => walk_at "hp"); (case k2 => omega); (case k3 => omega); intro n' hn')
  | (refine k_iteNEq ?k1 ?_; (case k1 => (rw [Bool.eq_iff_iff]; first | (simp; done) | (simp; omega))))
  | (refine' k_xf ?k1 ?k2 ?_; (case k1 => walk_at "hp"); (case k2 => first | exact xd1 | exact xdH | exact xd2 (by decide +kernel)))
  | (refine' k_caught ?k1 ?_; (case k1 => assumption); intro a' ha')
  | refine k_asgT ?_ | refine k_gCons ?_ | refine k_gNil ?_ | refine k_par ?_ | refine k_two ?_ | refine k_isNn ?_ | refine k_isNi ?_ | refine k_notNn ?_ | refine k_notNi ?_ | refine k_isN ?_ | refine k_notN ?_
  | (refine' k_gTup ?k1 ?k2 ?_; (case k1 => walk_at "hp"); (case k2 => with_unfolding_all rfl))
  | (refine' k_isiT ?k1 ?k2 ?_; (case k1 => walk_at "hp"); (case k2 => assumption)) | (refine' k_isiL ?k1 ?k2 ?_; (case k1 => walk_at "hp"); (case k2 => assumption))
  | (refine' k_ixQ ?k1 ?k2 ?_; (case k1 => assumption); (case k2 => walk_at "look")) | (refine' k_lenQ ?k1 ?_; (case k1 => assumption))
  | (refine' k_xfB ?k1 ?k2 ?_; (case k1 => walk_at "hp"); (case k2 => first | exact xd1 | exact xdH | exact xd2 (by decide +kernel)))
  | (refine' k_all ?k1 ?_; (case k1 => walk_at "hp"))
  | (refine' k_tupleOf ?k1 ?k2 ?_; (case k1 => assumption); (case k2 => exact SqL.of (by walk_at "hp")); intro p' H' M')
  | (refine' k_listOf ?k1 ?k2 ?_; (case k1 => assumption); (case k2 => exact Or.inl (SqL.of (by walk_at "hp"))); intro p' H' M')
  | walk_at "use")
local macro_rules | `(tactic| walk_at "go") => `(tactic| repeat' (walk_at "go1"))

local macro_rules | `(tactic| walk_at "eq") => `(tactic| first | rfl | assumption | omega)
local macro_rules | `(tactic| walk_at "fld") => `(tactic| exact xdH)
local macro_rules | `(tactic| walk_at "size") => `(tactic| first | exact sz (by first | omega | (simp only [List.length_map, List.length_range, List.length_append, List.length_cons, List.length_nil, Int.reduceSub, Int.reduceToNat, Int.reduceNeg]; omega)) | (exact Nat.lt_of_le_of_lt (m := 50000) (by first | omega | (simp only [List.length_map, List.length_range, List.length_append, List.length_cons, List.length_nil]; omega)) (by decide)))
theorem g_val {X : Cx} {x : Str} {v : V} {pos : Pos} (h : ∃ u, X.mg x = some u ∧ RelV v u) (hg : Gl X x := by rfl) (hd : (x == ("__debug__" : Str)) = false := by decide) : PE X (.Name x pos) (tC v) := by
  obtain ⟨u, hm, r⟩ := h
  exact pe_glob hg hm r hd
structure Txt (prog : Program) (K : PySem.W.Frag) (mg : Str → Option Value) (C CR fR CN fN CA CU CT CI : Addr) : Prop where
  cl : Cls K C
  nT : NoAttr K C "terms"
  b_isinstance : mg "isinstance" = none
  b_int : mg "int" = none
  b_bool : mg "bool" = none
  b_len : mg "len" = none
  b_min : mg "min" = none
  b_max : mg "max" = none
  b_list : mg "list" = none
  b_tuple : mg "tuple" = none
  b_range : mg "range" = none
  b_all : mg "all" = none
  b_enumerate : mg "enumerate" = none
  b_ValueError : mg "ValueError" = none
  v_GREATEST_MARK : ∃ u, mg "GREATEST_MARK" = some u ∧ RelV (.int 3) u
  g_Rule : mg "Rule" = some (.ref C)
  e_InvalidRule : PySem.ErrX.ErrTxt prog K mg "InvalidRule" CR fR ["at"]
  e_NotSorted : PySem.ErrX.ErrTxt prog K mg "NotSorted" CN fN ["first", "second"]
  g_NotSorted : mg "NotSorted" = some (.ref CN)
  g_ArchiveError : mg "ArchiveError" = some (.ref CA)
  g_UnknownError : mg "UnknownError" = some (.ref CU)
  g_ImpossibleError : mg "ImpossibleError" = some (.ref CI)
  i1 : PySem.W.kitOne K (.type "int") (.type "int") = some true
  i2 : PySem.W.kitOne K (.type "int") (.type "bool") = some false
  i3 : PySem.W.kitOne K (.type "tuple") (.type "tuple") = some true
  i4 : PySem.W.kitOne K (.type "list") (.type "list") = some true
  ek : ExcK K CN
  xf_NotSorted : XfC K CN
  nx_NotSorted_first : PySem.W.findIn K (.ref CN) "first" = some none
  nx_NotSorted_second : PySem.W.findIn K (.ref CN) "second" = some none
  exm : PySem.W.exmOne K (.ref CN) (.ref CA) = some true
  k1 : PySem.W.kitOne K (.ref CN) (.type "ValueError") = some true
  k2 : PySem.W.kitOne K (.ref CN) (.ref CI) = some false
  k3 : PySem.W.kitOne K (.ref CN) (.ref CU) = some false
section
variable {P : Program} {w : World} {K : PySem.W.Frag} {mg : Str → Option Value} {base : Heap} {C CR fR CN fN CA CU CT CI : Addr}
def sp_isn : Sp := fun vs H Q _ => ∃ i : Int, vs = [.int i] ∧ Q (.bl true) H
theorem ok_isi {f : Addr} {fd : FuncData} (F : Fun K "is_integer" "is_integer" s_is_integer f fd) (T : Txt P K mg C CR fR CN fN CA CU CT CI)  :
    FnOk P w K mg base (L2.CX P w) (0 + 1) f fd ["value"] sp_isn := by
  refine okT F sc_is_integer (fun vs H Q E h => ?_) (fun cdv A outer s H vs Q E hr tk h => ?_)
  · obtain ⟨i, rfl, _⟩ := h
    rfl
  obtain ⟨i, rfl, k⟩ := h
  have f1 := T.i1; have f2 := T.i2; have f3 := T.i3; have f4 := T.i4; have f6 := T.cl; have f7 := T.nT; have f13 := T.ek; have f14 := T.exm; have f15 := T.k1; have f16 := T.k2; have f17 := T.k3
  refine ⟨_, (pss_one (ps_ret (pe_and (pe_callB call_isi (by rfl) T.b_isinstance (by decide +kernel) (pa_cons (pv 0) (pa_cons (g_ty (n := "int") T.b_int (by decide +kernel)) pa_nil))) (pe_one (pe_not (pe_callB call_isi (by rfl) T.b_isinstance (by decide +kernel) (pa_cons (pv 0) (pa_cons (g_ty (n := "bool") T.b_bool (by decide +kernel)) pa_nil)))))))), ?_⟩
  simp only [cxK, st_is_integer]
  walk_at "go"
  exact k
theorem ok_isn {f : Addr} {fd : FuncData} (F : Fun K "_law_integer" "_law_integer" s__law_integer f fd) (hb : Binds K fd ["_law_told"] []) (T : Txt P K mg C CR fR CN fN CA CU CT CI)  :
    FnQ P w K mg base (0 + 1) f sp_isn := by
  refine Fun.okQ F sc__law_integer hb (fun vs H Q E h => ?_) (fun cdv A outer s H vs Q hr h => ?_)
  · obtain ⟨i, rfl, _⟩ := h
    rfl
  obtain ⟨i, rfl, k⟩ := h
  have f1 := T.i1; have f2 := T.i2; have f3 := T.i3; have f4 := T.i4; have f6 := T.cl; have f7 := T.nT; have f13 := T.ek; have f14 := T.exm; have f15 := T.k1; have f16 := T.k2; have f17 := T.k3
  refine ⟨_, (pss_one (ps_ret (pe_and (pe_callB call_isi (by rfl) T.b_isinstance (by decide +kernel) (pa_cons (pv 0) (pa_cons (g_ty (n := "int") T.b_int (by decide +kernel)) pa_nil))) (pe_one (pe_not (pe_callB call_isi (by rfl) T.b_isinstance (by decide +kernel) (pa_cons (pv 0) (pa_cons (g_ty (n := "bool") T.b_bool (by decide +kernel)) pa_nil)))))))), ?_⟩
  simp only [cxQK, st__law_integer]
  walk_at "go"
  exact k
theorem use_isn {H : Hp} {Q : VK} {E : XK} {i : Int} (q : Q (.bl true) H) : sp_isn [.int i] H Q E := ⟨i, rfl, q⟩
/-- a bag: its kind, its number, its count -/
abbrev bagO (fl n c : Int) : HO := .lst [.int fl, .int n, .int c]
def sp_box (K : PySem.W.Frag) : Sp := fun vs H Q _ => ∃ (a : Addr) (ns : List Int) (pl : Int), vs = [.ref a, .int pl] ∧ SqL K H a (ns.map V.int) ∧ 0 ≤ pl ∧ pl ≤ 2 ∧ ∀ (bg : Addr) (fl n c : Int) H' l2, 0 ≤ c → c ≤ 100 → Mem H [] H' [] ((bg, bagO fl n c) :: l2) → Q (.ref bg) H'
theorem sqL_same {H H' : Hp} {a : Addr} {xs : List V} (h : SqL K H a xs) (s : Same H H') : SqL K H' a xs := h.elim (fun h => .inl (h.elim (fun h => .inl (s _ _ h)) fun ⟨o, h⟩ => .inr ⟨o, s _ _ h⟩)) .inr
theorem k_lenK {H : Hp} {Q : VK} {p : Addr} {ns : List Int} (h : SqL K H p (ns.map V.int)) (q : Q (.int ns.length) H) : rLenQ K [.ref p] H Q := ⟨p, _, rfl, .inl h, by rw [List.length_map]; exact q⟩
theorem k_ixK {H : Hp} {Q : VK} {p : Addr} {ns : List Int} {j : Int} (h : SqL K H p (ns.map V.int)) (h0 : 0 ≤ j) (h1 : j < ns.length) (q : Q (.int (ns.getD j.toNat 0)) H) : rIxL K (.ref p) (.int j) H Q := ⟨p, _, j, _, rfl, rfl, h, atI_map h0 h1, q⟩
theorem ok_box {f : Addr} {fd : FuncData} (F : Fun K "_law_box" "_law_box" s__law_box f fd) (T : Txt P K mg C CR fR CN fN CA CU CT CI)  :
    FnOk P w K mg base (L2.CX P w) (0 + 1) f fd ["_law_script", "_law_place"] (sp_box K) := by
  refine okT F sc__law_box (fun vs H Q E h => ?_) (fun cdv A outer s H vs Q E hr tk h => ?_)
  · obtain ⟨a, ns, pl, rfl, _⟩ := h
    rfl
  obtain ⟨a, ns, pl, rfl, hS, hp0, hp2, k⟩ := h
  have f1 := T.i1; have f2 := T.i2; have f3 := T.i3; have f4 := T.i4; have f6 := T.cl; have f7 := T.nT; have f13 := T.ek; have f14 := T.exm; have f15 := T.k1; have f16 := T.k2; have f17 := T.k3
  refine ⟨_, (pss_cons (ps_if (pt_cmpR (op_eqD hr.units) (pv 0) (pe_lst pa_nil) (nomark _)) (pss_one (ps_ret (pe_lst (pa_cons pe_int (pa_cons pe_int (pa_cons pe_int pa_nil)))))) pss_nil)
      (pss_cons (ps_if (pt_cmpR op_ge (pv 1) (pe_callB b_len (by rfl) T.b_len (by decide +kernel) (pa_cons (pv 0) pa_nil)) (nomark _)) (pss_one (ps_ret (pe_lst (pa_cons pe_int (pa_cons (pe_op op_add (pe_op op_mod (pe_callTy b_int (by rfl) T.b_int (by decide +kernel) (pa_cons (pe_ix ix_list (pv 0) pe_int (fun _ _ => rfl)) pa_nil)) pe_int) (pv 1)) (pa_cons (pe_op op_mulU pe_int (pv 1)) pa_nil)))))) pss_nil)
      (pss_cons (ps_if (pt_cmpR op_ge (pe_ix ix_list (pv 0) (pv 1) (fun _ _ => rfl)) (pe_powC (n := 1000000000000000000)) (nomark _)) (pss_one (ps_ret (pe_lst (pa_cons pe_int (pa_cons (pe_op op_sub (pe_ix ix_list (pv 0) (pv 1) (fun _ _ => rfl)) (pe_powC (n := 1000000000000000000))) (pa_cons pe_int pa_nil)))))) pss_nil)
      (pss_one (ps_ret (pe_lst (pa_cons pe_int (pa_cons (pe_op op_mod (pe_callTy b_int (by rfl) T.b_int (by decide +kernel) (pa_cons (pe_ix ix_list (pv 0) (pv 1) (fun _ _ => rfl)) pa_nil)) pe_int) (pa_cons (pe_op op_mulU pe_int (pv 1)) pa_nil))))))))), ?_⟩
  simp only [cxK, st__law_box]
  have M : Mem H [] H [] [] := mem_start (by simp []) (by simp) (by simp)
  walk_at "go"
  rename_i e0 H0 M0
  have hS' := sqL_same hS (Same.of_keep M0)
  refine k_eqNil hS' (M0.getL List.mem_cons_self) dp_ints (ints_shaped ns) ?_
  cases hn : ns with
  | nil =>
    simp only [List.map_nil, List.isEmpty_nil]
    walk_at "go"
    rename_i bg H1 M1
    exact k bg _ _ _ H1 _ (by omega) (by omega) M1
  | cons x xs =>
    simp only [List.map_cons, List.isEmpty_cons]
    have hlen : ns.length = xs.length + 1 := by rw [hn]; rfl
    walk_at "go"
    all_goals
      rename_i bg H1 M1
      exact k bg _ _ _ H1 _ (by omega) (by omega) M1
def sp_take : Sp := fun vs H Q _ => ∃ (bg : Addr) (fl n c size : Int), vs = [.ref bg, .int size] ∧ H bg = some (bagO fl n c) ∧ 0 ≤ c ∧ c < 2 ^ 40 ∧ 1 ≤ size ∧ size < 2 ^ 64 ∧
  ∀ (d n' c' : Int) H', 0 ≤ d → d < size → 0 ≤ c' → c' ≤ c + 1 → Keep [bg] H H' → H' bg = some (bagO fl n' c') → Q (.int d) H'
theorem ok_take {f : Addr} {fd : FuncData} (F : Fun K "_law_take" "_law_take" s__law_take f fd) (T : Txt P K mg C CR fR CN fN CA CU CT CI)  :
    FnOk P w K mg base (L2.CX P w) (0 + 1) f fd ["_law_bag", "_law_size"] sp_take := by
  refine okT F sc__law_take (fun vs H Q E h => ?_) (fun cdv A outer s H vs Q E hr tk h => ?_)
  · obtain ⟨bg, fl, n, c, size, rfl, _⟩ := h
    rfl
  obtain ⟨bg, fl, n, c, size, rfl, h1, hc0, hc1, hs1, hs2, k⟩ := h
  have f1 := T.i1; have f2 := T.i2; have f3 := T.i3; have f4 := T.i4; have f6 := T.cl; have f7 := T.nT; have f13 := T.ek; have f14 := T.exm; have f15 := T.k1; have f16 := T.k2; have f17 := T.k3
  refine ⟨_, (pss_cons (ps_if (pt_cmpR op_eq (pe_ix ix_list (pv 0) pe_int (fun _ _ => rfl)) pe_int (nomark _)) (pss_cons (ps_set (i := 2) sc__law_take.nd rfl (Or.inl rfl) (pe_op op_mod (pe_callTy b_int (by rfl) T.b_int (by decide +kernel) (pa_cons (pe_ix ix_list (pv 0) pe_int (fun _ _ => rfl)) pa_nil)) (pv 1)))
      (pss_cons (ps_asg (pe_op op_fdivW (pe_ix ix_list (pv 0) pe_int (fun _ _ => rfl)) (pv 1)) (pg_sub (pv 0) pe_int set_list))
      (pss_one (ps_ret (pv 2))))) pss_nil)
      (pss_cons (ps_asg (pe_op op_add (pe_ix ix_list (pv 0) pe_int (fun _ _ => rfl)) pe_int) (pg_sub (pv 0) pe_int set_list))
      (pss_cons (ps_set (i := 3) sc__law_take.nd rfl (Or.inl rfl) (pe_op op_add (pe_op op_add (pe_op op_add (pe_op op_mulU (pe_ix ix_list (pv 0) pe_int (fun _ _ => rfl)) pe_int) (pe_op op_mulU (pe_op op_mulU (pe_ix ix_list (pv 0) pe_int (fun _ _ => rfl)) (pe_ix ix_list (pv 0) pe_int (fun _ _ => rfl))) pe_int)) (pe_op op_mulU (pe_ix ix_list (pv 0) pe_int (fun _ _ => rfl)) pe_int)) pe_int))
      (pss_cons (ps_set (i := 3) sc__law_take.nd rfl (Or.inl rfl) (pe_op op_mod (pe_callTy b_int (by rfl) T.b_int (by decide +kernel) (pa_cons (pv 3) pa_nil)) pe_int))
      (pss_cons (ps_set (i := 3) sc__law_take.nd rfl (Or.inl rfl) (pe_op op_mod (pe_callTy b_int (by rfl) T.b_int (by decide +kernel) (pa_cons (pe_op op_add (pe_op op_mulU (pv 3) (pv 3)) (pe_op op_mulU (pe_ix ix_list (pv 0) pe_int (fun _ _ => rfl)) pe_int)) pa_nil)) pe_int))
      (pss_one (ps_ret (pe_op op_mod (pe_callTy b_int (by rfl) T.b_int (by decide +kernel) (pa_cons (pe_op op_fdivW (pv 3) pe_int) pa_nil)) (pv 1))))))))), ?_⟩
  simp only [cxK, st__law_take]
  have M : Mem H [bg] H [(bg, bagO fl n c)] [] := mem_start (by simp [h1]) (by simp) (by simp)
  walk_at "go"
  all_goals
    refine k _ _ _ _ (Int.emod_nonneg _ (by omega)) (Int.emod_lt_of_pos _ (by omega)) ?_ ?_ (Mem.keeps (by assumption)) (Mem.getF (by assumption) (by walk_at "mem")) <;> omega
theorem use_take {B H : Hp} {ms : List Addr} {f l : List (Addr × HO)} {Q : VK} {E : XK} {bg : Addr} {fl n c size : Int} (M : Mem B ms H ((bg, bagO fl n c) :: f) l) (hm : bg ∈ ms) (h0 : 0 ≤ c) (h1 : c < 2 ^ 40) (h2 : 1 ≤ size) (h3 : size < 2 ^ 64)
    (k : ∀ (d n' c' : Int) H', 0 ≤ d → d < size → 0 ≤ c' → c' ≤ c + 1 → Mem B ms H' ((bg, bagO fl n' c') :: f) l → Q (.int d) H') : sp_take [.ref bg, .int size] H Q E :=
  ⟨bg, fl, n, c, size, rfl, M.getF List.mem_cons_self, h0, h1, h2, h3, fun d n' c' H' a1 a2 a3 a4 kp hb => k d n' c' H' a1 a2 a3 a4 (M.call1 hm kp hb)⟩
theorem _root_.MyL.Mem.toF {B H : Hp} {ms : List Addr} {f l : List (Addr × HO)} {x : Addr × HO} (M : Mem B ms H f (x :: l)) : Mem B (x.1 :: ms) H (x :: f) l := by
  refine ⟨fun p hp => ?_, fun p hp => M.atL p (List.mem_cons_of_mem _ hp), ?_, fun a o h hm => M.keep a o h fun z => hm (List.mem_cons_of_mem _ z), fun m hm z => ?_, fun p hp => M.new p (List.mem_cons_of_mem _ hp)⟩
  · rcases List.mem_cons.mp hp with rfl | h
    · exact M.atL _ List.mem_cons_self
    · exact M.atF p h
  · have e := (List.perm_middle (a := x) (l₁ := l) (l₂ := f)).map (·.1)
    exact e.nodup_iff.mpr M.nd
  · rcases List.mem_cons.mp hm with rfl | h
    · rw [M.atL _ List.mem_cons_self] at z; cases z
    · exact M.tr m h z
theorem _root_.MyL.Mem.atB0 {B H : Hp} {f l : List (Addr × HO)} {a : Addr} {o : HO} (M : Mem B [] H f l) (h : B a = some o) : H a = some o := M.keep a o h (by simp)
/-- a def that takes from the bag: what it may answer, by the objects that it makes -/
def sp_bag (ar : Addr → List V → Hp → Prop) (R : List V → Hp → V → List (Addr × HO) → Prop) : Sp := fun vs H Q _ => ∃ (bg : Addr) (fl n c : Int) (as : List V), vs = .ref bg :: as ∧ ar bg as H ∧ H bg = some (bagO fl n c) ∧ 0 ≤ c ∧ c < 2 ^ 30 ∧
  ∀ (v : V) (l2 : List (Addr × HO)) (n' c' : Int) H', R as H v l2 → 0 ≤ c' → c' ≤ c + 100 → Mem H [bg] H' [(bg, bagO fl n' c')] l2 → Q v H'
theorem use_bag {ar : Addr → List V → Hp → Prop} {R : List V → Hp → V → List (Addr × HO) → Prop} {B H : Hp} {ms : List Addr} {f l : List (Addr × HO)} {Q : VK} {E : XK} {bg : Addr} {fl n c : Int} {as : List V} (M : Mem B ms H ((bg, bagO fl n c) :: f) l) (hm : bg ∈ ms) (h0 : 0 ≤ c) (h1 : c < 2 ^ 30) (ha : ar bg as H)
    (k : ∀ (v : V) (l2 : List (Addr × HO)) (n' c' : Int) H', R as H v l2 → 0 ≤ c' → c' ≤ c + 100 → Mem B ms H' ((bg, bagO fl n' c') :: f) (l2 ++ l) → Q v H') : sp_bag ar R (.ref bg :: as) H Q E :=
  ⟨bg, fl, n, c, as, rfl, ha, M.getF List.mem_cons_self, h0, h1, fun v l2 n' c' H' hr a3 a4 M2 => k v l2 n' c' H' hr a3 a4 (M.comp1 hm M2)⟩
local macro_rules | `(tactic| walk_at "use") => `(tactic| with_reducible first
  | refine use_isn ?_
  | (refine' use_take ?k1 ?k2 ?k3 ?k4 ?k5 ?k6 ?_; (case k1 => assumption); (case k2 => simp); (case k3 => omega); (case k4 => omega); (case k5 => omega); (case k6 => omega); intro d' n' c' H' a1' a2' a3' a4' M'))
abbrev ArInt (bg : Addr) (as : List V) (H : Hp) : Prop := ∃ i : Int, as = [.int i]
def RInt (as : List V) (H : Hp) (v : V) (l2 : List (Addr × HO)) : Prop := ∃ d : Int, v = .int d ∧ l2 = []
theorem ok_value {f : Addr} {fd : FuncData} (F : Fun K "_law_value" "_law_value" s__law_value f fd) (T : Txt P K mg C CR fR CN fN CA CU CT CI) (c__law_take : Cal P w K mg base 1 "_law_take" sp_take) :
    FnOk P w K mg base (L2.CX P w) (1 + 1) f fd ["_law_bag", "_law_plain"] (sp_bag ArInt RInt) := by
  refine okT F sc__law_value (fun vs H Q E h => ?_) (fun cdv A outer s H vs Q E hr tk h => ?_)
  · obtain ⟨bg, fl, n, c, as, rfl, ⟨pl, rfl⟩, _⟩ := h
    rfl
  obtain ⟨bg, fl, n, c, as, rfl, ⟨pl, rfl⟩, h1, hc0, hc1, k⟩ := h
  have f1 := T.i1; have f2 := T.i2; have f3 := T.i3; have f4 := T.i4; have f6 := T.cl; have f7 := T.nT; have f13 := T.ek; have f14 := T.exm; have f15 := T.k1; have f16 := T.k2; have f17 := T.k3
  refine ⟨_, (pss_cons (ps_set (i := 2) sc__law_value.nd rfl (Or.inl rfl) (c_call c__law_take tk hr (by decide) (pa_cons (pv 0) (pa_cons pe_int pa_nil))))
      (pss_cons (ps_if (pt_cmpR op_eq (pv 2) pe_int (nomark _)) (pss_cons (ps_set (i := 3) sc__law_value.nd rfl (Or.inl rfl) (pe_op op_add (pe_op op_mulU (c_call c__law_take tk hr (by decide) (pa_cons (pv 0) (pa_cons (pe_powC (n := 1000000000)) pa_nil))) (pe_powC (n := 1000000000))) (c_call c__law_take tk hr (by decide) (pa_cons (pv 0) (pa_cons (pe_powC (n := 1000000000)) pa_nil)))))
      (pss_one (ps_ret (pe_op op_mulU (pv 3) (pe_op op_sub pe_int (pe_op op_mulU pe_int (c_call c__law_take tk hr (by decide) (pa_cons (pv 0) (pa_cons pe_int pa_nil))))))))) pss_nil)
      (pss_cons (ps_if (pt_cmpR op_eq (pv 2) pe_int (nomark _)) (pss_one (ps_ret (pe_ix ix_list (pe_lst (pa_cons (pe_op op_sub (pe_powC (n := 1000000000000000000)) pe_int) (pa_cons (pe_op op_sub pe_int (pe_powC (n := 1000000000000000000))) (pa_cons (pe_op op_sub (pe_powC (n := 1000000000000000000)) pe_int) (pa_cons (pe_op op_sub pe_int (pe_powC (n := 1000000000000000000))) pa_nil))))) (c_call c__law_take tk hr (by decide) (pa_cons (pv 0) (pa_cons pe_int pa_nil))) (fun _ _ => rfl)))) pss_nil)
      (pss_one (ps_ret (pe_op op_add (pv 1) (c_call c__law_take tk hr (by decide) (pa_cons (pv 0) (pa_cons pe_int pa_nil))))))))), ?_⟩
  simp only [cxK, st__law_value]
  have M : Mem H [bg] H [(bg, bagO fl n c)] [] := mem_start (by simp [h1]) (by simp) (by simp)
  walk_at "go"
  all_goals
    refine k _ _ _ _ _ ⟨_, rfl, rfl⟩ ?_ ?_ (Mem.none (by assumption)) <;> omega
theorem use_value {B H : Hp} {ms : List Addr} {f l : List (Addr × HO)} {Q : VK} {E : XK} {bg : Addr} {fl n c i : Int} (M : Mem B ms H ((bg, bagO fl n c) :: f) l) (hm : bg ∈ ms) (h0 : 0 ≤ c) (h1 : c < 2 ^ 30)
    (k : ∀ (d n' c' : Int) H', 0 ≤ c' → c' ≤ c + 100 → Mem B ms H' ((bg, bagO fl n' c') :: f) l → Q (.int d) H') : sp_bag ArInt RInt [.ref bg, .int i] H Q E :=
  use_bag M hm h0 h1 ⟨i, rfl⟩ (by
    rintro v l2 n' c' H' ⟨d, rfl, rfl⟩ a3 a4 M'
    exact k d n' c' H' a3 a4 M')
end
end K32

set_option Elab.async false
set_option linter.all false
set_option maxRecDepth 100000
set_option maxHeartbeats 8000000
namespace K32
open PySem L2 MyL
local macro_rules | `(tactic| walk_at "mem") => `(tactic| first | exact List.mem_cons_self | (refine List.mem_cons_of_mem _ ?_; walk_at "mem"))
local macro_rules | `(tactic| walk_at "hp") => `(tactic| first | assumption | (refine' Mem.getL ?k1 ?k2; (case k1 => assumption); (case k2 => walk_at "mem")) | (refine' Mem.getF ?k1 ?k2; (case k1 => assumption); (case k2 => walk_at "mem")) | (refine' Mem.atB ?k1 ?k2; (case k1 => assumption); (case k2 => assumption)))
local macro_rules | `(tactic| walk_at "cond") => `(tactic| first | omega | assumption | exact mulR (by omega) (by omega) | exact mulL (by omega) (by omega) | exact divW (by omega) (by omega) | decide)
local macro_rules | `(tactic| walk_at "look") => `(tactic| first | assumption | with_unfolding_all rfl | exact atI_map (by omega) (by omega))
local macro_rules | `(tactic| walk_at "go1") => `(tactic| with_reducible first
  | refine k_seq ?_ | refine k_gName ?_ | refine k_asg ?_ | refine k_ret ?_ | refine k_ifS ?_ | refine k_drop ?_ | refine k_next ?_ | refine k_break ?_ | refine k_cont ?_ | refine k_retN ?_
  | (refine' k_var ?k1 ?_; (case k1 => with_unfolding_all rfl)) | refine k_c ?_ | refine k_op ?_ | refine k_un ?_ | refine k_test ?_ | refine k_B ?_ | refine k_bl ?_ | refine k_and ?_ | refine k_or ?_ | refine k_not ?_
  | refine k_andV ?_ | refine k_orV ?_ | refine k_notV ?_ | refine k_ifE ?_ | refine k_nil ?_ | refine k_cons ?_ | refine k_cb ?_ | refine k_callS ?_ | refine k_lst0 ?_ | refine k_tup0 ?_ | refine k_fld0 ?_ | refine k_sub0 ?_ | refine k_make0 ?_ | refine k_prop0 ?_ | refine k_sta0 ?_ | refine k_sta ?_ | refine k_bm ?_ | refine k_bm0 ?_ | refine k_chain ?_ | refine k_makeK0 ?_ | refine k_swapK ?_ | refine k_meth0 ?_ | refine k_ownN0 ?_ | refine k_ownO0 ?_ | refine k_sfld0 ?_ | refine k_jnil ?_ | refine k_jcons ?_ | refine k_fmt0 ?_ | refine k_sl0 ?_ | refine k_nopart ?_ | refine k_part ?_ | refine k_forR1 ?_ | refine k_forR2 ?_ | refine k_forL ?_ | refine k_forT ?_ | refine k_lcR1 ?_ | refine k_lcR2 ?_ | refine k_lcL ?_ | refine k_lcT ?_ | refine k_err0 ?_ | refine k_xf0 ?_ | refine k_errQ1 ?_ | refine k_errQ0 ?_ | refine k_errQ2 ?_ | refine k_errQ3 ?_
  | refine k_I0 ?_ | (refine k_I ?k1 ?_; (case k1 => walk_at "cond")) | refine k_U ?_ | refine k_eqI ?_ | refine k_neI ?_ | refine k_eqB ?_ | refine k_neB ?_ | refine k_eqS ?_ | refine k_neS ?_
  | refine k_int1 ?_ | refine k_abs1 ?_ | refine k_min2 ?_ | refine k_max2 ?_
  | (refine' k_lenM ?k1 ?_; (case k1 => walk_at "hp")) | (refine' k_lenL ?k1 ?_; (case k1 => walk_at "hp")) | (refine' k_lenT ?k1 ?_; (case k1 => walk_at "hp"))
  | (refine' k_lenS ?k1 ?_; (case k1 => assumption)) | (refine' k_ixS ?k1 ?k2 ?_; (case k1 => assumption); (case k2 => walk_at "look"))
  | (refine' k_ixL ?k1 ?k2 ?_; (case k1 => walk_at "hp"); (case k2 => walk_at "look")) | (refine' k_ixT ?k1 ?k2 ?_; (case k1 => walk_at "hp"); (case k2 => walk_at "look"))
  | (refine' k_ix4 ?k1 ?k2 ?k3 ?_; (case k1 => walk_at "hp"); (case k2 => omega); (case k3 => omega); intro n' hn')
  | (refine' k_ix3 ?k1 ?k2 ?k3 ?_; (case k1 => walk_at "hp"); (case k2 => omega); (case k3 => omega); intro n' hn')
  | (refine' k_ix2 ?k1 ?k2 ?k3 ?_; (case k1 => walk_at "hp"); (case k2 => omega); (case k3 => omega); intro n' hn')
  | (refine' k_fld ?k1 ?k2 ?k3 ?k4 ?_; (case k1 => walk_at "hp"); (case k2 => assumption); (case k3 => assumption); (case k4 => walk_at "fld"))
  | (refine' k_lst ?k1 ?k2 ?_; (case k1 => assumption); (case k2 => exact sz (by simp)); intro p' H' M')
  | (refine' k_tup ?k1 ?k2 ?_; (case k1 => assumption); (case k2 => exact sz (by simp)); intro p' H' M')
  | (refine' k_setF0 ?k1 ?k2 ?k3 ?_; (case k1 => assumption); (case k2 => simp); (case k3 => with_unfolding_all rfl); intro H' M'; try simp only [Int.reduceToNat, List.set_cons_succ, List.set_cons_zero] at M')
  | (refine' k_setL0 ?k1 ?k2 ?_; (case k1 => assumption); (case k2 => with_unfolding_all rfl); intro H' M'; try simp only [Int.reduceToNat, List.set_cons_succ, List.set_cons_zero] at M')
  | (refine' k_setL1 ?k1 ?k2 ?_; (case k1 => assumption); (case k2 => with_unfolding_all rfl); intro H' M'; try simp only [Int.reduceToNat, List.set_cons_succ, List.set_cons_zero] at M')
  | (refine' k_setL2 ?k1 ?k2 ?_; (case k1 => assumption); (case k2 => with_unfolding_all rfl); intro H' M'; try simp only [Int.reduceToNat, List.set_cons_succ, List.set_cons_zero] at M')
  | refine iteT ?_ | refine iteF ?_ | refine k_iteNE ?_ | refine k_iteNS ?_ | refine k_iteNT ?_ | refine k_iteNF ?_
  | (refine k_iteD ?_ ?_ <;> intro hc <;> first | (exfalso; omega) | skip)
  | (refine k_iteN ?_ ?_ <;> intro hc <;> first | (exfalso; omega) | skip)
  | (refine' k_ownN ?k1 ?_; (case k1 => walk_at "hp")) | (refine' k_ownO ?k1 ?k2 ?_; (case k1 => walk_at "hp"); (case k2 => walk_at "hp")) | (refine' k_ownEq ?k1 ?k2 ?_; (case k1 => walk_at "hp"); (case k2 => walk_at "hp"))
  | (refine' k_ownIn ?k1 ?_; (case k1 => walk_at "hp")) | (refine' k_ownU ?k1 ?_; (case k1 => walk_at "hp")) | (refine' k_ownStr ?k1 ?_; (case k1 => walk_at "hp"))
  | (refine' k_prop ?k1 ?_; (case k1 => walk_at "hp")) | (refine' k_ownNe ?k1 ?k2 ?_; (case k1 => walk_at "hp"); (case k2 => walk_at "hp")) | (refine' k_eqP ?k1 ?k2 ?_; (case k1 => walk_at "hp"); (case k2 => walk_at "hp")) | (refine' k_neP ?k1 ?k2 ?_; (case k1 => walk_at "hp"); (case k2 => walk_at "hp"))
  | (refine' k_isiO ?k1 ?k2 ?k3 ?k4 ?k5 ?k6 ?_; (case k1 => walk_at "hp"); (case k2 => assumption); (case k3 => assumption); (case k4 => assumption); (case k5 => assumption); (case k6 => assumption))
  | (refine' k_isiI ?k1 ?_; (case k1 => assumption))
  | (refine' k_jst ?k1 ?_; (case k1 => walk_at "size")) | (refine' k_fmtI ?k1 ?_; (case k1 => exact log2_64 (by omega) (by omega))) | (refine' k_strI ?k1 ?_; (case k1 => exact log2_64 (by omega) (by omega)))
  | (refine k_addS ?k1 ?_; (case k1 => walk_at "size")) | refine k_st ?_ | refine k_parti ?_
  | (refine' k_cat ?k1 ?k2 ?k3 ?k4 ?_; (case k1 => assumption); (case k2 => walk_at "hp"); (case k3 => walk_at "hp"); (case k4 => walk_at "size"); intro p' H' M')
  | (refine' k_slL ?k1 ?k2 ?_; (case k1 => assumption); (case k2 => first | assumption | exact SqL.of (by walk_at "hp")); intro p' H' M')
  | (refine k_rng1 ?k1 ?k2 ?_; (case k1 => omega); (case k2 => omega)) | (refine k_rng2 ?k1 ?k2 ?k3 ?k4 ?_; (case k1 => omega); (case k2 => omega); (case k3 => omega); (case k4 => omega))
  | (refine' k_lstAt ?k1 ?_; (case k1 => first | assumption | exact SqL.of (by walk_at "hp"))) | (refine' k_tupAt ?k1 ?_; (case k1 => first | assumption | exact SqT.of (by walk_at "hp")))
  | (refine' k_isXs ?k1 ?k2 ?_; (case k1 => assumption); (case k2 => walk_at "hp")) | (refine' k_isXo ?k1 ?k2 ?k3 ?_; (case k1 => assumption); (case k2 => walk_at "hp"); (case k3 => assumption)) | (refine' k_isXt ?k1 ?k2 ?k3 ?_; (case k1 => assumption); (case k2 => walk_at "hp"); (case k3 => assumption))
  | (refine' k_isX3 ?k1 ?k2 ?k3 ?k4 ?_; (case k1 => assumption); (case k2 => walk_at "hp"); (case k3 => walk_at "hp"); (case k4 => assumption)) | (refine' k_isX2 ?k1 ?k2 ?k3 ?k4 ?_; (case k1 => assumption); (case k2 => walk_at "hp"); (case k3 => walk_at "hp"); (case k4 => assumption))
  | (refine' k_tyL ?k1 ?_; (case k1 => walk_at "hp"))
  | (refine' k_appL0 ?k1 ?k2 ?_; (case k1 => assumption); (case k2 => walk_at "size"); intro H' M') | (refine' k_appL1 ?k1 ?k2 ?_; (case k1 => assumption); (case k2 => walk_at "size"); intro H' M') | (refine' k_appL2 ?k1 ?k2 ?_; (case k1 => assumption); (case k2 => walk_at "size"); intro H' M') | (refine' k_appL3 ?k1 ?k2 ?_; (case k1 => assumption); (case k2 => walk_at "size"); intro H' M')
  | (refine' k_revL0 ?k1 ?_; (case k1 => assumption); intro H' M') | (refine' k_revL1 ?k1 ?_; (case k1 => assumption); intro H' M')
  | (refine' k_isX0s ?k1 ?_; (case k1 => assumption)) | (refine' k_isX0o ?k1 ?k2 ?_; (case k1 => assumption); (case k2 => assumption)) | (refine' k_isX0t ?k1 ?k2 ?_; (case k1 => assumption); (case k2 => assumption)) | (refine' k_isX04 ?k1 ?k2 ?k3 ?_; (case k1 => assumption); (case k2 => walk_at "hp"); (case k3 => assumption))
  | (refine' k_isX4 ?k1 ?k2 ?k3 ?k4 ?_; (case k1 => assumption); (case k2 => walk_at "hp"); (case k3 => walk_at "hp"); (case k4 => assumption)) | (refine' k_ixT2 ?k1 ?k2 ?k3 ?_; (case k1 => walk_at "hp"); (case k2 => omega); (case k3 => omega); intro n' hn')
  | (refine k_iteNEq ?k1 ?_; (case k1 => (rw [Bool.eq_iff_iff]; first | (simp; done) | (simp; omega))))
  | (refine' k_xf ?k1 ?k2 ?_; (case k1 => walk_at "hp"); (case k2 => first | exact xd1 | exact xdH | exact xd2 (by decide +kernel)))
  | (refine' k_caught ?k1 ?_; (case k1 => assumption); intro a' ha')
  | refine k_asgT ?_ | refine k_gCons ?_ | refine k_gNil ?_ | refine k_par ?_ | refine k_two ?_ | refine k_isNn ?_ | refine k_isNi ?_ | refine k_notNn ?_ | refine k_notNi ?_ | refine k_isN ?_ | refine k_notN ?_
  | (refine' k_gTup ?k1 ?k2 ?_; (case k1 => walk_at "hp"); (case k2 => with_unfolding_all rfl))
  | (refine' k_isiT ?k1 ?k2 ?_; (case k1 => walk_at "hp"); (case k2 => assumption)) | (refine' k_isiL ?k1 ?k2 ?_; (case k1 => walk_at "hp"); (case k2 => assumption))
  | (refine' k_ixQ ?k1 ?k2 ?_; (case k1 => assumption); (case k2 => walk_at "look")) | (refine' k_lenQ ?k1 ?_; (case k1 => assumption))
  | (refine' k_xfB ?k1 ?k2 ?_; (case k1 => walk_at "hp"); (case k2 => first | exact xd1 | exact xdH | exact xd2 (by decide +kernel)))
  | (refine' k_all ?k1 ?_; (case k1 => walk_at "hp"))
  | (refine' k_tupleOf ?k1 ?k2 ?_; (case k1 => assumption); (case k2 => exact SqL.of (by walk_at "hp")); intro p' H' M')
  | (refine' k_listOf ?k1 ?k2 ?_; (case k1 => assumption); (case k2 => exact Or.inl (SqL.of (by walk_at "hp"))); intro p' H' M')
  | walk_at "use")
local macro_rules | `(tactic| walk_at "go") => `(tactic| repeat' (walk_at "go1"))

local macro_rules | `(tactic| walk_at "eq") => `(tactic| first | rfl | assumption | omega)
local macro_rules | `(tactic| walk_at "fld") => `(tactic| exact xdH)
local macro_rules | `(tactic| walk_at "size") => `(tactic| first | exact sz (by first | omega | (simp only [List.length_map, List.length_range, List.length_append, List.length_cons, List.length_nil, Int.reduceSub, Int.reduceToNat, Int.reduceNeg]; omega)) | (exact Nat.lt_of_le_of_lt (m := 50000) (by first | omega | (simp only [List.length_map, List.length_range, List.length_append, List.length_cons, List.length_nil]; omega)) (by decide)))
section
variable {P : Program} {w : World} {K : PySem.W.Frag} {mg : Str → Option Value} {base : Heap} {C CR fR CN fN CA CU CT CI : Addr}
theorem k_listRng {B H : Hp} {ms : List Addr} {f l : List (Addr × HO)} {Q : VK} {j : Int} {p : Addr} (M : Mem B ms H f ((p, .rng 0 j) :: l)) (h0 : 0 ≤ j) (h1 : j ≤ 1000) (hs : Builtin.Range.small 0 j 1 = true) (q : ∀ d H', Mem B ms H' f ((d, .lst (((List.range j.toNat).map fun (i : Nat) => (i : Int)).map V.int)) :: l) → Q (.ref d) H') : rListRng [.ref p] H Q := by
  refine ⟨p, 0, j, rfl, M.getL List.mem_cons_self, hs, by omega, fun d hd => ?_⟩
  have M2 := (M.alloc (o := .lst ((List.range (j - 0).toNat).map fun (i : Nat) => V.int (0 + i))) hd).front1.drop
  refine q d _ ?_
  rw [show ((List.range j.toNat).map fun (i : Nat) => (i : Int)).map V.int = (List.range (j - 0).toNat).map fun (i : Nat) => V.int (0 + i) by rw [List.map_map, Int.sub_zero]; simp only [Int.zero_add]; rfl]
  exact M2
theorem small_rng {j : Int} (h0 : 0 ≤ j) (h1 : j ≤ 1000) : Builtin.Range.small 0 j 1 = true := by
  have e : Builtin.Range.rangeSize 0 j 1 = j := by
    unfold Builtin.Range.rangeSize
    rw [if_pos (by decide)]
    split <;> omega
  unfold Builtin.Range.small
  rw [e]
  simp [Builtin.Range.rangeFitsLong]
  omega
theorem _root_.MyL.Mem.dropF {B H : Hp} {ms : List Addr} {f l : List (Addr × HO)} {x y : Addr × HO} (M : Mem B ms H (x :: y :: f) l) : Mem B ms H (x :: f) l := ⟨fun p hp => M.atF p (by rcases List.mem_cons.mp hp with rfl | h <;> simp [*]), M.atL, ((List.Sublist.append_left (List.Sublist.cons_cons x (List.sublist_cons_self y f)) l).map (·.1)).nodup M.nd, M.keep, M.tr, M.new⟩
theorem _root_.MyL.Mem.rot3 {B H : Hp} {ms : List Addr} {f l : List (Addr × HO)} {x y z : Addr × HO} (M : Mem B ms H f (x :: y :: z :: l)) : Mem B ms H f (y :: z :: x :: l) := M.perm ((List.Perm.swap y x _).trans (List.Perm.cons y (List.Perm.swap z x l)))
local macro_rules | `(tactic| walk_at "use") => `(tactic| with_reducible first
  | refine use_isn ?_
  | (refine' use_take ?k1 ?k2 ?k3 ?k4 ?k5 ?k6 ?_; (case k1 => assumption); (case k2 => simp); (case k3 => omega); (case k4 => omega); (case k5 => omega); (case k6 => omega); intro d' n' c' H' a1' a2' a3' a4' M'))
abbrev ArTm (bg : Addr) (as : List V) (H : Hp) : Prop := ∃ many marks : Int, as = [.int many, .int marks] ∧ 0 ≤ many ∧ many ≤ marks ∧ marks ≤ 4
def RTm (as : List V) (H : Hp) (v : V) (l2 : List (Addr × HO)) : Prop := ∃ (p : Addr) (xs : List V) (ts : List Pr) (zs : List (Addr × HO)), v = .ref p ∧ l2 = (p, .lst xs) :: zs ∧ PrL zs xs ts ∧ ts.length ≤ 4 ∧ ∀ many marks : Int, as = [.int many, .int marks] → Tms marks ts
theorem erase_map {α β : Type} {g : α → β} : ∀ (l : List α) (k : Nat), (l.map g).eraseIdx k = (l.eraseIdx k).map g
  | [], _ => rfl
  | _ :: _, 0 => rfl
  | x :: l, k + 1 => by rw [List.map_cons, List.eraseIdx_cons_succ, List.eraseIdx_cons_succ, List.map_cons, erase_map l k]
theorem nodup_erase {l : List Int} {k : Nat} {y : Int} (h : l.Nodup) (hy : l[k]? = some y) : (l.eraseIdx k).Nodup ∧ y ∉ l.eraseIdx k ∧ ∀ x ∈ l.eraseIdx k, x ∈ l := by
  refine ⟨h.sublist (List.eraseIdx_sublist l k), ?_, fun x hx => (List.eraseIdx_sublist l k).subset hx⟩
  intro hm
  obtain ⟨hk, e⟩ := List.getElem?_eq_some_iff.mp hy
  rw [List.mem_eraseIdx_iff_getElem] at hm
  obtain ⟨i, hi, hne, e2⟩ := hm
  have hp := List.pairwise_iff_getElem.mp h
  rcases Nat.lt_trichotomy i k with z | z | z
  · exact hp i k hi hk z (e2.trans e.symm)
  · exact hne z
  · exact hp k i hk hi z (e.trans e2.symm)
theorem ok_terms {f : Addr} {fd : FuncData} (F : Fun K "_law_terms" "_law_terms" s__law_terms f fd) (T : Txt P K mg C CR fR CN fN CA CU CT CI) (c__law_take : Cal P w K mg base 1 "_law_take" sp_take) :
    FnOk P w K mg base (L2.CX P w) (1 + 1) f fd ["_law_bag", "_law_many", "_law_marks"] (sp_bag ArTm RTm) := by
  refine okT F sc__law_terms (fun vs H Q E h => ?_) (fun cdv A outer s H vs Q E hr tk h => ?_)
  · obtain ⟨bg, fl, n, c, as, rfl, ⟨many, marks, rfl, _⟩, _⟩ := h
    rfl
  obtain ⟨bg, fl, n, c, as, rfl, ⟨many, marks, rfl, hm0, hm1, hm4⟩, h1, hc0, hc1, k⟩ := h
  have f1 := T.i1; have f2 := T.i2; have f3 := T.i3; have f4 := T.i4; have f6 := T.cl; have f7 := T.nT; have f13 := T.ek; have f14 := T.exm; have f15 := T.k1; have f16 := T.k2; have f17 := T.k3
  refine ⟨_, (pss_cons (ps_set (i := 3) sc__law_terms.nd rfl (Or.inl rfl) (pe_callTy (b_listRng rfl) (by rfl) T.b_list (by decide +kernel) (pa_cons (pe_callTy cr_range1 (by rfl) T.b_range (by decide +kernel) (pa_cons (pv 2) pa_nil)) pa_nil)))
      (pss_cons (ps_set (i := 4) sc__law_terms.nd rfl (Or.inl rfl) (pe_lst pa_nil))
      (pss_cons (ps_for (passes_of rfl) rfl (pi_range1 (by rfl) T.b_range (pa_cons (pv 1) pa_nil)) (pg_name (i := 5) sc__law_terms.nd rfl (Or.inl rfl)) (pss_cons (ps_set (i := 6) sc__law_terms.nd rfl (Or.inl rfl) (pe_bm PySem.F.plainAttrs_list PySem.F.slot_list_pop PySem.F.type_list_pop mt_popAt (pv 3) (pa_cons (pe_op op_mod (pe_callTy b_int (by rfl) T.b_int (by decide +kernel) (pa_cons (c_call c__law_take tk hr (by decide) (pa_cons (pv 0) (pa_cons (pv 2) pa_nil))) pa_nil)) (pe_callB b_len (by rfl) T.b_len (by decide +kernel) (pa_cons (pv 3) pa_nil))) pa_nil)))
      (pss_one (ps_expr (pe_bm PySem.F.plainAttrs_list PySem.F.slot_list_append PySem.F.type_list_append mt_append (pv 4) (pa_cons (pe_tup (pa_cons (pv 6) (pa_cons (pe_op op_sub pe_int (pe_op op_mulU pe_int (pe_op op_mod (pe_callTy b_int (by rfl) T.b_int (by decide +kernel) (pa_cons (pe_op op_add (pv 5) (c_call c__law_take tk hr (by decide) (pa_cons (pv 0) (pa_cons pe_int pa_nil)))) pa_nil)) pe_int))) pa_nil))) pa_nil))))))
      (pss_one (ps_ret (pv 4)))))), ?_⟩
  simp only [cxK, st__law_terms]
  have M : Mem H [bg] H [(bg, bagO fl n c)] [] := mem_start (by simp [h1]) (by simp) (by simp)
  walk_at "go"
  refine ⟨_, rfl, fun pr hpr => ?_⟩
  have M1 := M.alloc (o := .rng 0 marks) hpr
  walk_at "go"
  refine k_listRng M1 (by omega) (by omega) (small_rng (by omega) (by omega)) fun d H1 M2 => ?_
  walk_at "go"
  rename_i tp H2 M3
  refine rng_loop ⟨fun i σ' H' => ∃ (lv : List Int) (xs : List V) (ts : List Pr) (zs : List (Addr × HO)) (v5 v6 : Option V) (n' c' : Int), σ' = [some (.ref bg), some (.int many), some (.int marks), some (.ref d), some (.ref tp), v5, v6] ∧ (lv.length : Int) = marks - i ∧ lv.Nodup ∧ (∀ m ∈ lv, 0 ≤ m ∧ m < marks ∧ m ∉ ts.map (·.1)) ∧ Tms marks ts ∧ ts.length = i ∧ 0 ≤ c' ∧ c' ≤ c + 2 * i ∧
      Mem H [bg] H' [(bg, bagO fl n' c')] ((d, .lst (lv.map V.int)) :: (tp, .lst xs) :: zs) ∧ PrL zs xs ts, ?_, ?_, ?_⟩
  · refine ⟨_, [], [], [], _, _, _, _, rfl, ?_, ?_, ?_, ⟨(fun t h => nomatch h), (fun t h => nomatch h), List.Pairwise.nil⟩, rfl, hc0, by omega, M3.front1, PG.nil⟩
    · rw [List.length_map, List.length_range]; omega
    · rw [List.Nodup, List.pairwise_map]
      exact List.Pairwise.imp (fun h z => h (by omega)) (List.nodup_range (n := marks.toNat))
    · intro m hm
      obtain ⟨i, hi, rfl⟩ := List.mem_map.mp hm
      rw [List.mem_range] at hi
      exact ⟨by omega, by omega, by simp⟩
  · rintro i σ' H' hi ⟨lv, xs, ts, zs, v5, v6, n', c', rfl, hll, hnd, hlv, htm, htl, hc0', hc1', M', pz⟩
    have hxl := pz.1
    walk_at "go"
    rename_i d5 n5 c5 H5 a1 a2 a3 a4 M5
    have hq0 := Int.emod_nonneg d5 (show (lv.length : Int) ≠ 0 by omega)
    have hq1 := Int.emod_lt_of_pos d5 (show 0 < (lv.length : Int) by omega)
    have hk : (d5 % (lv.length : Int)).toNat < lv.length := by omega
    have hy := List.getElem?_eq_getElem hk
    obtain ⟨e1, e2, e3⟩ := nodup_erase hnd hy
    have hmm := hlv _ (List.getElem_mem hk)
    refine k_popAt M5 hq0 (by rw [List.length_map]; exact hq1) (by rw [List.length_map]; omega) (by rw [List.getElem?_map, hy]; rfl) fun H6 M6 => ?_
    rw [erase_map] at M6
    walk_at "go"
    rename_i d7 n7 c7 H7 b1 b2 b3 b4 M7 t8 H8 M8 H9 M9
    refine ⟨lv.eraseIdx (d5 % (lv.length : Int)).toNat, _, ts ++ [(lv[(d5 % (lv.length : Int)).toNat], _)], _, _, _, _, _, rfl, ?_, e1, ?_, ?_, ?_, ?_, ?_, M9.rot3, (pz.more fun z hz => List.mem_cons_of_mem _ hz).append (PG.one List.mem_cons_self)⟩
    · rw [List.length_eraseIdx_of_lt hk]; omega
    · intro m hm
      have h3 := hlv m (e3 m hm)
      refine ⟨h3.1, h3.2.1, ?_⟩
      rw [List.map_append, List.mem_append]
      rintro (z | z)
      · exact h3.2.2 z
      · simp at z
        rw [z] at hm
        exact e2 hm
    · refine ⟨fun t ht => ?_, fun t ht => ?_, ?_⟩
      · rcases List.mem_append.mp ht with z | z
        · exact htm.rng t z
        · rw [List.mem_singleton.mp z]; exact ⟨hmm.1, hmm.2.1⟩
      · rcases List.mem_append.mp ht with z | z
        · exact htm.dir t z
        · rw [List.mem_singleton.mp z]; dsimp only; omega
      · rw [List.map_append, List.nodup_append]
        refine ⟨htm.nd, by simp, fun x hx y hy2 e => ?_⟩
        simp at hy2
        rw [e, hy2] at hx
        exact hmm.2.2 hx
    · rw [List.length_append, htl]; rfl
    · omega
    · omega
  · rintro σ' H' ⟨lv, xs, ts, zs, v5, v6, n', c', rfl, hll, hnd, hlv, htm, htl, hc0', hc1', M', pz⟩
    walk_at "go"
    exact k _ _ _ _ _ ⟨tp, xs, ts, zs, rfl, rfl, pz, by omega, fun a b e => by cases e; exact htm⟩ hc0' (by omega) M'.drop
abbrev ArRo (bg : Addr) (as : List V) (H : Hp) : Prop := ∃ (a m : Int) (pl : Addr) (x y z : Int), as = [.int a, .int m, .ref pl] ∧ pl ≠ bg ∧ 0 ≤ a ∧ a ≤ 12 ∧ 0 ≤ m ∧ m ≤ 4 ∧ H pl = some (.lst [.int x, .int y, .int z])
def RRo (as : List V) (H : Hp) (v : V) (l2 : List (Addr × HO)) : Prop := ∃ (p : Addr) (r : List Int), v = .ref p ∧ l2 = [(p, rowO r)] ∧ ∀ (a m : Int) (pl : Addr), as = [.int a, .int m, .ref pl] → (r.length : Int) = m
theorem ok_roll {f : Addr} {fd : FuncData} (F : Fun K "_law_roll" "_law_roll" s__law_roll f fd) (T : Txt P K mg C CR fR CN fN CA CU CT CI) (c__law_take : Cal P w K mg base 1 "_law_take" sp_take) :
    FnOk P w K mg base (L2.CX P w) (1 + 1) f fd ["_law_bag", "_law_at", "_law_marks", "_law_pool"] (sp_bag ArRo RRo) := by
  refine okT F sc__law_roll (fun vs H Q E h => ?_) (fun cdv A outer s H vs Q E hr tk h => ?_)
  · obtain ⟨bg, fl, n, c, as, rfl, ⟨a, m, pl, x, y, z, rfl, _⟩, _⟩ := h
    rfl
  obtain ⟨bg, fl, n, c, as, rfl, ⟨a, m, pl, x, y, z, rfl, hne, ha0, ha1, hm0, hm4, hpl⟩, h1, hc0, hc1, k⟩ := h
  have f1 := T.i1; have f2 := T.i2; have f3 := T.i3; have f4 := T.i4; have f6 := T.cl; have f7 := T.nT; have f13 := T.ek; have f14 := T.exm; have f15 := T.k1; have f16 := T.k2; have f17 := T.k3
  refine ⟨_, (pss_cons (ps_set (i := 4) sc__law_roll.nd rfl (Or.inl rfl) (pe_lst pa_nil))
      (pss_cons (ps_for (passes_of rfl) rfl (pi_range1 (by rfl) T.b_range (pa_cons (pv 2) pa_nil)) (pg_name (i := 5) sc__law_roll.nd rfl (Or.inl rfl)) (pss_cons (ps_set (i := 6) sc__law_roll.nd rfl (Or.inl rfl) (pe_ix ix_list (pv 3) (pe_op op_mod (pe_callTy b_int (by rfl) T.b_int (by decide +kernel) (pa_cons (pe_op op_add (pe_op op_mulU (pv 1) (pe_op op_add (pv 5) pe_int)) (c_call c__law_take tk hr (by decide) (pa_cons (pv 0) (pa_cons pe_int pa_nil)))) pa_nil)) pe_int) (fun _ _ => rfl)))
      (pss_cons (ps_set (i := 7) sc__law_roll.nd rfl (Or.inl rfl) (pe_op op_add (pv 6) (pe_ix ix_list (pe_lst (pa_cons pe_int (pa_cons pe_int (pa_cons pe_int (pa_cons pe_int (pa_cons pe_negC pa_nil)))))) (c_call c__law_take tk hr (by decide) (pa_cons (pv 0) (pa_cons pe_int pa_nil))) (fun _ _ => rfl))))
      (pss_one (ps_expr (pe_bm PySem.F.plainAttrs_list PySem.F.slot_list_append PySem.F.type_list_append mt_append (pv 4) (pa_cons (pe_callB (b_max2 rfl) (by rfl) T.b_max (by decide +kernel) (pa_cons (pe_op op_sub pe_int (pe_powC (n := 1000000000000000000))) (pa_cons (pe_callB (b_min2 rfl) (by rfl) T.b_min (by decide +kernel) (pa_cons (pe_op op_sub (pe_powC (n := 1000000000000000000)) pe_int) (pa_cons (pv 7) pa_nil))) pa_nil))) pa_nil)))))))
      (pss_one (ps_ret (pe_callTy b_tupleOf (by rfl) T.b_tuple (by decide +kernel) (pa_cons (pv 4) pa_nil)))))), ?_⟩
  simp only [cxK, st__law_roll]
  have M : Mem H [bg] H [(bg, bagO fl n c)] [] := mem_start (by simp [h1]) (by simp) (by simp)
  have M : Mem H [bg] H [(bg, bagO fl n c), (pl, .lst [.int x, .int y, .int z])] [] := mem_start (by simp [h1, hpl]) (by simp [Ne.symm hne]) (by simp)
  walk_at "go"
  rename_i rw0 H0 M0
  refine rng_loop ⟨fun i σ' H' => ∃ (r : List Int) (l' : List (Addr × HO)) (v5 v6 v7 : Option V) (n' c' : Int), σ' = [some (.ref bg), some (.int a), some (.int m), some (.ref pl), some (.ref rw0), v5, v6, v7] ∧ r.length = i ∧ 0 ≤ c' ∧ c' ≤ c + 2 * i ∧
      Mem H [bg] H' [(bg, bagO fl n' c'), (pl, .lst [.int x, .int y, .int z])] ((rw0, .lst (r.map V.int)) :: l'), ?_, ?_, ?_⟩
  · exact ⟨[], [], _, _, _, _, _, rfl, rfl, hc0, by omega, M0⟩
  · rintro i σ' H' hi ⟨r, l', v5, v6, v7, n', c', rfl, hrl, hc0', hc1', M'⟩
    walk_at "go"
    all_goals
      rename_i M8
      refine' k_ixAll (R := fun _ => True) ?k1 ?k2 ?k3 ?k4 ?_
      case k1 => walk_at "hp"
      case k2 => omega
      case k3 => simp; omega
      case k4 =>
        intro v hv
        simp only [List.mem_cons, List.not_mem_nil, or_false] at hv
        rcases hv with rfl | rfl | rfl | rfl | rfl <;> exact ⟨_, rfl, trivial⟩
      intro nn _
      walk_at "go"
      rename_i M9
      refine ⟨r ++ [_], _, _, _, _, _, _, rfl, by rw [List.length_append, hrl]; rfl, ?_, ?_, by rw [List.map_append]; exact M9.front1⟩ <;> omega
  · rintro σ' H' ⟨r, l', v5, v6, v7, n', c', rfl, hrl, hc0', hc1', M'⟩
    walk_at "go"
    rename_i p9 H9 M9
    exact k _ _ _ _ _ ⟨p9, r, rfl, rfl, fun a' m' pl' e => by cases e; omega⟩ hc0' (by omega) M9.one.dropF
end
end K32

set_option Elab.async false
set_option linter.all false
set_option maxRecDepth 100000
set_option maxHeartbeats 8000000
namespace K32
open PySem L2 MyL
local macro_rules | `(tactic| walk_at "mem") => `(tactic| first | exact List.mem_cons_self | (refine List.mem_cons_of_mem _ ?_; walk_at "mem"))
local macro_rules | `(tactic| walk_at "hp") => `(tactic| first | assumption | (refine' Mem.getL ?k1 ?k2; (case k1 => assumption); (case k2 => walk_at "mem")) | (refine' Mem.getF ?k1 ?k2; (case k1 => assumption); (case k2 => walk_at "mem")) | (refine' Mem.atB ?k1 ?k2; (case k1 => assumption); (case k2 => assumption)))
local macro_rules | `(tactic| walk_at "cond") => `(tactic| first | omega | assumption | exact mulR (by omega) (by omega) | exact mulL (by omega) (by omega) | exact divW (by omega) (by omega) | decide)
local macro_rules | `(tactic| walk_at "look") => `(tactic| first | assumption | with_unfolding_all rfl | exact atI_map (by omega) (by omega))
local macro_rules | `(tactic| walk_at "go1") => `(tactic| with_reducible first
  | refine k_seq ?_ | refine k_gName ?_ | refine k_asg ?_ | refine k_ret ?_ | refine k_ifS ?_ | refine k_drop ?_ | refine k_next ?_ | refine k_break ?_ | refine k_cont ?_ | refine k_retN ?_
  | (refine' k_var ?k1 ?_; (case k1 => with_unfolding_all rfl)) | refine k_c ?_ | refine k_op ?_ | refine k_un ?_ | refine k_test ?_ | refine k_B ?_ | refine k_bl ?_ | refine k_and ?_ | refine k_or ?_ | refine k_not ?_
  | refine k_andV ?_ | refine k_orV ?_ | refine k_notV ?_ | refine k_ifE ?_ | refine k_nil ?_ | refine k_cons ?_ | refine k_cb ?_ | refine k_callS ?_ | refine k_lst0 ?_ | refine k_tup0 ?_ | refine k_fld0 ?_ | refine k_sub0 ?_ | refine k_make0 ?_ | refine k_prop0 ?_ | refine k_sta0 ?_ | refine k_sta ?_ | refine k_bm ?_ | refine k_bm0 ?_ | refine k_chain ?_ | refine k_makeK0 ?_ | refine k_swapK ?_ | refine k_meth0 ?_ | refine k_ownN0 ?_ | refine k_ownO0 ?_ | refine k_sfld0 ?_ | refine k_jnil ?_ | refine k_jcons ?_ | refine k_fmt0 ?_ | refine k_sl0 ?_ | refine k_nopart ?_ | refine k_part ?_ | refine k_forR1 ?_ | refine k_forR2 ?_ | refine k_forL ?_ | refine k_forT ?_ | refine k_lcR1 ?_ | refine k_lcR2 ?_ | refine k_lcL ?_ | refine k_lcT ?_ | refine k_err0 ?_ | refine k_xf0 ?_ | refine k_errQ1 ?_ | refine k_errQ0 ?_ | refine k_errQ2 ?_ | refine k_errQ3 ?_
  | refine k_I0 ?_ | (refine k_I ?k1 ?_; (case k1 => walk_at "cond")) | refine k_U ?_ | refine k_eqI ?_ | refine k_neI ?_ | refine k_eqB ?_ | refine k_neB ?_ | refine k_eqS ?_ | refine k_neS ?_
  | refine k_int1 ?_ | refine k_abs1 ?_ | refine k_min2 ?_ | refine k_max2 ?_
  | (refine' k_lenM ?k1 ?_; (case k1 => walk_at "hp")) | (refine' k_lenL ?k1 ?_; (case k1 => walk_at "hp")) | (refine' k_lenT ?k1 ?_; (case k1 => walk_at "hp"))
  | (refine' k_lenS ?k1 ?_; (case k1 => assumption)) | (refine' k_ixS ?k1 ?k2 ?_; (case k1 => assumption); (case k2 => walk_at "look"))
  | (refine' k_ixL ?k1 ?k2 ?_; (case k1 => walk_at "hp"); (case k2 => walk_at "look")) | (refine' k_ixT ?k1 ?k2 ?_; (case k1 => walk_at "hp"); (case k2 => walk_at "look"))
  | (refine' k_ix4 ?k1 ?k2 ?k3 ?_; (case k1 => walk_at "hp"); (case k2 => omega); (case k3 => omega); intro n' hn')
  | (refine' k_ix3 ?k1 ?k2 ?k3 ?_; (case k1 => walk_at "hp"); (case k2 => omega); (case k3 => omega); intro n' hn')
  | (refine' k_ix2 ?k1 ?k2 ?k3 ?_; (case k1 => walk_at "hp"); (case k2 => omega); (case k3 => omega); intro n' hn')
  | (refine' k_fld ?k1 ?k2 ?k3 ?k4 ?_; (case k1 => walk_at "hp"); (case k2 => assumption); (case k3 => assumption); (case k4 => walk_at "fld"))
  | (refine' k_lst ?k1 ?k2 ?_; (case k1 => assumption); (case k2 => exact sz (by simp)); intro p' H' M')
  | (refine' k_tup ?k1 ?k2 ?_; (case k1 => assumption); (case k2 => exact sz (by simp)); intro p' H' M')
  | (refine' k_setF0 ?k1 ?k2 ?k3 ?_; (case k1 => assumption); (case k2 => simp); (case k3 => with_unfolding_all rfl); intro H' M'; try simp only [Int.reduceToNat, List.set_cons_succ, List.set_cons_zero] at M')
  | (refine' k_setL0 ?k1 ?k2 ?_; (case k1 => assumption); (case k2 => with_unfolding_all rfl); intro H' M'; try simp only [Int.reduceToNat, List.set_cons_succ, List.set_cons_zero] at M')
  | (refine' k_setL1 ?k1 ?k2 ?_; (case k1 => assumption); (case k2 => with_unfolding_all rfl); intro H' M'; try simp only [Int.reduceToNat, List.set_cons_succ, List.set_cons_zero] at M')
  | (refine' k_setL2 ?k1 ?k2 ?_; (case k1 => assumption); (case k2 => with_unfolding_all rfl); intro H' M'; try simp only [Int.reduceToNat, List.set_cons_succ, List.set_cons_zero] at M')
  | refine iteT ?_ | refine iteF ?_ | refine k_iteNE ?_ | refine k_iteNS ?_ | refine k_iteNT ?_ | refine k_iteNF ?_
  | (refine k_iteD ?_ ?_ <;> intro hc <;> first | (exfalso; omega) | skip)
  | (refine k_iteN ?_ ?_ <;> intro hc <;> first | (exfalso; omega) | skip)
  | (refine' k_ownN ?k1 ?_; (case k1 => walk_at "hp")) | (refine' k_ownO ?k1 ?k2 ?_; (case k1 => walk_at "hp"); (case k2 => walk_at "hp")) | (refine' k_ownEq ?k1 ?k2 ?_; (case k1 => walk_at "hp"); (case k2 => walk_at "hp"))
  | (refine' k_ownIn ?k1 ?_; (case k1 => walk_at "hp")) | (refine' k_ownU ?k1 ?_; (case k1 => walk_at "hp")) | (refine' k_ownStr ?k1 ?_; (case k1 => walk_at "hp"))
  | (refine' k_prop ?k1 ?_; (case k1 => walk_at "hp")) | (refine' k_ownNe ?k1 ?k2 ?_; (case k1 => walk_at "hp"); (case k2 => walk_at "hp")) | (refine' k_eqP ?k1 ?k2 ?_; (case k1 => walk_at "hp"); (case k2 => walk_at "hp")) | (refine' k_neP ?k1 ?k2 ?_; (case k1 => walk_at "hp"); (case k2 => walk_at "hp"))
  | (refine' k_isiO ?k1 ?k2 ?k3 ?k4 ?k5 ?k6 ?_; (case k1 => walk_at "hp"); (case k2 => assumption); (case k3 => assumption); (case k4 => assumption); (case k5 => assumption); (case k6 => assumption))
  | (refine' k_isiI ?k1 ?_; (case k1 => assumption))
  | (refine' k_jst ?k1 ?_; (case k1 => walk_at "size")) | (refine' k_fmtI ?k1 ?_; (case k1 => exact log2_64 (by omega) (by omega))) | (refine' k_strI ?k1 ?_; (case k1 => exact log2_64 (by omega) (by omega)))
  | (refine k_addS ?k1 ?_; (case k1 => walk_at "size")) | refine k_st ?_ | refine k_parti ?_
  | (refine' k_cat ?k1 ?k2 ?k3 ?k4 ?_; (case k1 => assumption); (case k2 => walk_at "hp"); (case k3 => walk_at "hp"); (case k4 => walk_at "size"); intro p' H' M')
  | (refine' k_slL ?k1 ?k2 ?_; (case k1 => assumption); (case k2 => first | assumption | exact SqL.of (by walk_at "hp")); intro p' H' M')
  | (refine k_rng1 ?k1 ?k2 ?_; (case k1 => omega); (case k2 => omega)) | (refine k_rng2 ?k1 ?k2 ?k3 ?k4 ?_; (case k1 => omega); (case k2 => omega); (case k3 => omega); (case k4 => omega))
  | (refine' k_lstAt ?k1 ?_; (case k1 => first | assumption | exact SqL.of (by walk_at "hp"))) | (refine' k_tupAt ?k1 ?_; (case k1 => first | assumption | exact SqT.of (by walk_at "hp")))
  | (refine' k_isXs ?k1 ?k2 ?_; (case k1 => assumption); (case k2 => walk_at "hp")) | (refine' k_isXo ?k1 ?k2 ?k3 ?_; (case k1 => assumption); (case k2 => walk_at "hp"); (case k3 => assumption)) | (refine' k_isXt ?k1 ?k2 ?k3 ?_; (case k1 => assumption); (case k2 => walk_at "hp"); (case k3 => assumption))
  | (refine' k_isX3 ?k1 ?k2 ?k3 ?k4 ?_; (case k1 => assumption); (case k2 => walk_at "hp"); (case k3 => walk_at "hp"); (case k4 => assumption)) | (refine' k_isX2 ?k1 ?k2 ?k3 ?k4 ?_; (case k1 => assumption); (case k2 => walk_at "hp"); (case k3 => walk_at "hp"); (case k4 => assumption))
  | (refine' k_tyL ?k1 ?_; (case k1 => walk_at "hp"))
  | (refine' k_appL0 ?k1 ?k2 ?_; (case k1 => assumption); (case k2 => walk_at "size"); intro H' M') | (refine' k_appL1 ?k1 ?k2 ?_; (case k1 => assumption); (case k2 => walk_at "size"); intro H' M') | (refine' k_appL2 ?k1 ?k2 ?_; (case k1 => assumption); (case k2 => walk_at "size"); intro H' M') | (refine' k_appL3 ?k1 ?k2 ?_; (case k1 => assumption); (case k2 => walk_at "size"); intro H' M')
  | (refine' k_revL0 ?k1 ?_; (case k1 => assumption); intro H' M') | (refine' k_revL1 ?k1 ?_; (case k1 => assumption); intro H' M')
  | (refine' k_isX0s ?k1 ?_; (case k1 => assumption)) | (refine' k_isX0o ?k1 ?k2 ?_; (case k1 => assumption); (case k2 => assumption)) | (refine' k_isX0t ?k1 ?k2 ?_; (case k1 => assumption); (case k2 => assumption)) | (refine' k_isX04 ?k1 ?k2 ?k3 ?_; (case k1 => assumption); (case k2 => walk_at "hp"); (case k3 => assumption))
  | (refine' k_isX4 ?k1 ?k2 ?k3 ?k4 ?_; (case k1 => assumption); (case k2 => walk_at "hp"); (case k3 => walk_at "hp"); (case k4 => assumption)) | (refine' k_ixT2 ?k1 ?k2 ?k3 ?_; (case k1 => walk_at "hp"); (case k2 => omega); (case k3 => omega); intro n' hn')
  | (refine k_iteNEq ?k1 ?_; (case k1 => (rw [Bool.eq_iff_iff]; first | (simp; done) | (simp; omega))))
  | (refine' k_xf ?k1 ?k2 ?_; (case k1 => walk_at "hp"); (case k2 => first | exact xd1 | exact xdH | exact xd2 (by decide +kernel)))
  | (refine' k_caught ?k1 ?_; (case k1 => assumption); intro a' ha')
  | refine k_asgT ?_ | refine k_gCons ?_ | refine k_gNil ?_ | refine k_par ?_ | refine k_two ?_ | refine k_isNn ?_ | refine k_isNi ?_ | refine k_notNn ?_ | refine k_notNi ?_ | refine k_isN ?_ | refine k_notN ?_
  | (refine' k_gTup ?k1 ?k2 ?_; (case k1 => walk_at "hp"); (case k2 => with_unfolding_all rfl))
  | (refine' k_isiT ?k1 ?k2 ?_; (case k1 => walk_at "hp"); (case k2 => assumption)) | (refine' k_isiL ?k1 ?k2 ?_; (case k1 => walk_at "hp"); (case k2 => assumption))
  | (refine' k_ixQ ?k1 ?k2 ?_; (case k1 => assumption); (case k2 => walk_at "look")) | (refine' k_lenQ ?k1 ?_; (case k1 => assumption))
  | (refine' k_xfB ?k1 ?k2 ?_; (case k1 => walk_at "hp"); (case k2 => first | exact xd1 | exact xdH | exact xd2 (by decide +kernel)))
  | (refine' k_all ?k1 ?_; (case k1 => walk_at "hp"))
  | (refine' k_tupleOf ?k1 ?k2 ?_; (case k1 => assumption); (case k2 => exact SqL.of (by walk_at "hp")); intro p' H' M')
  | (refine' k_listOf ?k1 ?k2 ?_; (case k1 => assumption); (case k2 => exact Or.inl (SqL.of (by walk_at "hp"))); intro p' H' M')
  | walk_at "use")
local macro_rules | `(tactic| walk_at "go") => `(tactic| repeat' (walk_at "go1"))

local macro_rules | `(tactic| walk_at "eq") => `(tactic| first | rfl | assumption | omega)
local macro_rules | `(tactic| walk_at "fld") => `(tactic| exact xdH)
local macro_rules | `(tactic| walk_at "size") => `(tactic| first | exact sz (by first | omega | (simp only [List.length_map, List.length_range, List.length_append, List.length_cons, List.length_nil, Int.reduceSub, Int.reduceToNat, Int.reduceNeg]; omega)) | (exact Nat.lt_of_le_of_lt (m := 50000) (by first | omega | (simp only [List.length_map, List.length_range, List.length_append, List.length_cons, List.length_nil]; omega)) (by decide)))
section
variable {P : Program} {w : World} {K : PySem.W.Frag} {mg : Str → Option Value} {base : Heap} {C CR fR CN fN CA CU CT CI : Addr}
theorem side_step {ts : List Pr} {i : Nat} {t : Pr} {a b : List Int} (h : ts[i]? = some t) : side (ts.drop i) a b = if a.getD t.1.toNat 0 = b.getD t.1.toNat 0 then side (ts.drop (i + 1)) a b else if a.getD t.1.toNat 0 > b.getD t.1.toNat 0 then t.2 else -t.2 := by
  obtain ⟨hi, e⟩ := List.getElem?_eq_some_iff.mp h
  rw [List.drop_eq_getElem_cons hi, e]
  obtain ⟨m, d⟩ := t
  rfl
abbrev Fit (ts : List Pr) (a : List Int) : Prop := ∀ t ∈ ts, 0 ≤ t.1 ∧ t.1 < a.length
def sp_side : Sp := fun vs H Q _ => ∃ (t p q : Addr) (xs : List V) (ts : List Pr) (a b : List Int), vs = [.ref t, .ref p, .ref q] ∧ H t = some (.lst xs) ∧ Prs H xs ts ∧ H p = some (rowO a) ∧ H q = some (rowO b) ∧ Fit ts a ∧ Fit ts b ∧ Q (.int (side ts a b)) H
def sp_cmp : Sp := fun vs H Q _ => ∃ (t p q : Addr) (xs : List V) (ts : List Pr) (a b : List Int), vs = [.ref t, .ref p, .ref q] ∧ H t = some (.tup xs) ∧ Prs H xs ts ∧ H p = some (rowO a) ∧ H q = some (rowO b) ∧ Fit ts a ∧ Fit ts b ∧ (∀ t ∈ ts, t.2 = 1 ∨ t.2 = -1) ∧ Q (.int (side ts a b)) H
theorem ok_side {f : Addr} {fd : FuncData} (F : Fun K "_law_side" "_law_side" s__law_side f fd) (T : Txt P K mg C CR fR CN fN CA CU CT CI)  :
    FnOk P w K mg base (L2.CX P w) (0 + 1) f fd ["_law_terms_here", "_law_one", "_law_two"] sp_side := by
  refine okT F sc__law_side (fun vs H Q E h => ?_) (fun cdv A outer s H vs Q E hr tk h => ?_)
  · obtain ⟨t, p, q, xs, ts, a, b, rfl, _⟩ := h
    rfl
  obtain ⟨t, p, q, xs, ts, a, b, rfl, h1, p1, h2, h3, ha, hb, k⟩ := h
  have f1 := T.i1; have f2 := T.i2; have f3 := T.i3; have f4 := T.i4; have f6 := T.cl; have f7 := T.nT; have f13 := T.ek; have f14 := T.exm; have f15 := T.k1; have f16 := T.k2; have f17 := T.k3
  refine ⟨_, (pss_cons (ps_for (passes_of rfl) rfl (pi_list (pv 0)) (pg_tup rfl (pgs_cons (pg_name (i := 3) sc__law_side.nd rfl (Or.inl rfl)) (pgs_cons (pg_name (i := 4) sc__law_side.nd rfl (Or.inl rfl)) pgs_nil))) (pss_one (ps_if (pt_cmpR op_ne (pe_ix ix_tup (pv 1) (pv 3) (fun _ _ => rfl)) (pe_ix ix_tup (pv 2) (pv 3) (fun _ _ => rfl)) (nomark _)) (pss_one (ps_ret (pe_ifExp (pt_cmpR op_gt (pe_ix ix_tup (pv 1) (pv 3) (fun _ _ => rfl)) (pe_ix ix_tup (pv 2) (pv 3) (fun _ _ => rfl)) (nomark _)) (pv 4) (pe_un un_neg (pv 4))))) pss_nil)))
      (pss_one (ps_ret pe_int))), ?_⟩
  simp only [cxK, st__law_side]
  walk_at "go"
  refine lst_loop (xs := xs) ⟨fun i σ' H' => ∃ v3 v4 : Option V, σ' = [some (.ref t), some (.ref p), some (.ref q), v3, v4] ∧ H' = H ∧ side ts a b = side (ts.drop i) a b, ?_, ?_, ?_, ?_⟩
  · exact ⟨_, _, rfl, rfl, rfl⟩
  · rintro i σ' H' _ ⟨_, _, _, rfl, _⟩
    exact SqL.of h1
  · rintro i x σ' H' hx ⟨v3, v4, rfl, rfl, hs⟩
    obtain ⟨tm, pt, ht, rfl, hp⟩ := p1.get hx
    have hm := List.mem_of_getElem? ht
    obtain ⟨r1, r2⟩ := ha tm hm
    obtain ⟨r3, r4⟩ := hb tm hm
    rw [side_step ht] at hs
    walk_at "go"
    all_goals first
      | exact ⟨_, _, rfl, rfl, by rw [if_pos (by assumption)] at hs; exact hs⟩
      | skip
    · rename_i hc hg
      rw [if_neg hc, if_pos hg] at hs
      rw [hs] at k; exact k
    · rename_i hc hg
      rw [if_neg hc, if_neg hg] at hs
      rw [hs] at k; exact k
  · rintro σ' H' ⟨v3, v4, rfl, rfl, hs⟩
    rw [p1.1, List.drop_length] at hs
    rw [hs] at k
    walk_at "go"
    exact k
theorem ok_cmpby {f : Addr} {fd : FuncData} (F : Fun K "compare_by" "compare_by" s_compare_by f fd) (T : Txt P K mg C CR fR CN fN CA CU CT CI)  :
    FnOk P w K mg base (L2.CX P w) (0 + 1) f fd ["terms", "first", "second"] sp_cmp := by
  refine okT F sc_compare_by (fun vs H Q E h => ?_) (fun cdv A outer s H vs Q E hr tk h => ?_)
  · obtain ⟨t, p, q, xs, ts, a, b, rfl, _⟩ := h
    rfl
  obtain ⟨t, p, q, xs, ts, a, b, rfl, h1, p1, h2, h3, ha, hb, hd, k⟩ := h
  have f1 := T.i1; have f2 := T.i2; have f3 := T.i3; have f4 := T.i4; have f6 := T.cl; have f7 := T.nT; have f13 := T.ek; have f14 := T.exm; have f15 := T.k1; have f16 := T.k2; have f17 := T.k3
  refine ⟨_, (pss_cons (ps_for (passes_of rfl) rfl (pi_tup (pv 0)) (pg_tup rfl (pgs_cons (pg_name (i := 3) sc_compare_by.nd rfl (Or.inl rfl)) (pgs_cons (pg_name (i := 4) sc_compare_by.nd rfl (Or.inl rfl)) pgs_nil))) (pss_one (ps_if (pt_cmpR op_ne (pe_ix ix_tup (pv 1) (pv 3) (fun _ _ => rfl)) (pe_ix ix_tup (pv 2) (pv 3) (fun _ _ => rfl)) (nomark _)) (pss_cons (ps_if (pt_cmpR op_eq (pe_cmpR op_lt (pe_ix ix_tup (pv 1) (pv 3) (fun _ _ => rfl)) (pe_ix ix_tup (pv 2) (pv 3) (fun _ _ => rfl)) (nomark _)) (pe_cmpR op_eq (pv 4) pe_int (nomark _)) (nomark _)) (pss_one (ps_ret pe_negC)) pss_nil)
      (pss_one (ps_ret pe_int))) pss_nil)))
      (pss_one (ps_ret pe_int))), ?_⟩
  simp only [cxK, st_compare_by]
  walk_at "go"
  refine tup_loop (xs := xs) ⟨fun i σ' H' => ∃ v3 v4 : Option V, σ' = [some (.ref t), some (.ref p), some (.ref q), v3, v4] ∧ H' = H ∧ side ts a b = side (ts.drop i) a b, ?_, ?_, ?_, ?_⟩
  · exact ⟨_, _, rfl, rfl, rfl⟩
  · rintro i σ' H' _ ⟨_, _, _, rfl, _⟩
    exact SqT.of h1
  · rintro i x σ' H' hx ⟨v3, v4, rfl, rfl, hs⟩
    obtain ⟨tm, pt, ht, rfl, hp⟩ := p1.get hx
    have hm := List.mem_of_getElem? ht
    obtain ⟨r1, r2⟩ := ha tm hm
    obtain ⟨r3, r4⟩ := hb tm hm
    rw [side_step ht] at hs
    have hdd := hd tm hm
    walk_at "go"
    all_goals first
      | exact ⟨_, _, rfl, rfl, by rw [if_pos (by assumption)] at hs; exact hs⟩
      | skip
    all_goals
      rename_i hc
      rw [if_neg hc] at hs
      by_cases hlt : a.getD tm.1.toNat 0 < b.getD tm.1.toNat 0
      · rw [if_neg (show ¬ a.getD tm.1.toNat 0 > b.getD tm.1.toNat 0 by omega)] at hs
        rcases hdd with e | e
        · rw [decide_eq_true hlt, decide_eq_true e]
          rw [hs, e] at k
          walk_at "go"
          exact k
        · rw [decide_eq_true hlt, decide_eq_false (show ¬ tm.2 = 1 by omega)]
          rw [hs, e] at k
          walk_at "go"
          exact k
      · rw [if_pos (show a.getD tm.1.toNat 0 > b.getD tm.1.toNat 0 by omega)] at hs
        rcases hdd with e | e
        · rw [decide_eq_false hlt, decide_eq_true e]
          rw [hs, e] at k
          walk_at "go"
          exact k
        · rw [decide_eq_false hlt, decide_eq_false (show ¬ tm.2 = 1 by omega)]
          rw [hs, e] at k
          walk_at "go"
          exact k
  · rintro σ' H' ⟨v3, v4, rfl, rfl, hs⟩
    rw [p1.1, List.drop_length] at hs
    rw [hs] at k
    walk_at "go"
    exact k
theorem use_side {H : Hp} {Q : VK} {E : XK} {t p q : Addr} {xs : List V} {ts : List Pr} {a b : List Int} (h1 : H t = some (.lst xs)) (h2 : Prs H xs ts) (h3 : H p = some (rowO a)) (h4 : H q = some (rowO b)) (ha : Fit ts a) (hb : Fit ts b) (k : Q (.int (side ts a b)) H) : sp_side [.ref t, .ref p, .ref q] H Q E := ⟨t, p, q, xs, ts, a, b, rfl, h1, h2, h3, h4, ha, hb, k⟩
theorem use_cmpby {H : Hp} {Q : VK} {E : XK} {t p q : Addr} {xs : List V} {ts : List Pr} {a b : List Int} (h1 : H t = some (.tup xs)) (h2 : Prs H xs ts) (h3 : H p = some (rowO a)) (h4 : H q = some (rowO b)) (ha : Fit ts a) (hb : Fit ts b) (hd : ∀ t ∈ ts, t.2 = 1 ∨ t.2 = -1) (k : Q (.int (side ts a b)) H) : sp_cmp [.ref t, .ref p, .ref q] H Q E := ⟨t, p, q, xs, ts, a, b, rfl, h1, h2, h3, h4, ha, hb, hd, k⟩
local macro_rules | `(tactic| walk_at "use") => `(tactic| with_reducible first
  | refine use_isn ?_)
def sp_isterm : Sp := fun vs H Q _ => ∃ (p : Addr) (t : Pr), vs = [.ref p] ∧ H p = some (prO t) ∧ 0 ≤ t.1 ∧ t.1 ≤ 3 ∧ (t.2 = 1 ∨ t.2 = -1) ∧ ∀ H', Same H H' → Q (.bl true) H'
theorem ok_isterm {f : Addr} {fd : FuncData} (F : Fun K "is_term" "is_term" s_is_term f fd) (T : Txt P K mg C CR fR CN fN CA CU CT CI) (c_is_integer : Cal P w K mg base 1 "is_integer" sp_isn) :
    FnOk P w K mg base (L2.CX P w) (1 + 1) f fd ["term"] sp_isterm := by
  refine okT F sc_is_term (fun vs H Q E h => ?_) (fun cdv A outer s H vs Q E hr tk h => ?_)
  · obtain ⟨p, t, rfl, _⟩ := h
    rfl
  obtain ⟨p, t, rfl, h1, ht0, ht3, hd, k⟩ := h
  have f1 := T.i1; have f2 := T.i2; have f3 := T.i3; have f4 := T.i4; have f6 := T.cl; have f7 := T.nT; have f13 := T.ek; have f14 := T.exm; have f15 := T.k1; have f16 := T.k2; have f17 := T.k3
  refine ⟨_, (pss_cons (ps_if (PW.pt (pw_or (pt_not (pt_val (pe_callB call_isi (by rfl) T.b_isinstance (by decide +kernel) (pa_cons (pv 0) (pa_cons (g_ty (n := "tuple") T.b_tuple (by decide +kernel)) pa_nil))))) (pw_or1 (pt_cmpR op_ne (pe_callB b_len (by rfl) T.b_len (by decide +kernel) (pa_cons (pv 0) pa_nil)) pe_int (nomark _))))) (pss_one (ps_ret pe_bl)) pss_nil)
      (pss_cons (ps_asg (pv 0) (pg_tup rfl (pgs_cons (pg_name (i := 1) sc_is_term.nd rfl (Or.inl rfl)) (pgs_cons (pg_name (i := 2) sc_is_term.nd rfl (Or.inl rfl)) pgs_nil))))
      (pss_cons (ps_if (PW.pt (pw_or (pt_not (pt_val (c_call c_is_integer tk hr (by decide) (pa_cons (pv 1) pa_nil)))) (pw_or1 (pt_not (pt_val (c_call c_is_integer tk hr (by decide) (pa_cons (pv 2) pa_nil))))))) (pss_one (ps_ret pe_bl)) pss_nil)
      (pss_one (ps_ret (pe_and (pe_chain op_le op_le pe_int (pv 1) (g_val T.v_GREATEST_MARK)) (pe_one (pe_cmpR op_in_seq (pv 2) (pe_tup (pa_cons pe_int (pa_cons pe_negC pa_nil))) rfl)))))))), ?_⟩
  simp only [cxK, st_is_term]
  have M : Mem H [] H [] [] := mem_start (by simp []) (by simp) (by simp)
  walk_at "go"
  all_goals first
    | (rename_i hc; exact absurd rfl hc)
    | skip
  rename_i M9
  refine k_inI (ns := [1, -1]) (.inr (SqT.of (M9.getL List.mem_cons_self))) ?_
  rw [decide_eq_true (by rcases hd with e | e <;> rw [e] <;> simp)]
  exact k _ (Same.of_keep M9)
theorem use_isterm {B H : Hp} {ms : List Addr} {f l : List (Addr × HO)} {Q : VK} {E : XK} {p : Addr} {t : Pr} (M : Mem B ms H f l) (h : H p = some (prO t)) (h0 : 0 ≤ t.1) (h3 : t.1 ≤ 3) (hd : t.2 = 1 ∨ t.2 = -1) (k : ∀ H', Mem B ms H' f l → Q (.bl true) H') : sp_isterm [.ref p] H Q E := ⟨p, t, rfl, h, h0, h3, hd, fun H' s => k H' (M.same s)⟩
abbrev ruF (tp : Addr) : List (Str × V) := [("terms", .ref tp)]
def sp_rule (C : Addr) : Sp := fun vs H Q _ => ∃ (x dx t : Addr) (xs : List V) (ts : List Pr), vs = [.ref x, .ref t] ∧ H x = some (.ins C dx []) ∧ Sq H t xs ∧ Prs H xs ts ∧ Tms 4 ts ∧ xs.length ≤ 50000 ∧
  ∀ tp H', H' x = some (.ins C dx (ruF tp)) → (∀ b o, H b = some o → b ≠ x → H' b = some o) → H' tp = some (.tup xs) → ((H t = some (.tup xs) ∧ tp = t) ∨ H tp = none) → Q .non H'
theorem ok_rule {f : Addr} {fd : FuncData} (F : Fun K "__init__" "Rule.__init__" s_Rule_init f fd) (T : Txt P K mg C CR fR CN fN CA CU CT CI) (c_is_term : Cal P w K mg base 2 "is_term" sp_isterm) :
    FnOk P w K mg base (L2.CX P w) (2 + 1) f fd ["self", "terms"] (sp_rule C) := by
  refine okT F sc_Rule_init (fun vs H Q E h => ?_) (fun cdv A outer s H vs Q E hr tk h => ?_)
  · obtain ⟨x, dx, t, xs, ts, rfl, _⟩ := h
    rfl
  obtain ⟨x, dx, t, xs, ts, rfl, h1, hq, p1, htm, hl, k⟩ := h
  have f1 := T.i1; have f2 := T.i2; have f3 := T.i3; have f4 := T.i4; have f6 := T.cl; have f7 := T.nT; have f13 := T.ek; have f14 := T.exm; have f15 := T.k1; have f16 := T.k2; have f17 := T.k3
  refine ⟨_, (pss_cons (ps_set (i := 2) sc_Rule_init.nd rfl (Or.inl rfl) (pe_lst pa_nil))
      (pss_cons (ps_for (passes_of rfl) rfl (pi_enumQ (by rfl) T.b_enumerate (pa_cons (pv 1) pa_nil)) (pg_tup rfl (pgs_cons (pg_name (i := 3) sc_Rule_init.nd rfl (Or.inl rfl)) (pgs_cons (pg_name (i := 4) sc_Rule_init.nd rfl (Or.inl rfl)) pgs_nil))) (pss_cons (ps_if (PW.pt (pw_or (pt_not (pt_val (c_call c_is_term tk hr (by decide) (pa_cons (pv 4) pa_nil)))) (pw_or1 (pt_cmpR op_in_seq (pe_ix ix_tup (pv 4) pe_int (fun _ _ => rfl)) (pv 2) rfl)))) (pss_one (ps_raise rfl tk (pmk_err T.e_InvalidRule (by decide) hr (pa_cons (pv 3) pa_nil)))) pss_nil)
      (pss_one (ps_expr (pe_bm PySem.F.plainAttrs_list PySem.F.slot_list_append PySem.F.type_list_append mt_append (pv 2) (pa_cons (pe_ix ix_tup (pv 4) pe_int (fun _ _ => rfl)) pa_nil))))))
      (pss_one (ps_fld (pv 0) (pe_callTy b_tupleOf (by rfl) T.b_tuple (by decide +kernel) (pa_cons (pv 1) pa_nil)) rfl)))), ?_⟩
  simp only [cxK, st_Rule_init]
  have M : Mem H [] H [] [] := mem_start (by simp []) (by simp) (by simp)
  walk_at "go"
  rename_i mk H0 M0
  refine enumQ_loop (xs := xs) rfl (hq.same (Same.of_keep M0)) (fun i σ' H' => ∃ (l' : List (Addr × HO)) (v3 v4 : Option V), σ' = [some (.ref x), some (.ref t), some (.ref mk), v3, v4] ∧ Mem H [] H' [] ((mk, .lst (((ts.take i).map (·.1)).map V.int)) :: l')) ?_ ?_ ?_ ?_
  · exact ⟨[], _, _, rfl, M0⟩
  · rintro i σ' H' o _ ⟨_, _, _, _, M'⟩ ho
    rcases hq with z | z
    · rw [Same.of_keep M0 _ _ z] at ho
      rw [← ho]; exact M'.atB0 z
    · rw [Same.of_keep M0 _ _ z] at ho
      rw [← ho]; exact M'.atB0 z
  · rintro i v σ' H' T hi ⟨l', v3, v4, rfl, M'⟩ hT
    obtain ⟨tm, p, ht, rfl, hp⟩ := p1.get hi
    have M2 := M'.alloc (o := .tup [.int (i : Nat), .ref p]) hT
    have hm := List.mem_of_getElem? ht
    obtain ⟨r0, r1⟩ := htm.rng tm hm
    have hdd := htm.dir tm hm
    have hp2 := M2.atB0 hp
    have htl := (List.getElem?_eq_some_iff.mp hi).1
    have hxl := p1.1
    have hlk := List.length_take_le i ts
    walk_at "go"
    refine use_isterm M2 hp2 r0 (by omega) hdd fun H3 M3 => ?_
    have hp3 := M3.atB0 hp
    walk_at "go"
    refine k_inI (ns := (ts.take i).map (·.1)) (.inl (SqL.of (M3.getL (List.mem_cons_of_mem _ List.mem_cons_self)))) ?_
    have hni : ¬ tm.1 ∈ (ts.take i).map (·.1) := fun z => by
      have nd := htm.nd
      obtain ⟨hil, e⟩ := List.getElem?_eq_some_iff.mp ht
      rw [← List.take_append_drop i ts, List.map_append, List.nodup_append] at nd
      exact nd.2.2 _ z _ (List.mem_map.mpr ⟨tm, by rw [List.drop_eq_getElem_cons hil, e]; exact List.mem_cons_self, rfl⟩) rfl
    rw [decide_eq_false hni]
    walk_at "go"
    rename_i H4 M4
    have e : ((ts.take (i + 1)).map (·.1)).map V.int = ((ts.take i).map (·.1)).map V.int ++ [V.int tm.1] := by rw [List.take_add_one, ht]; simp
    refine ⟨(T, .tup [.int (i : Nat), .ref p]) :: l', _, _, rfl, ?_⟩
    rw [e]
    exact M4.front1
  · rintro σ' H' ⟨l', v3, v4, rfl, M'⟩
    have h1' := M'.atB0 h1
    have fin : ∀ tp H2 l2, Mem H [] H2 [] l2 → H2 tp = some (.tup xs) → ((H t = some (.tup xs) ∧ tp = t) ∨ H tp = none) → Q .non (upd H2 x (.ins C dx (ruF tp))) := fun tp H2 l2 M2 htp hor => by
      have hx2 := M2.atB0 h1
      have hne : tp ≠ x := fun e => by rw [e, hx2] at htp; cases htp
      refine k tp _ upd_same (fun b o hb hbx => ?_) (by rw [upd_ne hne]; exact htp) hor
      rw [upd_ne hbx]
      exact M2.atB0 hb
    rcases hq with z | z
    · have z' := M'.atB0 z
      walk_at "go"
      rename_i tp H2 M2
      exact ⟨x, C, dx, _, rfl, M2.atB0 h1, f6, f7, by decide, fin tp H2 _ M2 (M2.getL List.mem_cons_self) (.inr (M2.new _ List.mem_cons_self))⟩
    · have z' := M'.atB0 z
      walk_at "go"
      refine k_tupleOfT (SqT.of z') ?_
      walk_at "go"
      exact ⟨x, C, dx, _, rfl, h1', f6, f7, by decide, fin t H' _ M' z' (.inl ⟨z, rfl⟩)⟩
end
end K32

set_option Elab.async false
set_option linter.all false
set_option maxRecDepth 100000
set_option maxHeartbeats 8000000
namespace K32
open PySem L2 MyL
local macro_rules | `(tactic| walk_at "mem") => `(tactic| first | exact List.mem_cons_self | (refine List.mem_cons_of_mem _ ?_; walk_at "mem"))
local macro_rules | `(tactic| walk_at "hp") => `(tactic| first | assumption | (refine' Mem.getL ?k1 ?k2; (case k1 => assumption); (case k2 => walk_at "mem")) | (refine' Mem.getF ?k1 ?k2; (case k1 => assumption); (case k2 => walk_at "mem")) | (refine' Mem.atB ?k1 ?k2; (case k1 => assumption); (case k2 => assumption)))
local macro_rules | `(tactic| walk_at "cond") => `(tactic| first | omega | assumption | exact mulR (by omega) (by omega) | exact mulL (by omega) (by omega) | exact divW (by omega) (by omega) | decide)
local macro_rules | `(tactic| walk_at "look") => `(tactic| first | assumption | with_unfolding_all rfl | exact atI_map (by omega) (by omega))
local macro_rules | `(tactic| walk_at "go1") => `(tactic| with_reducible first
  | refine k_seq ?_ | refine k_gName ?_ | refine k_asg ?_ | refine k_ret ?_ | refine k_ifS ?_ | refine k_drop ?_ | refine k_next ?_ | refine k_break ?_ | refine k_cont ?_ | refine k_retN ?_
  | (refine' k_var ?k1 ?_; (case k1 => with_unfolding_all rfl)) | refine k_c ?_ | refine k_op ?_ | refine k_un ?_ | refine k_test ?_ | refine k_B ?_ | refine k_bl ?_ | refine k_and ?_ | refine k_or ?_ | refine k_not ?_
  | refine k_andV ?_ | refine k_orV ?_ | refine k_notV ?_ | refine k_ifE ?_ | refine k_nil ?_ | refine k_cons ?_ | refine k_cb ?_ | refine k_callS ?_ | refine k_lst0 ?_ | refine k_tup0 ?_ | refine k_fld0 ?_ | refine k_sub0 ?_ | refine k_make0 ?_ | refine k_prop0 ?_ | refine k_sta0 ?_ | refine k_sta ?_ | refine k_bm ?_ | refine k_bm0 ?_ | refine k_chain ?_ | refine k_makeK0 ?_ | refine k_swapK ?_ | refine k_meth0 ?_ | refine k_ownN0 ?_ | refine k_ownO0 ?_ | refine k_sfld0 ?_ | refine k_jnil ?_ | refine k_jcons ?_ | refine k_fmt0 ?_ | refine k_sl0 ?_ | refine k_nopart ?_ | refine k_part ?_ | refine k_forR1 ?_ | refine k_forR2 ?_ | refine k_forL ?_ | refine k_forT ?_ | refine k_lcR1 ?_ | refine k_lcR2 ?_ | refine k_lcL ?_ | refine k_lcT ?_ | refine k_err0 ?_ | refine k_xf0 ?_ | refine k_errQ1 ?_ | refine k_errQ0 ?_ | refine k_errQ2 ?_ | refine k_errQ3 ?_
  | refine k_I0 ?_ | (refine k_I ?k1 ?_; (case k1 => walk_at "cond")) | refine k_U ?_ | refine k_eqI ?_ | refine k_neI ?_ | refine k_eqB ?_ | refine k_neB ?_ | refine k_eqS ?_ | refine k_neS ?_
  | refine k_int1 ?_ | refine k_abs1 ?_ | refine k_min2 ?_ | refine k_max2 ?_
  | (refine' k_lenM ?k1 ?_; (case k1 => walk_at "hp")) | (refine' k_lenL ?k1 ?_; (case k1 => walk_at "hp")) | (refine' k_lenT ?k1 ?_; (case k1 => walk_at "hp"))
  | (refine' k_lenS ?k1 ?_; (case k1 => assumption)) | (refine' k_ixS ?k1 ?k2 ?_; (case k1 => assumption); (case k2 => walk_at "look"))
  | (refine' k_ixL ?k1 ?k2 ?_; (case k1 => walk_at "hp"); (case k2 => walk_at "look")) | (refine' k_ixT ?k1 ?k2 ?_; (case k1 => walk_at "hp"); (case k2 => walk_at "look"))
  | (refine' k_ix4 ?k1 ?k2 ?k3 ?_; (case k1 => walk_at "hp"); (case k2 => omega); (case k3 => omega); intro n' hn')
  | (refine' k_ix3 ?k1 ?k2 ?k3 ?_; (case k1 => walk_at "hp"); (case k2 => omega); (case k3 => omega); intro n' hn')
  | (refine' k_ix2 ?k1 ?k2 ?k3 ?_; (case k1 => walk_at "hp"); (case k2 => omega); (case k3 => omega); intro n' hn')
  | (refine' k_fld ?k1 ?k2 ?k3 ?k4 ?_; (case k1 => walk_at "hp"); (case k2 => assumption); (case k3 => assumption); (case k4 => walk_at "fld"))
  | (refine' k_lst ?k1 ?k2 ?_; (case k1 => assumption); (case k2 => exact sz (by simp)); intro p' H' M')
  | (refine' k_tup ?k1 ?k2 ?_; (case k1 => assumption); (case k2 => exact sz (by simp)); intro p' H' M')
  | (refine' k_setF0 ?k1 ?k2 ?k3 ?_; (case k1 => assumption); (case k2 => simp); (case k3 => with_unfolding_all rfl); intro H' M'; try simp only [Int.reduceToNat, List.set_cons_succ, List.set_cons_zero] at M')
  | (refine' k_setL0 ?k1 ?k2 ?_; (case k1 => assumption); (case k2 => with_unfolding_all rfl); intro H' M'; try simp only [Int.reduceToNat, List.set_cons_succ, List.set_cons_zero] at M')
  | (refine' k_setL1 ?k1 ?k2 ?_; (case k1 => assumption); (case k2 => with_unfolding_all rfl); intro H' M'; try simp only [Int.reduceToNat, List.set_cons_succ, List.set_cons_zero] at M')
  | (refine' k_setL2 ?k1 ?k2 ?_; (case k1 => assumption); (case k2 => with_unfolding_all rfl); intro H' M'; try simp only [Int.reduceToNat, List.set_cons_succ, List.set_cons_zero] at M')
  | refine iteT ?_ | refine iteF ?_ | refine k_iteNE ?_ | refine k_iteNS ?_ | refine k_iteNT ?_ | refine k_iteNF ?_
  | (refine k_iteD ?_ ?_ <;> intro hc <;> first | (exfalso; omega) | skip)
  | (refine k_iteN ?_ ?_ <;> intro hc <;> first | (exfalso; omega) | skip)
  | (refine' k_ownN ?k1 ?_; (case k1 => walk_at "hp")) | (refine' k_ownO ?k1 ?k2 ?_; (case k1 => walk_at "hp"); (case k2 => walk_at "hp")) | (refine' k_ownEq ?k1 ?k2 ?_; (case k1 => walk_at "hp"); (case k2 => walk_at "hp"))
  | (refine' k_ownIn ?k1 ?_; (case k1 => walk_at "hp")) | (refine' k_ownU ?k1 ?_; (case k1 => walk_at "hp")) | (refine' k_ownStr ?k1 ?_; (case k1 => walk_at "hp"))
  | (refine' k_prop ?k1 ?_; (case k1 => walk_at "hp")) | (refine' k_ownNe ?k1 ?k2 ?_; (case k1 => walk_at "hp"); (case k2 => walk_at "hp")) | (refine' k_eqP ?k1 ?k2 ?_; (case k1 => walk_at "hp"); (case k2 => walk_at "hp")) | (refine' k_neP ?k1 ?k2 ?_; (case k1 => walk_at "hp"); (case k2 => walk_at "hp"))
  | (refine' k_isiO ?k1 ?k2 ?k3 ?k4 ?k5 ?k6 ?_; (case k1 => walk_at "hp"); (case k2 => assumption); (case k3 => assumption); (case k4 => assumption); (case k5 => assumption); (case k6 => assumption))
  | (refine' k_isiI ?k1 ?_; (case k1 => assumption))
  | (refine' k_jst ?k1 ?_; (case k1 => walk_at "size")) | (refine' k_fmtI ?k1 ?_; (case k1 => exact log2_64 (by omega) (by omega))) | (refine' k_strI ?k1 ?_; (case k1 => exact log2_64 (by omega) (by omega)))
  | (refine k_addS ?k1 ?_; (case k1 => walk_at "size")) | refine k_st ?_ | refine k_parti ?_
  | (refine' k_cat ?k1 ?k2 ?k3 ?k4 ?_; (case k1 => assumption); (case k2 => walk_at "hp"); (case k3 => walk_at "hp"); (case k4 => walk_at "size"); intro p' H' M')
  | (refine' k_slL ?k1 ?k2 ?_; (case k1 => assumption); (case k2 => first | assumption | exact SqL.of (by walk_at "hp")); intro p' H' M')
  | (refine k_rng1 ?k1 ?k2 ?_; (case k1 => omega); (case k2 => omega)) | (refine k_rng2 ?k1 ?k2 ?k3 ?k4 ?_; (case k1 => omega); (case k2 => omega); (case k3 => omega); (case k4 => omega))
  | (refine' k_lstAt ?k1 ?_; (case k1 => first | assumption | exact SqL.of (by walk_at "hp"))) | (refine' k_tupAt ?k1 ?_; (case k1 => first | assumption | exact SqT.of (by walk_at "hp")))
  | (refine' k_isXs ?k1 ?k2 ?_; (case k1 => assumption); (case k2 => walk_at "hp")) | (refine' k_isXo ?k1 ?k2 ?k3 ?_; (case k1 => assumption); (case k2 => walk_at "hp"); (case k3 => assumption)) | (refine' k_isXt ?k1 ?k2 ?k3 ?_; (case k1 => assumption); (case k2 => walk_at "hp"); (case k3 => assumption))
  | (refine' k_isX3 ?k1 ?k2 ?k3 ?k4 ?_; (case k1 => assumption); (case k2 => walk_at "hp"); (case k3 => walk_at "hp"); (case k4 => assumption)) | (refine' k_isX2 ?k1 ?k2 ?k3 ?k4 ?_; (case k1 => assumption); (case k2 => walk_at "hp"); (case k3 => walk_at "hp"); (case k4 => assumption))
  | (refine' k_tyL ?k1 ?_; (case k1 => walk_at "hp"))
  | (refine' k_appL0 ?k1 ?k2 ?_; (case k1 => assumption); (case k2 => walk_at "size"); intro H' M') | (refine' k_appL1 ?k1 ?k2 ?_; (case k1 => assumption); (case k2 => walk_at "size"); intro H' M') | (refine' k_appL2 ?k1 ?k2 ?_; (case k1 => assumption); (case k2 => walk_at "size"); intro H' M') | (refine' k_appL3 ?k1 ?k2 ?_; (case k1 => assumption); (case k2 => walk_at "size"); intro H' M')
  | (refine' k_revL0 ?k1 ?_; (case k1 => assumption); intro H' M') | (refine' k_revL1 ?k1 ?_; (case k1 => assumption); intro H' M')
  | (refine' k_isX0s ?k1 ?_; (case k1 => assumption)) | (refine' k_isX0o ?k1 ?k2 ?_; (case k1 => assumption); (case k2 => assumption)) | (refine' k_isX0t ?k1 ?k2 ?_; (case k1 => assumption); (case k2 => assumption)) | (refine' k_isX04 ?k1 ?k2 ?k3 ?_; (case k1 => assumption); (case k2 => walk_at "hp"); (case k3 => assumption))
  | (refine' k_isX4 ?k1 ?k2 ?k3 ?k4 ?_; (case k1 => assumption); (case k2 => walk_at "hp"); (case k3 => walk_at "hp"); (case k4 => assumption)) | (refine' k_ixT2 ?k1 ?k2 ?k3 ?_; (case k1 => walk_at "hp"); (case k2 => omega); (case k3 => omega); intro n' hn')
  | (refine k_iteNEq ?k1 ?_; (case k1 => (rw [Bool.eq_iff_iff]; first | (simp; done) | (simp; omega))))
  | (refine' k_xf ?k1 ?k2 ?_; (case k1 => walk_at "hp"); (case k2 => first | exact xd1 | exact xdH | exact xd2 (by decide +kernel)))
  | (refine' k_caught ?k1 ?_; (case k1 => assumption); intro a' ha')
  | refine k_asgT ?_ | refine k_gCons ?_ | refine k_gNil ?_ | refine k_par ?_ | refine k_two ?_ | refine k_isNn ?_ | refine k_isNi ?_ | refine k_notNn ?_ | refine k_notNi ?_ | refine k_isN ?_ | refine k_notN ?_
  | (refine' k_gTup ?k1 ?k2 ?_; (case k1 => walk_at "hp"); (case k2 => with_unfolding_all rfl))
  | (refine' k_isiT ?k1 ?k2 ?_; (case k1 => walk_at "hp"); (case k2 => assumption)) | (refine' k_isiL ?k1 ?k2 ?_; (case k1 => walk_at "hp"); (case k2 => assumption))
  | (refine' k_ixQ ?k1 ?k2 ?_; (case k1 => assumption); (case k2 => walk_at "look")) | (refine' k_lenQ ?k1 ?_; (case k1 => assumption))
  | (refine' k_xfB ?k1 ?k2 ?_; (case k1 => walk_at "hp"); (case k2 => first | exact xd1 | exact xdH | exact xd2 (by decide +kernel)))
  | (refine' k_all ?k1 ?_; (case k1 => walk_at "hp"))
  | (refine' k_tupleOf ?k1 ?k2 ?_; (case k1 => assumption); (case k2 => exact SqL.of (by walk_at "hp")); intro p' H' M')
  | (refine' k_listOf ?k1 ?k2 ?_; (case k1 => assumption); (case k2 => exact Or.inl (SqL.of (by walk_at "hp"))); intro p' H' M')
  | walk_at "use")
local macro_rules | `(tactic| walk_at "go") => `(tactic| repeat' (walk_at "go1"))

local macro_rules | `(tactic| walk_at "eq") => `(tactic| first | rfl | assumption | omega)
local macro_rules | `(tactic| walk_at "fld") => `(tactic| exact xdH)
local macro_rules | `(tactic| walk_at "size") => `(tactic| first | exact sz (by first | omega | (simp only [List.length_map, List.length_range, List.length_append, List.length_cons, List.length_nil, Int.reduceSub, Int.reduceToNat, Int.reduceNeg]; omega)) | (exact Nat.lt_of_le_of_lt (m := 50000) (by first | omega | (simp only [List.length_map, List.length_range, List.length_append, List.length_cons, List.length_nil]; omega)) (by decide)))
section
variable {P : Program} {w : World} {K : PySem.W.Frag} {mg : Str → Option Value} {base : Heap} {C CR fR CN fN CA CU CT CI : Addr}
theorem range'_snoc (a n : Nat) : List.range' a (n + 1) = List.range' a n ++ [a + n] := by
  have := List.range'_concat (s := a) (n := n) (step := 1)
  simpa using this
theorem wrongR_next (ts : List Pr) (S : List (List Int)) (i n : Nat) : wrongR ts S i (List.range' (i + 1) (n + 1)) = wrongR ts S i (List.range' (i + 1) n) ++ if side ts (S.getD i []) (S.getD (i + 1 + n) []) > 0 then [((i : Int), ((i + 1 + n : Nat) : Int))] else [] := by
  unfold wrongR
  rw [range'_snoc, List.filter_append, List.map_append]
  congr 1
  by_cases h : side ts (S.getD i []) (S.getD (i + 1 + n) []) > 0
  · have z : (fun j => decide (side ts (S.getD i []) (S.getD j []) > 0)) (i + 1 + n) = true := decide_eq_true h
    rw [if_pos h, List.filter_cons_of_pos (p := fun j => decide (side ts (S.getD i []) (S.getD j []) > 0)) (a := i + 1 + n) z]; rfl
  · have z : ¬ (fun j => decide (side ts (S.getD i []) (S.getD j []) > 0)) (i + 1 + n) = true := by dsimp only; rw [decide_eq_false h]; exact Bool.false_ne_true
    rw [if_neg h, List.filter_cons_of_neg (p := fun j => decide (side ts (S.getD i []) (S.getD j []) > 0)) (a := i + 1 + n) z]; rfl
theorem wrongP_next (ts : List Pr) (S : List (List Int)) (i : Nat) : wrongP ts S (List.range (i + 1)) = wrongP ts S (List.range i) ++ wrongR ts S i (List.range' (i + 1) (S.length - (i + 1))) := by
  unfold wrongP
  rw [List.range_succ, List.flatMap_append]; simp
theorem wrongR_len (ts : List Pr) (S : List (List Int)) (i : Nat) (js : List Nat) : (wrongR ts S i js).length ≤ js.length := by
  unfold wrongR
  rw [List.length_map]
  exact List.length_filter_le _ _
theorem wrongP_len (ts : List Pr) (S : List (List Int)) (i : Nat) : (wrongP ts S (List.range i)).length ≤ i * S.length := by
  induction i with
  | zero => simp [wrongP]
  | succ i ih =>
    rw [wrongP_next, List.length_append, Nat.add_mul]
    have := wrongR_len ts S i (List.range' (i + 1) (S.length - (i + 1)))
    rw [List.length_range'] at this
    omega
theorem mem_two {H H' : Hp} {p q : Addr} {o u : HO} (s : Same H H') (hp : H p = none) (hq : H q = none) (hne : p ≠ q) (hp' : H' p = some o) (hq' : H' q = some u) : Mem H [] H' [] [(p, o), (q, u)] :=
  ⟨(fun _ h => nomatch h), fun z hz => by
    simp only [List.mem_cons, List.not_mem_nil, or_false] at hz
    rcases hz with rfl | rfl <;> assumption, by simp [hne], fun a o h _ => s a o h, (fun _ h => nomatch h), fun z hz => by
    simp only [List.mem_cons, List.not_mem_nil, or_false] at hz
    rcases hz with rfl | rfl <;> assumption⟩
theorem use_ruleL {B H : Hp} {ms : List Addr} {f l : List (Addr × HO)} {Q : VK} {E : XK} {t : Addr} {xs : List V} {ts : List Pr} (M : Mem B ms H f l) (h : H t = some (.lst xs)) (p : Prs H xs ts) (ht : Tms 4 ts) (hl : xs.length ≤ 50000)
    (k : ∀ x dx tp H', Mem B ms H' f ((x, .ins C dx (ruF tp)) :: (tp, .tup xs) :: l) → Q (.ref x) H') : newO C (sp_rule C) [.ref t] H Q E := by
  intro x dx hx hdx hne
  have s1 : Same H (upd (upd H dx (.own x)) x (.ins C dx [])) := fun a o e => by
    rw [upd_ne (ne_of_none e hx), upd_ne (ne_of_none e hdx)]; exact e
  refine ⟨x, dx, t, xs, ts, rfl, upd_same, .inl (s1 _ _ h), p.same s1, ht, hl, fun tp H' hx' hk htp hor => ⟨rfl, k x dx tp H' (M.comp0 (mem_two (fun a o e => hk a o (s1 _ _ e) (ne_of_none e hx)) hx ?_ ?_ hx' htp))⟩⟩
  · rcases hor with ⟨z, _⟩ | z
    · rw [s1 _ _ h] at z; cases z
    · exact s1.free z
  · rintro rfl
    rw [hx'] at htp; cases htp
theorem use_ruleT {B H : Hp} {ms : List Addr} {f l : List (Addr × HO)} {Q : VK} {E : XK} {t : Addr} {xs : List V} {ts : List Pr} (M : Mem B ms H f l) (h : H t = some (.tup xs)) (p : Prs H xs ts) (ht : Tms 4 ts) (hl : xs.length ≤ 50000)
    (k : ∀ x dx tp H' l2, Mem B ms H' f ((x, .ins C dx (ruF tp)) :: (l2 ++ l)) → (tp = t ∨ (tp, .tup xs) ∈ l2) → Q (.ref x) H') : newO C (sp_rule C) [.ref t] H Q E := by
  intro x dx hx hdx hne
  have s1 : Same H (upd (upd H dx (.own x)) x (.ins C dx [])) := fun a o e => by
    rw [upd_ne (ne_of_none e hx), upd_ne (ne_of_none e hdx)]; exact e
  refine ⟨x, dx, t, xs, ts, rfl, upd_same, .inr (s1 _ _ h), p.same s1, ht, hl, fun tp H' hx' hk htp hor => ⟨rfl, ?_⟩⟩
  have s2 : Same H H' := fun a o e => hk a o (s1 _ _ e) (ne_of_none e hx)
  rcases hor with ⟨_, e⟩ | z
  · exact k x dx tp H' [] (M.sameNew s2 hx hx') (.inl e)
  · refine k x dx tp H' [(tp, .tup xs)] (M.comp0 (mem_two s2 hx (s1.free z) ?_ hx' htp)) (.inr List.mem_cons_self)
    rintro rfl
    rw [hx'] at htp; cases htp
theorem k_methR {H : Hp} {a dx tp : Addr} {m : Str} {PR : Addr → Prop} (h : H a = some (.ins C dx (ruF tp))) (hm : ¬ m = "terms") (q : PR a) : ∃ a' dx' fs', V.ref a = .ref a' ∧ H a' = some (.ins C dx' fs') ∧ fs'.lookup m = none ∧ PR a' := ⟨a, dx, _, rfl, h, by rw [lookup_put, if_neg hm]; rfl, q⟩
def sp_rcmp (C : Addr) : Sp := fun vs H Q _ => ∃ (r dx t p q : Addr) (xs : List V) (ts : List Pr) (a b : List Int), vs = [.ref r, .ref p, .ref q] ∧ H r = some (.ins C dx (ruF t)) ∧ H t = some (.tup xs) ∧ Prs H xs ts ∧ H p = some (rowO a) ∧ H q = some (rowO b) ∧ Fit ts a ∧ Fit ts b ∧ (∀ t ∈ ts, t.2 = 1 ∨ t.2 = -1) ∧ Q (.int (side ts a b)) H
theorem ok_rcmp {f : Addr} {fd : FuncData} (F : Fun K "compare" "Rule.compare" s_Rule_compare f fd) (T : Txt P K mg C CR fR CN fN CA CU CT CI) (c_compare_by : Cal P w K mg base 1 "compare_by" sp_cmp) :
    FnOk P w K mg base (L2.CX P w) (1 + 1) f fd ["self", "first", "second"] (sp_rcmp C) := by
  refine okT F sc_Rule_compare (fun vs H Q E h => ?_) (fun cdv A outer s H vs Q E hr tk h => ?_)
  · obtain ⟨r, dx, t, p, q, xs, ts, a, b, rfl, _⟩ := h
    rfl
  obtain ⟨r, dx, t, p, q, xs, ts, a, b, rfl, h0, h1, p1, h2, h3, ha, hb, hd, k⟩ := h
  have f1 := T.i1; have f2 := T.i2; have f3 := T.i3; have f4 := T.i4; have f6 := T.cl; have f7 := T.nT; have f13 := T.ek; have f14 := T.exm; have f15 := T.k1; have f16 := T.k2; have f17 := T.k3
  refine ⟨_, (pss_one (ps_ret (c_call c_compare_by tk hr (by decide) (pa_cons (pe_fld (pv 0) rfl) (pa_cons (pv 1) (pa_cons (pv 2) pa_nil)))))), ?_⟩
  simp only [cxK, st_Rule_compare]
  walk_at "go"
  exact use_cmpby h1 p1 h2 h3 ha hb hd k
theorem use_rcmp {H : Hp} {Q : VK} {E : XK} {r dx t p q : Addr} {xs : List V} {ts : List Pr} {a b : List Int} (h0 : H r = some (.ins C dx (ruF t))) (h1 : H t = some (.tup xs)) (h2 : Prs H xs ts) (h3 : H p = some (rowO a)) (h4 : H q = some (rowO b)) (ha : Fit ts a) (hb : Fit ts b) (hd : ∀ t ∈ ts, t.2 = 1 ∨ t.2 = -1) (k : Q (.int (side ts a b)) H) : sp_rcmp C [.ref r, .ref p, .ref q] H Q E := ⟨r, dx, t, p, q, xs, ts, a, b, rfl, h0, h1, h2, h3, h4, ha, hb, hd, k⟩
/-- a shelf: rolls that the terms fit -/
abbrev Shf (ts : List Pr) (S : List (List Int)) : Prop := S.length ≤ 20 ∧ ∀ r ∈ S, Fit ts r
def sp_wrong : Sp := fun vs H Q _ => ∃ (t l : Addr) (xs ys : List V) (ts : List Pr) (S : List (List Int)), vs = [.ref t, .ref l] ∧ H t = some (.lst xs) ∧ Prs H xs ts ∧ H l = some (.lst ys) ∧ Rws H ys S ∧ Shf ts S ∧ ∀ d zs H' l2, Mem H [] H' [] ((d, .lst zs) :: l2) → PrL l2 zs (wrongL ts S) → Q (.ref d) H'
def sp_wpairs (C : Addr) : Sp := fun vs H Q _ => ∃ (r dx t l : Addr) (xs ys : List V) (ts : List Pr) (S : List (List Int)), vs = [.ref r, .ref l] ∧ H r = some (.ins C dx (ruF t)) ∧ H t = some (.tup xs) ∧ Prs H xs ts ∧ (∀ t ∈ ts, t.2 = 1 ∨ t.2 = -1) ∧ Sq H l ys ∧ Rws H ys S ∧ Shf ts S ∧ ∀ d zs H' l2, Mem H [] H' [] ((d, .lst zs) :: l2) → PrL l2 zs (wrongL ts S) → Q (.ref d) H'
theorem ok_wrong {f : Addr} {fd : FuncData} (F : Fun K "_law_wrong" "_law_wrong" s__law_wrong f fd) (T : Txt P K mg C CR fR CN fN CA CU CT CI) (c__law_side : Cal P w K mg base 1 "_law_side" sp_side) :
    FnOk P w K mg base (L2.CX P w) (1 + 1) f fd ["_law_terms_here", "_law_shelf"] sp_wrong := by
  refine okT F sc__law_wrong (fun vs H Q E h => ?_) (fun cdv A outer s H vs Q E hr tk h => ?_)
  · obtain ⟨t, l, xs, ys, ts, S, rfl, _⟩ := h
    rfl
  obtain ⟨t, l, xs, ys, ts, S, rfl, h1, p1, h2, p2, ⟨hS, hf⟩, k⟩ := h
  have f1 := T.i1; have f2 := T.i2; have f3 := T.i3; have f4 := T.i4; have f6 := T.cl; have f7 := T.nT; have f13 := T.ek; have f14 := T.exm; have f15 := T.k1; have f16 := T.k2; have f17 := T.k3
  refine ⟨_, (pss_cons (ps_set (i := 2) sc__law_wrong.nd rfl (Or.inl rfl) (pe_lst pa_nil))
      (pss_cons (ps_for (passes_of rfl) rfl (pi_range1 (by rfl) T.b_range (pa_cons (pe_callB b_len (by rfl) T.b_len (by decide +kernel) (pa_cons (pv 1) pa_nil)) pa_nil)) (pg_name (i := 3) sc__law_wrong.nd rfl (Or.inl rfl)) (pss_one (ps_for (passes_of rfl) rfl (pi_range2 (by rfl) T.b_range (pa_cons (pe_op op_add (pv 3) pe_int) (pa_cons (pe_callB b_len (by rfl) T.b_len (by decide +kernel) (pa_cons (pv 1) pa_nil)) pa_nil))) (pg_name (i := 4) sc__law_wrong.nd rfl (Or.inl rfl)) (pss_one (ps_if (pt_cmpR op_gt (c_call c__law_side tk hr (by decide) (pa_cons (pv 0) (pa_cons (pe_ix ix_list (pv 1) (pv 3) (fun _ _ => rfl)) (pa_cons (pe_ix ix_list (pv 1) (pv 4) (fun _ _ => rfl)) pa_nil)))) pe_int (nomark _)) (pss_one (ps_expr (pe_bm PySem.F.plainAttrs_list PySem.F.slot_list_append PySem.F.type_list_append mt_append (pv 2) (pa_cons (pe_tup (pa_cons (pv 3) (pa_cons (pv 4) pa_nil))) pa_nil)))) pss_nil)))))
      (pss_one (ps_ret (pv 2))))), ?_⟩
  simp only [cxK, st__law_wrong]
  have M : Mem H [] H [] [] := mem_start (by simp []) (by simp) (by simp)
  have hyl := p2.1
  walk_at "go"
  rename_i p0 H0 M0
  refine rng_loop ⟨fun i σ' H' => ∃ (zs : List V) (l' : List (Addr × HO)) (v3 v4 : Option V), σ' = [some (.ref t), some (.ref l), some (.ref p0), v3, v4] ∧ Mem H [] H' [] ((p0, .lst zs) :: l') ∧ PrL l' zs (wrongP ts S (List.range i)), ?_, ?_, ?_⟩
  · exact ⟨[], [], _, _, rfl, M0, PG.nil⟩
  · rintro i σ' H' hi ⟨zs, l', v3, v4, rfl, M', pz⟩
    have hil : i < ys.length := by simpa using hi
    obtain ⟨a, pa, ha, ea, hpa⟩ := p2.get (List.getElem?_eq_getElem hil)
    have hata : atI ys (0 + (i : Int)) = some (.ref pa) := by rw [← ea]; exact atI_nat0 (List.getElem?_eq_getElem hil)
    have hfa := hf a (List.mem_of_getElem? ha)
    have hpl := wrongP_len ts S i
    have hmul : i * S.length ≤ 20 * 20 := Nat.mul_le_mul (by omega) (by omega)
    have h2' := M'.atB0 h2
    walk_at "go"
    refine rng_loop ⟨fun n σ' H' => ∃ (zs : List V) (l' : List (Addr × HO)) (v4 : Option V), σ' = [some (.ref t), some (.ref l), some (.ref p0), some (.int (0 + (i : Int))), v4] ∧ Mem H [] H' [] ((p0, .lst zs) :: l') ∧ PrL l' zs (wrongP ts S (List.range i) ++ wrongR ts S i (List.range' (i + 1) n)), ?_, ?_, ?_⟩
    · exact ⟨zs, l', _, rfl, M', by rw [show wrongR ts S i (List.range' (i + 1) 0) = [] from rfl, List.append_nil]; exact pz⟩
    · rintro n σ' H' hn ⟨zs, l', v4, rfl, M', pz⟩
      have hjl : i + 1 + n < ys.length := by omega
      obtain ⟨b, pb, hb, eb, hpb⟩ := p2.get (List.getElem?_eq_getElem hjl)
      have hatb : atI ys (0 + (i : Int) + 1 + (n : Int)) = some (.ref pb) := by
        rw [← eb, show 0 + (i : Int) + 1 + (n : Int) = ((i + 1 + n : Nat) : Int) by omega]
        exact MyL.atI_nat (List.getElem?_eq_getElem hjl)
      have hfb := hf b (List.mem_of_getElem? hb)
      have hrl := wrongR_len ts S i (List.range' (i + 1) n)
      rw [List.length_range'] at hrl
      have hzl := pz.1
      rw [List.length_append] at hzl
      have h2' := M'.atB0 h2
      have hpa' := M'.atB0 hpa
      have hpb' := M'.atB0 hpb
      walk_at "go"
      refine use_side (M'.atB0 h1) (p1.same (Same.of_keep M')) hpa' hpb' hfa hfb ?_
      have hnext : wrongR ts S i (List.range' (i + 1) (n + 1)) = wrongR ts S i (List.range' (i + 1) n) ++ if side ts a b > 0 then [((i : Int), ((i + 1 + n : Nat) : Int))] else [] := by rw [wrongR_next, getD_of ha, getD_of hb]
      walk_at "go"
      · rename_i hc p5 H5 M5 H6 M6
        refine ⟨_, _, _, rfl, M6.front1, ?_⟩
        rw [hnext, if_pos (by omega), ← List.append_assoc]
        refine (pz.more fun z hz => List.mem_cons_of_mem _ hz).append (PG.one ?_)
        show (_, prO ((i : Int), ((i + 1 + n : Nat) : Int))) ∈ _
        rw [show (prO ((i : Int), ((i + 1 + n : Nat) : Int))) = .tup [.int (0 + (i : Int)), .int (0 + (i : Int) + 1 + (n : Int))] by
          rw [show 0 + (i : Int) + 1 + (n : Int) = ((i + 1 + n : Nat) : Int) by omega, Int.zero_add]]
        exact List.mem_cons_self
      · rename_i hc
        refine ⟨_, _, _, rfl, M', ?_⟩
        rw [hnext, if_neg (by omega), List.append_nil]
        exact pz
    · rintro σ' H' ⟨zs, l', v4, rfl, M', pz⟩
      walk_at "go"
      refine ⟨zs, l', _, _, rfl, M', ?_⟩
      rw [wrongP_next]
      rw [show ((ys.length : Int) - (0 + (i : Int) + 1)).toNat = S.length - (i + 1) by omega] at pz
      exact pz
  · rintro σ' H' ⟨zs, l', v3, v4, rfl, M', pz⟩
    walk_at "go"
    rw [show ((ys.length : Int)).toNat = S.length by omega] at pz
    exact k p0 zs H' l' M' pz
local macro_rules | `(tactic| walk_at "use") => `(tactic| with_reducible first
  | (refine' k_methR ?k1 ?k2 ?_; (case k1 => walk_at "hp"); (case k2 => decide +kernel)))
theorem ok_wpairs {f : Addr} {fd : FuncData} (F : Fun K "wrong_pairs" "wrong_pairs" s_wrong_pairs f fd) (T : Txt P K mg C CR fR CN fN CA CU CT CI) (c_Rule_compare : Met P w K mg base 2 C "compare" (sp_rcmp C)) :
    FnOk P w K mg base (L2.CX P w) (2 + 1) f fd ["rule", "shelf"] (sp_wpairs C) := by
  refine okT F sc_wrong_pairs (fun vs H Q E h => ?_) (fun cdv A outer s H vs Q E hr tk h => ?_)
  · obtain ⟨r, dx, t, l, xs, ys, ts, S, rfl, _⟩ := h
    rfl
  obtain ⟨r, dx, t, l, xs, ys, ts, S, rfl, h0, h1, p1, hd, hq, p2, ⟨hS, hf⟩, k⟩ := h
  have f1 := T.i1; have f2 := T.i2; have f3 := T.i3; have f4 := T.i4; have f6 := T.cl; have f7 := T.nT; have f13 := T.ek; have f14 := T.exm; have f15 := T.k1; have f16 := T.k2; have f17 := T.k3
  refine ⟨_, (pss_cons (ps_set (i := 2) sc_wrong_pairs.nd rfl (Or.inl rfl) (pe_lst pa_nil))
      (pss_cons (ps_for (passes_of rfl) rfl (pi_range1 (by rfl) T.b_range (pa_cons (pe_callB b_len (by rfl) T.b_len (by decide +kernel) (pa_cons (pv 1) pa_nil)) pa_nil)) (pg_name (i := 3) sc_wrong_pairs.nd rfl (Or.inl rfl)) (pss_one (ps_for (passes_of rfl) rfl (pi_range2 (by rfl) T.b_range (pa_cons (pe_op op_add (pv 3) pe_int) (pa_cons (pe_callB b_len (by rfl) T.b_len (by decide +kernel) (pa_cons (pv 1) pa_nil)) pa_nil))) (pg_name (i := 4) sc_wrong_pairs.nd rfl (Or.inl rfl)) (pss_one (ps_if (pt_cmpR op_eq (c_meth c_Rule_compare tk hr (by decide) (pv 0) (pa_cons (pe_ix ix_seq (pv 1) (pv 3) (fun _ _ => rfl)) (pa_cons (pe_ix ix_seq (pv 1) (pv 4) (fun _ _ => rfl)) pa_nil))) pe_int (nomark _)) (pss_one (ps_expr (pe_bm PySem.F.plainAttrs_list PySem.F.slot_list_append PySem.F.type_list_append mt_append (pv 2) (pa_cons (pe_tup (pa_cons (pv 3) (pa_cons (pv 4) pa_nil))) pa_nil)))) pss_nil)))))
      (pss_one (ps_ret (pv 2))))), ?_⟩
  simp only [cxK, st_wrong_pairs]
  have M : Mem H [] H [] [] := mem_start (by simp []) (by simp) (by simp)
  have hyl := p2.1
  walk_at "go"
  rename_i p0 H0 M0
  have hq0 := hq.same (Same.of_keep M0)
  walk_at "go"
  refine rng_loop ⟨fun i σ' H' => ∃ (zs : List V) (l' : List (Addr × HO)) (v3 v4 : Option V), σ' = [some (.ref r), some (.ref l), some (.ref p0), v3, v4] ∧ Mem H [] H' [] ((p0, .lst zs) :: l') ∧ PrL l' zs (wrongP ts S (List.range i)), ?_, ?_, ?_⟩
  · exact ⟨[], [], _, _, rfl, M0, PG.nil⟩
  · rintro i σ' H' hi ⟨zs, l', v3, v4, rfl, M', pz⟩
    have hil : i < ys.length := by simpa using hi
    obtain ⟨a, pa, ha, ea, hpa⟩ := p2.get (List.getElem?_eq_getElem hil)
    have hata : atI ys (0 + (i : Int)) = some (.ref pa) := by rw [← ea]; exact atI_nat0 (List.getElem?_eq_getElem hil)
    have hfa := hf a (List.mem_of_getElem? ha)
    have hpl := wrongP_len ts S i
    have hmul : i * S.length ≤ 20 * 20 := Nat.mul_le_mul (by omega) (by omega)
    have hq' := hq.same (Same.of_keep M')
    walk_at "go"
    refine rng_loop ⟨fun n σ' H' => ∃ (zs : List V) (l' : List (Addr × HO)) (v4 : Option V), σ' = [some (.ref r), some (.ref l), some (.ref p0), some (.int (0 + (i : Int))), v4] ∧ Mem H [] H' [] ((p0, .lst zs) :: l') ∧ PrL l' zs (wrongP ts S (List.range i) ++ wrongR ts S i (List.range' (i + 1) n)), ?_, ?_, ?_⟩
    · exact ⟨zs, l', _, rfl, M', by rw [show wrongR ts S i (List.range' (i + 1) 0) = [] from rfl, List.append_nil]; exact pz⟩
    · rintro n σ' H' hn ⟨zs, l', v4, rfl, M', pz⟩
      have hjl : i + 1 + n < ys.length := by omega
      obtain ⟨b, pb, hb, eb, hpb⟩ := p2.get (List.getElem?_eq_getElem hjl)
      have hatb : atI ys (0 + (i : Int) + 1 + (n : Int)) = some (.ref pb) := by
        rw [← eb, show 0 + (i : Int) + 1 + (n : Int) = ((i + 1 + n : Nat) : Int) by omega]
        exact MyL.atI_nat (List.getElem?_eq_getElem hjl)
      have hfb := hf b (List.mem_of_getElem? hb)
      have hrl := wrongR_len ts S i (List.range' (i + 1) n)
      rw [List.length_range'] at hrl
      have hzl := pz.1
      rw [List.length_append] at hzl
      have hq' := hq.same (Same.of_keep M')
      have h0' := M'.atB0 h0
      have hpa' := M'.atB0 hpa
      have hpb' := M'.atB0 hpb
      have hsd := side_le hd a b
      walk_at "go"
      refine use_rcmp (M'.atB0 h0) (M'.atB0 h1) (p1.same (Same.of_keep M')) hpa' hpb' hfa hfb hd ?_
      have hnext : wrongR ts S i (List.range' (i + 1) (n + 1)) = wrongR ts S i (List.range' (i + 1) n) ++ if side ts a b > 0 then [((i : Int), ((i + 1 + n : Nat) : Int))] else [] := by rw [wrongR_next, getD_of ha, getD_of hb]
      walk_at "go"
      · rename_i hc p5 H5 M5 H6 M6
        refine ⟨_, _, _, rfl, M6.front1, ?_⟩
        rw [hnext, if_pos (by omega), ← List.append_assoc]
        refine (pz.more fun z hz => List.mem_cons_of_mem _ hz).append (PG.one ?_)
        show (_, prO ((i : Int), ((i + 1 + n : Nat) : Int))) ∈ _
        rw [show (prO ((i : Int), ((i + 1 + n : Nat) : Int))) = .tup [.int (0 + (i : Int)), .int (0 + (i : Int) + 1 + (n : Int))] by
          rw [show 0 + (i : Int) + 1 + (n : Int) = ((i + 1 + n : Nat) : Int) by omega, Int.zero_add]]
        exact List.mem_cons_self
      · rename_i hc
        refine ⟨_, _, _, rfl, M', ?_⟩
        rw [hnext, if_neg (by omega), List.append_nil]
        exact pz
    · rintro σ' H' ⟨zs, l', v4, rfl, M', pz⟩
      walk_at "go"
      refine ⟨zs, l', _, _, rfl, M', ?_⟩
      rw [wrongP_next]
      rw [show ((ys.length : Int) - (0 + (i : Int) + 1)).toNat = S.length - (i + 1) by omega] at pz
      exact pz
  · rintro σ' H' ⟨zs, l', v3, v4, rfl, M', pz⟩
    walk_at "go"
    rw [show ((ys.length : Int)).toNat = S.length by omega] at pz
    exact k p0 zs H' l' M' pz
theorem use_wrong {B H : Hp} {ms : List Addr} {f l : List (Addr × HO)} {Q : VK} {E : XK} {t a : Addr} {xs ys : List V} {ts : List Pr} {S : List (List Int)} (M : Mem B ms H f l) (h1 : H t = some (.lst xs)) (p1 : Prs H xs ts) (h2 : H a = some (.lst ys)) (p2 : Rws H ys S) (hs : Shf ts S) (k : ∀ d zs H' l2, Mem B ms H' f ((d, .lst zs) :: (l2 ++ l)) → PrL l2 zs (wrongL ts S) → Q (.ref d) H') : sp_wrong [.ref t, .ref a] H Q E :=
  ⟨t, a, xs, ys, ts, S, rfl, h1, p1, h2, p2, hs, fun d zs H' l2 M2 hz => k d zs H' l2 (M.comp0 M2) hz⟩
theorem use_wpairs {B H : Hp} {ms : List Addr} {f l : List (Addr × HO)} {Q : VK} {E : XK} {r dx t a : Addr} {xs ys : List V} {ts : List Pr} {S : List (List Int)} (M : Mem B ms H f l) (h0 : H r = some (.ins C dx (ruF t))) (h1 : H t = some (.tup xs)) (p1 : Prs H xs ts) (hd : ∀ t ∈ ts, t.2 = 1 ∨ t.2 = -1) (h2 : Sq H a ys) (p2 : Rws H ys S) (hs : Shf ts S) (k : ∀ d zs H' l2, Mem B ms H' f ((d, .lst zs) :: (l2 ++ l)) → PrL l2 zs (wrongL ts S) → Q (.ref d) H') : sp_wpairs C [.ref r, .ref a] H Q E :=
  ⟨r, dx, t, a, xs, ys, ts, S, rfl, h0, h1, p1, hd, h2, p2, hs, fun d zs H' l2 M2 hz => k d zs H' l2 (M.comp0 M2) hz⟩
end
end K32

set_option Elab.async false
set_option linter.all false
set_option maxRecDepth 100000
set_option maxHeartbeats 8000000
namespace K32
open PySem L2 MyL
local macro_rules | `(tactic| walk_at "mem") => `(tactic| first | exact List.mem_cons_self | (refine List.mem_cons_of_mem _ ?_; walk_at "mem"))
local macro_rules | `(tactic| walk_at "hp") => `(tactic| first | assumption | (refine' Mem.getL ?k1 ?k2; (case k1 => assumption); (case k2 => walk_at "mem")) | (refine' Mem.getF ?k1 ?k2; (case k1 => assumption); (case k2 => walk_at "mem")) | (refine' Mem.atB ?k1 ?k2; (case k1 => assumption); (case k2 => assumption)))
local macro_rules | `(tactic| walk_at "cond") => `(tactic| first | omega | assumption | exact mulR (by omega) (by omega) | exact mulL (by omega) (by omega) | exact divW (by omega) (by omega) | decide)
local macro_rules | `(tactic| walk_at "look") => `(tactic| first | assumption | with_unfolding_all rfl | exact atI_map (by omega) (by omega))
local macro_rules | `(tactic| walk_at "go1") => `(tactic| with_reducible first
  | refine k_seq ?_ | refine k_gName ?_ | refine k_asg ?_ | refine k_ret ?_ | refine k_ifS ?_ | refine k_drop ?_ | refine k_next ?_ | refine k_break ?_ | refine k_cont ?_ | refine k_retN ?_
  | (refine' k_var ?k1 ?_; (case k1 => with_unfolding_all rfl)) | refine k_c ?_ | refine k_op ?_ | refine k_un ?_ | refine k_test ?_ | refine k_B ?_ | refine k_bl ?_ | refine k_and ?_ | refine k_or ?_ | refine k_not ?_
  | refine k_andV ?_ | refine k_orV ?_ | refine k_notV ?_ | refine k_ifE ?_ | refine k_nil ?_ | refine k_cons ?_ | refine k_cb ?_ | refine k_callS ?_ | refine k_lst0 ?_ | refine k_tup0 ?_ | refine k_fld0 ?_ | refine k_sub0 ?_ | refine k_make0 ?_ | refine k_prop0 ?_ | refine k_sta0 ?_ | refine k_sta ?_ | refine k_bm ?_ | refine k_bm0 ?_ | refine k_chain ?_ | refine k_makeK0 ?_ | refine k_swapK ?_ | refine k_meth0 ?_ | refine k_ownN0 ?_ | refine k_ownO0 ?_ | refine k_sfld0 ?_ | refine k_jnil ?_ | refine k_jcons ?_ | refine k_fmt0 ?_ | refine k_sl0 ?_ | refine k_nopart ?_ | refine k_part ?_ | refine k_forR1 ?_ | refine k_forR2 ?_ | refine k_forL ?_ | refine k_forT ?_ | refine k_lcR1 ?_ | refine k_lcR2 ?_ | refine k_lcL ?_ | refine k_lcT ?_ | refine k_err0 ?_ | refine k_xf0 ?_ | refine k_errQ1 ?_ | refine k_errQ0 ?_ | refine k_errQ2 ?_ | refine k_errQ3 ?_
  | refine k_I0 ?_ | (refine k_I ?k1 ?_; (case k1 => walk_at "cond")) | refine k_U ?_ | refine k_eqI ?_ | refine k_neI ?_ | refine k_eqB ?_ | refine k_neB ?_ | refine k_eqS ?_ | refine k_neS ?_
  | refine k_int1 ?_ | refine k_abs1 ?_ | refine k_min2 ?_ | refine k_max2 ?_
  | (refine' k_lenM ?k1 ?_; (case k1 => walk_at "hp")) | (refine' k_lenL ?k1 ?_; (case k1 => walk_at "hp")) | (refine' k_lenT ?k1 ?_; (case k1 => walk_at "hp"))
  | (refine' k_lenS ?k1 ?_; (case k1 => assumption)) | (refine' k_ixS ?k1 ?k2 ?_; (case k1 => assumption); (case k2 => walk_at "look"))
  | (refine' k_ixL ?k1 ?k2 ?_; (case k1 => walk_at "hp"); (case k2 => walk_at "look")) | (refine' k_ixT ?k1 ?k2 ?_; (case k1 => walk_at "hp"); (case k2 => walk_at "look"))
  | (refine' k_ix4 ?k1 ?k2 ?k3 ?_; (case k1 => walk_at "hp"); (case k2 => omega); (case k3 => omega); intro n' hn')
  | (refine' k_ix3 ?k1 ?k2 ?k3 ?_; (case k1 => walk_at "hp"); (case k2 => omega); (case k3 => omega); intro n' hn')
  | (refine' k_ix2 ?k1 ?k2 ?k3 ?_; (case k1 => walk_at "hp"); (case k2 => omega); (case k3 => omega); intro n' hn')
  | (refine' k_fld ?k1 ?k2 ?k3 ?k4 ?_; (case k1 => walk_at "hp"); (case k2 => assumption); (case k3 => assumption); (case k4 => walk_at "fld"))
  | (refine' k_lst ?k1 ?k2 ?_; (case k1 => assumption); (case k2 => exact sz (by simp)); intro p' H' M')
  | (refine' k_tup ?k1 ?k2 ?_; (case k1 => assumption); (case k2 => exact sz (by simp)); intro p' H' M')
  | (refine' k_setF0 ?k1 ?k2 ?k3 ?_; (case k1 => assumption); (case k2 => simp); (case k3 => with_unfolding_all rfl); intro H' M'; try simp only [Int.reduceToNat, List.set_cons_succ, List.set_cons_zero] at M')
  | (refine' k_setL0 ?k1 ?k2 ?_; (case k1 => assumption); (case k2 => with_unfolding_all rfl); intro H' M'; try simp only [Int.reduceToNat, List.set_cons_succ, List.set_cons_zero] at M')
  | (refine' k_setL1 ?k1 ?k2 ?_; (case k1 => assumption); (case k2 => with_unfolding_all rfl); intro H' M'; try simp only [Int.reduceToNat, List.set_cons_succ, List.set_cons_zero] at M')
  | (refine' k_setL2 ?k1 ?k2 ?_; (case k1 => assumption); (case k2 => with_unfolding_all rfl); intro H' M'; try simp only [Int.reduceToNat, List.set_cons_succ, List.set_cons_zero] at M')
  | refine iteT ?_ | refine iteF ?_ | refine k_iteNE ?_ | refine k_iteNS ?_ | refine k_iteNT ?_ | refine k_iteNF ?_
  | (refine k_iteD ?_ ?_ <;> intro hc <;> first | (exfalso; omega) | skip)
  | (refine k_iteN ?_ ?_ <;> intro hc <;> first | (exfalso; omega) | skip)
  | (refine' k_ownN ?k1 ?_; (case k1 => walk_at "hp")) | (refine' k_ownO ?k1 ?k2 ?_; (case k1 => walk_at "hp"); (case k2 => walk_at "hp")) | (refine' k_ownEq ?k1 ?k2 ?_; (case k1 => walk_at "hp"); (case k2 => walk_at "hp"))
  | (refine' k_ownIn ?k1 ?_; (case k1 => walk_at "hp")) | (refine' k_ownU ?k1 ?_; (case k1 => walk_at "hp")) | (refine' k_ownStr ?k1 ?_; (case k1 => walk_at "hp"))
  | (refine' k_prop ?k1 ?_; (case k1 => walk_at "hp")) | (refine' k_ownNe ?k1 ?k2 ?_; (case k1 => walk_at "hp"); (case k2 => walk_at "hp")) | (refine' k_eqP ?k1 ?k2 ?_; (case k1 => walk_at "hp"); (case k2 => walk_at "hp")) | (refine' k_neP ?k1 ?k2 ?_; (case k1 => walk_at "hp"); (case k2 => walk_at "hp"))
  | (refine' k_isiO ?k1 ?k2 ?k3 ?k4 ?k5 ?k6 ?_; (case k1 => walk_at "hp"); (case k2 => assumption); (case k3 => assumption); (case k4 => assumption); (case k5 => assumption); (case k6 => assumption))
  | (refine' k_isiI ?k1 ?_; (case k1 => assumption))
  | (refine' k_jst ?k1 ?_; (case k1 => walk_at "size")) | (refine' k_fmtI ?k1 ?_; (case k1 => exact log2_64 (by omega) (by omega))) | (refine' k_strI ?k1 ?_; (case k1 => exact log2_64 (by omega) (by omega)))
  | (refine k_addS ?k1 ?_; (case k1 => walk_at "size")) | refine k_st ?_ | refine k_parti ?_
  | (refine' k_cat ?k1 ?k2 ?k3 ?k4 ?_; (case k1 => assumption); (case k2 => walk_at "hp"); (case k3 => walk_at "hp"); (case k4 => walk_at "size"); intro p' H' M')
  | (refine' k_slL ?k1 ?k2 ?_; (case k1 => assumption); (case k2 => first | assumption | exact SqL.of (by walk_at "hp")); intro p' H' M')
  | (refine k_rng1 ?k1 ?k2 ?_; (case k1 => omega); (case k2 => omega)) | (refine k_rng2 ?k1 ?k2 ?k3 ?k4 ?_; (case k1 => omega); (case k2 => omega); (case k3 => omega); (case k4 => omega))
  | (refine' k_lstAt ?k1 ?_; (case k1 => first | assumption | exact SqL.of (by walk_at "hp"))) | (refine' k_tupAt ?k1 ?_; (case k1 => first | assumption | exact SqT.of (by walk_at "hp")))
  | (refine' k_isXs ?k1 ?k2 ?_; (case k1 => assumption); (case k2 => walk_at "hp")) | (refine' k_isXo ?k1 ?k2 ?k3 ?_; (case k1 => assumption); (case k2 => walk_at "hp"); (case k3 => assumption)) | (refine' k_isXt ?k1 ?k2 ?k3 ?_; (case k1 => assumption); (case k2 => walk_at "hp"); (case k3 => assumption))
  | (refine' k_isX3 ?k1 ?k2 ?k3 ?k4 ?_; (case k1 => assumption); (case k2 => walk_at "hp"); (case k3 => walk_at "hp"); (case k4 => assumption)) | (refine' k_isX2 ?k1 ?k2 ?k3 ?k4 ?_; (case k1 => assumption); (case k2 => walk_at "hp"); (case k3 => walk_at "hp"); (case k4 => assumption))
  | (refine' k_tyL ?k1 ?_; (case k1 => walk_at "hp"))
  | (refine' k_appL0 ?k1 ?k2 ?_; (case k1 => assumption); (case k2 => walk_at "size"); intro H' M') | (refine' k_appL1 ?k1 ?k2 ?_; (case k1 => assumption); (case k2 => walk_at "size"); intro H' M') | (refine' k_appL2 ?k1 ?k2 ?_; (case k1 => assumption); (case k2 => walk_at "size"); intro H' M') | (refine' k_appL3 ?k1 ?k2 ?_; (case k1 => assumption); (case k2 => walk_at "size"); intro H' M')
  | (refine' k_revL0 ?k1 ?_; (case k1 => assumption); intro H' M') | (refine' k_revL1 ?k1 ?_; (case k1 => assumption); intro H' M')
  | (refine' k_isX0s ?k1 ?_; (case k1 => assumption)) | (refine' k_isX0o ?k1 ?k2 ?_; (case k1 => assumption); (case k2 => assumption)) | (refine' k_isX0t ?k1 ?k2 ?_; (case k1 => assumption); (case k2 => assumption)) | (refine' k_isX04 ?k1 ?k2 ?k3 ?_; (case k1 => assumption); (case k2 => walk_at "hp"); (case k3 => assumption))
  | (refine' k_isX4 ?k1 ?k2 ?k3 ?k4 ?_; (case k1 => assumption); (case k2 => walk_at "hp"); (case k3 => walk_at "hp"); (case k4 => assumption)) | (refine' k_ixT2 ?k1 ?k2 ?k3 ?_; (case k1 => walk_at "hp"); (case k2 => omega); (case k3 => omega); intro n' hn')
  | (refine k_iteNEq ?k1 ?_; (case k1 => (rw [Bool.eq_iff_iff]; first | (simp; done) | (simp; omega))))
  | (refine' k_xf ?k1 ?k2 ?_; (case k1 => walk_at "hp"); (case k2 => first | exact xd1 | exact xdH | exact xd2 (by decide +kernel)))
  | (refine' k_caught ?k1 ?_; (case k1 => assumption); intro a' ha')
  | refine k_asgT ?_ | refine k_gCons ?_ | refine k_gNil ?_ | refine k_par ?_ | refine k_two ?_ | refine k_isNn ?_ | refine k_isNi ?_ | refine k_notNn ?_ | refine k_notNi ?_ | refine k_isN ?_ | refine k_notN ?_
  | (refine' k_gTup ?k1 ?k2 ?_; (case k1 => walk_at "hp"); (case k2 => with_unfolding_all rfl))
  | (refine' k_isiT ?k1 ?k2 ?_; (case k1 => walk_at "hp"); (case k2 => assumption)) | (refine' k_isiL ?k1 ?k2 ?_; (case k1 => walk_at "hp"); (case k2 => assumption))
  | (refine' k_ixQ ?k1 ?k2 ?_; (case k1 => assumption); (case k2 => walk_at "look")) | (refine' k_lenQ ?k1 ?_; (case k1 => assumption))
  | (refine' k_xfB ?k1 ?k2 ?_; (case k1 => walk_at "hp"); (case k2 => first | exact xd1 | exact xdH | exact xd2 (by decide +kernel)))
  | (refine' k_all ?k1 ?_; (case k1 => walk_at "hp"))
  | (refine' k_tupleOf ?k1 ?k2 ?_; (case k1 => assumption); (case k2 => exact SqL.of (by walk_at "hp")); intro p' H' M')
  | (refine' k_listOf ?k1 ?k2 ?_; (case k1 => assumption); (case k2 => exact Or.inl (SqL.of (by walk_at "hp"))); intro p' H' M')
  | walk_at "use")
local macro_rules | `(tactic| walk_at "go") => `(tactic| repeat' (walk_at "go1"))

local macro_rules | `(tactic| walk_at "eq") => `(tactic| first | rfl | assumption | omega)
local macro_rules | `(tactic| walk_at "fld") => `(tactic| exact xdH)
local macro_rules | `(tactic| walk_at "size") => `(tactic| first | exact sz (by first | omega | (simp only [List.length_map, List.length_range, List.length_append, List.length_cons, List.length_nil, Int.reduceSub, Int.reduceToNat, Int.reduceNeg]; omega)) | (exact Nat.lt_of_le_of_lt (m := 50000) (by first | omega | (simp only [List.length_map, List.length_range, List.length_append, List.length_cons, List.length_nil]; omega)) (by decide)))
section
variable {P : Program} {w : World} {K : PySem.W.Frag} {mg : Str → Option Value} {base : Heap} {C CR fR CN fN CA CU CT CI : Addr}
local macro_rules | `(tactic| walk_at "use") => `(tactic| with_reducible first
  | refine use_isn ?_
  | (refine' use_take ?k1 ?k2 ?k3 ?k4 ?k5 ?k6 ?_; (case k1 => assumption); (case k2 => simp); (case k3 => omega); (case k4 => omega); (case k5 => omega); (case k6 => omega); intro d' n' c' H' a1' a2' a3' a4' M'))
/-- a list of the same rolls -/
def sp_laid : Sp := fun vs H Q _ => ∃ (t l : Addr) (xs ys : List V) (ts : List Pr) (S : List (List Int)), vs = [.ref t, .ref l] ∧ H t = some (.lst xs) ∧ Prs H xs ts ∧ H l = some (.lst ys) ∧ Rws H ys S ∧ S.length ≤ 19 ∧ (∀ r ∈ S, Fit ts r) ∧
  ∀ d zs S' H', Mem H [] H' [] [(d, .lst zs)] → Rws H zs S' → (∀ r ∈ S', r ∈ S) → S'.length = S.length → Q (.ref d) H'
theorem ok_laid {f : Addr} {fd : FuncData} (F : Fun K "_law_laid" "_law_laid" s__law_laid f fd) (T : Txt P K mg C CR fR CN fN CA CU CT CI) (c__law_side : Cal P w K mg base 1 "_law_side" sp_side) :
    FnOk P w K mg base (L2.CX P w) (1 + 1) f fd ["_law_terms_here", "_law_rolls"] sp_laid := by
  refine okT F sc__law_laid (fun vs H Q E h => ?_) (fun cdv A outer s H vs Q E hr tk h => ?_)
  · obtain ⟨t, l, xs, ys, ts, S, rfl, _⟩ := h
    rfl
  obtain ⟨t, l, xs, ys, ts, S, rfl, h1, p1, h2, p2, hS, hf, k⟩ := h
  have f1 := T.i1; have f2 := T.i2; have f3 := T.i3; have f4 := T.i4; have f6 := T.cl; have f7 := T.nT; have f13 := T.ek; have f14 := T.exm; have f15 := T.k1; have f16 := T.k2; have f17 := T.k3
  refine ⟨_, (pss_cons (ps_set (i := 2) sc__law_laid.nd rfl (Or.inl rfl) (pe_lst pa_nil))
      (pss_cons (ps_for (passes_of rfl) rfl (pi_list (pv 1)) (pg_name (i := 3) sc__law_laid.nd rfl (Or.inl rfl)) (pss_cons (ps_set (i := 4) sc__law_laid.nd rfl (Or.inl rfl) pe_int)
      (pss_cons (ps_for (passes_of rfl) rfl (pi_list (pv 2)) (pg_name (i := 5) sc__law_laid.nd rfl (Or.inl rfl)) (pss_one (ps_if (pt_cmpR op_le (c_call c__law_side tk hr (by decide) (pa_cons (pv 0) (pa_cons (pv 5) (pa_cons (pv 3) pa_nil)))) pe_int (nomark _)) (pss_one (ps_set (i := 4) sc__law_laid.nd rfl (Or.inl rfl) (pe_op op_add (pv 4) pe_int))) pss_nil)))
      (pss_one (ps_expr (pe_bm PySem.F.plainAttrs_list PySem.F.slot_list_insert PySem.F.type_list_insert mt_insert0 (pv 2) (pa_cons (pv 4) (pa_cons (pv 3) pa_nil))))))))
      (pss_one (ps_ret (pv 2))))), ?_⟩
  simp only [cxK, st__law_laid]
  have M : Mem H [] H [] [] := mem_start (by simp []) (by simp) (by simp)
  have hyl := p2.1
  walk_at "go"
  rename_i p0 H0 M0
  have h20 := M0.atB0 h2
  walk_at "go"
  refine lst_loop (xs := ys) ⟨fun i σ' H' => ∃ (zs : List V) (S' : List (List Int)) (v3 v4 v5 : Option V), σ' = [some (.ref t), some (.ref l), some (.ref p0), v3, v4, v5] ∧ Mem H [] H' [] [(p0, .lst zs)] ∧ Rws H zs S' ∧ (∀ r ∈ S', r ∈ S) ∧ S'.length = i, ?_, ?_, ?_, ?_⟩
  · exact ⟨[], [], _, _, _, rfl, M0, PX.nil, (fun r h => nomatch h), rfl⟩
  · rintro i σ' H' _ ⟨_, _, _, _, _, _, M', _⟩
    exact SqL.of (M'.atB0 h2)
  · rintro i x σ' H' hx ⟨zs, S', v3, v4, v5, rfl, M', pz, hsub, hl'⟩
    obtain ⟨b, pb, hb, rfl, hpb⟩ := p2.get hx
    have hil := (List.getElem?_eq_some_iff.mp hx).1
    have hzl := pz.1
    have hfb := hf b (List.mem_of_getElem? hb)
    have hpb' := M'.atB0 hpb
    walk_at "go"
    refine lst_loop (xs := zs) ⟨fun j σ' H2 => ∃ (n : Int) (v5 : Option V), σ' = [some (.ref t), some (.ref l), some (.ref p0), some (.ref pb), some (.int n), v5] ∧ H2 = H' ∧ 0 ≤ n ∧ n ≤ j, ?_, ?_, ?_, ?_⟩
    · exact ⟨_, _, rfl, rfl, by omega, by omega⟩
    · rintro j σ' H2 _ ⟨_, _, _, rfl, _⟩
      exact SqL.of (M'.getL List.mem_cons_self)
    · rintro j y σ' H2 hy ⟨n, v5, rfl, rfl, hn0, hn1⟩
      obtain ⟨a, pa, ha, rfl, hpa⟩ := pz.get hy
      have hfa := hf a (hsub a (List.mem_of_getElem? ha))
      walk_at "go"
      refine use_side (M'.atB0 h1) (p1.same (Same.of_keep M')) (M'.atB0 hpa) hpb' hfa hfb ?_
      walk_at "go"
      · exact ⟨_, _, rfl, rfl, by omega, by omega⟩
      · exact ⟨_, _, rfl, rfl, by omega, by omega⟩
    · rintro σ' H2 ⟨n, v5, rfl, rfl, hn0, hn1⟩
      walk_at "go"
      refine k_insert M' (Nat.lt_of_le_of_lt (m := 50000) (by omega) (by decide)) hn0 (by omega) fun H3 M3 => ?_
      walk_at "go"
      refine ⟨_, S'.take n.toNat ++ [b] ++ S'.drop n.toNat, _, _, _, rfl, M3, ((pz.take _).append (PX.one hpb)).append (pz.drop _), fun r hr => ?_, ?_⟩
      · rcases List.mem_append.mp hr with h | h
        · rcases List.mem_append.mp h with h | h
          · exact hsub r (List.mem_of_mem_take h)
          · rw [List.mem_singleton.mp h]; exact List.mem_of_getElem? hb
        · exact hsub r (List.mem_of_mem_drop h)
      · simp only [List.length_append, List.length_take, List.length_drop, List.length_cons, List.length_nil]
        omega
  · rintro σ' H' ⟨zs, S', v3, v4, v5, rfl, M', pz, hsub, hl'⟩
    walk_at "go"
    exact k p0 zs S' H' M' pz hsub (by omega)
theorem use_laid {B H : Hp} {ms : List Addr} {f l : List (Addr × HO)} {Q : VK} {E : XK} {t a : Addr} {xs ys : List V} {ts : List Pr} {S : List (List Int)} (M : Mem B ms H f l) (h1 : H t = some (.lst xs)) (p1 : Prs H xs ts) (h2 : H a = some (.lst ys)) (p2 : Rws H ys S) (hs : S.length ≤ 19) (hf : ∀ r ∈ S, Fit ts r)
    (k : ∀ d zs S' H', Mem B ms H' f ((d, .lst zs) :: l) → Rws H zs S' → (∀ r ∈ S', r ∈ S) → S'.length = S.length → Q (.ref d) H') : sp_laid [.ref t, .ref a] H Q E :=
  ⟨t, a, xs, ys, ts, S, rfl, h1, p1, h2, p2, hs, hf, fun d zs S' H' M2 a1 a2 a3 => k d zs S' H' (M.comp0 M2) a1 a2 a3⟩
abbrev ArMv (bg : Addr) (as : List V) (H : Hp) : Prop := ∃ (l : Addr) (ys : List V) (S : List (List Int)), as = [.ref l] ∧ l ≠ bg ∧ H l = some (.lst ys) ∧ Rws H ys S ∧ S.length ≤ 17
def RMv (as : List V) (H : Hp) (v : V) (l2 : List (Addr × HO)) : Prop := ∃ (d : Addr) (zs : List V) (S' : List (List Int)), v = .ref d ∧ l2 = [(d, .lst zs)] ∧ Rws H zs S' ∧ S'.length ≤ 19 ∧ ∀ (l : Addr) (ys : List V) (S : List (List Int)), as = [.ref l] → H l = some (.lst ys) → Rws H ys S → ∀ r ∈ S', r ∈ S
theorem k_revSl {B H : Hp} {ms : List Addr} {f l : List (Addr × HO)} {σ : L2.St} {Q : VK} {te : TE} (h : te σ H fun x H1 => ∃ a xs, x = .ref a ∧ SqL K H1 a xs ∧ ∀ p, H1 p = none → Q (.ref p) (upd H1 p (.lst xs.reverse))) : tRevL K te σ H Q := h
theorem ok_moved {f : Addr} {fd : FuncData} (F : Fun K "_law_moved" "_law_moved" s__law_moved f fd) (T : Txt P K mg C CR fR CN fN CA CU CT CI) (c__law_take : Cal P w K mg base 1 "_law_take" sp_take) :
    FnOk P w K mg base (L2.CX P w) (1 + 1) f fd ["_law_bag", "_law_laid_here"] (sp_bag ArMv RMv) := by
  refine okT F sc__law_moved (fun vs H Q E h => ?_) (fun cdv A outer s H vs Q E hr tk h => ?_)
  · obtain ⟨bg, fl, n, c, as, rfl, ⟨l, ys, S, rfl, _⟩, _⟩ := h
    rfl
  obtain ⟨bg, fl, n, c, as, rfl, ⟨l, ys, S, rfl, hne, h2, p2, hS⟩, h1, hc0, hc1, k⟩ := h
  have f1 := T.i1; have f2 := T.i2; have f3 := T.i3; have f4 := T.i4; have f6 := T.cl; have f7 := T.nT; have f13 := T.ek; have f14 := T.exm; have f15 := T.k1; have f16 := T.k2; have f17 := T.k3
  refine ⟨_, (pss_cons (ps_set (i := 2) sc__law_moved.nd rfl (Or.inl rfl) (c_call c__law_take tk hr (by decide) (pa_cons (pv 0) (pa_cons pe_int pa_nil))))
      (pss_cons (ps_set (i := 3) sc__law_moved.nd rfl (Or.inl rfl) (pe_callTy b_listOf (by rfl) T.b_list (by decide +kernel) (pa_cons (pv 1) pa_nil)))
      (pss_cons (ps_if (pt_cmpR (op_eqD hr.units) (pv 3) (pe_lst pa_nil) (nomark _)) (pss_one (ps_ret (pv 3))) pss_nil)
      (pss_cons (ps_if (pt_cmpR op_eq (pv 2) pe_int (nomark _)) (pss_one (ps_ret (pe_revL (pv 3)))) pss_nil)
      (pss_cons (ps_for (passes_of rfl) rfl (pi_range1 (by rfl) T.b_range (pa_cons (pe_ix ix_list (pe_lst (pa_cons pe_int (pa_cons pe_int (pa_cons pe_int (pa_cons pe_int (pa_cons pe_int pa_nil)))))) (pv 2) (fun _ _ => rfl)) pa_nil)) (pg_name (i := 4) sc__law_moved.nd rfl (Or.inl rfl)) (pss_cons (ps_set (i := 5) sc__law_moved.nd rfl (Or.inl rfl) (c_call c__law_take tk hr (by decide) (pa_cons (pv 0) (pa_cons (pe_callB b_len (by rfl) T.b_len (by decide +kernel) (pa_cons (pv 3) pa_nil)) pa_nil))))
      (pss_cons (ps_set (i := 6) sc__law_moved.nd rfl (Or.inl rfl) (pe_ix ix_list (pv 3) (pv 5) (fun _ _ => rfl)))
      (pss_cons (ps_if (pt_cmpR op_lt (pv 2) pe_int (nomark _)) (pss_one (ps_expr (pe_bm PySem.F.plainAttrs_list PySem.F.slot_list_pop PySem.F.type_list_pop mt_popAt (pv 3) (pa_cons (pv 5) pa_nil)))) pss_nil)
      (pss_one (ps_expr (pe_bm PySem.F.plainAttrs_list PySem.F.slot_list_insert PySem.F.type_list_insert mt_insert0 (pv 3) (pa_cons (pe_op op_mod (pe_callTy b_int (by rfl) T.b_int (by decide +kernel) (pa_cons (pe_op op_add (pe_op op_add (pv 5) pe_int) (c_call c__law_take tk hr (by decide) (pa_cons (pv 0) (pa_cons (pe_callB b_len (by rfl) T.b_len (by decide +kernel) (pa_cons (pv 1) pa_nil)) pa_nil)))) pa_nil)) (pe_callB b_len (by rfl) T.b_len (by decide +kernel) (pa_cons (pv 1) pa_nil))) (pa_cons (pv 6) pa_nil)))))))))
      (pss_one (ps_ret (pv 3)))))))), ?_⟩
  simp only [cxK, st__law_moved]
  have M : Mem H [bg] H [(bg, bagO fl n c), (l, .lst ys)] [] := mem_start (by simp [h1, h2]) (by simp [Ne.symm hne]) (by simp)
  have hyl := p2.1
  have hinj : ∀ {ys' : List V} {S' : List (List Int)}, H l = some (.lst ys') → Rws H ys' S' → ∀ r ∈ S, r ∈ S' := fun {ys' S'} e p r hr => by
    rw [h2] at e
    cases e
    obtain ⟨i, hi, er⟩ := List.mem_iff_getElem.mp hr
    have hr' := List.getElem?_eq_getElem hi
    rw [er] at hr'
    obtain ⟨q, eq, hq⟩ := p2.2 i _ r (List.getElem?_eq_getElem (by rw [hyl]; exact hi)) hr'
    obtain ⟨r2, q2, h3, e3, hq2⟩ := p.get (List.getElem?_eq_getElem (show i < ys.length by rw [hyl]; exact hi))
    rw [eq] at e3
    cases e3
    rw [hq] at hq2
    have e4 := HO.tup.inj (Option.some.inj hq2)
    have e5 : r = r2 := by
      have : ∀ (a b : List Int), a.map V.int = b.map V.int → a = b := fun a b h => List.map_inj_right (fun x y e => V.int.inj e) |>.mp h
      exact this _ _ e4
    rw [e5]
    exact List.mem_of_getElem? h3
  walk_at "go"
  rename_i kd n1 c1 H1 a1 a2 a3 a4 M1 d H2 M2 e0 H3 M3
  have hkeep : ∀ {H' : Hp} {f' l' : List (Addr × HO)} {zs : List V} {S' : List (List Int)}, Mem H [bg] H' f' l' → Rws H zs S' → Rws H' zs S' := fun {H' f' l' zs S'} M' p => p.mono fun q r e => M'.keep _ _ e (fun z => by
    rw [List.mem_singleton] at z
    rw [z, h1] at e
    cases e)
  have hfin : ∀ {H' : Hp} {dd : Addr} {zs : List V} {S' : List (List Int)} {n' c' : Int} {l' : List (Addr × HO)}, Mem H [bg] H' [(bg, bagO fl n' c'), (l, .lst ys)] ((dd, .lst zs) :: l') → Rws H zs S' → S'.length ≤ 19 → (∀ r ∈ S', r ∈ S) → 0 ≤ c' → c' ≤ c + 100 → Q (.ref dd) H' := fun {H' dd zs S' n' c' l'} M' p hl hsub b1 b2 =>
    k _ _ _ _ _ ⟨dd, zs, S', rfl, rfl, p, hl, fun l3 ys3 S3 e3 h3 p3 r hr => by cases e3; exact hinj h3 p3 r (hsub r hr)⟩ b1 b2 M'.one.dropF
  refine k_eqNil (SqL.of (M3.getL (List.mem_cons_of_mem _ List.mem_cons_self))) (M3.getL List.mem_cons_self) (hkeep M3 p2).dp (rd_shaped S) ?_
  by_cases hy0 : ys.length = 0
  · have e : ys.isEmpty = true := by rw [List.isEmpty_iff]; exact List.eq_nil_of_length_eq_zero hy0
    rw [e]
    walk_at "go"
    exact hfin M3.front1 p2 (by omega) (fun r hr => hr) a3 (by omega)
  have e : ys.isEmpty = false := by
    cases ys with
    | nil => exact absurd rfl hy0
    | cons y ys => rfl
  rw [e]
  walk_at "go"
  · refine k_revSl (B := H) (ms := [bg]) (f := []) (l := []) ?_
    walk_at "go"
    refine ⟨d, ys, rfl, SqL.of (M3.getL (List.mem_cons_of_mem _ List.mem_cons_self)), fun q hq => ?_⟩
    exact hfin (M3.alloc hq) p2.reverse (by rw [List.length_reverse]; omega) (fun r hr => List.mem_reverse.mp hr) a3 (by omega)
  rename_i hk3 ls H4 M4
  refine' k_ixAll (R := fun n => 0 ≤ n ∧ n ≤ 2) ?k1 ?k2 ?k3 ?k4 ?_
  case k1 => walk_at "hp"
  case k2 => omega
  case k3 => simp; omega
  case k4 =>
    intro v hv
    simp only [List.mem_cons, List.not_mem_nil, or_false] at hv
    rcases hv with rfl | rfl | rfl | rfl | rfl <;> exact ⟨_, rfl, by omega, by omega⟩
  rintro m ⟨hm0, hm2⟩
  walk_at "go"
  refine rng_loop ⟨fun i σ' H' => ∃ (zs : List V) (S' : List (List Int)) (l' : List (Addr × HO)) (v4 v5 v6 : Option V) (n' c' : Int), σ' = [some (.ref bg), some (.ref l), some (.int kd), some (.ref d), v4, v5, v6] ∧ Mem H [bg] H' [(bg, bagO fl n' c'), (l, .lst ys)] ((d, .lst zs) :: l') ∧ Rws H zs S' ∧ (∀ r ∈ S', r ∈ S) ∧ 1 ≤ S'.length ∧ S'.length ≤ S.length + i ∧ 0 ≤ c' ∧ c' ≤ c + 1 + 2 * i, ?_, ?_, ?_⟩
  · exact ⟨ys, S, _, _, _, _, _, _, rfl, M4.front2, p2, fun r hr => hr, by omega, by omega, a3, by omega⟩
  · rintro i σ' H' hi ⟨zs, S', l', v4, v5, v6, n', c', rfl, M', pz, hsub, hl1, hl2, hc0', hc1'⟩
    have hzl := pz.1
    walk_at "go"
    rename_i d5 n5 c5 H5 b1 b2 b3 b4 M5
    have hd5 : d5.toNat < zs.length := by omega
    obtain ⟨r5, q5, hr5, e5, hq5⟩ := pz.get (List.getElem?_eq_getElem hd5)
    have hat5 : atI zs d5 = some (.ref q5) := by
      rw [show d5 = ((d5.toNat : Nat) : Int) by omega, ← e5]
      exact MyL.atI_nat (List.getElem?_eq_getElem hd5)
    walk_at "go"
    · refine k_popAt M5 b1 (by omega) (by omega) (List.getElem?_eq_getElem hd5) fun H6 M6 => ?_
      have hel : (zs.eraseIdx d5.toNat).length = zs.length - 1 := List.length_eraseIdx_of_lt hd5
      have hel2 : (S'.eraseIdx d5.toNat).length = S'.length - 1 := List.length_eraseIdx_of_lt (by omega)
      walk_at "go"
      rename_i d7 n7 c7 H7 g1 g2 g3 g4 M7
      have hq0 := Int.emod_nonneg (d5 + 1 + d7) (show (ys.length : Int) ≠ 0 by omega)
      have hq1 := Int.emod_lt_of_pos (d5 + 1 + d7) (show 0 < (ys.length : Int) by omega)
      refine k_insert M7 (Nat.lt_of_le_of_lt (m := 50000) (by omega) (by decide)) hq0 (by omega) fun H8 M8 => ?_
      walk_at "go"
      refine ⟨_, (S'.eraseIdx d5.toNat).take ((d5 + 1 + d7) % (ys.length : Int)).toNat ++ [r5] ++ (S'.eraseIdx d5.toNat).drop ((d5 + 1 + d7) % (ys.length : Int)).toNat, _, _, _, _, _, _, rfl, M8, (((pz.erase _).take _).append (PX.one hq5)).append ((pz.erase _).drop _), fun r hr => ?_, ?_, ?_, g3, by omega⟩
      · rcases List.mem_append.mp hr with h | h
        · rcases List.mem_append.mp h with h | h
          · exact hsub r ((List.eraseIdx_sublist _ _).subset (List.mem_of_mem_take h))
          · rw [List.mem_singleton.mp h]; exact hsub _ (List.mem_of_getElem? hr5)
        · exact hsub r ((List.eraseIdx_sublist _ _).subset (List.mem_of_mem_drop h))
      · simp only [List.length_append, List.length_take, List.length_drop, List.length_cons, List.length_nil]
        omega
      · simp only [List.length_append, List.length_take, List.length_drop, List.length_cons, List.length_nil]
        omega
    · rename_i d7 n7 c7 H7 g1 g2 g3 g4 M7
      have hq0 := Int.emod_nonneg (d5 + 1 + d7) (show (ys.length : Int) ≠ 0 by omega)
      have hq1 := Int.emod_lt_of_pos (d5 + 1 + d7) (show 0 < (ys.length : Int) by omega)
      refine k_insert M7 (Nat.lt_of_le_of_lt (m := 50000) (by omega) (by decide)) hq0 (by omega) fun H8 M8 => ?_
      walk_at "go"
      refine ⟨_, S'.take ((d5 + 1 + d7) % (ys.length : Int)).toNat ++ [r5] ++ S'.drop ((d5 + 1 + d7) % (ys.length : Int)).toNat, _, _, _, _, _, _, rfl, M8, ((pz.take _).append (PX.one hq5)).append (pz.drop _), fun r hr => ?_, ?_, ?_, g3, by omega⟩
      · rcases List.mem_append.mp hr with h | h
        · rcases List.mem_append.mp h with h | h
          · exact hsub r (List.mem_of_mem_take h)
          · rw [List.mem_singleton.mp h]; exact hsub _ (List.mem_of_getElem? hr5)
        · exact hsub r (List.mem_of_mem_drop h)
      · simp only [List.length_append, List.length_take, List.length_drop, List.length_cons, List.length_nil]
        omega
      · simp only [List.length_append, List.length_take, List.length_drop, List.length_cons, List.length_nil]
        omega
  · rintro σ' H' ⟨zs, S', l', v4, v5, v6, n', c', rfl, M', pz, hsub, hl1, hl2, hc0', hc1'⟩
    walk_at "go"
    exact hfin M' pz (by omega) hsub hc0' (by omega)
def sp_pairsare : Sp := fun vs H Q _ => ∃ (a b : Addr) (xs ys : List V) (cs : List Pr), vs = [.ref a, .ref b] ∧ H a = some (.lst xs) ∧ H b = some (.lst ys) ∧ Prs H xs cs ∧ Prs H ys cs ∧ xs.length ≤ 50000 ∧ Q (.bl true) H
theorem ok_pairsare {f : Addr} {fd : FuncData} (F : Fun K "_law_pairs_are" "_law_pairs_are" s__law_pairs_are f fd) (T : Txt P K mg C CR fR CN fN CA CU CT CI) (q__law_integer : CalQ P w K mg base 1 "_law_integer" sp_isn) :
    FnOk P w K mg base (L2.CX P w) (1 + 1) f fd ["_law_told", "_law_due"] sp_pairsare := by
  refine okT F sc__law_pairs_are (fun vs H Q E h => ?_) (fun cdv A outer s H vs Q E hr tk h => ?_)
  · obtain ⟨a, b, xs, ys, cs, rfl, _⟩ := h
    rfl
  obtain ⟨a, b, xs, ys, cs, rfl, h1, h2, p1, p2, hl, k⟩ := h
  have f1 := T.i1; have f2 := T.i2; have f3 := T.i3; have f4 := T.i4; have f6 := T.cl; have f7 := T.nT; have f13 := T.ek; have f14 := T.exm; have f15 := T.k1; have f16 := T.k2; have f17 := T.k3
  refine ⟨_, (pss_cons (ps_if (PW.pt (pw_or (pt_not (pt_val (pe_callB call_isi (by rfl) T.b_isinstance (by decide +kernel) (pa_cons (pv 0) (pa_cons (g_ty (n := "list") T.b_list (by decide +kernel)) pa_nil))))) (pw_or1 (pt_cmpR op_ne (pe_callB b_len (by rfl) T.b_len (by decide +kernel) (pa_cons (pv 0) pa_nil)) (pe_callB b_len (by rfl) T.b_len (by decide +kernel) (pa_cons (pv 1) pa_nil)) (nomark _))))) (pss_one (ps_ret pe_bl)) pss_nil)
      (pss_cons (ps_for (passes_of rfl) rfl (pi_range1 (by rfl) T.b_range (pa_cons (pe_callB b_len (by rfl) T.b_len (by decide +kernel) (pa_cons (pv 1) pa_nil)) pa_nil)) (pg_name (i := 2) sc__law_pairs_are.nd rfl (Or.inl rfl)) (pss_cons (ps_set (i := 3) sc__law_pairs_are.nd rfl (Or.inl rfl) (pe_ix ix_list (pv 0) (pv 2) (fun _ _ => rfl)))
      (pss_cons (ps_if (PW.pt (pw_or (pt_not (pt_val (pe_callB call_isi (by rfl) T.b_isinstance (by decide +kernel) (pa_cons (pv 3) (pa_cons (g_ty (n := "tuple") T.b_tuple (by decide +kernel)) pa_nil))))) (pw_or (pt_cmpR op_ne (pe_callB b_len (by rfl) T.b_len (by decide +kernel) (pa_cons (pv 3) pa_nil)) pe_int (nomark _)) (pw_or1 (pt_cmpR (op_neD hr.units) (pv 3) (pe_ix ix_list (pv 1) (pv 2) (fun _ _ => rfl)) (nomark _)))))) (pss_one (ps_ret pe_bl)) pss_nil)
      (pss_one (ps_if (PW.pt (pw_or (pt_not (pt_val (q_call q__law_integer (L2H.roomH_of hr) (by decide) (pa_cons (pe_ix ix_tup (pv 3) pe_int (fun _ _ => rfl)) pa_nil)))) (pw_or1 (pt_not (pt_val (q_call q__law_integer (L2H.roomH_of hr) (by decide) (pa_cons (pe_ix ix_tup (pv 3) pe_int (fun _ _ => rfl)) pa_nil))))))) (pss_one (ps_ret pe_bl)) pss_nil)))))
      (pss_one (ps_ret pe_bl)))), ?_⟩
  simp only [cxK, st__law_pairs_are]
  have e1 := p1.1
  have e2 := p2.1
  walk_at "go"
  refine rng_loop ⟨fun i σ' H' => ∃ v w : Option V, σ' = [some (.ref a), some (.ref b), v, w] ∧ H' = H, ?_, ?_, ?_⟩
  · exact ⟨_, _, rfl, rfl⟩
  · rintro i σ' H' hi ⟨v, w, rfl, rfl⟩
    have hil : i < ys.length := by simpa using hi
    obtain ⟨c, q, hc, eq, hq⟩ := p2.get (List.getElem?_eq_getElem hil)
    obtain ⟨c', p, hc', ep, hp⟩ := p1.get (List.getElem?_eq_getElem (show i < xs.length by omega))
    rw [hc] at hc'
    cases hc'
    have hat1 : atI xs (0 + (i : Int)) = some (.ref p) := by rw [← ep]; exact atI_nat0 (List.getElem?_eq_getElem _)
    have hat2 : atI ys (0 + (i : Int)) = some (.ref q) := by rw [← eq]; exact atI_nat0 (List.getElem?_eq_getElem _)
    walk_at "go"
    all_goals first
      | (rename_i hc2; exact absurd rfl hc2)
      | skip
    rw [decide_eq_true rfl, decide_eq_true rfl, Bool.and_self]
    walk_at "go"
    exact ⟨_, _, rfl, rfl⟩
  · rintro σ' H' ⟨v, w, rfl, rfl⟩
    walk_at "go"
    exact k
theorem use_pairsare {H : Hp} {Q : VK} {E : XK} {a b : Addr} {xs ys : List V} {cs : List Pr} (h1 : H a = some (.lst xs)) (h2 : H b = some (.lst ys)) (p1 : Prs H xs cs) (p2 : Prs H ys cs) (hl : xs.length ≤ 50000) (k : Q (.bl true) H) : sp_pairsare [.ref a, .ref b] H Q E := ⟨a, b, xs, ys, cs, rfl, h1, h2, p1, p2, hl, k⟩
def sp_numsare : Sp := fun vs H Q _ => ∃ (a b : Addr) (ns : List Int), vs = [.ref a, .ref b] ∧ H a = some (.lst (ns.map V.int)) ∧ H b = some (.lst (ns.map V.int)) ∧ ns.length ≤ 50000 ∧ Q (.bl true) H
theorem ok_numsare {f : Addr} {fd : FuncData} (F : Fun K "_law_numbers_are" "_law_numbers_are" s__law_numbers_are f fd) (T : Txt P K mg C CR fR CN fN CA CU CT CI) (q__law_integer : CalQ P w K mg base 1 "_law_integer" sp_isn) :
    FnOk P w K mg base (L2.CX P w) (1 + 1) f fd ["_law_told", "_law_due"] sp_numsare := by
  refine okT F sc__law_numbers_are (fun vs H Q E h => ?_) (fun cdv A outer s H vs Q E hr tk h => ?_)
  · obtain ⟨a, b, ns, rfl, _⟩ := h
    rfl
  obtain ⟨a, b, ns, rfl, h1, h2, hl, k⟩ := h
  have f1 := T.i1; have f2 := T.i2; have f3 := T.i3; have f4 := T.i4; have f6 := T.cl; have f7 := T.nT; have f13 := T.ek; have f14 := T.exm; have f15 := T.k1; have f16 := T.k2; have f17 := T.k3
  refine ⟨_, (pss_cons (ps_if (PW.pt (pw_or (pt_not (pt_val (pe_callB call_isi (by rfl) T.b_isinstance (by decide +kernel) (pa_cons (pv 0) (pa_cons (g_ty (n := "list") T.b_list (by decide +kernel)) pa_nil))))) (pw_or1 (pt_cmpR op_ne (pe_callB b_len (by rfl) T.b_len (by decide +kernel) (pa_cons (pv 0) pa_nil)) (pe_callB b_len (by rfl) T.b_len (by decide +kernel) (pa_cons (pv 1) pa_nil)) (nomark _))))) (pss_one (ps_ret pe_bl)) pss_nil)
      (pss_cons (ps_for (passes_of rfl) rfl (pi_range1 (by rfl) T.b_range (pa_cons (pe_callB b_len (by rfl) T.b_len (by decide +kernel) (pa_cons (pv 1) pa_nil)) pa_nil)) (pg_name (i := 2) sc__law_numbers_are.nd rfl (Or.inl rfl)) (pss_one (ps_if (PW.pt (pw_or (pt_not (pt_val (q_call q__law_integer (L2H.roomH_of hr) (by decide) (pa_cons (pe_ix ix_list (pv 0) (pv 2) (fun _ _ => rfl)) pa_nil)))) (pw_or1 (pt_cmpR op_ne (pe_ix ix_list (pv 0) (pv 2) (fun _ _ => rfl)) (pe_ix ix_list (pv 1) (pv 2) (fun _ _ => rfl)) (nomark _))))) (pss_one (ps_ret pe_bl)) pss_nil)))
      (pss_one (ps_ret pe_bl)))), ?_⟩
  simp only [cxK, st__law_numbers_are]
  walk_at "go"
  refine rng_loop ⟨fun i σ' H' => ∃ v : Option V, σ' = [some (.ref a), some (.ref b), v] ∧ H' = H, ?_, ?_, ?_⟩
  · exact ⟨_, rfl, rfl⟩
  · rintro i σ' H' hi ⟨v, rfl, rfl⟩
    have hil : i < ns.length := by simpa using hi
    walk_at "go"
    exact ⟨_, rfl, rfl⟩
  · rintro σ' H' ⟨v, rfl, rfl⟩
    walk_at "go"
    exact k
theorem use_numsare {H : Hp} {Q : VK} {E : XK} {a b : Addr} {ns : List Int} (h1 : H a = some (.lst (ns.map V.int))) (h2 : H b = some (.lst (ns.map V.int))) (hl : ns.length ≤ 50000) (k : Q (.bl true) H) : sp_numsare [.ref a, .ref b] H Q E := ⟨a, b, ns, rfl, h1, h2, hl, k⟩
end
end K32

set_option Elab.async false
set_option linter.all false
set_option maxRecDepth 100000
set_option maxHeartbeats 8000000
namespace K32
open PySem L2 MyL
local macro_rules | `(tactic| walk_at "mem") => `(tactic| first | exact List.mem_cons_self | (refine List.mem_cons_of_mem _ ?_; walk_at "mem"))
local macro_rules | `(tactic| walk_at "hp") => `(tactic| first | assumption | (refine' Mem.getL ?k1 ?k2; (case k1 => assumption); (case k2 => walk_at "mem")) | (refine' Mem.getF ?k1 ?k2; (case k1 => assumption); (case k2 => walk_at "mem")) | (refine' Mem.atB ?k1 ?k2; (case k1 => assumption); (case k2 => assumption)))
local macro_rules | `(tactic| walk_at "cond") => `(tactic| first | omega | assumption | exact mulR (by omega) (by omega) | exact mulL (by omega) (by omega) | exact divW (by omega) (by omega) | decide)
local macro_rules | `(tactic| walk_at "look") => `(tactic| first | assumption | with_unfolding_all rfl | exact atI_map (by omega) (by omega))
local macro_rules | `(tactic| walk_at "go1") => `(tactic| with_reducible first
  | refine k_seq ?_ | refine k_gName ?_ | refine k_asg ?_ | refine k_ret ?_ | refine k_ifS ?_ | refine k_drop ?_ | refine k_next ?_ | refine k_break ?_ | refine k_cont ?_ | refine k_retN ?_
  | (refine' k_var ?k1 ?_; (case k1 => with_unfolding_all rfl)) | refine k_c ?_ | refine k_op ?_ | refine k_un ?_ | refine k_test ?_ | refine k_B ?_ | refine k_bl ?_ | refine k_and ?_ | refine k_or ?_ | refine k_not ?_
  | refine k_andV ?_ | refine k_orV ?_ | refine k_notV ?_ | refine k_ifE ?_ | refine k_nil ?_ | refine k_cons ?_ | refine k_cb ?_ | refine k_callS ?_ | refine k_lst0 ?_ | refine k_tup0 ?_ | refine k_fld0 ?_ | refine k_sub0 ?_ | refine k_make0 ?_ | refine k_prop0 ?_ | refine k_sta0 ?_ | refine k_sta ?_ | refine k_bm ?_ | refine k_bm0 ?_ | refine k_chain ?_ | refine k_makeK0 ?_ | refine k_swapK ?_ | refine k_meth0 ?_ | refine k_ownN0 ?_ | refine k_ownO0 ?_ | refine k_sfld0 ?_ | refine k_jnil ?_ | refine k_jcons ?_ | refine k_fmt0 ?_ | refine k_sl0 ?_ | refine k_nopart ?_ | refine k_part ?_ | refine k_forR1 ?_ | refine k_forR2 ?_ | refine k_forL ?_ | refine k_forT ?_ | refine k_lcR1 ?_ | refine k_lcR2 ?_ | refine k_lcL ?_ | refine k_lcT ?_ | refine k_err0 ?_ | refine k_xf0 ?_ | refine k_errQ1 ?_ | refine k_errQ0 ?_ | refine k_errQ2 ?_ | refine k_errQ3 ?_
  | refine k_I0 ?_ | (refine k_I ?k1 ?_; (case k1 => walk_at "cond")) | refine k_U ?_ | refine k_eqI ?_ | refine k_neI ?_ | refine k_eqB ?_ | refine k_neB ?_ | refine k_eqS ?_ | refine k_neS ?_
  | refine k_int1 ?_ | refine k_abs1 ?_ | refine k_min2 ?_ | refine k_max2 ?_
  | (refine' k_lenM ?k1 ?_; (case k1 => walk_at "hp")) | (refine' k_lenL ?k1 ?_; (case k1 => walk_at "hp")) | (refine' k_lenT ?k1 ?_; (case k1 => walk_at "hp"))
  | (refine' k_lenS ?k1 ?_; (case k1 => assumption)) | (refine' k_ixS ?k1 ?k2 ?_; (case k1 => assumption); (case k2 => walk_at "look"))
  | (refine' k_ixL ?k1 ?k2 ?_; (case k1 => walk_at "hp"); (case k2 => walk_at "look")) | (refine' k_ixT ?k1 ?k2 ?_; (case k1 => walk_at "hp"); (case k2 => walk_at "look"))
  | (refine' k_ix4 ?k1 ?k2 ?k3 ?_; (case k1 => walk_at "hp"); (case k2 => omega); (case k3 => omega); intro n' hn')
  | (refine' k_ix3 ?k1 ?k2 ?k3 ?_; (case k1 => walk_at "hp"); (case k2 => omega); (case k3 => omega); intro n' hn')
  | (refine' k_ix2 ?k1 ?k2 ?k3 ?_; (case k1 => walk_at "hp"); (case k2 => omega); (case k3 => omega); intro n' hn')
  | (refine' k_fld ?k1 ?k2 ?k3 ?k4 ?_; (case k1 => walk_at "hp"); (case k2 => assumption); (case k3 => assumption); (case k4 => walk_at "fld"))
  | (refine' k_lst ?k1 ?k2 ?_; (case k1 => assumption); (case k2 => exact sz (by simp)); intro p' H' M')
  | (refine' k_tup ?k1 ?k2 ?_; (case k1 => assumption); (case k2 => exact sz (by simp)); intro p' H' M')
  | (refine' k_setF0 ?k1 ?k2 ?k3 ?_; (case k1 => assumption); (case k2 => simp); (case k3 => with_unfolding_all rfl); intro H' M'; try simp only [Int.reduceToNat, List.set_cons_succ, List.set_cons_zero] at M')
  | (refine' k_setL0 ?k1 ?k2 ?_; (case k1 => assumption); (case k2 => with_unfolding_all rfl); intro H' M'; try simp only [Int.reduceToNat, List.set_cons_succ, List.set_cons_zero] at M')
  | (refine' k_setL1 ?k1 ?k2 ?_; (case k1 => assumption); (case k2 => with_unfolding_all rfl); intro H' M'; try simp only [Int.reduceToNat, List.set_cons_succ, List.set_cons_zero] at M')
  | (refine' k_setL2 ?k1 ?k2 ?_; (case k1 => assumption); (case k2 => with_unfolding_all rfl); intro H' M'; try simp only [Int.reduceToNat, List.set_cons_succ, List.set_cons_zero] at M')
  | refine iteT ?_ | refine iteF ?_ | refine k_iteNE ?_ | refine k_iteNS ?_ | refine k_iteNT ?_ | refine k_iteNF ?_
  | (refine k_iteD ?_ ?_ <;> intro hc <;> first | (exfalso; omega) | skip)
  | (refine k_iteN ?_ ?_ <;> intro hc <;> first | (exfalso; omega) | skip)
  | (refine' k_ownN ?k1 ?_; (case k1 => walk_at "hp")) | (refine' k_ownO ?k1 ?k2 ?_; (case k1 => walk_at "hp"); (case k2 => walk_at "hp")) | (refine' k_ownEq ?k1 ?k2 ?_; (case k1 => walk_at "hp"); (case k2 => walk_at "hp"))
  | (refine' k_ownIn ?k1 ?_; (case k1 => walk_at "hp")) | (refine' k_ownU ?k1 ?_; (case k1 => walk_at "hp")) | (refine' k_ownStr ?k1 ?_; (case k1 => walk_at "hp"))
  | (refine' k_prop ?k1 ?_; (case k1 => walk_at "hp")) | (refine' k_ownNe ?k1 ?k2 ?_; (case k1 => walk_at "hp"); (case k2 => walk_at "hp")) | (refine' k_eqP ?k1 ?k2 ?_; (case k1 => walk_at "hp"); (case k2 => walk_at "hp")) | (refine' k_neP ?k1 ?k2 ?_; (case k1 => walk_at "hp"); (case k2 => walk_at "hp"))
  | (refine' k_isiO ?k1 ?k2 ?k3 ?k4 ?k5 ?k6 ?_; (case k1 => walk_at "hp"); (case k2 => assumption); (case k3 => assumption); (case k4 => assumption); (case k5 => assumption); (case k6 => assumption))
  | (refine' k_isiI ?k1 ?_; (case k1 => assumption))
  | (refine' k_jst ?k1 ?_; (case k1 => walk_at "size")) | (refine' k_fmtI ?k1 ?_; (case k1 => exact log2_64 (by omega) (by omega))) | (refine' k_strI ?k1 ?_; (case k1 => exact log2_64 (by omega) (by omega)))
  | (refine k_addS ?k1 ?_; (case k1 => walk_at "size")) | refine k_st ?_ | refine k_parti ?_
  | (refine' k_cat ?k1 ?k2 ?k3 ?k4 ?_; (case k1 => assumption); (case k2 => walk_at "hp"); (case k3 => walk_at "hp"); (case k4 => walk_at "size"); intro p' H' M')
  | (refine' k_slL ?k1 ?k2 ?_; (case k1 => assumption); (case k2 => first | assumption | exact SqL.of (by walk_at "hp")); intro p' H' M')
  | (refine k_rng1 ?k1 ?k2 ?_; (case k1 => omega); (case k2 => omega)) | (refine k_rng2 ?k1 ?k2 ?k3 ?k4 ?_; (case k1 => omega); (case k2 => omega); (case k3 => omega); (case k4 => omega))
  | (refine' k_lstAt ?k1 ?_; (case k1 => first | assumption | exact SqL.of (by walk_at "hp"))) | (refine' k_tupAt ?k1 ?_; (case k1 => first | assumption | exact SqT.of (by walk_at "hp")))
  | (refine' k_isXs ?k1 ?k2 ?_; (case k1 => assumption); (case k2 => walk_at "hp")) | (refine' k_isXo ?k1 ?k2 ?k3 ?_; (case k1 => assumption); (case k2 => walk_at "hp"); (case k3 => assumption)) | (refine' k_isXt ?k1 ?k2 ?k3 ?_; (case k1 => assumption); (case k2 => walk_at "hp"); (case k3 => assumption))
  | (refine' k_isX3 ?k1 ?k2 ?k3 ?k4 ?_; (case k1 => assumption); (case k2 => walk_at "hp"); (case k3 => walk_at "hp"); (case k4 => assumption)) | (refine' k_isX2 ?k1 ?k2 ?k3 ?k4 ?_; (case k1 => assumption); (case k2 => walk_at "hp"); (case k3 => walk_at "hp"); (case k4 => assumption))
  | (refine' k_tyL ?k1 ?_; (case k1 => walk_at "hp"))
  | (refine' k_appL0 ?k1 ?k2 ?_; (case k1 => assumption); (case k2 => walk_at "size"); intro H' M') | (refine' k_appL1 ?k1 ?k2 ?_; (case k1 => assumption); (case k2 => walk_at "size"); intro H' M') | (refine' k_appL2 ?k1 ?k2 ?_; (case k1 => assumption); (case k2 => walk_at "size"); intro H' M') | (refine' k_appL3 ?k1 ?k2 ?_; (case k1 => assumption); (case k2 => walk_at "size"); intro H' M')
  | (refine' k_revL0 ?k1 ?_; (case k1 => assumption); intro H' M') | (refine' k_revL1 ?k1 ?_; (case k1 => assumption); intro H' M')
  | (refine' k_isX0s ?k1 ?_; (case k1 => assumption)) | (refine' k_isX0o ?k1 ?k2 ?_; (case k1 => assumption); (case k2 => assumption)) | (refine' k_isX0t ?k1 ?k2 ?_; (case k1 => assumption); (case k2 => assumption)) | (refine' k_isX04 ?k1 ?k2 ?k3 ?_; (case k1 => assumption); (case k2 => walk_at "hp"); (case k3 => assumption))
  | (refine' k_isX4 ?k1 ?k2 ?k3 ?k4 ?_; (case k1 => assumption); (case k2 => walk_at "hp"); (case k3 => walk_at "hp"); (case k4 => assumption)) | (refine' k_ixT2 ?k1 ?k2 ?k3 ?_; (case k1 => walk_at "hp"); (case k2 => omega); (case k3 => omega); intro n' hn')
  | (refine k_iteNEq ?k1 ?_; (case k1 => (rw [Bool.eq_iff_iff]; first | (simp; done) | (simp; omega))))
  | (refine' k_xf ?k1 ?k2 ?_; (case k1 => walk_at "hp"); (case k2 => first | exact xd1 | exact xdH | exact xd2 (by decide +kernel)))
  | (refine' k_caught ?k1 ?_; (case k1 => assumption); intro a' ha')
  | refine k_asgT ?_ | refine k_gCons ?_ | refine k_gNil ?_ | refine k_par ?_ | refine k_two ?_ | refine k_isNn ?_ | refine k_isNi ?_ | refine k_notNn ?_ | refine k_notNi ?_ | refine k_isN ?_ | refine k_notN ?_
  | (refine' k_gTup ?k1 ?k2 ?_; (case k1 => walk_at "hp"); (case k2 => with_unfolding_all rfl))
  | (refine' k_isiT ?k1 ?k2 ?_; (case k1 => walk_at "hp"); (case k2 => assumption)) | (refine' k_isiL ?k1 ?k2 ?_; (case k1 => walk_at "hp"); (case k2 => assumption))
  | (refine' k_ixQ ?k1 ?k2 ?_; (case k1 => assumption); (case k2 => walk_at "look")) | (refine' k_lenQ ?k1 ?_; (case k1 => assumption))
  | (refine' k_xfB ?k1 ?k2 ?_; (case k1 => walk_at "hp"); (case k2 => first | exact xd1 | exact xdH | exact xd2 (by decide +kernel)))
  | (refine' k_all ?k1 ?_; (case k1 => walk_at "hp"))
  | (refine' k_tupleOf ?k1 ?k2 ?_; (case k1 => assumption); (case k2 => exact SqL.of (by walk_at "hp")); intro p' H' M')
  | (refine' k_listOf ?k1 ?k2 ?_; (case k1 => assumption); (case k2 => exact Or.inl (SqL.of (by walk_at "hp"))); intro p' H' M')
  | walk_at "use")
local macro_rules | `(tactic| walk_at "go") => `(tactic| repeat' (walk_at "go1"))

local macro_rules | `(tactic| walk_at "eq") => `(tactic| first | rfl | assumption | omega)
local macro_rules | `(tactic| walk_at "fld") => `(tactic| exact xdH)
local macro_rules | `(tactic| walk_at "size") => `(tactic| first | exact sz (by first | omega | (simp only [List.length_map, List.length_range, List.length_append, List.length_cons, List.length_nil, Int.reduceSub, Int.reduceToNat, Int.reduceNeg]; omega)) | (exact Nat.lt_of_le_of_lt (m := 50000) (by first | omega | (simp only [List.length_map, List.length_range, List.length_append, List.length_cons, List.length_nil]; omega)) (by decide)))
abbrev sc_in_strays : Scope := { kind := .function, names := [(".0", .local), ("at", .cell), ("all", .globalImplicit), ("pairs", .cell)], isGenerator := false, isCoroutine := false }
section
variable {P : Program} {w : World} {K : PySem.W.Frag} {mg : Str → Option Value} {base : Heap} {C CR fR CN fN CA CU CT CI : Addr}
theorem cut_take {xs : List V} {k : Nat} (h : k ≤ xs.length) : cutV xs none (some (k : Int)) = xs.take k := by
  unfold cutV
  rw [HT.sIx_nat, HT.sIx_none, Nat.min_eq_left h]; simp
theorem cut_drop {xs : List V} {k : Nat} (h : k ≤ xs.length) : cutV xs (some (k : Int)) none = xs.drop k := by
  unfold cutV
  rw [HT.sIx_nat, HT.sIx_none, Nat.min_eq_left h]
  rw [List.take_of_length_le (by rw [List.length_drop]; omega)]
theorem mem_pr (k : Int) (c : Pr) : decide (k ∈ [c.1, c.2]) = decide (c.1 = k ∨ c.2 = k) := by
  refine decide_eq_decide.mpr ?_
  simp only [List.mem_cons, List.not_mem_nil, or_false]
  constructor
  · rintro (h | h)
    · exact .inl h.symm
    · exact .inr h.symm
  · rintro (h | h)
    · exact .inl h.symm
    · exact .inr h.symm
abbrev hasK (ts : List Pr) (S : List (List Int)) (k : Int) : Bool := (wrongL ts S).all fun q => decide (q.1 = k ∨ q.2 = k)
def sp_stray (C : Addr) : Sp := fun vs H Q _ => ∃ (r dx t l : Addr) (xs ys : List V) (ts : List Pr) (S : List (List Int)), vs = [.ref r, .ref l] ∧ H r = some (.ins C dx (ruF t)) ∧ H t = some (.tup xs) ∧ Prs H xs ts ∧ (∀ t ∈ ts, t.2 = 1 ∨ t.2 = -1) ∧ Sq H l ys ∧ Rws H ys S ∧ Shf ts S ∧ ∀ d H' l2, Mem H [] H' [] ((d, .lst ((strayL ts S).map V.int)) :: l2) → Q (.ref d) H'
local macro_rules | `(tactic| walk_at "use") => `(tactic| with_reducible first
  | refine use_isn ?_
  | (refine' k_methR ?k1 ?k2 ?_; (case k1 => walk_at "hp"); (case k2 => decide +kernel)))
theorem wrong_len {ts : List Pr} {S : List (List Int)} (h : S.length ≤ 20) : (wrongL ts S).length ≤ 400 := by
  have h1 := wrongP_len ts S S.length
  have h2 : S.length * S.length ≤ 20 * 20 := Nat.mul_le_mul h h
  unfold wrongL
  omega
theorem ok_stray {f : Addr} {fd : FuncData} (F : Fun K "strays" "strays" s_strays f fd) (T : Txt P K mg C CR fR CN fN CA CU CT CI) (c_wrong_pairs : Cal P w K mg base 3 "wrong_pairs" (sp_wpairs C)) :
    FnOk P w K mg base (L2.CX P w) (3 + 1) f fd ["rule", "shelf"] (sp_stray C) := by
  refine okT F sc_strays (fun vs H Q E h => ?_) (fun cdv A outer s H vs Q E hr tk h => ?_)
  · obtain ⟨r, dx, t, l, xs, ys, ts, S, rfl, _⟩ := h
    rfl
  obtain ⟨r, dx, t, l, xs, ys, ts, S, rfl, h0, h1, p1, hd, hq, p2, hs, k⟩ := h
  have f1 := T.i1; have f2 := T.i2; have f3 := T.i3; have f4 := T.i4; have f6 := T.cl; have f7 := T.nT; have f13 := T.ek; have f14 := T.exm; have f15 := T.k1; have f16 := T.k2; have f17 := T.k3
  refine ⟨_, (pss_cons (ps_set (i := 2) sc_strays.nd rfl (Or.inr rfl) (c_call c_wrong_pairs tk hr (by decide) (pa_cons (pv 0) (pa_cons (pv 1) pa_nil))))
      (pss_cons (ps_if (pt_not (pt_truth (pv 2) (fun _ => rfl))) (pss_one (ps_ret (pe_lst pa_nil))) pss_nil)
      (pss_one (ps_ret (pe_lc (own := [("at", 3)]) (g := gName 3) rfl sc_strays.nd (pi_tup (pe_ix ix_list (pv 2) pe_int (fun _ _ => rfl))) (blkOk_by (own := [("at", 3)]) (N := N_strays) (sc := defScope s_strays) (by decide +kernel)) (fun _ _ _ _ _ => pg_name (i := 3) sc_strays.nd rfl (Or.inr rfl)) (fun _ _ _ _ _ => pts_one (pt_val (pe_callB (cr_all rfl : CallR _ (.builtin "all") (rAll K)) (by rfl) T.b_all (by decide +kernel) (pa_cons (pe_lc (own := [("pair", 4)]) (g := gName 4) (tt := tYes) rfl sc_strays.nd (pi_list (pv 2) : PI _ _ _ (iList K (tVar 2))) (blkOk_by (own := [("pair", 4)]) (N := N_strays) (sc := sc_in_strays) (by decide +kernel)) (fun _ _ _ _ _ => pg_name (i := 4) sc_strays.nd rfl (Or.inl rfl)) (fun _ _ _ _ _ => pts_nil) (fun _ _ _ _ _ => (pe_cmpR (op_in_seq : OpR _ _ (rIn K false)) (pv 3) (pv 4) rfl))) pa_nil)))) (fun _ _ _ _ _ => (pv 3))))))), ?_⟩
  simp only [cxK, st_strays]
  have M : Mem H [] H [] [] := mem_start (by simp []) (by simp) (by simp)
  have hwl := wrong_len (ts := ts) hs.1
  walk_at "go"
  refine use_wpairs M h0 h1 p1 hd hq p2 hs fun d zs H2 l2 M2 pz => ?_
  have hzl := pz.1
  walk_at "go"
  refine ⟨_, .inl ⟨zs, SqL.of (M2.getL List.mem_cons_self), rfl⟩, ?_⟩
  dsimp only
  cases hw : wrongL ts S with
  | nil =>
    have e : zs.isEmpty = true := by rw [List.isEmpty_iff]; exact List.eq_nil_of_length_eq_zero (by rw [hzl, hw]; rfl)
    rw [e, Bool.not_true]
    walk_at "go"
    rename_i d3 H3 M3
    rw [stray_none hw] at k
    exact k d3 H3 _ M3
  | cons c rest =>
    have e : zs.isEmpty = false := by
      cases zs with
      | nil => rw [hw] at hzl; cases hzl
      | cons z zs => rfl
    rw [e, Bool.not_false]
    obtain ⟨i, j, ec, hi, hj, hst⟩ := stray_first hw
    have hz0 := List.getElem?_eq_getElem (show 0 < zs.length by rw [hzl, hw]; simp)
    obtain ⟨c0, q0, hc0, e0, hq0⟩ := pz.get hz0
    rw [hw] at hc0
    cases hc0
    have hat0 : atI zs 0 = some (.ref q0) := by rw [← e0]; exact atI_0 hz0
    have hd2 := M2.getL (a := d) List.mem_cons_self
    have hq2 : H2 q0 = some (.tup [.int (i : Int), .int (j : Int)]) := by
      have := M2.getL (List.mem_cons_of_mem _ (List.mem_append_left _ hq0))
      rw [ec] at this
      exact this
    walk_at "go"
    refine lc_tupW (xs := [.int (i : Int), .int (j : Int)]) fun D hD => ⟨fun n H' => ∃ l', Mem H [] H' [] ((D, .lst ((([i, j].take n).filter fun (a : Nat) => hasK ts S a).map fun (a : Nat) => V.int (a : Int))) :: l') ∧ (d, .lst zs) ∈ l' ∧ (∀ z ∈ l2, z ∈ l'), ?_, ?_, ?_, ?_⟩
    · exact ⟨_, M2.alloc hD, List.mem_cons_self, fun z hz => by simp [hz]⟩
    · rintro n H' _ ⟨l', M', hdl, hl2⟩
      have := M'.getL (List.mem_cons_of_mem _ (hl2 _ hq0))
      rw [ec] at this
      exact SqT.of this
    · rintro n x H' hx ⟨l', M', hdl, hl2⟩
      obtain ⟨a, ea, hta⟩ : ∃ a : Nat, x = .int (a : Int) ∧ [i, j].take (n + 1) = [i, j].take n ++ [a] := by
        have hn : n = 0 ∨ n = 1 := by
          have := (List.getElem?_eq_some_iff.mp hx).1
          simp at this
          omega
        rcases hn with rfl | rfl
        · simp at hx; exact ⟨i, hx.symm, rfl⟩
        · simp at hx; exact ⟨j, hx.symm, rfl⟩
      subst ea
      refine ⟨rfl, ?_⟩
      have hdM := M'.getL (List.mem_cons_of_mem _ hdl)
      walk_at "go"
      refine lcL_pure (xs := zs) M' (fun H4 M4 => SqL.of (M4.getL (List.mem_cons_of_mem _ hdl))) (fun u => .bl (decide (((wrongL ts S).getD u (0, 0)).1 = (a : Int) ∨ ((wrongL ts S).getD u (0, 0)).2 = (a : Int)))) (by omega) (fun x => rfl) ?_ ?_
      · intro u y H4 D4 R hy M4 kR
        obtain ⟨c4, q4, hc4, rfl, hq4⟩ := pz.get hy
        have hq4' := M4.getL (List.mem_cons_of_mem _ (List.mem_cons_of_mem _ (hl2 _ hq4)))
        rw [getD_of hc4, ← mem_pr] at kR
        walk_at "go"
        exact k_inI (ns := [c4.1, c4.2]) (.inr (SqT.of hq4')) (kR _ M4)
      · intro D5 H5 M5
        rw [hzl, map_range_getD (v := fun c : Pr => V.bl (decide (c.1 = (a : Int) ∨ c.2 = (a : Int)))), show (wrongL ts S).map (fun c : Pr => V.bl (decide (c.1 = (a : Int) ∨ c.2 = (a : Int)))) = ((wrongL ts S).map fun c : Pr => decide (c.1 = (a : Int) ∨ c.2 = (a : Int))).map V.bl by rw [List.map_map]; rfl] at M5
        walk_at "go"
        have eall : ((wrongL ts S).map fun c : Pr => decide (c.1 = (a : Int) ∨ c.2 = (a : Int))).all id = hasK ts S a := by
          rw [List.all_map]; rfl
        rw [eall]
        by_cases hP : hasK ts S a = true
        · rw [hP]
          refine iteT (B := ∃ l', Mem H [] H5 [] ((D, .lst ((([i, j].take (n + 1)).filter fun (a : Nat) => hasK ts S a).map fun (a : Nat) => V.int (a : Int))) :: l') ∧ (d, .lst zs) ∈ l' ∧ (∀ z ∈ l2, z ∈ l')) ?_
          walk_at "go"
          refine ⟨_, M5.getL (List.mem_cons_of_mem _ List.mem_cons_self), ?_, l', ?_, hdl, hl2⟩
          · rw [List.length_map]
            refine Nat.lt_of_le_of_lt (List.length_filter_le _ _) ?_
            rw [List.length_take]
            exact Nat.lt_of_le_of_lt (m := 2) (by simp; omega) (by decide)
          · rw [hta, List.filter_append, List.map_append]
            have e6 : ([a].filter fun (a : Nat) => hasK ts S a).map (fun (a : Nat) => V.int (a : Int)) = [V.int (a : Int)] := by
              rw [List.filter_cons_of_pos (p := fun (a : Nat) => hasK ts S a) (a := a) hP]; rfl
            rw [e6]
            exact Mem.setL (l1 := []) M5.drop
        · have hF : hasK ts S a = false := by simpa using hP
          rw [hF]
          show if false = true then _ else _
          rw [if_neg Bool.false_ne_true]
          refine ⟨l', ?_, hdl, hl2⟩
          have e6 : [a].filter (fun (a : Nat) => hasK ts S a) = [] := by
            rw [List.filter_cons_of_neg (p := fun (a : Nat) => hasK ts S a) (a := a) (by rw [hF]; exact Bool.false_ne_true)]; rfl
          rw [hta, List.filter_append, e6, List.append_nil]
          exact M5.drop
    · rintro H' ⟨l', M', hdl, hl2⟩
      refine k D H' l' ?_
      rw [hst, List.map_map]
      exact M'
theorem use_stray {B H : Hp} {ms : List Addr} {f l : List (Addr × HO)} {Q : VK} {E : XK} {r dx t a : Addr} {xs ys : List V} {ts : List Pr} {S : List (List Int)} (M : Mem B ms H f l) (h0 : H r = some (.ins C dx (ruF t))) (h1 : H t = some (.tup xs)) (p1 : Prs H xs ts) (hd : ∀ t ∈ ts, t.2 = 1 ∨ t.2 = -1) (h2 : Sq H a ys) (p2 : Rws H ys S) (hs : Shf ts S) (k : ∀ d H' l2, Mem B ms H' f ((d, .lst ((strayL ts S).map V.int)) :: (l2 ++ l)) → Q (.ref d) H') : sp_stray C [.ref r, .ref a] H Q E :=
  ⟨r, dx, t, a, xs, ys, ts, S, rfl, h0, h1, p1, hd, h2, p2, hs, fun d H' l2 M2 => k d H' l2 (M.comp0 M2)⟩
end
end K32

set_option Elab.async false
set_option linter.all false
set_option maxRecDepth 100000
set_option maxHeartbeats 8000000
namespace K32
open PySem L2 MyL
local macro_rules | `(tactic| walk_at "mem") => `(tactic| first | exact List.mem_cons_self | (refine List.mem_cons_of_mem _ ?_; walk_at "mem"))
local macro_rules | `(tactic| walk_at "hp") => `(tactic| first | assumption | (refine' Mem.getL ?k1 ?k2; (case k1 => assumption); (case k2 => walk_at "mem")) | (refine' Mem.getF ?k1 ?k2; (case k1 => assumption); (case k2 => walk_at "mem")) | (refine' Mem.atB ?k1 ?k2; (case k1 => assumption); (case k2 => assumption)))
local macro_rules | `(tactic| walk_at "cond") => `(tactic| first | omega | assumption | exact mulR (by omega) (by omega) | exact mulL (by omega) (by omega) | exact divW (by omega) (by omega) | decide)
local macro_rules | `(tactic| walk_at "look") => `(tactic| first | assumption | with_unfolding_all rfl | exact atI_map (by omega) (by omega))
local macro_rules | `(tactic| walk_at "go1") => `(tactic| with_reducible first
  | refine k_seq ?_ | refine k_gName ?_ | refine k_asg ?_ | refine k_ret ?_ | refine k_ifS ?_ | refine k_drop ?_ | refine k_next ?_ | refine k_break ?_ | refine k_cont ?_ | refine k_retN ?_
  | (refine' k_var ?k1 ?_; (case k1 => with_unfolding_all rfl)) | refine k_c ?_ | refine k_op ?_ | refine k_un ?_ | refine k_test ?_ | refine k_B ?_ | refine k_bl ?_ | refine k_and ?_ | refine k_or ?_ | refine k_not ?_
  | refine k_andV ?_ | refine k_orV ?_ | refine k_notV ?_ | refine k_ifE ?_ | refine k_nil ?_ | refine k_cons ?_ | refine k_cb ?_ | refine k_callS ?_ | refine k_lst0 ?_ | refine k_tup0 ?_ | refine k_fld0 ?_ | refine k_sub0 ?_ | refine k_make0 ?_ | refine k_prop0 ?_ | refine k_sta0 ?_ | refine k_sta ?_ | refine k_bm ?_ | refine k_bm0 ?_ | refine k_chain ?_ | refine k_makeK0 ?_ | refine k_swapK ?_ | refine k_meth0 ?_ | refine k_ownN0 ?_ | refine k_ownO0 ?_ | refine k_sfld0 ?_ | refine k_jnil ?_ | refine k_jcons ?_ | refine k_fmt0 ?_ | refine k_sl0 ?_ | refine k_nopart ?_ | refine k_part ?_ | refine k_forR1 ?_ | refine k_forR2 ?_ | refine k_forL ?_ | refine k_forT ?_ | refine k_lcR1 ?_ | refine k_lcR2 ?_ | refine k_lcL ?_ | refine k_lcT ?_ | refine k_err0 ?_ | refine k_xf0 ?_ | refine k_errQ1 ?_ | refine k_errQ0 ?_ | refine k_errQ2 ?_ | refine k_errQ3 ?_
  | refine k_I0 ?_ | (refine k_I ?k1 ?_; (case k1 => walk_at "cond")) | refine k_U ?_ | refine k_eqI ?_ | refine k_neI ?_ | refine k_eqB ?_ | refine k_neB ?_ | refine k_eqS ?_ | refine k_neS ?_
  | refine k_int1 ?_ | refine k_abs1 ?_ | refine k_min2 ?_ | refine k_max2 ?_
  | (refine' k_lenM ?k1 ?_; (case k1 => walk_at "hp")) | (refine' k_lenL ?k1 ?_; (case k1 => walk_at "hp")) | (refine' k_lenT ?k1 ?_; (case k1 => walk_at "hp"))
  | (refine' k_lenS ?k1 ?_; (case k1 => assumption)) | (refine' k_ixS ?k1 ?k2 ?_; (case k1 => assumption); (case k2 => walk_at "look"))
  | (refine' k_ixL ?k1 ?k2 ?_; (case k1 => walk_at "hp"); (case k2 => walk_at "look")) | (refine' k_ixT ?k1 ?k2 ?_; (case k1 => walk_at "hp"); (case k2 => walk_at "look"))
  | (refine' k_ix4 ?k1 ?k2 ?k3 ?_; (case k1 => walk_at "hp"); (case k2 => omega); (case k3 => omega); intro n' hn')
  | (refine' k_ix3 ?k1 ?k2 ?k3 ?_; (case k1 => walk_at "hp"); (case k2 => omega); (case k3 => omega); intro n' hn')
  | (refine' k_ix2 ?k1 ?k2 ?k3 ?_; (case k1 => walk_at "hp"); (case k2 => omega); (case k3 => omega); intro n' hn')
  | (refine' k_fld ?k1 ?k2 ?k3 ?k4 ?_; (case k1 => walk_at "hp"); (case k2 => assumption); (case k3 => assumption); (case k4 => walk_at "fld"))
  | (refine' k_lst ?k1 ?k2 ?_; (case k1 => assumption); (case k2 => exact sz (by simp)); intro p' H' M')
  | (refine' k_tup ?k1 ?k2 ?_; (case k1 => assumption); (case k2 => exact sz (by simp)); intro p' H' M')
  | (refine' k_setF0 ?k1 ?k2 ?k3 ?_; (case k1 => assumption); (case k2 => simp); (case k3 => with_unfolding_all rfl); intro H' M'; try simp only [Int.reduceToNat, List.set_cons_succ, List.set_cons_zero] at M')
  | (refine' k_setL0 ?k1 ?k2 ?_; (case k1 => assumption); (case k2 => with_unfolding_all rfl); intro H' M'; try simp only [Int.reduceToNat, List.set_cons_succ, List.set_cons_zero] at M')
  | (refine' k_setL1 ?k1 ?k2 ?_; (case k1 => assumption); (case k2 => with_unfolding_all rfl); intro H' M'; try simp only [Int.reduceToNat, List.set_cons_succ, List.set_cons_zero] at M')
  | (refine' k_setL2 ?k1 ?k2 ?_; (case k1 => assumption); (case k2 => with_unfolding_all rfl); intro H' M'; try simp only [Int.reduceToNat, List.set_cons_succ, List.set_cons_zero] at M')
  | refine iteT ?_ | refine iteF ?_ | refine k_iteNE ?_ | refine k_iteNS ?_ | refine k_iteNT ?_ | refine k_iteNF ?_
  | (refine k_iteD ?_ ?_ <;> intro hc <;> first | (exfalso; omega) | skip)
  | (refine k_iteN ?_ ?_ <;> intro hc <;> first | (exfalso; omega) | skip)
  | (refine' k_ownN ?k1 ?_; (case k1 => walk_at "hp")) | (refine' k_ownO ?k1 ?k2 ?_; (case k1 => walk_at "hp"); (case k2 => walk_at "hp")) | (refine' k_ownEq ?k1 ?k2 ?_; (case k1 => walk_at "hp"); (case k2 => walk_at "hp"))
  | (refine' k_ownIn ?k1 ?_; (case k1 => walk_at "hp")) | (refine' k_ownU ?k1 ?_; (case k1 => walk_at "hp")) | (refine' k_ownStr ?k1 ?_; (case k1 => walk_at "hp"))
  | (refine' k_prop ?k1 ?_; (case k1 => walk_at "hp")) | (refine' k_ownNe ?k1 ?k2 ?_; (case k1 => walk_at "hp"); (case k2 => walk_at "hp")) | (refine' k_eqP ?k1 ?k2 ?_; (case k1 => walk_at "hp"); (case k2 => walk_at "hp")) | (refine' k_neP ?k1 ?k2 ?_; (case k1 => walk_at "hp"); (case k2 => walk_at "hp"))
  | (refine' k_isiO ?k1 ?k2 ?k3 ?k4 ?k5 ?k6 ?_; (case k1 => walk_at "hp"); (case k2 => assumption); (case k3 => assumption); (case k4 => assumption); (case k5 => assumption); (case k6 => assumption))
  | (refine' k_isiI ?k1 ?_; (case k1 => assumption))
  | (refine' k_jst ?k1 ?_; (case k1 => walk_at "size")) | (refine' k_fmtI ?k1 ?_; (case k1 => exact log2_64 (by omega) (by omega))) | (refine' k_strI ?k1 ?_; (case k1 => exact log2_64 (by omega) (by omega)))
  | (refine k_addS ?k1 ?_; (case k1 => walk_at "size")) | refine k_st ?_ | refine k_parti ?_
  | (refine' k_cat ?k1 ?k2 ?k3 ?k4 ?_; (case k1 => assumption); (case k2 => walk_at "hp"); (case k3 => walk_at "hp"); (case k4 => walk_at "size"); intro p' H' M')
  | (refine' k_slL ?k1 ?k2 ?_; (case k1 => assumption); (case k2 => first | assumption | exact SqL.of (by walk_at "hp")); intro p' H' M')
  | (refine k_rng1 ?k1 ?k2 ?_; (case k1 => omega); (case k2 => omega)) | (refine k_rng2 ?k1 ?k2 ?k3 ?k4 ?_; (case k1 => omega); (case k2 => omega); (case k3 => omega); (case k4 => omega))
  | (refine' k_lstAt ?k1 ?_; (case k1 => first | assumption | exact SqL.of (by walk_at "hp"))) | (refine' k_tupAt ?k1 ?_; (case k1 => first | assumption | exact SqT.of (by walk_at "hp")))
  | (refine' k_isXs ?k1 ?k2 ?_; (case k1 => assumption); (case k2 => walk_at "hp")) | (refine' k_isXo ?k1 ?k2 ?k3 ?_; (case k1 => assumption); (case k2 => walk_at "hp"); (case k3 => assumption)) | (refine' k_isXt ?k1 ?k2 ?k3 ?_; (case k1 => assumption); (case k2 => walk_at "hp"); (case k3 => assumption))
  | (refine' k_isX3 ?k1 ?k2 ?k3 ?k4 ?_; (case k1 => assumption); (case k2 => walk_at "hp"); (case k3 => walk_at "hp"); (case k4 => assumption)) | (refine' k_isX2 ?k1 ?k2 ?k3 ?k4 ?_; (case k1 => assumption); (case k2 => walk_at "hp"); (case k3 => walk_at "hp"); (case k4 => assumption))
  | (refine' k_tyL ?k1 ?_; (case k1 => walk_at "hp"))
  | (refine' k_appL0 ?k1 ?k2 ?_; (case k1 => assumption); (case k2 => walk_at "size"); intro H' M') | (refine' k_appL1 ?k1 ?k2 ?_; (case k1 => assumption); (case k2 => walk_at "size"); intro H' M') | (refine' k_appL2 ?k1 ?k2 ?_; (case k1 => assumption); (case k2 => walk_at "size"); intro H' M') | (refine' k_appL3 ?k1 ?k2 ?_; (case k1 => assumption); (case k2 => walk_at "size"); intro H' M')
  | (refine' k_revL0 ?k1 ?_; (case k1 => assumption); intro H' M') | (refine' k_revL1 ?k1 ?_; (case k1 => assumption); intro H' M')
  | (refine' k_isX0s ?k1 ?_; (case k1 => assumption)) | (refine' k_isX0o ?k1 ?k2 ?_; (case k1 => assumption); (case k2 => assumption)) | (refine' k_isX0t ?k1 ?k2 ?_; (case k1 => assumption); (case k2 => assumption)) | (refine' k_isX04 ?k1 ?k2 ?k3 ?_; (case k1 => assumption); (case k2 => walk_at "hp"); (case k3 => assumption))
  | (refine' k_isX4 ?k1 ?k2 ?k3 ?k4 ?_; (case k1 => assumption); (case k2 => walk_at "hp"); (case k3 => walk_at "hp"); (case k4 => assumption)) | (refine' k_ixT2 ?k1 ?k2 ?k3 ?_; (case k1 => walk_at "hp"); (case k2 => omega); (case k3 => omega); intro n' hn')
  | (refine k_iteNEq ?k1 ?_; (case k1 => (rw [Bool.eq_iff_iff]; first | (simp; done) | (simp; omega))))
  | (refine' k_xf ?k1 ?k2 ?_; (case k1 => walk_at "hp"); (case k2 => first | exact xd1 | exact xdH | exact xd2 (by decide +kernel)))
  | (refine' k_caught ?k1 ?_; (case k1 => assumption); intro a' ha')
  | refine k_asgT ?_ | refine k_gCons ?_ | refine k_gNil ?_ | refine k_par ?_ | refine k_two ?_ | refine k_isNn ?_ | refine k_isNi ?_ | refine k_notNn ?_ | refine k_notNi ?_ | refine k_isN ?_ | refine k_notN ?_
  | (refine' k_gTup ?k1 ?k2 ?_; (case k1 => walk_at "hp"); (case k2 => with_unfolding_all rfl))
  | (refine' k_isiT ?k1 ?k2 ?_; (case k1 => walk_at "hp"); (case k2 => assumption)) | (refine' k_isiL ?k1 ?k2 ?_; (case k1 => walk_at "hp"); (case k2 => assumption))
  | (refine' k_ixQ ?k1 ?k2 ?_; (case k1 => assumption); (case k2 => walk_at "look")) | (refine' k_lenQ ?k1 ?_; (case k1 => assumption))
  | (refine' k_xfB ?k1 ?k2 ?_; (case k1 => walk_at "hp"); (case k2 => first | exact xd1 | exact xdH | exact xd2 (by decide +kernel)))
  | (refine' k_all ?k1 ?_; (case k1 => walk_at "hp"))
  | (refine' k_tupleOf ?k1 ?k2 ?_; (case k1 => assumption); (case k2 => exact SqL.of (by walk_at "hp")); intro p' H' M')
  | (refine' k_listOf ?k1 ?k2 ?_; (case k1 => assumption); (case k2 => exact Or.inl (SqL.of (by walk_at "hp"))); intro p' H' M')
  | walk_at "use")
local macro_rules | `(tactic| walk_at "go") => `(tactic| repeat' (walk_at "go1"))

local macro_rules | `(tactic| walk_at "eq") => `(tactic| first | rfl | assumption | omega)
local macro_rules | `(tactic| walk_at "fld") => `(tactic| exact xdH)
local macro_rules | `(tactic| walk_at "size") => `(tactic| first | exact sz (by first | omega | (simp only [List.length_map, List.length_range, List.length_append, List.length_cons, List.length_nil, Int.reduceSub, Int.reduceToNat, Int.reduceNeg]; omega)) | (exact Nat.lt_of_le_of_lt (m := 50000) (by first | omega | (simp only [List.length_map, List.length_range, List.length_append, List.length_cons, List.length_nil]; omega)) (by decide)))
section
variable {P : Program} {w : World} {K : PySem.W.Frag} {mg : Str → Option Value} {base : Heap} {C CR fR CN fN CA CU CT CI : Addr}
local macro_rules | `(tactic| walk_at "use") => `(tactic| with_reducible first
  | refine use_isn ?_
  | (refine' k_methR ?k1 ?k2 ?_; (case k1 => walk_at "hp"); (case k2 => decide +kernel))
  | (refine' use_rcmp ?k1 ?k2 ?k3 ?k4 ?k5 ?k6 ?k7 ?k8 ?_; (case k1 => assumption); (case k2 => assumption); (case k3 => assumption); (case k4 => assumption); (case k5 => assumption); (case k6 => assumption); (case k7 => assumption); (case k8 => assumption)))
abbrev fitsAt (ts : List Pr) (S : List (List Int)) (r : List Int) (k : Nat) : Bool := (wrongL ts (S.take k ++ [r] ++ S.drop k)).isEmpty
def sp_slots (C CN : Addr) : Sp := fun vs H Q E => ∃ (r dx t l q : Addr) (xs ys : List V) (ts : List Pr) (S : List (List Int)) (row : List Int), vs = [.ref r, .ref l, .ref q] ∧ H r = some (.ins C dx (ruF t)) ∧ H t = some (.tup xs) ∧ Prs H xs ts ∧ (∀ t ∈ ts, t.2 = 1 ∨ t.2 = -1) ∧ Sq H l ys ∧ Rws H ys S ∧ Shf ts S ∧ H q = some (rowO row) ∧ Fit ts row ∧
  (wrongL ts S = [] → ∀ d H' l2, Mem H [] H' [] ((d, .lst ((slotL ts S row).map V.int)) :: l2) → Q (.ref d) H') ∧
  (∀ c rest, wrongL ts S = c :: rest → ∀ d H' l2, Mem H [] H' [] ((d, .xd [("second", .int c.2), ("first", .int c.1)]) :: l2) → E (.ref CN) (some d) H')
theorem acc_next {P : Nat → Bool} {i : Nat} : (((List.range (i + 1)).filter P).map fun (k : Nat) => (k : Int)).map V.int = (((List.range i).filter P).map fun (k : Nat) => (k : Int)).map V.int ++ if P i = true then [V.int (i : Int)] else [] := by
  rw [List.range_succ, List.filter_append, List.map_append, List.map_append]
  congr 1
  by_cases h : P i = true
  · rw [if_pos h, List.filter_cons_of_pos (p := P) (a := i) h]; rfl
  · rw [if_neg h, List.filter_cons_of_neg (p := P) (a := i) h]; rfl
theorem acc_len {P : Nat → Bool} {i : Nat} : ((((List.range i).filter P).map fun (k : Nat) => (k : Int)).map V.int).length ≤ i := by
  rw [List.length_map, List.length_map]
  have := List.length_filter_le P (List.range i)
  rw [List.length_range] at this
  exact this
theorem ok_slots {f : Addr} {fd : FuncData} (F : Fun K "slots" "slots" s_slots f fd) (T : Txt P K mg C CR fR CN fN CA CU CT CI) (c_wrong_pairs : Cal P w K mg base 3 "wrong_pairs" (sp_wpairs C)) (c_Rule_compare : Met P w K mg base 2 C "compare" (sp_rcmp C)) :
    FnOk P w K mg base (L2.CX P w) (3 + 1) f fd ["rule", "shelf", "roll"] (sp_slots C CN) := by
  refine okT F sc_slots (fun vs H Q E h => ?_) (fun cdv A outer s H vs Q E hr tk h => ?_)
  · obtain ⟨r, dx, t, l, q, xs, ys, ts, S, row, rfl, _⟩ := h
    rfl
  obtain ⟨r, dx, t, l, q, xs, ys, ts, S, row, rfl, h0, h1, p1, hd, hq, p2, hs, h3, hfr, k1, k2⟩ := h
  have f1 := T.i1; have f2 := T.i2; have f3 := T.i3; have f4 := T.i4; have f6 := T.cl; have f7 := T.nT; have f13 := T.ek; have f14 := T.exm; have f15 := T.k1; have f16 := T.k2; have f17 := T.k3
  refine ⟨_, (pss_cons (ps_set (i := 3) sc_slots.nd rfl (Or.inl rfl) (c_call c_wrong_pairs tk hr (by decide) (pa_cons (pv 0) (pa_cons (pv 1) pa_nil))))
      (pss_cons (ps_if (pt_truth (pv 3) (fun _ => rfl)) (pss_cons (ps_asg (pe_ix ix_list (pv 3) pe_int (fun _ _ => rfl)) (pg_tup rfl (pgs_cons (pg_name (i := 4) sc_slots.nd rfl (Or.inl rfl)) (pgs_cons (pg_name (i := 5) sc_slots.nd rfl (Or.inl rfl)) pgs_nil))))
      (pss_one (ps_raise rfl tk (pmk_err T.e_NotSorted (by decide) hr (pa_cons (pv 4) (pa_cons (pv 5) pa_nil)))))) pss_nil)
      (pss_cons (ps_set (i := 6) sc_slots.nd rfl (Or.inl rfl) (pe_lst pa_nil))
      (pss_cons (ps_for (passes_of rfl) rfl (pi_range1 (by rfl) T.b_range (pa_cons (pe_op op_add (pe_callB b_len (by rfl) T.b_len (by decide +kernel) (pa_cons (pv 1) pa_nil)) pe_int) pa_nil)) (pg_name (i := 7) sc_slots.nd rfl (Or.inl rfl)) (pss_cons (ps_set (i := 8) sc_slots.nd rfl (Or.inl rfl) (pe_or (pe_cmpR op_eq (pv 7) pe_int (nomark _)) (pe_one (pe_cmpR op_ne (c_meth c_Rule_compare tk hr (by decide) (pv 0) (pa_cons (pe_ix ix_seq (pv 1) (pe_op op_sub (pv 7) pe_int) (fun _ _ => rfl)) (pa_cons (pv 2) pa_nil))) pe_int (nomark _)))))
      (pss_cons (ps_set (i := 9) sc_slots.nd rfl (Or.inl rfl) (pe_or (pe_cmpR op_eq (pv 7) (pe_callB b_len (by rfl) T.b_len (by decide +kernel) (pa_cons (pv 1) pa_nil)) (nomark _)) (pe_one (pe_cmpR op_ne (c_meth c_Rule_compare tk hr (by decide) (pv 0) (pa_cons (pv 2) (pa_cons (pe_ix ix_seq (pv 1) (pv 7) (fun _ _ => rfl)) pa_nil))) pe_int (nomark _)))))
      (pss_one (ps_if (PW.pt (pw_and (pt_val (pv 8)) (pw_and1 (pt_val (pv 9))))) (pss_one (ps_expr (pe_bm PySem.F.plainAttrs_list PySem.F.slot_list_append PySem.F.type_list_append mt_append (pv 6) (pa_cons (pv 7) pa_nil)))) pss_nil)))))
      (pss_one (ps_ret (pv 6))))))), ?_⟩
  simp only [cxK, st_slots]
  have M : Mem H [] H [] [] := mem_start (by simp []) (by simp) (by simp)
  have hwl := wrong_len (ts := ts) hs.1
  have hyl := p2.1
  walk_at "go"
  refine use_wpairs M h0 h1 p1 hd hq p2 hs fun d zs H2 l2 M2 pz => ?_
  have hzl := pz.1
  walk_at "go"
  refine ⟨_, .inl ⟨zs, SqL.of (M2.getL List.mem_cons_self), rfl⟩, ?_⟩
  dsimp only
  cases hw : wrongL ts S with
  | cons c rest =>
    have e : zs.isEmpty = false := by
      cases zs with
      | nil => rw [hw] at hzl; cases hzl
      | cons z zs => rfl
    rw [e, Bool.not_false]
    have hz0 := List.getElem?_eq_getElem (show 0 < zs.length by rw [hzl, hw]; simp)
    obtain ⟨c0, q0, hc0, e0, hq0⟩ := pz.get hz0
    rw [hw] at hc0
    cases hc0
    have hat0 : atI zs 0 = some (.ref q0) := by rw [← e0]; exact atI_0 hz0
    have hq2 : H2 q0 = some (prO c) := M2.getL (List.mem_cons_of_mem _ (List.mem_append_left _ hq0))
    walk_at "go"
    exact fun d3 hd3 => k2 c rest hw d3 _ _ (M2.alloc hd3)
  | nil =>
    have e : zs.isEmpty = true := by rw [List.isEmpty_iff]; exact List.eq_nil_of_length_eq_zero (by rw [hzl, hw]; rfl)
    rw [e, Bool.not_true]
    have hsl := hs.1
    walk_at "go"
    rename_i p0 H3 M3
    have hq3 := hq.same (Same.of_keep M3)
    walk_at "go"
    refine rng_loop ⟨fun i σ' H' => ∃ (v4 v5 v7 v8 v9 : Option V) (l' : List (Addr × HO)), σ' = [some (.ref r), some (.ref l), some (.ref q), some (.ref d), v4, v5, some (.ref p0), v7, v8, v9] ∧ Mem H [] H' [] ((p0, .lst ((((List.range i).filter (fitsAt ts S row)).map fun (k : Nat) => (k : Int)).map V.int)) :: l'), ?_, ?_, ?_⟩
    · exact ⟨_, _, _, _, _, _, rfl, M3⟩
    · rintro i σ' H' hi ⟨v4, v5, v7, v8, v9, l', rfl, M'⟩
      have hin : i < ys.length + 1 := by omega
      have hlen := acc_len (P := fitsAt ts S row) (i := i)
      have hq' := hq.same (Same.of_keep M')
      have h0' := M'.atB0 h0
      have h1' := M'.atB0 h1
      have p1' := p1.same (Same.of_keep M')
      have h3' := M'.atB0 h3
      have hslot := slot_iff (r := row) (k := i) hd hw (by omega)
      have hnx := acc_next (P := fitsAt ts S row) (i := i)
      have fin1 : fitsAt ts S row i = true → ∀ {H2 : Hp}, Mem H [] H2 [] ((p0, .lst ((((List.range i).filter (fitsAt ts S row)).map fun (k : Nat) => (k : Int)).map V.int ++ [V.int (0 + (i : Int))])) :: l') → Mem H [] H2 [] ((p0, .lst ((((List.range (i + 1)).filter (fitsAt ts S row)).map fun (k : Nat) => (k : Int)).map V.int)) :: l') := fun hP {H2} Mx => by
        rw [hnx, if_pos hP]
        rw [Int.zero_add] at Mx
        exact Mx
      have fin0 : ¬ fitsAt ts S row i = true → Mem H [] H' [] ((p0, .lst ((((List.range (i + 1)).filter (fitsAt ts S row)).map fun (k : Nat) => (k : Int)).map V.int)) :: l') := fun hP => by
        rw [hnx, if_neg hP, List.append_nil]
        exact M'
      have hP : fitsAt ts S row i = true ↔ (i = 0 ∨ side ts (S.getD (i - 1) []) row ≤ 0) ∧ (i = S.length ∨ side ts row (S.getD i []) ≤ 0) := by
        rw [← hslot, fitsAt, List.isEmpty_iff]
      by_cases hi0 : i = 0
      · by_cases hie : i = ys.length
        · walk_at "go"
          exact ⟨_, _, _, _, _, _, rfl, fin1 (hP.mpr ⟨.inl hi0, .inl (by omega)⟩) (by assumption)⟩
        · have hil : i < ys.length := by omega
          obtain ⟨b, pb, hb, eb, hpb⟩ := p2.get (List.getElem?_eq_getElem hil)
          have hatb : atI ys (0 + (i : Int)) = some (.ref pb) := by rw [← eb]; exact atI_nat0 (List.getElem?_eq_getElem hil)
          have hfb := hs.2 b (List.mem_of_getElem? hb)
          have hpb' := M'.atB0 hpb
          have hsd := side_le hd row b
          rw [getD_of hb] at hP
          walk_at "go"
          · exact ⟨_, _, _, _, _, _, rfl, fin1 (hP.mpr ⟨.inl hi0, .inr (by omega)⟩) (by assumption)⟩
          · exact ⟨_, _, _, _, _, _, rfl, fin0 (fun z => by have := (hP.mp z).2; omega)⟩
      · have hil0 : i - 1 < ys.length := by omega
        obtain ⟨a, pa, ha, ea, hpa⟩ := p2.get (List.getElem?_eq_getElem hil0)
        have hata : atI ys (0 + (i : Int) - 1) = some (.ref pa) := by
          rw [show 0 + (i : Int) - 1 = ((i - 1 : Nat) : Int) by omega, ← ea]
          exact MyL.atI_nat (List.getElem?_eq_getElem hil0)
        have hfa := hs.2 a (List.mem_of_getElem? ha)
        have hpa' := M'.atB0 hpa
        have hsa := side_le hd a row
        rw [getD_of ha] at hP
        by_cases hie : i = ys.length
        · walk_at "go"
          · exact ⟨_, _, _, _, _, _, rfl, fin1 (hP.mpr ⟨.inr (by omega), .inl (by omega)⟩) (by assumption)⟩
          · exact ⟨_, _, _, _, _, _, rfl, fin0 (fun z => by have := (hP.mp z).1; omega)⟩
        · have hil : i < ys.length := by omega
          obtain ⟨b, pb, hb, eb, hpb⟩ := p2.get (List.getElem?_eq_getElem hil)
          have hatb : atI ys (0 + (i : Int)) = some (.ref pb) := by rw [← eb]; exact atI_nat0 (List.getElem?_eq_getElem hil)
          have hfb := hs.2 b (List.mem_of_getElem? hb)
          have hpb' := M'.atB0 hpb
          have hsd := side_le hd row b
          rw [getD_of hb] at hP
          walk_at "go"
          all_goals first
            | exact ⟨_, _, _, _, _, _, rfl, fin1 (hP.mpr ⟨.inr (by omega), .inr (by omega)⟩) (by assumption)⟩
            | exact ⟨_, _, _, _, _, _, rfl, fin0 (fun z => by have h1 := (hP.mp z).1; have h2 := (hP.mp z).2; omega)⟩
    · rintro σ' H' ⟨v4, v5, v7, v8, v9, l', rfl, M'⟩
      walk_at "go"
      refine k1 hw p0 H' l' ?_
      have e7 : ((ys.length : Int) + 1).toNat = S.length + 1 := by omega
      rw [e7] at M'
      exact M'
theorem use_slots {B H : Hp} {ms : List Addr} {f l : List (Addr × HO)} {Q : VK} {E : XK} {r dx t a q : Addr} {xs ys : List V} {ts : List Pr} {S : List (List Int)} {row : List Int} (M : Mem B ms H f l) (h0 : H r = some (.ins C dx (ruF t))) (h1 : H t = some (.tup xs)) (p1 : Prs H xs ts) (hd : ∀ t ∈ ts, t.2 = 1 ∨ t.2 = -1) (h2 : Sq H a ys) (p2 : Rws H ys S) (hs : Shf ts S) (h3 : H q = some (rowO row)) (hf : Fit ts row) (hw : wrongL ts S = [])
    (k : ∀ d H' l2, Mem B ms H' f ((d, .lst ((slotL ts S row).map V.int)) :: (l2 ++ l)) → Q (.ref d) H') : sp_slots C CN [.ref r, .ref a, .ref q] H Q E :=
  ⟨r, dx, t, a, q, xs, ys, ts, S, row, rfl, h0, h1, p1, hd, h2, p2, hs, h3, hf, fun _ d H' l2 M2 => k d H' l2 (M.comp0 M2), fun c rest e => by rw [hw] at e; cases e⟩
theorem use_slotsE {B H : Hp} {ms : List Addr} {f l : List (Addr × HO)} {Q : VK} {E : XK} {r dx t a q : Addr} {xs ys : List V} {ts : List Pr} {S : List (List Int)} {row : List Int} {c : Pr} {rest : List Pr} (M : Mem B ms H f l) (h0 : H r = some (.ins C dx (ruF t))) (h1 : H t = some (.tup xs)) (p1 : Prs H xs ts) (hd : ∀ t ∈ ts, t.2 = 1 ∨ t.2 = -1) (h2 : Sq H a ys) (p2 : Rws H ys S) (hs : Shf ts S) (h3 : H q = some (rowO row)) (hf : Fit ts row) (hw : wrongL ts S = c :: rest)
    (k : ∀ d H' l2, Mem B ms H' f ((d, .xd [("second", .int c.2), ("first", .int c.1)]) :: (l2 ++ l)) → E (.ref CN) (some d) H') : sp_slots C CN [.ref r, .ref a, .ref q] H Q E :=
  ⟨r, dx, t, a, q, xs, ys, ts, S, row, rfl, h0, h1, p1, hd, h2, p2, hs, h3, hf, fun e => (by rw [hw] at e; cases e), fun c2 rest2 e d H' l2 M2 => by rw [hw] at e; cases e; exact k d H' l2 (M.comp0 M2)⟩
def sp_lstray : Sp := fun vs H Q _ => ∃ (t l w0 : Addr) (xs ys zs : List V) (ts : List Pr) (S : List (List Int)), vs = [.ref t, .ref l, .ref w0] ∧ H t = some (.lst xs) ∧ Prs H xs ts ∧ H l = some (.lst ys) ∧ Rws H ys S ∧ Shf ts S ∧ H w0 = some (.lst zs) ∧ Prs H zs (wrongL ts S) ∧ ∀ d H' l2, Mem H [] H' [] ((d, .lst ((strayL ts S).map V.int)) :: l2) → Q (.ref d) H'
abbrev isStray (ts : List Pr) (S : List (List Int)) (k : Nat) : Bool := (wrongL ts S).any (fun p => decide (p.1 = (k : Int) ∨ p.2 = (k : Int))) && (wrongL ts (S.eraseIdx k)).isEmpty
theorem any_filter {cs : List Pr} {P : Pr → Bool} : (!(cs.filter P).isEmpty) = cs.any P := by
  rw [Bool.eq_iff_iff, Bool.not_eq_true', List.isEmpty_eq_false_iff_exists_mem, List.any_eq_true]
  constructor
  · rintro ⟨x, hx⟩; rw [List.mem_filter] at hx; exact ⟨x, hx⟩
  · rintro ⟨x, hx⟩; exact ⟨x, List.mem_filter.mpr hx⟩
/-- a comprehension over pairs with a test, the pairs themselves -/
def filtP (P : Pr → Bool) : List V → List Pr → List V
  | x :: xs, c :: cs => if P c = true then x :: filtP P xs cs else filtP P xs cs
  | _, _ => []
theorem filtP_append {P : Pr → Bool} {xs ys : List V} {cs ds : List Pr} (h : xs.length = cs.length) : filtP P (xs ++ ys) (cs ++ ds) = filtP P xs cs ++ filtP P ys ds := by
  induction xs generalizing cs with
  | nil => cases cs with
    | nil => rfl
    | cons c cs => simp at h
  | cons x xs ih => cases cs with
    | nil => simp at h
    | cons c cs =>
      have e := ih (cs := cs) (by simpa using h)
      simp only [List.cons_append, filtP]
      rw [e]
      split <;> rfl
theorem filtP_len {P : Pr → Bool} {xs : List V} {cs : List Pr} : (filtP P xs cs).length ≤ xs.length := by
  induction xs generalizing cs with
  | nil => simp [filtP]
  | cons x xs ih => cases cs with
    | nil => simp [filtP]
    | cons c cs =>
      have e := ih (cs := cs)
      simp only [filtP]
      split <;> simp <;> omega
theorem filtP_pg {R : Addr → Pr → Prop} {P : Pr → Bool} {xs : List V} {cs : List Pr} (h : PG R xs cs) : PG R (filtP P xs cs) (cs.filter P) := by
  induction xs generalizing cs with
  | nil => cases cs with
    | nil => exact PG.nil
    | cons c cs => have := h.1; simp at this
  | cons x xs ih => cases cs with
    | nil => have := h.1; simp at this
    | cons c cs =>
      have ht : PG R xs cs := ⟨by have := h.1; simpa using this, fun i y s a b => h.2 (i + 1) y s (by simpa using a) (by simpa using b)⟩
      obtain ⟨p, rfl, hp⟩ := h.2 0 x c rfl rfl
      simp only [filtP, List.filter_cons]
      split
      · exact (PG.one (R := R) hp).append (ih ht)
      · exact ih ht
theorem lcL_selPr {σ : L2.St} {H : Hp} {Q : VK} {tt : TT} {B : Hp} {ms : List Addr} {f l : List (Addr × HO)} {vs : List Nat} {a : Addr} {j : Nat} {xs : List V} {cs : List Pr} (M : Mem B ms H f l) (hx : ∀ H' D acc, Mem B ms H' f ((D, .lst acc) :: l) → SqL K H' a xs) (P : Pr → Bool) (hl : xs.length = cs.length) (hn : xs.length ≤ 50000)
    (hw : ∀ x, wipe ((wipe σ vs).set j (some x)) vs = wipe σ vs) (hv : ∀ x, ((wipe σ vs).set j (some x))[j]? = some (some x))
    (ht : ∀ (i : Nat) x c H' D acc (R : Bool → Hp → Prop), xs[i]? = some x → cs[i]? = some c → Mem B ms H' f ((D, .lst acc) :: l) → (∀ H4, Mem B ms H4 f ((D, .lst acc) :: l) → R (P c) H4) → tt ((wipe σ vs).set j (some x)) H' R)
    (k : ∀ (D : Addr) (H' : Hp), Mem B ms H' f ((D, .lst (filtP P xs cs)) :: l) → Q (.ref D) H') : tLc (iJ (Itl K a)) (gName j) tt (tVar j) vs σ H Q := by
  refine lc_lst (xs := xs) fun D hD => ⟨fun i H' => Mem B ms H' f ((D, .lst (filtP P (xs.take i) (cs.take i))) :: l), M.alloc hD, fun i H' _ M' => hx H' D _ M', fun i x H' hi M' => ⟨hw _, ?_⟩, fun H' M' => k D H' (by dsimp only at M'; rw [List.take_length, hl, List.take_length] at M'; exact M')⟩
  have hil := (List.getElem?_eq_some_iff.mp hi).1
  have hc := List.getElem?_eq_getElem (show i < cs.length by omega)
  have hnext : filtP P (xs.take (i + 1)) (cs.take (i + 1)) = filtP P (xs.take i) (cs.take i) ++ if P cs[i] = true then [x] else [] := by
    rw [List.take_add_one, List.take_add_one, hi, hc, filtP_append (by rw [List.length_take, List.length_take, hl])]
    rfl
  refine ht i x _ H' D _ _ hi hc M' fun H4 M4 => ?_
  by_cases hp : P cs[i] = true
  · rw [hp, if_pos rfl]
    refine ⟨x, hv x, _, M4.getL List.mem_cons_self, ?_, ?_⟩
    · have h1 := filtP_len (P := P) (xs := xs.take i) (cs := cs.take i)
      have h2 := List.length_take_le i xs
      exact Nat.lt_of_le_of_lt (Nat.le_trans h1 h2) (Nat.lt_of_lt_of_le hil (Nat.le_trans hn (by decide)))
    · dsimp only
      rw [hnext, if_pos hp]
      exact Mem.setL (l1 := []) M4
  · have hf : P cs[i] = false := by simpa using hp
    rw [hf, if_neg (by decide)]
    dsimp only
    rw [hnext, if_neg hp, List.append_nil]
    exact M4
theorem ok_lstray {f : Addr} {fd : FuncData} (F : Fun K "_law_strays" "_law_strays" s__law_strays f fd) (T : Txt P K mg C CR fR CN fN CA CU CT CI) (c__law_wrong : Cal P w K mg base 2 "_law_wrong" sp_wrong) :
    FnOk P w K mg base (L2.CX P w) (2 + 1) f fd ["_law_terms_here", "_law_shelf", "_law_wrong_here"] sp_lstray := by
  refine okT F sc__law_strays (fun vs H Q E h => ?_) (fun cdv A outer s H vs Q E hr tk h => ?_)
  · obtain ⟨t, l, w0, xs, ys, zs, ts, S, rfl, _⟩ := h
    rfl
  obtain ⟨t, l, w0, xs, ys, zs, ts, S, rfl, h1, p1, h2, p2, hs, h3, p3, k⟩ := h
  have f1 := T.i1; have f2 := T.i2; have f3 := T.i3; have f4 := T.i4; have f6 := T.cl; have f7 := T.nT; have f13 := T.ek; have f14 := T.exm; have f15 := T.k1; have f16 := T.k2; have f17 := T.k3
  refine ⟨_, (pss_cons (ps_set (i := 3) sc__law_strays.nd rfl (Or.inl rfl) (pe_lst pa_nil))
      (pss_cons (ps_for (passes_of rfl) rfl (pi_range1 (by rfl) T.b_range (pa_cons (pe_callB b_len (by rfl) T.b_len (by decide +kernel) (pa_cons (pv 1) pa_nil)) pa_nil)) (pg_name (i := 4) sc__law_strays.nd rfl (Or.inr rfl)) (pss_cons (ps_set (i := 5) sc__law_strays.nd rfl (Or.inl rfl) (pe_op op_cat (pe_slice sl_list (pv 1) po_none (po_some (pv 4))) (pe_slice sl_list (pv 1) (po_some (pe_op op_add (pv 4) pe_int)) po_none)))
      (pss_one (ps_if (PW.pt (pw_and (pt_cmpR (op_neD hr.units) (pe_lc (own := [("_law_pair", 6)]) (g := gName 6) rfl sc__law_strays.nd (pi_list (pv 2)) (blkOk_by (own := [("_law_pair", 6)]) (N := N__law_strays) (sc := defScope s__law_strays) (by decide +kernel)) (fun _ _ _ _ _ => pg_name (i := 6) sc__law_strays.nd rfl (Or.inl rfl)) (fun _ _ _ _ _ => pts_one (pt_cmpR (op_in_seq : OpR _ _ (rIn K false)) (pv 4) (pv 6) rfl)) (fun _ _ _ _ _ => (pv 6))) (pe_lst pa_nil) (nomark _)) (pw_and1 (pt_cmpR (op_eqD hr.units) (c_call c__law_wrong tk hr (by decide) (pa_cons (pv 0) (pa_cons (pv 5) pa_nil))) (pe_lst pa_nil) (nomark _))))) (pss_one (ps_expr (pe_bm PySem.F.plainAttrs_list PySem.F.slot_list_append PySem.F.type_list_append mt_append (pv 3) (pa_cons (pv 4) pa_nil)))) pss_nil))))
      (pss_one (ps_ret (pv 3))))), ?_⟩
  simp only [cxK, st__law_strays]
  have M : Mem H [] H [] [] := mem_start (by simp []) (by simp) (by simp)
  have hyl := p2.1
  have hzl := p3.1
  have hsl := hs.1
  have hwl := wrong_len (ts := ts) hs.1
  walk_at "go"
  rename_i p0 H0 M0
  have h20 := M0.atB0 h2
  walk_at "go"
  refine rng_loop ⟨fun i σ' H' => ∃ (v4 v5 : Option V) (l' : List (Addr × HO)), σ' = [some (.ref t), some (.ref l), some (.ref w0), some (.ref p0), v4, v5, none] ∧ Mem H [] H' [] ((p0, .lst ((((List.range i).filter (isStray ts S)).map fun (k : Nat) => (k : Int)).map V.int)) :: l'), ?_, ?_, ?_⟩
  · exact ⟨_, _, _, rfl, M0⟩
  · rintro i σ' H' hi ⟨v4, v5, l', rfl, M'⟩
    have hil : i < ys.length := by simpa using hi
    have hlen := acc_len (P := isStray ts S) (i := i)
    have hnx := acc_next (P := isStray ts S) (i := i)
    have h2' := M'.atB0 h2
    have h3' := M'.atB0 h3
    walk_at "go"
    rename_i s1 H1 M1 s2 H2 M2
    rw [Int.zero_add, cut_take (by omega), show (i : Int) + 1 = ((i + 1 : Nat) : Int) by omega, cut_drop (by omega)] at M2
    refine k_cat (xs := ys.take i) (ys := ys.drop (i + 1)) M2 (M2.getL (by simp)) (M2.getL (by simp)) (sz (by rw [List.length_take, List.length_drop]; omega)) fun q H3 M3 => ?_
    rw [← List.eraseIdx_eq_take_drop_succ] at M3
    have h33 := M3.atB0 h3
    walk_at "go"
    refine lcL_selPr (xs := zs) (cs := wrongL ts S) M3 (fun H' D acc M' => SqL.of (M'.atB0 h3)) (fun c => decide (c.1 = (i : Int) ∨ c.2 = (i : Int))) hzl (by omega) (fun x => rfl) (fun x => rfl) ?_ ?_
    · intro u x c H4 D4 acc R hx hc M4 kR
      obtain ⟨qc, rfl, hqc⟩ := p3.2 u x c hx hc
      have hqc' := M4.atB0 hqc
      rw [← mem_pr] at kR
      walk_at "go"
      refine k_inI (ns := [c.1, c.2]) (.inr (SqT.of hqc')) ?_
      rw [Int.zero_add]
      walk_at "go"
      exact kR _ M4
    intro D4 H4 M4
    walk_at "go"
    rename_i e5 H5 M5
    have pf : Prs H (filtP (fun c => decide (c.1 = (i : Int) ∨ c.2 = (i : Int))) zs (wrongL ts S)) ((wrongL ts S).filter (fun c => decide (c.1 = (i : Int) ∨ c.2 = (i : Int)))) := filtP_pg p3
    refine k_neNilP (M5.getL (List.mem_cons_of_mem _ List.mem_cons_self)) (M5.getL List.mem_cons_self) (pf.same (Same.of_keep M5)) ?_
    rw [any_filter]
    have hfit : Shf ts (S.eraseIdx i) := ⟨by have := List.length_eraseIdx_le S i; omega, fun r hr => hs.2 r ((List.eraseIdx_sublist S i).subset hr)⟩
    by_cases hA : (wrongL ts S).any (fun c => decide (c.1 = (i : Int) ∨ c.2 = (i : Int))) = true
    · rw [hA]
      walk_at "go"
      refine use_wrong M5 (M5.atB0 h1) (p1.same (Same.of_keep M5)) (M5.getL (by simp)) ((p2.erase i).mono fun p r e => M5.atB0 e) hfit fun d6 zs6 H6 l6 M6 pz6 => ?_
      walk_at "go"
      rename_i e7 H7 M7
      refine k_eqNil (SqL.of (M7.getL (by simp))) (M7.getL (by simp)) (PrL.prs M7 (pz6.more fun z hz => by simp [hz])).dp (pd_shaped _) ?_
      have hze : zs6.isEmpty = (wrongL ts (S.eraseIdx i)).isEmpty := by
        have := pz6.1
        cases zs6 <;> cases h8 : wrongL ts (S.eraseIdx i) <;> rw [h8] at this <;> simp at this ⊢
      rw [hze]
      by_cases hE : (wrongL ts (S.eraseIdx i)).isEmpty = true
      · rw [hE]
        have hP : isStray ts S i = true := by rw [isStray, hA, hE]; rfl
        have M7b := M7.perm (l' := (p0, HO.lst ((((List.range i).filter (isStray ts S)).map fun (k : Nat) => (k : Int)).map V.int)) :: (e7, HO.lst []) :: (d6, HO.lst zs6) :: (l6 ++ (e5, HO.lst []) :: (D4, HO.lst (filtP (fun c => decide (c.1 = (i : Int) ∨ c.2 = (i : Int))) zs (wrongL ts S))) :: (q, HO.lst (ys.eraseIdx i)) :: (s2, HO.lst (ys.drop (i + 1))) :: (s1, HO.lst (ys.take i)) :: l')) (by
          have := List.perm_middle (a := ((p0, HO.lst ((((List.range i).filter (isStray ts S)).map fun (k : Nat) => (k : Int)).map V.int)) : Addr × HO)) (l₁ := (e7, HO.lst []) :: (d6, HO.lst zs6) :: (l6 ++ [(e5, HO.lst []), (D4, HO.lst (filtP (fun c => decide (c.1 = (i : Int) ∨ c.2 = (i : Int))) zs (wrongL ts S))), (q, HO.lst (ys.eraseIdx i)), (s2, HO.lst (ys.drop (i + 1))), (s1, HO.lst (ys.take i))])) (l₂ := l')
          simpa using this)
        walk_at "go"
        rename_i H8 M8
        rw [Int.zero_add] at M8
        exact ⟨_, _, _, rfl, (congrArg (fun z => Mem H [] H8 [] ((p0, HO.lst z) :: _)) (by rw [hnx, if_pos hP])).mpr M8⟩
      · have hF : (wrongL ts (S.eraseIdx i)).isEmpty = false := by simpa using hE
        rw [hF]
        have hP : ¬ isStray ts S i = true := by rw [isStray, hA, hF]; exact Bool.false_ne_true
        walk_at "go"
        refine ⟨_, _, l', rfl, ?_⟩
        rw [hnx, if_neg hP, List.append_nil]
        exact M7.sub (.cons _ (.cons _ (List.Sublist.trans (.cons _ (.cons _ (.cons _ (.cons _ (.cons _ (List.Sublist.refl _)))))) (List.sublist_append_right _ _))))
    · have hF : (wrongL ts S).any (fun c => decide (c.1 = (i : Int) ∨ c.2 = (i : Int))) = false := by simpa using hA
      rw [hF]
      have hP : ¬ isStray ts S i = true := by rw [isStray, hF]; exact Bool.false_ne_true
      walk_at "go"
      refine ⟨_, _, l', rfl, ?_⟩
      rw [hnx, if_neg hP, List.append_nil]
      exact M5.sub (.cons _ (.cons _ (.cons _ (.cons _ (.cons _ (List.Sublist.refl _))))))
  · rintro σ' H' ⟨v4, v5, l', rfl, M'⟩
    walk_at "go"
    refine k p0 H' l' ?_
    have e7 : ((ys.length : Int)).toNat = S.length := by omega
    rw [e7] at M'
    exact M'
end
end K32

set_option Elab.async false
set_option linter.all false
set_option maxRecDepth 100000
set_option maxHeartbeats 8000000
namespace K32
open PySem L2 MyL
local macro_rules | `(tactic| walk_at "mem") => `(tactic| first | exact List.mem_cons_self | (refine List.mem_cons_of_mem _ ?_; walk_at "mem"))
local macro_rules | `(tactic| walk_at "hp") => `(tactic| first | assumption | (refine' Mem.getL ?k1 ?k2; (case k1 => assumption); (case k2 => walk_at "mem")) | (refine' Mem.getF ?k1 ?k2; (case k1 => assumption); (case k2 => walk_at "mem")) | (refine' Mem.atB ?k1 ?k2; (case k1 => assumption); (case k2 => assumption)))
local macro_rules | `(tactic| walk_at "cond") => `(tactic| first | omega | assumption | exact mulR (by omega) (by omega) | exact mulL (by omega) (by omega) | exact divW (by omega) (by omega) | decide)
local macro_rules | `(tactic| walk_at "look") => `(tactic| first | assumption | with_unfolding_all rfl | exact atI_map (by omega) (by omega))
local macro_rules | `(tactic| walk_at "go1") => `(tactic| with_reducible first
  | refine k_seq ?_ | refine k_gName ?_ | refine k_asg ?_ | refine k_ret ?_ | refine k_ifS ?_ | refine k_drop ?_ | refine k_next ?_ | refine k_break ?_ | refine k_cont ?_ | refine k_retN ?_
  | (refine' k_var ?k1 ?_; (case k1 => with_unfolding_all rfl)) | refine k_c ?_ | refine k_op ?_ | refine k_un ?_ | refine k_test ?_ | refine k_B ?_ | refine k_bl ?_ | refine k_and ?_ | refine k_or ?_ | refine k_not ?_
  | refine k_andV ?_ | refine k_orV ?_ | refine k_notV ?_ | refine k_ifE ?_ | refine k_nil ?_ | refine k_cons ?_ | refine k_cb ?_ | refine k_callS ?_ | refine k_lst0 ?_ | refine k_tup0 ?_ | refine k_fld0 ?_ | refine k_sub0 ?_ | refine k_make0 ?_ | refine k_prop0 ?_ | refine k_sta0 ?_ | refine k_sta ?_ | refine k_bm ?_ | refine k_bm0 ?_ | refine k_chain ?_ | refine k_makeK0 ?_ | refine k_swapK ?_ | refine k_meth0 ?_ | refine k_ownN0 ?_ | refine k_ownO0 ?_ | refine k_sfld0 ?_ | refine k_jnil ?_ | refine k_jcons ?_ | refine k_fmt0 ?_ | refine k_sl0 ?_ | refine k_nopart ?_ | refine k_part ?_ | refine k_forR1 ?_ | refine k_forR2 ?_ | refine k_forL ?_ | refine k_forT ?_ | refine k_lcR1 ?_ | refine k_lcR2 ?_ | refine k_lcL ?_ | refine k_lcT ?_ | refine k_err0 ?_ | refine k_xf0 ?_ | refine k_errQ1 ?_ | refine k_errQ0 ?_ | refine k_errQ2 ?_ | refine k_errQ3 ?_
  | refine k_I0 ?_ | (refine k_I ?k1 ?_; (case k1 => walk_at "cond")) | refine k_U ?_ | refine k_eqI ?_ | refine k_neI ?_ | refine k_eqB ?_ | refine k_neB ?_ | refine k_eqS ?_ | refine k_neS ?_
  | refine k_int1 ?_ | refine k_abs1 ?_ | refine k_min2 ?_ | refine k_max2 ?_
  | (refine' k_lenM ?k1 ?_; (case k1 => walk_at "hp")) | (refine' k_lenL ?k1 ?_; (case k1 => walk_at "hp")) | (refine' k_lenT ?k1 ?_; (case k1 => walk_at "hp"))
  | (refine' k_lenS ?k1 ?_; (case k1 => assumption)) | (refine' k_ixS ?k1 ?k2 ?_; (case k1 => assumption); (case k2 => walk_at "look"))
  | (refine' k_ixL ?k1 ?k2 ?_; (case k1 => walk_at "hp"); (case k2 => walk_at "look")) | (refine' k_ixT ?k1 ?k2 ?_; (case k1 => walk_at "hp"); (case k2 => walk_at "look"))
  | (refine' k_ix4 ?k1 ?k2 ?k3 ?_; (case k1 => walk_at "hp"); (case k2 => omega); (case k3 => omega); intro n' hn')
  | (refine' k_ix3 ?k1 ?k2 ?k3 ?_; (case k1 => walk_at "hp"); (case k2 => omega); (case k3 => omega); intro n' hn')
  | (refine' k_ix2 ?k1 ?k2 ?k3 ?_; (case k1 => walk_at "hp"); (case k2 => omega); (case k3 => omega); intro n' hn')
  | (refine' k_fld ?k1 ?k2 ?k3 ?k4 ?_; (case k1 => walk_at "hp"); (case k2 => assumption); (case k3 => assumption); (case k4 => walk_at "fld"))
  | (refine' k_lst ?k1 ?k2 ?_; (case k1 => assumption); (case k2 => exact sz (by simp)); intro p' H' M')
  | (refine' k_tup ?k1 ?k2 ?_; (case k1 => assumption); (case k2 => exact sz (by simp)); intro p' H' M')
  | (refine' k_setF0 ?k1 ?k2 ?k3 ?_; (case k1 => assumption); (case k2 => simp); (case k3 => with_unfolding_all rfl); intro H' M'; try simp only [Int.reduceToNat, List.set_cons_succ, List.set_cons_zero] at M')
  | (refine' k_setL0 ?k1 ?k2 ?_; (case k1 => assumption); (case k2 => with_unfolding_all rfl); intro H' M'; try simp only [Int.reduceToNat, List.set_cons_succ, List.set_cons_zero] at M')
  | (refine' k_setL1 ?k1 ?k2 ?_; (case k1 => assumption); (case k2 => with_unfolding_all rfl); intro H' M'; try simp only [Int.reduceToNat, List.set_cons_succ, List.set_cons_zero] at M')
  | (refine' k_setL2 ?k1 ?k2 ?_; (case k1 => assumption); (case k2 => with_unfolding_all rfl); intro H' M'; try simp only [Int.reduceToNat, List.set_cons_succ, List.set_cons_zero] at M')
  | refine iteT ?_ | refine iteF ?_ | refine k_iteNE ?_ | refine k_iteNS ?_ | refine k_iteNT ?_ | refine k_iteNF ?_
  | (refine k_iteD ?_ ?_ <;> intro hc <;> first | (exfalso; omega) | skip)
  | (refine k_iteN ?_ ?_ <;> intro hc <;> first | (exfalso; omega) | skip)
  | (refine' k_ownN ?k1 ?_; (case k1 => walk_at "hp")) | (refine' k_ownO ?k1 ?k2 ?_; (case k1 => walk_at "hp"); (case k2 => walk_at "hp")) | (refine' k_ownEq ?k1 ?k2 ?_; (case k1 => walk_at "hp"); (case k2 => walk_at "hp"))
  | (refine' k_ownIn ?k1 ?_; (case k1 => walk_at "hp")) | (refine' k_ownU ?k1 ?_; (case k1 => walk_at "hp")) | (refine' k_ownStr ?k1 ?_; (case k1 => walk_at "hp"))
  | (refine' k_prop ?k1 ?_; (case k1 => walk_at "hp")) | (refine' k_ownNe ?k1 ?k2 ?_; (case k1 => walk_at "hp"); (case k2 => walk_at "hp")) | (refine' k_eqP ?k1 ?k2 ?_; (case k1 => walk_at "hp"); (case k2 => walk_at "hp")) | (refine' k_neP ?k1 ?k2 ?_; (case k1 => walk_at "hp"); (case k2 => walk_at "hp"))
  | (refine' k_isiO ?k1 ?k2 ?k3 ?k4 ?k5 ?k6 ?_; (case k1 => walk_at "hp"); (case k2 => assumption); (case k3 => assumption); (case k4 => assumption); (case k5 => assumption); (case k6 => assumption))
  | (refine' k_isiI ?k1 ?_; (case k1 => assumption))
  | (refine' k_jst ?k1 ?_; (case k1 => walk_at "size")) | (refine' k_fmtI ?k1 ?_; (case k1 => exact log2_64 (by omega) (by omega))) | (refine' k_strI ?k1 ?_; (case k1 => exact log2_64 (by omega) (by omega)))
  | (refine k_addS ?k1 ?_; (case k1 => walk_at "size")) | refine k_st ?_ | refine k_parti ?_
  | (refine' k_cat ?k1 ?k2 ?k3 ?k4 ?_; (case k1 => assumption); (case k2 => walk_at "hp"); (case k3 => walk_at "hp"); (case k4 => walk_at "size"); intro p' H' M')
  | (refine' k_slL ?k1 ?k2 ?_; (case k1 => assumption); (case k2 => first | assumption | exact SqL.of (by walk_at "hp")); intro p' H' M')
  | (refine k_rng1 ?k1 ?k2 ?_; (case k1 => omega); (case k2 => omega)) | (refine k_rng2 ?k1 ?k2 ?k3 ?k4 ?_; (case k1 => omega); (case k2 => omega); (case k3 => omega); (case k4 => omega))
  | (refine' k_lstAt ?k1 ?_; (case k1 => first | assumption | exact SqL.of (by walk_at "hp"))) | (refine' k_tupAt ?k1 ?_; (case k1 => first | assumption | exact SqT.of (by walk_at "hp")))
  | (refine' k_isXs ?k1 ?k2 ?_; (case k1 => assumption); (case k2 => walk_at "hp")) | (refine' k_isXo ?k1 ?k2 ?k3 ?_; (case k1 => assumption); (case k2 => walk_at "hp"); (case k3 => assumption)) | (refine' k_isXt ?k1 ?k2 ?k3 ?_; (case k1 => assumption); (case k2 => walk_at "hp"); (case k3 => assumption))
  | (refine' k_isX3 ?k1 ?k2 ?k3 ?k4 ?_; (case k1 => assumption); (case k2 => walk_at "hp"); (case k3 => walk_at "hp"); (case k4 => assumption)) | (refine' k_isX2 ?k1 ?k2 ?k3 ?k4 ?_; (case k1 => assumption); (case k2 => walk_at "hp"); (case k3 => walk_at "hp"); (case k4 => assumption))
  | (refine' k_tyL ?k1 ?_; (case k1 => walk_at "hp"))
  | (refine' k_appL0 ?k1 ?k2 ?_; (case k1 => assumption); (case k2 => walk_at "size"); intro H' M') | (refine' k_appL1 ?k1 ?k2 ?_; (case k1 => assumption); (case k2 => walk_at "size"); intro H' M') | (refine' k_appL2 ?k1 ?k2 ?_; (case k1 => assumption); (case k2 => walk_at "size"); intro H' M') | (refine' k_appL3 ?k1 ?k2 ?_; (case k1 => assumption); (case k2 => walk_at "size"); intro H' M')
  | (refine' k_revL0 ?k1 ?_; (case k1 => assumption); intro H' M') | (refine' k_revL1 ?k1 ?_; (case k1 => assumption); intro H' M')
  | (refine' k_isX0s ?k1 ?_; (case k1 => assumption)) | (refine' k_isX0o ?k1 ?k2 ?_; (case k1 => assumption); (case k2 => assumption)) | (refine' k_isX0t ?k1 ?k2 ?_; (case k1 => assumption); (case k2 => assumption)) | (refine' k_isX04 ?k1 ?k2 ?k3 ?_; (case k1 => assumption); (case k2 => walk_at "hp"); (case k3 => assumption))
  | (refine' k_isX4 ?k1 ?k2 ?k3 ?k4 ?_; (case k1 => assumption); (case k2 => walk_at "hp"); (case k3 => walk_at "hp"); (case k4 => assumption)) | (refine' k_ixT2 ?k1 ?k2 ?k3 ?_; (case k1 => walk_at "hp"); (case k2 => omega); (case k3 => omega); intro n' hn')
  | (refine k_iteNEq ?k1 ?_; (case k1 => (rw [Bool.eq_iff_iff]; first | (simp; done) | (simp; omega))))
  | (refine' k_xf ?k1 ?k2 ?_; (case k1 => walk_at "hp"); (case k2 => first | exact xd1 | exact xdH | exact xd2 (by decide +kernel)))
  | (refine' k_caught ?k1 ?_; (case k1 => assumption); intro a' ha')
  | refine k_asgT ?_ | refine k_gCons ?_ | refine k_gNil ?_ | refine k_par ?_ | refine k_two ?_ | refine k_isNn ?_ | refine k_isNi ?_ | refine k_notNn ?_ | refine k_notNi ?_ | refine k_isN ?_ | refine k_notN ?_
  | (refine' k_gTup ?k1 ?k2 ?_; (case k1 => walk_at "hp"); (case k2 => with_unfolding_all rfl))
  | (refine' k_isiT ?k1 ?k2 ?_; (case k1 => walk_at "hp"); (case k2 => assumption)) | (refine' k_isiL ?k1 ?k2 ?_; (case k1 => walk_at "hp"); (case k2 => assumption))
  | (refine' k_ixQ ?k1 ?k2 ?_; (case k1 => assumption); (case k2 => walk_at "look")) | (refine' k_lenQ ?k1 ?_; (case k1 => assumption))
  | (refine' k_xfB ?k1 ?k2 ?_; (case k1 => walk_at "hp"); (case k2 => first | exact xd1 | exact xdH | exact xd2 (by decide +kernel)))
  | (refine' k_all ?k1 ?_; (case k1 => walk_at "hp"))
  | (refine' k_tupleOf ?k1 ?k2 ?_; (case k1 => assumption); (case k2 => exact SqL.of (by walk_at "hp")); intro p' H' M')
  | (refine' k_listOf ?k1 ?k2 ?_; (case k1 => assumption); (case k2 => exact Or.inl (SqL.of (by walk_at "hp"))); intro p' H' M')
  | walk_at "use")
local macro_rules | `(tactic| walk_at "go") => `(tactic| repeat' (walk_at "go1"))

local macro_rules | `(tactic| walk_at "eq") => `(tactic| first | rfl | assumption | omega)
local macro_rules | `(tactic| walk_at "fld") => `(tactic| exact xdH)
local macro_rules | `(tactic| walk_at "size") => `(tactic| first | exact sz (by first | omega | (simp only [List.length_map, List.length_range, List.length_append, List.length_cons, List.length_nil, Int.reduceSub, Int.reduceToNat, Int.reduceNeg]; omega)) | (exact Nat.lt_of_le_of_lt (m := 50000) (by first | omega | (simp only [List.length_map, List.length_range, List.length_append, List.length_cons, List.length_nil]; omega)) (by decide)))
section
variable {P : Program} {w : World} {K : PySem.W.Frag} {mg : Str → Option Value} {base : Heap} {C CR fR CN fN CA CU CT CI : Addr}
local macro_rules | `(tactic| walk_at "use") => `(tactic| with_reducible first
  | refine use_isn ?_)
theorem Mem.front {B H : Hp} {ms : List Addr} {f l1 l2 : List (Addr × HO)} {z : Addr × HO} (M : Mem B ms H f (l1 ++ z :: l2)) : Mem B ms H f (z :: (l1 ++ l2)) := M.perm List.perm_middle
def sp_slotsR (C : Addr) : Sp := fun vs H Q _ => ∃ (r dx t0 t l h q w0 : Addr) (xs xs0 ys zs : List V) (ts : List Pr) (S : List (List Int)) (row : List Int), vs = [.ref r, .ref t, .ref l, .ref h, .ref q, .ref w0] ∧ H r = some (.ins C dx (ruF t0)) ∧ H t0 = some (.tup xs0) ∧ Prs H xs0 ts ∧ (∀ t ∈ ts, t.2 = 1 ∨ t.2 = -1) ∧ H t = some (.lst xs) ∧ Prs H xs ts ∧ H l = some (.lst ys) ∧ Sq H h ys ∧ Rws H ys S ∧ S.length ≤ 19 ∧ (∀ r ∈ S, Fit ts r) ∧ H q = some (rowO row) ∧ Fit ts row ∧ H w0 = some (.lst zs) ∧ Prs H zs (wrongL ts S) ∧ ∀ H', Same H H' → Q (.bl true) H'
theorem ok_slotsR {f : Addr} {fd : FuncData} (F : Fun K "_law_slots_right" "_law_slots_right" s__law_slots_right f fd) (T : Txt P K mg C CR fR CN fN CA CU CT CI) (c_slots : Cal P w K mg base 4 "slots" (sp_slots C CN)) (q__law_integer : CalQ P w K mg base 1 "_law_integer" sp_isn) (c__law_wrong : Cal P w K mg base 2 "_law_wrong" sp_wrong) (c__law_numbers_are : Cal P w K mg base 2 "_law_numbers_are" sp_numsare) :
    FnOk P w K mg base (L2.CX P w) (4 + 1) f fd ["_law_rule", "_law_terms_here", "_law_shelf", "_law_handed", "_law_roll_here", "_law_wrong_here"] (sp_slotsR C) := by
  refine okT F sc__law_slots_right (fun vs H Q E h => ?_) (fun cdv A outer s H vs Q E hr tk h => ?_)
  · obtain ⟨r, dx, t0, t, l, h, q, w0, xs, xs0, ys, zs, ts, S, row, rfl, _⟩ := h
    rfl
  obtain ⟨r, dx, t0, t, l, h, q, w0, xs, xs0, ys, zs, ts, S, row, rfl, h0, h1, p0, hd, h2, p1, h3, hq, p2, hl, hf, h4, hfr, h5, p5, k⟩ := h
  have f1 := T.i1; have f2 := T.i2; have f3 := T.i3; have f4 := T.i4; have f6 := T.cl; have f7 := T.nT; have f13 := T.ek; have f14 := T.exm; have f15 := T.k1; have f16 := T.k2; have f17 := T.k3
  refine ⟨_, (pss_cons (ps_try_as (i := 7) rfl rfl sc__law_slots_right.nd rfl rfl ⟨rfl, by decide, Or.inl T.g_ArchiveError⟩ tk
        (fun W1 pn1 xe1 tk1 own1 => (pss_one (ps_set (i := 6) sc__law_slots_right.nd rfl (Or.inl rfl) (c_call c_slots tk1 hr (by decide) (pa_cons (pv 0) (pa_cons (pv 3) (pa_cons (pv 4) pa_nil)))))))
        (fun a0 oe0 cls0 d0 pn0 hz hf => (pss_cons (ps_if (PW.pt (pw_or (pt_not (pt_val (pe_callB (call_isX hz hf) (by rfl) T.b_isinstance (by decide +kernel) (pa_cons (pv 7) (pa_cons (g_ref T.g_NotSorted) pa_nil))))) (pw_or1 (pt_not (pt_val (pe_callB (call_isX hz hf) (by rfl) T.b_isinstance (by decide +kernel) (pa_cons (pv 7) (pa_cons (g_ty (n := "ValueError") T.b_ValueError (by decide +kernel)) pa_nil)))))))) (pss_one (ps_ret pe_bl)) pss_nil)
      (pss_cons (ps_if (PW.pt (pw_or (pt_val (pe_callB (call_isX hz hf) (by rfl) T.b_isinstance (by decide +kernel) (pa_cons (pv 7) (pa_cons (g_ref T.g_ImpossibleError) pa_nil)))) (pw_or1 (pt_val (pe_callB (call_isX hz hf) (by rfl) T.b_isinstance (by decide +kernel) (pa_cons (pv 7) (pa_cons (g_ref T.g_UnknownError) pa_nil))))))) (pss_one (ps_ret pe_bl)) pss_nil)
      (pss_cons (ps_if (PW.pt (pw_or (pt_not (pt_val (q_call q__law_integer (roomQ hr _) (by decide) (pa_cons (pe_xf T.xf_NotSorted T.nx_NotSorted_first hz hf (pv 7)) pa_nil)))) (pw_or1 (pt_not (pt_val (q_call q__law_integer (roomQ hr _) (by decide) (pa_cons (pe_xf T.xf_NotSorted T.nx_NotSorted_second hz hf (pv 7)) pa_nil))))))) (pss_one (ps_ret pe_bl)) pss_nil)
      (pss_one (ps_ret (pe_and (pe_cmpR (op_neD hr.units : OpR _ _ (rNeD K)) (pv 5) (pe_lst pa_nil) (nomark _)) (pe_one (pe_cmpR (op_eqD hr.units : OpR _ _ (rEqD K)) (pe_tup (pa_cons (pe_xf T.xf_NotSorted T.nx_NotSorted_first hz hf (pv 7)) (pa_cons (pe_xf T.xf_NotSorted T.nx_NotSorted_second hz hf (pv 7)) pa_nil))) (pe_ix (ix_list : IxR _ (rIxL K)) (pv 5) pe_int (fun _ _ => rfl)) (nomark _)))))))))))
      (pss_cons (ps_if (pt_cmpR (op_neD hr.units) (pv 5) (pe_lst pa_nil) (nomark _)) (pss_one (ps_ret pe_bl)) pss_nil)
      (pss_cons (ps_set (i := 8) sc__law_slots_right.nd rfl (Or.inl rfl) (pe_lst pa_nil))
      (pss_cons (ps_for (passes_of rfl) rfl (pi_range1 (by rfl) T.b_range (pa_cons (pe_op op_add (pe_callB b_len (by rfl) T.b_len (by decide +kernel) (pa_cons (pv 2) pa_nil)) pe_int) pa_nil)) (pg_name (i := 9) sc__law_slots_right.nd rfl (Or.inl rfl)) (pss_one (ps_if (pt_cmpR (op_eqD hr.units) (c_call c__law_wrong tk hr (by decide) (pa_cons (pv 1) (pa_cons (pe_op op_cat (pe_op op_cat (pe_slice sl_list (pv 2) po_none (po_some (pv 9))) (pe_lst (pa_cons (pv 4) pa_nil))) (pe_slice sl_list (pv 2) (po_some (pv 9)) po_none)) pa_nil))) (pe_lst pa_nil) (nomark _)) (pss_one (ps_expr (pe_bm PySem.F.plainAttrs_list PySem.F.slot_list_append PySem.F.type_list_append mt_append (pv 8) (pa_cons (pv 9) pa_nil)))) pss_nil)))
      (pss_one (ps_ret (c_call c__law_numbers_are tk hr (by decide) (pa_cons (pv 6) (pa_cons (pv 8) pa_nil))))))))), ?_⟩
  simp only [cxK, st__law_slots_right]
  have M : Mem H [] H [] [] := mem_start (by simp []) (by simp) (by simp)
  have hyl := p2.1
  have hzl := p5.1
  have hs : Shf ts S := ⟨by omega, hf⟩
  walk_at "go"
  cases hw : wrongL ts S with
  | cons c rest =>
    refine use_slotsE M h0 h1 p0 hd hq p2 hs h4 hfr hw fun d H1 l1 M1 => ?_
    walk_at "go"
    rename_i a6 _ e6 H6 M6
    have hcne : zs ≠ [] := fun e => by rw [e, hw] at hzl; cases hzl
    obtain ⟨x0, hx0⟩ : ∃ x0, zs[0]? = some x0 := ⟨_, List.getElem?_eq_getElem (List.length_pos_iff.mpr hcne)⟩
    obtain ⟨q0, e0, hq0⟩ := p5.2 0 x0 c hx0 (by rw [hw]; rfl)
    have hat0 : atI zs 0 = some (.ref q0) := by rw [← e0]; exact atI_0 hx0
    refine k_neNilP (M6.atB0 h5) (M6.getL List.mem_cons_self) (p5.same (Same.of_keep M6)) ?_
    rw [hw, show (!(c :: rest).isEmpty) = true from rfl]
    have h56 := M6.atB0 h5
    have hq06 := M6.atB0 hq0
    walk_at "go"
    rename_i H7 M7
    rw [decide_eq_true (rfl : c.fst = c.fst), decide_eq_true (rfl : c.snd = c.snd)]
    exact k _ (Same.of_keep M7)
  | nil =>
    refine use_slots M h0 h1 p0 hd hq p2 hs h4 hfr hw fun d H1 l1 M1 => ?_
    walk_at "go"
    rename_i e6 H6 M6
    refine k_neNilP (M6.atB0 h5) (M6.getL List.mem_cons_self) (p5.same (Same.of_keep M6)) ?_
    rw [hw, show (!([] : List Pr).isEmpty) = false from rfl]
    walk_at "go"
    rename_i p8 H8 M8
    have h38 := M8.atB0 h3
    walk_at "go"
    refine rng_loop ⟨fun i σ' H' => ∃ (v9 : Option V) (l' : List (Addr × HO)), σ' = [some (.ref r), some (.ref t), some (.ref l), some (.ref h), some (.ref q), some (.ref w0), some (.ref d), none, some (.ref p8), v9] ∧ Mem H [] H' [] ((p8, .lst ((((List.range i).filter (fitsAt ts S row)).map fun (k : Nat) => (k : Int)).map V.int)) :: l') ∧ (d, HO.lst ((slotL ts S row).map V.int)) ∈ l', ?_, ?_, ?_⟩
    · exact ⟨_, _, rfl, M8, List.mem_cons_of_mem _ List.mem_cons_self⟩
    · rintro i σ' H' hi ⟨v9, l', rfl, M', hdl⟩
      have hil : i < ys.length + 1 := by omega
      have hlen := acc_len (P := fitsAt ts S row) (i := i)
      have hnx := acc_next (P := fitsAt ts S row) (i := i)
      have h3' := M'.atB0 h3
      have hsln : (slotL ts S row).length ≤ 20 := by rw [slotL, List.length_map]; have := List.length_filter_le (fun k => (wrongL ts (S.take k ++ [row] ++ S.drop k)).isEmpty) (List.range (S.length + 1)); rw [List.length_range] at this; omega
      have hfit : Shf ts (S.take i ++ [row] ++ S.drop i) := ⟨by rw [List.length_append, List.length_append, List.length_take, List.length_drop, List.length_singleton]; omega, fun r' hr' => by
        rcases List.mem_append.mp hr' with z | z
        · rcases List.mem_append.mp z with z | z
          · exact hf r' (List.mem_of_mem_take z)
          · rw [List.mem_singleton.mp z]; exact hfr
        · exact hf r' (List.mem_of_mem_drop z)⟩
      walk_at "go"
      rename_i s1 H1 M1 s2 H2 M2
      rw [Int.zero_add, cut_take (by omega)] at M2
      refine k_cat (xs := ys.take i) (ys := [.ref q]) M2 (M2.getL (List.mem_cons_of_mem _ List.mem_cons_self)) (M2.getL List.mem_cons_self) (sz (by rw [List.length_take, List.length_singleton]; omega)) fun q3 H3 M3 => ?_
      have h33 := M3.atB0 h3
      walk_at "go"
      rename_i s4 H4 M4
      rw [Int.zero_add, cut_drop (by omega)] at M4
      refine k_cat (xs := ys.take i ++ [.ref q]) (ys := ys.drop i) M4 (M4.getL (List.mem_cons_of_mem _ List.mem_cons_self)) (M4.getL List.mem_cons_self) (sz (by rw [List.length_append, List.length_take, List.length_singleton, List.length_drop]; omega)) fun q5 H5 M5 => ?_
      walk_at "go"
      refine use_wrong M5 (M5.atB0 h2) (p1.same (Same.of_keep M5)) (M5.getL List.mem_cons_self) ((((p2.take i).append (PX.one h4)).append (p2.drop i)).mono fun p r e => M5.atB0 e) hfit fun d6 zs6 H6 l6 M6 pz6 => ?_
      walk_at "go"
      rename_i e7 H7 M7
      refine k_eqNil (SqL.of (M7.getL (List.mem_cons_of_mem _ List.mem_cons_self))) (M7.getL List.mem_cons_self) (PrL.prs M7 (pz6.more fun z hz => List.mem_cons_of_mem _ (List.mem_cons_of_mem _ (List.mem_append_left _ hz)))).dp (pd_shaped _) ?_
      have hze : zs6.isEmpty = (wrongL ts (S.take i ++ [row] ++ S.drop i)).isEmpty := by
        have := pz6.1
        cases zs6 <;> cases h8 : wrongL ts (S.take i ++ [row] ++ S.drop i) <;> rw [h8] at this <;> simp at this ⊢
      rw [hze]
      have M7b := Mem.front (l1 := (e7, .lst []) :: (d6, .lst zs6) :: (l6 ++ [(q5, .lst (ys.take i ++ [.ref q] ++ ys.drop i)), (s4, .lst (ys.drop i)), (q3, .lst (ys.take i ++ [.ref q])), (s2, .lst [.ref q]), (s1, .lst (ys.take i))])) (z := (p8, .lst ((((List.range i).filter (fitsAt ts S row)).map fun (k : Nat) => (k : Int)).map V.int))) (l2 := l') (by rw [List.cons_append, List.cons_append, List.append_assoc]; exact M7)
      have hdm : (d, HO.lst ((slotL ts S row).map V.int)) ∈ (e7, .lst []) :: (d6, .lst zs6) :: (l6 ++ [(q5, .lst (ys.take i ++ [.ref q] ++ ys.drop i)), (s4, .lst (ys.drop i)), (q3, .lst (ys.take i ++ [.ref q])), (s2, .lst [.ref q]), (s1, .lst (ys.take i))]) ++ l' := List.mem_append_right _ hdl
      cases hE : (wrongL ts (S.take i ++ [row] ++ S.drop i)).isEmpty with
      | true =>
        have hP : fitsAt ts S row i = true := hE
        walk_at "go"
        rename_i H8 M8
        rw [Int.zero_add] at M8
        exact ⟨_, _, rfl, (congrArg (fun z => Mem H [] H8 [] ((p8, HO.lst z) :: _)) (by rw [hnx, if_pos hP])).mpr M8, hdm⟩
      | false =>
        have hP : ¬ fitsAt ts S row i = true := by rw [fitsAt, hE]; exact Bool.false_ne_true
        walk_at "go"
        exact ⟨_, _, rfl, (congrArg (fun z => Mem H [] H7 [] ((p8, HO.lst z) :: _)) (by rw [hnx, if_neg hP, List.append_nil])).mpr M7b, hdm⟩
    · rintro σ' H' ⟨v9, l', rfl, M', hdl⟩
      have e7 : ((ys.length : Int) + 1).toNat = S.length + 1 := by omega
      rw [e7] at M'
      walk_at "go"
      refine use_numsare (ns := slotL ts S row) (M'.getL (List.mem_cons_of_mem _ hdl)) (M'.getL List.mem_cons_self) ?_ (k _ (Same.of_keep M'))
      rw [slotL, List.length_map]; have := List.length_filter_le (fun k => (wrongL ts (S.take k ++ [row] ++ S.drop k)).isEmpty) (List.range (S.length + 1)); rw [List.length_range] at this; omega
end
end K32

set_option Elab.async false
set_option linter.all false
set_option maxRecDepth 100000
set_option maxHeartbeats 8000000
namespace K32
open PySem L2 MyL
local macro_rules | `(tactic| walk_at "mem") => `(tactic| first | exact List.mem_cons_self | (refine List.mem_cons_of_mem _ ?_; walk_at "mem"))
local macro_rules | `(tactic| walk_at "hp") => `(tactic| first | assumption | (refine' Mem.getL ?k1 ?k2; (case k1 => assumption); (case k2 => walk_at "mem")) | (refine' Mem.getF ?k1 ?k2; (case k1 => assumption); (case k2 => walk_at "mem")) | (refine' Mem.atB ?k1 ?k2; (case k1 => assumption); (case k2 => assumption)))
local macro_rules | `(tactic| walk_at "cond") => `(tactic| first | omega | assumption | exact mulR (by omega) (by omega) | exact mulL (by omega) (by omega) | exact divW (by omega) (by omega) | decide)
local macro_rules | `(tactic| walk_at "look") => `(tactic| first | assumption | with_unfolding_all rfl | exact atI_map (by omega) (by omega))
local macro_rules | `(tactic| walk_at "go1") => `(tactic| with_reducible first
  | refine k_seq ?_ | refine k_gName ?_ | refine k_asg ?_ | refine k_ret ?_ | refine k_ifS ?_ | refine k_drop ?_ | refine k_next ?_ | refine k_break ?_ | refine k_cont ?_ | refine k_retN ?_
  | (refine' k_var ?k1 ?_; (case k1 => with_unfolding_all rfl)) | refine k_c ?_ | refine k_op ?_ | refine k_un ?_ | refine k_test ?_ | refine k_B ?_ | refine k_bl ?_ | refine k_and ?_ | refine k_or ?_ | refine k_not ?_
  | refine k_andV ?_ | refine k_orV ?_ | refine k_notV ?_ | refine k_ifE ?_ | refine k_nil ?_ | refine k_cons ?_ | refine k_cb ?_ | refine k_callS ?_ | refine k_lst0 ?_ | refine k_tup0 ?_ | refine k_fld0 ?_ | refine k_sub0 ?_ | refine k_make0 ?_ | refine k_prop0 ?_ | refine k_sta0 ?_ | refine k_sta ?_ | refine k_bm ?_ | refine k_bm0 ?_ | refine k_chain ?_ | refine k_makeK0 ?_ | refine k_swapK ?_ | refine k_meth0 ?_ | refine k_ownN0 ?_ | refine k_ownO0 ?_ | refine k_sfld0 ?_ | refine k_jnil ?_ | refine k_jcons ?_ | refine k_fmt0 ?_ | refine k_sl0 ?_ | refine k_nopart ?_ | refine k_part ?_ | refine k_forR1 ?_ | refine k_forR2 ?_ | refine k_forL ?_ | refine k_forT ?_ | refine k_lcR1 ?_ | refine k_lcR2 ?_ | refine k_lcL ?_ | refine k_lcT ?_ | refine k_err0 ?_ | refine k_xf0 ?_ | refine k_errQ1 ?_ | refine k_errQ0 ?_ | refine k_errQ2 ?_ | refine k_errQ3 ?_
  | refine k_I0 ?_ | (refine k_I ?k1 ?_; (case k1 => walk_at "cond")) | refine k_U ?_ | refine k_eqI ?_ | refine k_neI ?_ | refine k_eqB ?_ | refine k_neB ?_ | refine k_eqS ?_ | refine k_neS ?_
  | refine k_int1 ?_ | refine k_abs1 ?_ | refine k_min2 ?_ | refine k_max2 ?_
  | (refine' k_lenM ?k1 ?_; (case k1 => walk_at "hp")) | (refine' k_lenL ?k1 ?_; (case k1 => walk_at "hp")) | (refine' k_lenT ?k1 ?_; (case k1 => walk_at "hp"))
  | (refine' k_lenS ?k1 ?_; (case k1 => assumption)) | (refine' k_ixS ?k1 ?k2 ?_; (case k1 => assumption); (case k2 => walk_at "look"))
  | (refine' k_ixL ?k1 ?k2 ?_; (case k1 => walk_at "hp"); (case k2 => walk_at "look")) | (refine' k_ixT ?k1 ?k2 ?_; (case k1 => walk_at "hp"); (case k2 => walk_at "look"))
  | (refine' k_ix4 ?k1 ?k2 ?k3 ?_; (case k1 => walk_at "hp"); (case k2 => omega); (case k3 => omega); intro n' hn')
  | (refine' k_ix3 ?k1 ?k2 ?k3 ?_; (case k1 => walk_at "hp"); (case k2 => omega); (case k3 => omega); intro n' hn')
  | (refine' k_ix2 ?k1 ?k2 ?k3 ?_; (case k1 => walk_at "hp"); (case k2 => omega); (case k3 => omega); intro n' hn')
  | (refine' k_fld ?k1 ?k2 ?k3 ?k4 ?_; (case k1 => walk_at "hp"); (case k2 => assumption); (case k3 => assumption); (case k4 => walk_at "fld"))
  | (refine' k_lst ?k1 ?k2 ?_; (case k1 => assumption); (case k2 => exact sz (by simp)); intro p' H' M')
  | (refine' k_tup ?k1 ?k2 ?_; (case k1 => assumption); (case k2 => exact sz (by simp)); intro p' H' M')
  | (refine' k_setF0 ?k1 ?k2 ?k3 ?_; (case k1 => assumption); (case k2 => simp); (case k3 => with_unfolding_all rfl); intro H' M'; try simp only [Int.reduceToNat, List.set_cons_succ, List.set_cons_zero] at M')
  | (refine' k_setL0 ?k1 ?k2 ?_; (case k1 => assumption); (case k2 => with_unfolding_all rfl); intro H' M'; try simp only [Int.reduceToNat, List.set_cons_succ, List.set_cons_zero] at M')
  | (refine' k_setL1 ?k1 ?k2 ?_; (case k1 => assumption); (case k2 => with_unfolding_all rfl); intro H' M'; try simp only [Int.reduceToNat, List.set_cons_succ, List.set_cons_zero] at M')
  | (refine' k_setL2 ?k1 ?k2 ?_; (case k1 => assumption); (case k2 => with_unfolding_all rfl); intro H' M'; try simp only [Int.reduceToNat, List.set_cons_succ, List.set_cons_zero] at M')
  | refine iteT ?_ | refine iteF ?_ | refine k_iteNE ?_ | refine k_iteNS ?_ | refine k_iteNT ?_ | refine k_iteNF ?_
  | (refine k_iteD ?_ ?_ <;> intro hc <;> first | (exfalso; omega) | skip)
  | (refine k_iteN ?_ ?_ <;> intro hc <;> first | (exfalso; omega) | skip)
  | (refine' k_ownN ?k1 ?_; (case k1 => walk_at "hp")) | (refine' k_ownO ?k1 ?k2 ?_; (case k1 => walk_at "hp"); (case k2 => walk_at "hp")) | (refine' k_ownEq ?k1 ?k2 ?_; (case k1 => walk_at "hp"); (case k2 => walk_at "hp"))
  | (refine' k_ownIn ?k1 ?_; (case k1 => walk_at "hp")) | (refine' k_ownU ?k1 ?_; (case k1 => walk_at "hp")) | (refine' k_ownStr ?k1 ?_; (case k1 => walk_at "hp"))
  | (refine' k_prop ?k1 ?_; (case k1 => walk_at "hp")) | (refine' k_ownNe ?k1 ?k2 ?_; (case k1 => walk_at "hp"); (case k2 => walk_at "hp")) | (refine' k_eqP ?k1 ?k2 ?_; (case k1 => walk_at "hp"); (case k2 => walk_at "hp")) | (refine' k_neP ?k1 ?k2 ?_; (case k1 => walk_at "hp"); (case k2 => walk_at "hp"))
  | (refine' k_isiO ?k1 ?k2 ?k3 ?k4 ?k5 ?k6 ?_; (case k1 => walk_at "hp"); (case k2 => assumption); (case k3 => assumption); (case k4 => assumption); (case k5 => assumption); (case k6 => assumption))
  | (refine' k_isiI ?k1 ?_; (case k1 => assumption))
  | (refine' k_jst ?k1 ?_; (case k1 => walk_at "size")) | (refine' k_fmtI ?k1 ?_; (case k1 => exact log2_64 (by omega) (by omega))) | (refine' k_strI ?k1 ?_; (case k1 => exact log2_64 (by omega) (by omega)))
  | (refine k_addS ?k1 ?_; (case k1 => walk_at "size")) | refine k_st ?_ | refine k_parti ?_
  | (refine' k_cat ?k1 ?k2 ?k3 ?k4 ?_; (case k1 => assumption); (case k2 => walk_at "hp"); (case k3 => walk_at "hp"); (case k4 => walk_at "size"); intro p' H' M')
  | (refine' k_slL ?k1 ?k2 ?_; (case k1 => assumption); (case k2 => first | assumption | exact SqL.of (by walk_at "hp")); intro p' H' M')
  | (refine k_rng1 ?k1 ?k2 ?_; (case k1 => omega); (case k2 => omega)) | (refine k_rng2 ?k1 ?k2 ?k3 ?k4 ?_; (case k1 => omega); (case k2 => omega); (case k3 => omega); (case k4 => omega))
  | (refine' k_lstAt ?k1 ?_; (case k1 => first | assumption | exact SqL.of (by walk_at "hp"))) | (refine' k_tupAt ?k1 ?_; (case k1 => first | assumption | exact SqT.of (by walk_at "hp")))
  | (refine' k_isXs ?k1 ?k2 ?_; (case k1 => assumption); (case k2 => walk_at "hp")) | (refine' k_isXo ?k1 ?k2 ?k3 ?_; (case k1 => assumption); (case k2 => walk_at "hp"); (case k3 => assumption)) | (refine' k_isXt ?k1 ?k2 ?k3 ?_; (case k1 => assumption); (case k2 => walk_at "hp"); (case k3 => assumption))
  | (refine' k_isX3 ?k1 ?k2 ?k3 ?k4 ?_; (case k1 => assumption); (case k2 => walk_at "hp"); (case k3 => walk_at "hp"); (case k4 => assumption)) | (refine' k_isX2 ?k1 ?k2 ?k3 ?k4 ?_; (case k1 => assumption); (case k2 => walk_at "hp"); (case k3 => walk_at "hp"); (case k4 => assumption))
  | (refine' k_tyL ?k1 ?_; (case k1 => walk_at "hp"))
  | (refine' k_appL0 ?k1 ?k2 ?_; (case k1 => assumption); (case k2 => walk_at "size"); intro H' M') | (refine' k_appL1 ?k1 ?k2 ?_; (case k1 => assumption); (case k2 => walk_at "size"); intro H' M') | (refine' k_appL2 ?k1 ?k2 ?_; (case k1 => assumption); (case k2 => walk_at "size"); intro H' M') | (refine' k_appL3 ?k1 ?k2 ?_; (case k1 => assumption); (case k2 => walk_at "size"); intro H' M')
  | (refine' k_revL0 ?k1 ?_; (case k1 => assumption); intro H' M') | (refine' k_revL1 ?k1 ?_; (case k1 => assumption); intro H' M')
  | (refine' k_isX0s ?k1 ?_; (case k1 => assumption)) | (refine' k_isX0o ?k1 ?k2 ?_; (case k1 => assumption); (case k2 => assumption)) | (refine' k_isX0t ?k1 ?k2 ?_; (case k1 => assumption); (case k2 => assumption)) | (refine' k_isX04 ?k1 ?k2 ?k3 ?_; (case k1 => assumption); (case k2 => walk_at "hp"); (case k3 => assumption))
  | (refine' k_isX4 ?k1 ?k2 ?k3 ?k4 ?_; (case k1 => assumption); (case k2 => walk_at "hp"); (case k3 => walk_at "hp"); (case k4 => assumption)) | (refine' k_ixT2 ?k1 ?k2 ?k3 ?_; (case k1 => walk_at "hp"); (case k2 => omega); (case k3 => omega); intro n' hn')
  | (refine k_iteNEq ?k1 ?_; (case k1 => (rw [Bool.eq_iff_iff]; first | (simp; done) | (simp; omega))))
  | (refine' k_xf ?k1 ?k2 ?_; (case k1 => walk_at "hp"); (case k2 => first | exact xd1 | exact xdH | exact xd2 (by decide +kernel)))
  | (refine' k_caught ?k1 ?_; (case k1 => assumption); intro a' ha')
  | refine k_asgT ?_ | refine k_gCons ?_ | refine k_gNil ?_ | refine k_par ?_ | refine k_two ?_ | refine k_isNn ?_ | refine k_isNi ?_ | refine k_notNn ?_ | refine k_notNi ?_ | refine k_isN ?_ | refine k_notN ?_
  | (refine' k_gTup ?k1 ?k2 ?_; (case k1 => walk_at "hp"); (case k2 => with_unfolding_all rfl))
  | (refine' k_isiT ?k1 ?k2 ?_; (case k1 => walk_at "hp"); (case k2 => assumption)) | (refine' k_isiL ?k1 ?k2 ?_; (case k1 => walk_at "hp"); (case k2 => assumption))
  | (refine' k_ixQ ?k1 ?k2 ?_; (case k1 => assumption); (case k2 => walk_at "look")) | (refine' k_lenQ ?k1 ?_; (case k1 => assumption))
  | (refine' k_xfB ?k1 ?k2 ?_; (case k1 => walk_at "hp"); (case k2 => first | exact xd1 | exact xdH | exact xd2 (by decide +kernel)))
  | (refine' k_all ?k1 ?_; (case k1 => walk_at "hp"))
  | (refine' k_tupleOf ?k1 ?k2 ?_; (case k1 => assumption); (case k2 => exact SqL.of (by walk_at "hp")); intro p' H' M')
  | (refine' k_listOf ?k1 ?k2 ?_; (case k1 => assumption); (case k2 => exact Or.inl (SqL.of (by walk_at "hp"))); intro p' H' M')
  | walk_at "use")
local macro_rules | `(tactic| walk_at "go") => `(tactic| repeat' (walk_at "go1"))

local macro_rules | `(tactic| walk_at "eq") => `(tactic| first | rfl | assumption | omega)
local macro_rules | `(tactic| walk_at "fld") => `(tactic| exact xdH)
local macro_rules | `(tactic| walk_at "size") => `(tactic| first | exact sz (by first | omega | (simp only [List.length_map, List.length_range, List.length_append, List.length_cons, List.length_nil, Int.reduceSub, Int.reduceToNat, Int.reduceNeg]; omega)) | (exact Nat.lt_of_le_of_lt (m := 50000) (by first | omega | (simp only [List.length_map, List.length_range, List.length_append, List.length_cons, List.length_nil]; omega)) (by decide)))
section
variable {P : Program} {w : World} {K : PySem.W.Frag} {mg : Str → Option Value} {base : Heap} {C CR fR CN fN CA CU CT CI : Addr}
local macro_rules | `(tactic| walk_at "use") => `(tactic| with_reducible first
  | refine use_isn ?_)
theorem use_slotsR {B H : Hp} {ms : List Addr} {f l0 : List (Addr × HO)} {Q : VK} {E : XK} {r dx t0 t l h q w0 : Addr} {xs xs0 ys zs : List V} {ts : List Pr} {S : List (List Int)} {row : List Int} (M : Mem B ms H f l0) (h0 : H r = some (.ins C dx (ruF t0))) (h1 : H t0 = some (.tup xs0)) (p0 : Prs H xs0 ts) (hd : ∀ t ∈ ts, t.2 = 1 ∨ t.2 = -1) (h2 : H t = some (.lst xs)) (p1 : Prs H xs ts) (h3 : H l = some (.lst ys)) (hq : Sq H h ys) (p2 : Rws H ys S) (hl : S.length ≤ 19) (hf : ∀ r ∈ S, Fit ts r) (h4 : H q = some (rowO row)) (hfr : Fit ts row) (h5 : H w0 = some (.lst zs)) (p5 : Prs H zs (wrongL ts S)) (k : ∀ H', Mem B ms H' f l0 → Q (.bl true) H') : sp_slotsR C [.ref r, .ref t, .ref l, .ref h, .ref q, .ref w0] H Q E :=
  ⟨r, dx, t0, t, l, h, q, w0, xs, xs0, ys, zs, ts, S, row, rfl, h0, h1, p0, hd, h2, p1, h3, hq, p2, hl, hf, h4, hfr, h5, p5, fun H' s => k H' (M.same s)⟩
theorem use_lstray {B H : Hp} {ms : List Addr} {f l0 : List (Addr × HO)} {Q : VK} {E : XK} {t l w0 : Addr} {xs ys zs : List V} {ts : List Pr} {S : List (List Int)} (M : Mem B ms H f l0) (h1 : H t = some (.lst xs)) (p1 : Prs H xs ts) (h2 : H l = some (.lst ys)) (p2 : Rws H ys S) (hs : Shf ts S) (h3 : H w0 = some (.lst zs)) (p3 : Prs H zs (wrongL ts S)) (k : ∀ d H' l2, Mem B ms H' f ((d, .lst ((strayL ts S).map V.int)) :: (l2 ++ l0)) → Q (.ref d) H') : sp_lstray [.ref t, .ref l, .ref w0] H Q E :=
  ⟨t, l, w0, xs, ys, zs, ts, S, rfl, h1, p1, h2, p2, hs, h3, p3, fun d H' l2 M2 => k d H' l2 (M.comp0 M2)⟩
theorem stray_len {ts : List Pr} {S : List (List Int)} : (strayL ts S).length ≤ S.length := by
  rw [strayL, List.length_map]
  have := List.length_filter_le (isStray ts S) (List.range S.length)
  rw [List.length_range] at this
  exact this
def sp_asked (C : Addr) : Sp := fun vs H Q _ => ∃ (r dx t0 t l q : Addr) (xs xs0 ys : List V) (ts : List Pr) (S : List (List Int)) (row : List Int) (way : Int), vs = [.ref r, .ref t, .ref l, .ref q, .int way] ∧ H r = some (.ins C dx (ruF t0)) ∧ H t0 = some (.tup xs0) ∧ Prs H xs0 ts ∧ (∀ t ∈ ts, t.2 = 1 ∨ t.2 = -1) ∧ H t = some (.lst xs) ∧ Prs H xs ts ∧ H l = some (.lst ys) ∧ Rws H ys S ∧ S.length ≤ 19 ∧ (∀ r ∈ S, Fit ts r) ∧ H q = some (rowO row) ∧ Fit ts row ∧ ∀ H', Same H H' → Q (.bl true) H'
theorem ok_asked {f : Addr} {fd : FuncData} (F : Fun K "_law_asked" "_law_asked" s__law_asked f fd) (T : Txt P K mg C CR fR CN fN CA CU CT CI) (c__law_wrong : Cal P w K mg base 2 "_law_wrong" sp_wrong) (c__law_pairs_are : Cal P w K mg base 2 "_law_pairs_are" sp_pairsare) (c_wrong_pairs : Cal P w K mg base 3 "wrong_pairs" (sp_wpairs C)) (c__law_numbers_are : Cal P w K mg base 2 "_law_numbers_are" sp_numsare) (c_strays : Cal P w K mg base 4 "strays" (sp_stray C)) (c__law_strays : Cal P w K mg base 3 "_law_strays" sp_lstray) (c__law_slots_right : Cal P w K mg base 5 "_law_slots_right" (sp_slotsR C)) :
    FnOk P w K mg base (L2.CX P w) (5 + 1) f fd ["_law_rule", "_law_terms_here", "_law_shelf", "_law_roll_here", "_law_way"] (sp_asked C) := by
  refine okT F sc__law_asked (fun vs H Q E h => ?_) (fun cdv A outer s H vs Q E hr tk h => ?_)
  · obtain ⟨r, dx, t0, t, l, q, xs, xs0, ys, ts, S, row, way, rfl, _⟩ := h
    rfl
  obtain ⟨r, dx, t0, t, l, q, xs, xs0, ys, ts, S, row, way, rfl, h0, h1, p0, hd, h2, p1, h3, p2, hl, hf, h4, hfr, k⟩ := h
  have f1 := T.i1; have f2 := T.i2; have f3 := T.i3; have f4 := T.i4; have f6 := T.cl; have f7 := T.nT; have f13 := T.ek; have f14 := T.exm; have f15 := T.k1; have f16 := T.k2; have f17 := T.k3
  refine ⟨_, (pss_cons (ps_set (i := 5) sc__law_asked.nd rfl (Or.inl rfl) (pe_callTy b_listOf (by rfl) T.b_list (by decide +kernel) (pa_cons (pv 2) pa_nil)))
      (pss_cons (ps_if (pt_cmpR op_eq (pv 4) pe_int (nomark _)) (pss_one (ps_set (i := 5) sc__law_asked.nd rfl (Or.inl rfl) (pe_callTy b_tupleOf (by rfl) T.b_tuple (by decide +kernel) (pa_cons (pv 2) pa_nil)))) pss_nil)
      (pss_cons (ps_set (i := 6) sc__law_asked.nd rfl (Or.inl rfl) (c_call c__law_wrong tk hr (by decide) (pa_cons (pv 1) (pa_cons (pv 2) pa_nil))))
      (pss_cons (ps_if (pt_not (pt_val (c_call c__law_pairs_are tk hr (by decide) (pa_cons (c_call c_wrong_pairs tk hr (by decide) (pa_cons (pv 0) (pa_cons (pv 5) pa_nil))) (pa_cons (pv 6) pa_nil))))) (pss_one (ps_ret pe_bl)) pss_nil)
      (pss_cons (ps_if (pt_not (pt_val (c_call c__law_numbers_are tk hr (by decide) (pa_cons (c_call c_strays tk hr (by decide) (pa_cons (pv 0) (pa_cons (pv 5) pa_nil))) (pa_cons (c_call c__law_strays tk hr (by decide) (pa_cons (pv 1) (pa_cons (pv 2) (pa_cons (pv 6) pa_nil)))) pa_nil))))) (pss_one (ps_ret pe_bl)) pss_nil)
      (pss_cons (ps_if (pt_not (pt_val (c_call c__law_slots_right tk hr (by decide) (pa_cons (pv 0) (pa_cons (pv 1) (pa_cons (pv 2) (pa_cons (pv 5) (pa_cons (pv 3) (pa_cons (pv 6) pa_nil))))))))) (pss_one (ps_ret pe_bl)) pss_nil)
      (pss_one (ps_ret (pe_and (pe_cmpR (op_eqD hr.units) (pe_callTy b_listOf (by rfl) T.b_list (by decide +kernel) (pa_cons (pv 5) pa_nil)) (pv 2) (nomark _)) (pe_one (pe_cmpR (op_eqD hr.units) (pe_callTy b_listOf (by rfl) T.b_list (by decide +kernel) (pa_cons (pe_fld (pv 0) rfl) pa_nil)) (pv 1) (nomark _)))))))))))), ?_⟩
  simp only [cxK, st__law_asked]
  have M : Mem H [] H [] [] := mem_start (by simp []) (by simp) (by simp)
  have hyl := p2.1
  have hs : Shf ts S := ⟨by omega, hf⟩
  have hwl := wrong_len (ts := ts) hs.1
  have hsl := stray_len (ts := ts) (S := S)
  walk_at "go"
  · rename_i h H2 M2
    refine use_wrong M2 (M2.atB0 h2) (p1.same (Same.of_keep M2)) (M2.atB0 h3) (p2.same (Same.of_keep M2)) hs fun w0 zs H3 l3 M3 pz => ?_
    have hzl := pz.1
    walk_at "go"
    refine use_wpairs M3 (M3.atB0 h0) (M3.atB0 h1) (p0.same (Same.of_keep M3)) hd (.inr (M3.getL (by simp))) (p2.same (Same.of_keep M3)) hs fun d4 zs4 H4 l4 M4 pz4 => ?_
    walk_at "go"
    refine use_pairsare (M4.getL List.mem_cons_self) (M4.getL (a := w0) (o := .lst zs) (by simp)) (PrL.prs M4 (pz4.more fun z hz => by simp [hz])) (PrL.prs M4 (pz.more fun z hz => by simp [hz])) (by have := pz4.1; omega) ?_
    walk_at "go"
    refine use_stray M4 (M4.atB0 h0) (M4.atB0 h1) (p0.same (Same.of_keep M4)) hd (.inr (M4.getL (by simp))) (p2.same (Same.of_keep M4)) hs fun d5 H5 l5 M5 => ?_
    walk_at "go"
    refine use_lstray M5 (M5.atB0 h2) (p1.same (Same.of_keep M5)) (M5.atB0 h3) (p2.same (Same.of_keep M5)) hs (M5.getL (a := w0) (o := .lst zs) (by simp)) (PrL.prs M5 (pz.more fun z hz => by simp [hz])) fun d6 H6 l6 M6 => ?_
    walk_at "go"
    refine use_numsare (ns := strayL ts S) (M6.getL (by simp)) (M6.getL List.mem_cons_self) (by omega) ?_
    walk_at "go"
    refine use_slotsR M6 (M6.atB0 h0) (M6.atB0 h1) (p0.same (Same.of_keep M6)) hd (M6.atB0 h2) (p1.same (Same.of_keep M6)) (M6.atB0 h3) (.inr (M6.getL (by simp))) (p2.same (Same.of_keep M6)) hl hf (M6.atB0 h4) hfr (M6.getL (a := w0) (o := .lst zs) (by simp)) (PrL.prs M6 (pz.more fun z hz => by simp [hz])) fun H7 M7 => ?_
    walk_at "go"
    refine k_listOf (xs := ys) M7 (.inr (SqT.of (M7.getL (by simp)))) fun d8 H8 M8 => ?_
    walk_at "go"
    refine k_eqRws (M8.getL List.mem_cons_self) (M8.atB0 h3) (p2.same (Same.of_keep M8)) (p2.same (Same.of_keep M8)) ?_
    have h08 := M8.atB0 h0
    walk_at "go"
    refine k_listOf M8 (.inr (SqT.of (M8.atB0 h1))) fun d9 H9 M9 => ?_
    walk_at "go"
    refine k_eqPrs (M9.getL List.mem_cons_self) (M9.atB0 h2) (p0.same (Same.of_keep M9)) (p1.same (Same.of_keep M9)) ?_
    exact k _ (Same.of_keep M9)
  · rename_i h H2 M2 hc
    refine use_wrong M2 (M2.atB0 h2) (p1.same (Same.of_keep M2)) (M2.atB0 h3) (p2.same (Same.of_keep M2)) hs fun w0 zs H3 l3 M3 pz => ?_
    have hzl := pz.1
    walk_at "go"
    refine use_wpairs M3 (M3.atB0 h0) (M3.atB0 h1) (p0.same (Same.of_keep M3)) hd (.inl (M3.getL (by simp))) (p2.same (Same.of_keep M3)) hs fun d4 zs4 H4 l4 M4 pz4 => ?_
    walk_at "go"
    refine use_pairsare (M4.getL List.mem_cons_self) (M4.getL (a := w0) (o := .lst zs) (by simp)) (PrL.prs M4 (pz4.more fun z hz => by simp [hz])) (PrL.prs M4 (pz.more fun z hz => by simp [hz])) (by have := pz4.1; omega) ?_
    walk_at "go"
    refine use_stray M4 (M4.atB0 h0) (M4.atB0 h1) (p0.same (Same.of_keep M4)) hd (.inl (M4.getL (by simp))) (p2.same (Same.of_keep M4)) hs fun d5 H5 l5 M5 => ?_
    walk_at "go"
    refine use_lstray M5 (M5.atB0 h2) (p1.same (Same.of_keep M5)) (M5.atB0 h3) (p2.same (Same.of_keep M5)) hs (M5.getL (a := w0) (o := .lst zs) (by simp)) (PrL.prs M5 (pz.more fun z hz => by simp [hz])) fun d6 H6 l6 M6 => ?_
    walk_at "go"
    refine use_numsare (ns := strayL ts S) (M6.getL (by simp)) (M6.getL List.mem_cons_self) (by omega) ?_
    walk_at "go"
    refine use_slotsR M6 (M6.atB0 h0) (M6.atB0 h1) (p0.same (Same.of_keep M6)) hd (M6.atB0 h2) (p1.same (Same.of_keep M6)) (M6.atB0 h3) (.inl (M6.getL (by simp))) (p2.same (Same.of_keep M6)) hl hf (M6.atB0 h4) hfr (M6.getL (a := w0) (o := .lst zs) (by simp)) (PrL.prs M6 (pz.more fun z hz => by simp [hz])) fun H7 M7 => ?_
    walk_at "go"
    refine k_listOf (xs := ys) M7 (.inl (SqL.of (M7.getL (by simp)))) fun d8 H8 M8 => ?_
    walk_at "go"
    refine k_eqRws (M8.getL List.mem_cons_self) (M8.atB0 h3) (p2.same (Same.of_keep M8)) (p2.same (Same.of_keep M8)) ?_
    have h08 := M8.atB0 h0
    walk_at "go"
    refine k_listOf M8 (.inr (SqT.of (M8.atB0 h1))) fun d9 H9 M9 => ?_
    walk_at "go"
    refine k_eqPrs (M9.getL List.mem_cons_self) (M9.atB0 h2) (p0.same (Same.of_keep M9)) (p1.same (Same.of_keep M9)) ?_
    exact k _ (Same.of_keep M9)
end
end K32

set_option Elab.async false
set_option linter.all false
set_option maxRecDepth 100000
set_option maxHeartbeats 8000000
namespace K32
open PySem L2 MyL
local macro_rules | `(tactic| walk_at "mem") => `(tactic| first | exact List.mem_cons_self | (refine List.mem_cons_of_mem _ ?_; walk_at "mem"))
local macro_rules | `(tactic| walk_at "hp") => `(tactic| first | assumption | (refine' Mem.getL ?k1 ?k2; (case k1 => assumption); (case k2 => walk_at "mem")) | (refine' Mem.getF ?k1 ?k2; (case k1 => assumption); (case k2 => walk_at "mem")) | (refine' Mem.atB ?k1 ?k2; (case k1 => assumption); (case k2 => assumption)))
local macro_rules | `(tactic| walk_at "cond") => `(tactic| first | omega | assumption | exact mulR (by omega) (by omega) | exact mulL (by omega) (by omega) | exact divW (by omega) (by omega) | decide)
local macro_rules | `(tactic| walk_at "look") => `(tactic| first | assumption | with_unfolding_all rfl | exact atI_map (by omega) (by omega))
local macro_rules | `(tactic| walk_at "go1") => `(tactic| with_reducible first
  | refine k_seq ?_ | refine k_gName ?_ | refine k_asg ?_ | refine k_ret ?_ | refine k_ifS ?_ | refine k_drop ?_ | refine k_next ?_ | refine k_break ?_ | refine k_cont ?_ | refine k_retN ?_
  | (refine' k_var ?k1 ?_; (case k1 => with_unfolding_all rfl)) | refine k_c ?_ | refine k_op ?_ | refine k_un ?_ | refine k_test ?_ | refine k_B ?_ | refine k_bl ?_ | refine k_and ?_ | refine k_or ?_ | refine k_not ?_
  | refine k_andV ?_ | refine k_orV ?_ | refine k_notV ?_ | refine k_ifE ?_ | refine k_nil ?_ | refine k_cons ?_ | refine k_cb ?_ | refine k_callS ?_ | refine k_lst0 ?_ | refine k_tup0 ?_ | refine k_fld0 ?_ | refine k_sub0 ?_ | refine k_make0 ?_ | refine k_prop0 ?_ | refine k_sta0 ?_ | refine k_sta ?_ | refine k_bm ?_ | refine k_bm0 ?_ | refine k_chain ?_ | refine k_makeK0 ?_ | refine k_swapK ?_ | refine k_meth0 ?_ | refine k_ownN0 ?_ | refine k_ownO0 ?_ | refine k_sfld0 ?_ | refine k_jnil ?_ | refine k_jcons ?_ | refine k_fmt0 ?_ | refine k_sl0 ?_ | refine k_nopart ?_ | refine k_part ?_ | refine k_forR1 ?_ | refine k_forR2 ?_ | refine k_forL ?_ | refine k_forT ?_ | refine k_lcR1 ?_ | refine k_lcR2 ?_ | refine k_lcL ?_ | refine k_lcT ?_ | refine k_err0 ?_ | refine k_xf0 ?_ | refine k_errQ1 ?_ | refine k_errQ0 ?_ | refine k_errQ2 ?_ | refine k_errQ3 ?_
  | refine k_I0 ?_ | (refine k_I ?k1 ?_; (case k1 => walk_at "cond")) | refine k_U ?_ | refine k_eqI ?_ | refine k_neI ?_ | refine k_eqB ?_ | refine k_neB ?_ | refine k_eqS ?_ | refine k_neS ?_
  | refine k_int1 ?_ | refine k_abs1 ?_ | refine k_min2 ?_ | refine k_max2 ?_
  | (refine' k_lenM ?k1 ?_; (case k1 => walk_at "hp")) | (refine' k_lenL ?k1 ?_; (case k1 => walk_at "hp")) | (refine' k_lenT ?k1 ?_; (case k1 => walk_at "hp"))
  | (refine' k_lenS ?k1 ?_; (case k1 => assumption)) | (refine' k_ixS ?k1 ?k2 ?_; (case k1 => assumption); (case k2 => walk_at "look"))
  | (refine' k_ixL ?k1 ?k2 ?_; (case k1 => walk_at "hp"); (case k2 => walk_at "look")) | (refine' k_ixT ?k1 ?k2 ?_; (case k1 => walk_at "hp"); (case k2 => walk_at "look"))
  | (refine' k_ix4 ?k1 ?k2 ?k3 ?_; (case k1 => walk_at "hp"); (case k2 => omega); (case k3 => omega); intro n' hn')
  | (refine' k_ix3 ?k1 ?k2 ?k3 ?_; (case k1 => walk_at "hp"); (case k2 => omega); (case k3 => omega); intro n' hn')
  | (refine' k_ix2 ?k1 ?k2 ?k3 ?_; (case k1 => walk_at "hp"); (case k2 => omega); (case k3 => omega); intro n' hn')
  | (refine' k_fld ?k1 ?k2 ?k3 ?k4 ?_; (case k1 => walk_at "hp"); (case k2 => assumption); (case k3 => assumption); (case k4 => walk_at "fld"))
  | (refine' k_lst ?k1 ?k2 ?_; (case k1 => assumption); (case k2 => exact sz (by simp)); intro p' H' M')
  | (refine' k_tup ?k1 ?k2 ?_; (case k1 => assumption); (case k2 => exact sz (by simp)); intro p' H' M')
  | (refine' k_setF0 ?k1 ?k2 ?k3 ?_; (case k1 => assumption); (case k2 => simp); (case k3 => with_unfolding_all rfl); intro H' M'; try simp only [Int.reduceToNat, List.set_cons_succ, List.set_cons_zero] at M')
  | (refine' k_setL0 ?k1 ?k2 ?_; (case k1 => assumption); (case k2 => with_unfolding_all rfl); intro H' M'; try simp only [Int.reduceToNat, List.set_cons_succ, List.set_cons_zero] at M')
  | (refine' k_setL1 ?k1 ?k2 ?_; (case k1 => assumption); (case k2 => with_unfolding_all rfl); intro H' M'; try simp only [Int.reduceToNat, List.set_cons_succ, List.set_cons_zero] at M')
  | (refine' k_setL2 ?k1 ?k2 ?_; (case k1 => assumption); (case k2 => with_unfolding_all rfl); intro H' M'; try simp only [Int.reduceToNat, List.set_cons_succ, List.set_cons_zero] at M')
  | refine iteT ?_ | refine iteF ?_ | refine k_iteNE ?_ | refine k_iteNS ?_ | refine k_iteNT ?_ | refine k_iteNF ?_
  | (refine k_iteD ?_ ?_ <;> intro hc <;> first | (exfalso; omega) | skip)
  | (refine k_iteN ?_ ?_ <;> intro hc <;> first | (exfalso; omega) | skip)
  | (refine' k_ownN ?k1 ?_; (case k1 => walk_at "hp")) | (refine' k_ownO ?k1 ?k2 ?_; (case k1 => walk_at "hp"); (case k2 => walk_at "hp")) | (refine' k_ownEq ?k1 ?k2 ?_; (case k1 => walk_at "hp"); (case k2 => walk_at "hp"))
  | (refine' k_ownIn ?k1 ?_; (case k1 => walk_at "hp")) | (refine' k_ownU ?k1 ?_; (case k1 => walk_at "hp")) | (refine' k_ownStr ?k1 ?_; (case k1 => walk_at "hp"))
  | (refine' k_prop ?k1 ?_; (case k1 => walk_at "hp")) | (refine' k_ownNe ?k1 ?k2 ?_; (case k1 => walk_at "hp"); (case k2 => walk_at "hp")) | (refine' k_eqP ?k1 ?k2 ?_; (case k1 => walk_at "hp"); (case k2 => walk_at "hp")) | (refine' k_neP ?k1 ?k2 ?_; (case k1 => walk_at "hp"); (case k2 => walk_at "hp"))
  | (refine' k_isiO ?k1 ?k2 ?k3 ?k4 ?k5 ?k6 ?_; (case k1 => walk_at "hp"); (case k2 => assumption); (case k3 => assumption); (case k4 => assumption); (case k5 => assumption); (case k6 => assumption))
  | (refine' k_isiI ?k1 ?_; (case k1 => assumption))
  | (refine' k_jst ?k1 ?_; (case k1 => walk_at "size")) | (refine' k_fmtI ?k1 ?_; (case k1 => exact log2_64 (by omega) (by omega))) | (refine' k_strI ?k1 ?_; (case k1 => exact log2_64 (by omega) (by omega)))
  | (refine k_addS ?k1 ?_; (case k1 => walk_at "size")) | refine k_st ?_ | refine k_parti ?_
  | (refine' k_cat ?k1 ?k2 ?k3 ?k4 ?_; (case k1 => assumption); (case k2 => walk_at "hp"); (case k3 => walk_at "hp"); (case k4 => walk_at "size"); intro p' H' M')
  | (refine' k_slL ?k1 ?k2 ?_; (case k1 => assumption); (case k2 => first | assumption | exact SqL.of (by walk_at "hp")); intro p' H' M')
  | (refine k_rng1 ?k1 ?k2 ?_; (case k1 => omega); (case k2 => omega)) | (refine k_rng2 ?k1 ?k2 ?k3 ?k4 ?_; (case k1 => omega); (case k2 => omega); (case k3 => omega); (case k4 => omega))
  | (refine' k_lstAt ?k1 ?_; (case k1 => first | assumption | exact SqL.of (by walk_at "hp"))) | (refine' k_tupAt ?k1 ?_; (case k1 => first | assumption | exact SqT.of (by walk_at "hp")))
  | (refine' k_isXs ?k1 ?k2 ?_; (case k1 => assumption); (case k2 => walk_at "hp")) | (refine' k_isXo ?k1 ?k2 ?k3 ?_; (case k1 => assumption); (case k2 => walk_at "hp"); (case k3 => assumption)) | (refine' k_isXt ?k1 ?k2 ?k3 ?_; (case k1 => assumption); (case k2 => walk_at "hp"); (case k3 => assumption))
  | (refine' k_isX3 ?k1 ?k2 ?k3 ?k4 ?_; (case k1 => assumption); (case k2 => walk_at "hp"); (case k3 => walk_at "hp"); (case k4 => assumption)) | (refine' k_isX2 ?k1 ?k2 ?k3 ?k4 ?_; (case k1 => assumption); (case k2 => walk_at "hp"); (case k3 => walk_at "hp"); (case k4 => assumption))
  | (refine' k_tyL ?k1 ?_; (case k1 => walk_at "hp"))
  | (refine' k_appL0 ?k1 ?k2 ?_; (case k1 => assumption); (case k2 => walk_at "size"); intro H' M') | (refine' k_appL1 ?k1 ?k2 ?_; (case k1 => assumption); (case k2 => walk_at "size"); intro H' M') | (refine' k_appL2 ?k1 ?k2 ?_; (case k1 => assumption); (case k2 => walk_at "size"); intro H' M') | (refine' k_appL3 ?k1 ?k2 ?_; (case k1 => assumption); (case k2 => walk_at "size"); intro H' M')
  | (refine' k_revL0 ?k1 ?_; (case k1 => assumption); intro H' M') | (refine' k_revL1 ?k1 ?_; (case k1 => assumption); intro H' M')
  | (refine' k_isX0s ?k1 ?_; (case k1 => assumption)) | (refine' k_isX0o ?k1 ?k2 ?_; (case k1 => assumption); (case k2 => assumption)) | (refine' k_isX0t ?k1 ?k2 ?_; (case k1 => assumption); (case k2 => assumption)) | (refine' k_isX04 ?k1 ?k2 ?k3 ?_; (case k1 => assumption); (case k2 => walk_at "hp"); (case k3 => assumption))
  | (refine' k_isX4 ?k1 ?k2 ?k3 ?k4 ?_; (case k1 => assumption); (case k2 => walk_at "hp"); (case k3 => walk_at "hp"); (case k4 => assumption)) | (refine' k_ixT2 ?k1 ?k2 ?k3 ?_; (case k1 => walk_at "hp"); (case k2 => omega); (case k3 => omega); intro n' hn')
  | (refine k_iteNEq ?k1 ?_; (case k1 => (rw [Bool.eq_iff_iff]; first | (simp; done) | (simp; omega))))
  | (refine' k_xf ?k1 ?k2 ?_; (case k1 => walk_at "hp"); (case k2 => first | exact xd1 | exact xdH | exact xd2 (by decide +kernel)))
  | (refine' k_caught ?k1 ?_; (case k1 => assumption); intro a' ha')
  | refine k_asgT ?_ | refine k_gCons ?_ | refine k_gNil ?_ | refine k_par ?_ | refine k_two ?_ | refine k_isNn ?_ | refine k_isNi ?_ | refine k_notNn ?_ | refine k_notNi ?_ | refine k_isN ?_ | refine k_notN ?_
  | (refine' k_gTup ?k1 ?k2 ?_; (case k1 => walk_at "hp"); (case k2 => with_unfolding_all rfl))
  | (refine' k_isiT ?k1 ?k2 ?_; (case k1 => walk_at "hp"); (case k2 => assumption)) | (refine' k_isiL ?k1 ?k2 ?_; (case k1 => walk_at "hp"); (case k2 => assumption))
  | (refine' k_ixQ ?k1 ?k2 ?_; (case k1 => assumption); (case k2 => walk_at "look")) | (refine' k_lenQ ?k1 ?_; (case k1 => assumption))
  | (refine' k_xfB ?k1 ?k2 ?_; (case k1 => walk_at "hp"); (case k2 => first | exact xd1 | exact xdH | exact xd2 (by decide +kernel)))
  | (refine' k_all ?k1 ?_; (case k1 => walk_at "hp"))
  | (refine' k_tupleOf ?k1 ?k2 ?_; (case k1 => assumption); (case k2 => exact SqL.of (by walk_at "hp")); intro p' H' M')
  | (refine' k_listOf ?k1 ?k2 ?_; (case k1 => assumption); (case k2 => exact Or.inl (SqL.of (by walk_at "hp"))); intro p' H' M')
  | walk_at "use")
local macro_rules | `(tactic| walk_at "go") => `(tactic| repeat' (walk_at "go1"))

local macro_rules | `(tactic| walk_at "eq") => `(tactic| first | rfl | assumption | omega)
local macro_rules | `(tactic| walk_at "fld") => `(tactic| exact xdH)
local macro_rules | `(tactic| walk_at "size") => `(tactic| first | exact sz (by first | omega | (simp only [List.length_map, List.length_range, List.length_append, List.length_cons, List.length_nil, Int.reduceSub, Int.reduceToNat, Int.reduceNeg]; omega)) | (exact Nat.lt_of_le_of_lt (m := 50000) (by first | omega | (simp only [List.length_map, List.length_range, List.length_append, List.length_cons, List.length_nil]; omega)) (by decide)))
section
variable {P : Program} {w : World} {K : PySem.W.Frag} {mg : Str → Option Value} {base : Heap} {C CR fR CN fN CA CU CT CI : Addr}
local macro_rules | `(tactic| walk_at "use") => `(tactic| with_reducible first
  | refine use_isn ?_
  | (refine' use_take ?k1 ?k2 ?k3 ?k4 ?k5 ?k6 ?_; (case k1 => assumption); (case k2 => simp); (case k3 => omega); (case k4 => omega); (case k5 => omega); (case k6 => omega); intro d' n' c' H' a1' a2' a3' a4' M'))
theorem _root_.MyL.Mem.sameB {B H' : Hp} {ms : List Addr} {f l : List (Addr × HO)} (M : Mem B ms H' f l) (h : ∀ m ∈ ms, B m = none) : Same B H' := fun a o e => M.keep a o e (fun hm => by rw [h a hm] at e; cases e)
theorem use_box {B H : Hp} {ms : List Addr} {f l : List (Addr × HO)} {Q : VK} {E : XK} {a : Addr} {ns : List Int} {pl : Int} (M : Mem B ms H f l) (hS : SqL K H a (ns.map V.int)) (h0 : 0 ≤ pl) (h1 : pl ≤ 2) (k : ∀ bg fl n c H' l2, 0 ≤ c → c ≤ 100 → B bg = none → Mem B (bg :: ms) H' ((bg, bagO fl n c) :: f) (l2 ++ l) → Q (.ref bg) H') : sp_box K [.ref a, .int pl] H Q E :=
  ⟨a, ns, pl, rfl, hS, h0, h1, fun bg fl n c H' l2 a1 a2 M2 => by
    have M3 := M.comp0 M2
    exact k bg fl n c H' l2 a1 a2 (M3.new _ List.mem_cons_self) M3.toF⟩
section
variable {σ : L2.St} {H : Hp} {Q : VK} {te : TE} {B : Hp} {ms : List Addr} {f l : List (Addr × HO)} {vs : List Nat} {bg : Addr} {fl n0 c0 : Int}
theorem lcR_bagI {lo : Int} {n j : Nat} (M : Mem B ms H ((bg, bagO fl n0 c0) :: f) l) (hc0 : 0 ≤ c0) (hn : n ≤ 50000) (hw : ∀ x, wipe ((wipe σ vs).set j (some x)) vs = wipe σ vs)
    (he : ∀ (i : Nat) n' c' H' D acc (R : VK), i < n → 0 ≤ c' → c' ≤ c0 + 100 * i → Mem B ms H' ((bg, bagO fl n' c') :: f) ((D, .lst acc) :: l) → (∀ d n2 c2 H4, 0 ≤ c2 → c2 ≤ c' + 100 → Mem B ms H4 ((bg, bagO fl n2 c2) :: f) ((D, .lst acc) :: l) → R (.int d) H4) → te ((wipe σ vs).set j (some (.int (lo + i)))) H' R)
    (k : ∀ (D : Addr) (ns : List Int) n' c' H', ns.length = n → 0 ≤ c' → c' ≤ c0 + 100 * n → Mem B ms H' ((bg, bagO fl n' c') :: f) ((D, .lst (ns.map V.int)) :: l) → Q (.ref D) H') : tLc (iJ (Itr lo n)) (gName j) tYes te vs σ H Q := by
  refine lc_rng fun D hD => ⟨fun i H' => ∃ (ns : List Int) (n' c' : Int), ns.length = i ∧ 0 ≤ c' ∧ c' ≤ c0 + 100 * i ∧ Mem B ms H' ((bg, bagO fl n' c') :: f) ((D, .lst (ns.map V.int)) :: l), ⟨[], n0, c0, rfl, hc0, by omega, M.alloc hD⟩, ?_, ?_⟩
  · rintro i H' hi ⟨ns, n', c', hl, h0, h1, M'⟩
    refine ⟨hw _, ?_⟩
    refine iteT (B := ∃ (ns : List Int) (n' c' : Int), ns.length = i + 1 ∧ 0 ≤ c' ∧ c' ≤ c0 + 100 * ((i + 1 : Nat) : Int) ∧ Mem B ms H' ((bg, bagO fl n' c') :: f) ((D, .lst (ns.map V.int)) :: l)) (he i n' c' H' D _ _ hi h0 h1 M' fun d n2 c2 H4 a1 a2 M4 => ⟨_, M4.getL List.mem_cons_self, ?_, ?_⟩)
    · rw [List.length_map, hl]; exact Nat.lt_of_lt_of_le hi (Nat.le_trans hn (by decide))
    · refine ⟨ns ++ [d], n2, c2, by rw [List.length_append, hl]; rfl, a1, by omega, ?_⟩
      rw [List.map_append]
      exact Mem.setL (l1 := []) M4
  · rintro H' ⟨ns, n', c', hl, h0, h1, M'⟩
    exact k D ns n' c' H' hl h0 h1 M'
theorem lcR_bagR {lo : Int} {n j : Nat} {m : Int} (M : Mem B ms H ((bg, bagO fl n0 c0) :: f) l) (hc0 : 0 ≤ c0) (hn : n ≤ 50000) (hw : ∀ x, wipe ((wipe σ vs).set j (some x)) vs = wipe σ vs)
    (he : ∀ (i : Nat) n' c' H' l' (R : VK), i < n → 0 ≤ c' → c' ≤ c0 + 100 * i → Mem B ms H' ((bg, bagO fl n' c') :: f) l' → (∀ z ∈ l, z ∈ l') → (∀ d r n2 c2 H4, 0 ≤ c2 → c2 ≤ c' + 100 → (r.length : Int) = m → Mem B ms H4 ((bg, bagO fl n2 c2) :: f) ((d, rowO r) :: l') → R (.ref d) H4) → te ((wipe σ vs).set j (some (.int (lo + i)))) H' R)
    (k : ∀ (D : Addr) (xs : List V) (rs : List (List Int)) (zs : List (Addr × HO)) n' c' H', rs.length = n → (∀ r ∈ rs, (r.length : Int) = m) → RwL zs xs rs → 0 ≤ c' → c' ≤ c0 + 100 * n → Mem B ms H' ((bg, bagO fl n' c') :: f) ((D, .lst xs) :: (zs ++ l)) → Q (.ref D) H') : tLc (iJ (Itr lo n)) (gName j) tYes te vs σ H Q := by
  refine lc_rng fun D hD => ⟨fun i H' => ∃ (xs : List V) (rs : List (List Int)) (zs : List (Addr × HO)) (n' c' : Int), rs.length = i ∧ (∀ r ∈ rs, (r.length : Int) = m) ∧ RwL zs xs rs ∧ 0 ≤ c' ∧ c' ≤ c0 + 100 * i ∧ Mem B ms H' ((bg, bagO fl n' c') :: f) ((D, .lst xs) :: (zs ++ l)), ⟨[], [], [], n0, c0, rfl, (fun r h => nomatch h), PX.nil, hc0, by omega, M.alloc hD⟩, ?_, ?_⟩
  · rintro i H' hi ⟨xs, rs, zs, n', c', hl, hr, pz, h0, h1, M'⟩
    have hxl := pz.1
    refine ⟨hw _, ?_⟩
    refine iteT (B := ∃ (xs : List V) (rs : List (List Int)) (zs : List (Addr × HO)) (n' c' : Int), rs.length = i + 1 ∧ (∀ r ∈ rs, (r.length : Int) = m) ∧ RwL zs xs rs ∧ 0 ≤ c' ∧ c' ≤ c0 + 100 * ((i + 1 : Nat) : Int) ∧ Mem B ms H' ((bg, bagO fl n' c') :: f) ((D, .lst xs) :: (zs ++ l))) (he i n' c' H' _ _ hi h0 h1 M' (fun z hz => List.mem_cons_of_mem _ (List.mem_append_right _ hz)) fun d r n2 c2 H4 a1 a2 a3 M4 => ⟨_, M4.getL (List.mem_cons_of_mem _ List.mem_cons_self), ?_, ?_⟩)
    · exact Nat.lt_of_lt_of_le (show xs.length < n by omega) (Nat.le_trans hn (by decide))
    · refine ⟨xs ++ [.ref d], rs ++ [r], (d, rowO r) :: zs, n2, c2, by rw [List.length_append, hl]; rfl, fun q hq => ?_, (pz.more fun z hz => List.mem_cons_of_mem _ hz).append (PX.one (R := fun p r' => (p, rowO r') ∈ (d, rowO r) :: zs) List.mem_cons_self), a1, by omega, ?_⟩
      · rcases List.mem_append.mp hq with z | z
        · exact hr q z
        · rw [List.mem_singleton.mp z]; exact a3
      · exact (Mem.setL (l1 := [(d, rowO r)]) M4).front1
  · rintro H' ⟨xs, rs, zs, n', c', hl, hr, pz, h0, h1, M'⟩
    exact k D xs rs zs n' c' H' hl hr pz h0 h1 M'
end
theorem use_bagT {ar : Addr → List V → Hp → Prop} {R : List V → Hp → V → List (Addr × HO) → Prop} {B H : Hp} {ms : List Addr} {f l : List (Addr × HO)} {Q : VK} {E : XK} {bg : Addr} {fl n c : Int} {as : List V} (M : Mem B ms H ((bg, bagO fl n c) :: f) l) (hm : bg ∈ ms) (h0 : 0 ≤ c) (h1 : c < 2 ^ 30) (ha : ar bg as H)
    (k : ∀ (v : V) (l2 : List (Addr × HO)) (n' c' : Int) H', R as H v l2 → 0 ≤ c' → c' ≤ c + 100 → (∀ a xs, H a = some (.tup xs) → H' a = some (.tup xs)) → Mem B ms H' ((bg, bagO fl n' c') :: f) (l2 ++ l) → Q v H') : sp_bag ar R (.ref bg :: as) H Q E :=
  ⟨bg, fl, n, c, as, rfl, ha, M.getF List.mem_cons_self, h0, h1, fun v l2 n' c' H' hr a3 a4 M2 => k v l2 n' c' H' hr a3 a4 (fun a xs e => M2.keep a _ e (fun z => by
    rw [List.mem_singleton.mp z, M.getF List.mem_cons_self] at e; cases e)) (M.comp1 hm M2)⟩
theorem three_of {ns : List Int} (h : ns.length = 3) : ∃ x y z, ns = [x, y, z] := by
  match ns, h with
  | [x, y, z], _ => exact ⟨x, y, z, rfl⟩
theorem use_roll {B H : Hp} {ms : List Addr} {f l : List (Addr × HO)} {Q : VK} {E : XK} {bg pl : Addr} {fl n c a m x y z : Int} (M : Mem B ms H ((bg, bagO fl n c) :: f) l) (hm : bg ∈ ms) (h0 : 0 ≤ c) (h1 : c < 2 ^ 30) (ha0 : 0 ≤ a) (ha1 : a ≤ 12) (hm0 : 0 ≤ m) (hm1 : m ≤ 4) (hp : (pl, HO.lst [.int x, .int y, .int z]) ∈ l)
    (k : ∀ (d : Addr) (r : List Int) (n' c' : Int) H', (r.length : Int) = m → 0 ≤ c' → c' ≤ c + 100 → Mem B ms H' ((bg, bagO fl n' c') :: f) ((d, rowO r) :: l) → Q (.ref d) H') : sp_bag ArRo RRo [.ref bg, .int a, .int m, .ref pl] H Q E :=
  use_bag M hm h0 h1 ⟨a, m, pl, x, y, z, rfl, (by
    rintro rfl
    have nd := M.nd
    rw [List.map_append, List.nodup_append] at nd
    exact nd.2.2 _ (List.mem_map.mpr ⟨_, hp, rfl⟩) _ (List.mem_map.mpr ⟨_, List.mem_cons_self, rfl⟩) rfl), ha0, ha1, hm0, hm1, M.getL hp⟩ (by
    rintro v l2 n' c' H' ⟨d, r, rfl, rfl, hr⟩ a3 a4 M'
    exact k d r n' c' H' (hr _ _ _ rfl) a3 a4 M')
theorem ok_law {f : Addr} {fd : FuncData} (F : Fun K "law" "law" s_law f fd) (T : Txt P K mg C CR fR CN fN CA CU CT CI) (c__law_box : Cal P w K mg base 1 "_law_box" (sp_box K)) (c__law_take : Cal P w K mg base 1 "_law_take" sp_take) (c__law_terms : Cal P w K mg base 2 "_law_terms" (sp_bag ArTm RTm)) (c__law_value : Cal P w K mg base 2 "_law_value" (sp_bag ArInt RInt)) (c__law_roll : Cal P w K mg base 2 "_law_roll" (sp_bag ArRo RRo)) (c__law_laid : Cal P w K mg base 2 "_law_laid" sp_laid) (c__law_moved : Cal P w K mg base 2 "_law_moved" (sp_bag ArMv RMv)) (c_Rule : Mak P w K mg base 3 "Rule" C (sp_rule C)) (c__law_asked : Cal P w K mg base 6 "_law_asked" (sp_asked C)) :
    FnOk P w K mg base (L2.CX P w) (6 + 1) f fd ["_law_script"] (spLaw K) := by
  refine okT F sc_law (fun vs H Q E h => ?_) (fun cdv A outer s H vs Q E hr tk h => ?_)
  · obtain ⟨a, ns, rfl, _⟩ := h
    rfl
  obtain ⟨a, ns, rfl, hS, hlen, k⟩ := h
  have f1 := T.i1; have f2 := T.i2; have f3 := T.i3; have f4 := T.i4; have f6 := T.cl; have f7 := T.nT; have f13 := T.ek; have f14 := T.exm; have f15 := T.k1; have f16 := T.k2; have f17 := T.k3
  refine ⟨_, (pss_cons (ps_set (i := 1) sc_law.nd rfl (Or.inr rfl) (c_call c__law_box tk hr (by decide) (pa_cons (pv 0) (pa_cons pe_int pa_nil))))
      (pss_cons (ps_set (i := 2) sc_law.nd rfl (Or.inr rfl) (pe_ix ix_list (pe_lst (pa_cons pe_int (pa_cons pe_int (pa_cons pe_int (pa_cons pe_int (pa_cons pe_int pa_nil)))))) (c_call c__law_take tk hr (by decide) (pa_cons (pv 1) (pa_cons pe_int pa_nil))) (fun _ _ => rfl)))
      (pss_cons (ps_set (i := 3) sc_law.nd rfl (Or.inl rfl) (c_call c__law_terms tk hr (by decide) (pa_cons (pv 1) (pa_cons (pe_op op_sub (pv 2) (c_call c__law_take tk hr (by decide) (pa_cons (pv 1) (pa_cons (pe_op op_add (pv 2) pe_int) pa_nil)))) (pa_cons (pv 2) pa_nil)))))
      (pss_cons (ps_set (i := 4) sc_law.nd rfl (Or.inl rfl) (c_call c__law_take tk hr (by decide) (pa_cons (pv 1) (pa_cons pe_int pa_nil))))
      (pss_cons (ps_set (i := 1) sc_law.nd rfl (Or.inr rfl) (c_call c__law_box tk hr (by decide) (pa_cons (pv 0) (pa_cons pe_int pa_nil))))
      (pss_cons (ps_set (i := 5) sc_law.nd rfl (Or.inr rfl) (pe_lc (own := [("_law_at", 15)]) (g := gName 15) (tt := tYes) rfl sc_law.nd (pi_range1 (by rfl) T.b_range (pa_cons pe_int pa_nil)) (blkOk_by (own := [("_law_at", 15)]) (N := N_law) (sc := defScope s_law) (by decide +kernel)) (fun _ _ _ _ _ => pg_name (i := 15) sc_law.nd rfl (Or.inl rfl)) (fun _ _ _ _ _ => pts_nil) (fun _ _ _ _ _ => (c_call c__law_value takes0 hr (by decide) (pa_cons (pv 1) (pa_cons (pe_op op_sub (pv 15) pe_int) pa_nil))))))
      (pss_cons (ps_set (i := 6) sc_law.nd rfl (Or.inl rfl) (pe_ix ix_list (pe_lst (pa_cons pe_int (pa_cons pe_int (pa_cons pe_int (pa_cons pe_int (pa_cons pe_int (pa_cons pe_int (pa_cons pe_int (pa_cons pe_int (pa_cons pe_int (pa_cons pe_int pa_nil))))))))))) (c_call c__law_take tk hr (by decide) (pa_cons (pv 1) (pa_cons pe_int pa_nil))) (fun _ _ => rfl)))
      (pss_cons (ps_setLc (i := 7) (own := [("_law_at", 15)]) (g := gName 15) (tt := tYes) rfl sc_law.nd rfl rfl (sw_true rfl rfl rfl (by decide +kernel)) (pi_range1 (by rfl) T.b_range (pa_cons (pv 6) pa_nil)) (blkOk_by (own := [("_law_at", 15)]) (N := N_law) (sc := defScope s_law) (by decide +kernel)) (fun _ _ _ _ _ => pg_name (i := 15) sc_law.nd rfl (Or.inl rfl)) (fun _ _ _ _ _ => pts_nil) (fun _ _ _ _ _ => (c_call c__law_roll takes0 hr (by decide) (pa_cons (pv 1) (pa_cons (pv 15) (pa_cons (pv 2) (pa_cons (pv 5) pa_nil)))))))
      (pss_cons (ps_set (i := 8) sc_law.nd rfl (Or.inl rfl) (c_call c__law_roll tk hr (by decide) (pa_cons (pv 1) (pa_cons (pv 6) (pa_cons (pv 2) (pa_cons (pv 5) pa_nil))))))
      (pss_cons (ps_set (i := 9) sc_law.nd rfl (Or.inl rfl) (c_call c__law_laid tk hr (by decide) (pa_cons (pv 3) (pa_cons (pv 7) pa_nil))))
      (pss_cons (ps_set (i := 10) sc_law.nd rfl (Or.inl rfl) (c_call c__law_moved tk hr (by decide) (pa_cons (c_call c__law_box tk hr (by decide) (pa_cons (pv 0) (pa_cons pe_int pa_nil))) (pa_cons (pv 9) pa_nil))))
      (pss_cons (ps_setLc (i := 11) (own := [("_law_term", 16)]) (g := gName 16) (tt := tYes) rfl sc_law.nd rfl rfl (sw_true rfl rfl rfl (by decide +kernel)) (pi_list (pv 3)) (blkOk_by (own := [("_law_term", 16)]) (N := N_law) (sc := defScope s_law) (by decide +kernel)) (fun _ _ _ _ _ => pg_name (i := 16) sc_law.nd rfl (Or.inl rfl)) (fun _ _ _ _ _ => pts_nil) (fun _ _ _ _ _ => (pe_tup (pa_cons (pe_ix (ix_tup : IxR _ (rIxT K)) (pv 16) pe_int (fun _ _ => rfl)) (pa_cons (pe_un un_neg (pe_ix (ix_tup : IxR _ (rIxT K)) (pv 16) pe_int (fun _ _ => rfl))) pa_nil)))))
      (pss_cons (ps_set (i := 12) sc_law.nd rfl (Or.inl rfl) (c_make c_Rule tk hr (by decide) (pa_cons (pe_callTy b_listOf (by rfl) T.b_list (by decide +kernel) (pa_cons (pv 3) pa_nil)) pa_nil)))
      (pss_cons (ps_set (i := 13) sc_law.nd rfl (Or.inl rfl) (c_make c_Rule tk hr (by decide) (pa_cons (pe_callTy b_tupleOf (by rfl) T.b_tuple (by decide +kernel) (pa_cons (pv 11) pa_nil)) pa_nil)))
      (pss_cons (ps_for (passes_of rfl) rfl (pi_list (pe_lst (pa_cons (pv 10) (pa_cons (pv 9) (pa_cons (pv 7) pa_nil))))) (pg_name (i := 14) sc_law.nd rfl (Or.inl rfl)) (pss_cons (ps_if (pt_not (pt_val (c_call c__law_asked tk hr (by decide) (pa_cons (pv 12) (pa_cons (pv 3) (pa_cons (pv 14) (pa_cons (pv 8) (pa_cons (pv 4) pa_nil)))))))) (pss_one (ps_ret pe_bl)) pss_nil)
      (pss_cons (ps_if (pt_not (pt_val (c_call c__law_asked tk hr (by decide) (pa_cons (pv 13) (pa_cons (pv 11) (pa_cons (pv 14) (pa_cons (pv 8) (pa_cons (pe_op op_sub pe_int (pv 4)) pa_nil)))))))) (pss_one (ps_ret pe_bl)) pss_nil)
      (pss_one (ps_if (pt_not (pt_val (c_call c__law_asked tk hr (by decide) (pa_cons (pv 12) (pa_cons (pv 3) (pa_cons (pv 14) (pa_cons (pv 8) (pa_cons (pe_op op_sub pe_int (pv 4)) pa_nil)))))))) (pss_one (ps_ret pe_bl)) pss_nil)))))
      (pss_one (ps_ret pe_bl))))))))))))))))), ?_⟩
  simp only [cxK, st_law]
  have M : Mem H [] H [] [] := mem_start (by simp []) (by simp) (by simp)
  walk_at "go"
  refine use_box M hS (by omega) (by omega) fun bg fl n c H1 l1 hc0 hc1 hb1 M1 => ?_
  have hms1 : ∀ m ∈ [bg], H m = none := fun m hm => by rw [List.mem_singleton.mp hm]; exact hb1
  walk_at "go"
  rename_i p2 H2 M2 d3 n3 c3 H3 a31 a32 a33 a34 M3
  refine k_ixAll (R := fun n => 0 ≤ n ∧ n ≤ 4) (M3.getL List.mem_cons_self) a31 (by simp; omega) (by
    intro v hv
    simp only [List.mem_cons, List.not_mem_nil, or_false] at hv
    rcases hv with rfl | rfl | rfl | rfl | rfl <;> exact ⟨_, rfl, by omega, by omega⟩) fun marks hmk => ?_
  walk_at "go"
  rename_i d4 n4 c4 H4 a41 a42 a43 a44 M4
  refine use_bag M4 (by simp) (by omega) (by omega) ⟨marks - d4, marks, rfl, by omega, by omega, by omega⟩ ?_
  rintro v l5 n5 c5 H5 ⟨tp, xs, ts, zs, rfl, rfl, pz, htl, htm⟩ a53 a54 M5
  have htm := htm _ _ rfl
  walk_at "go"
  rename_i way n6 c6 H6 a61 a62 a63 a64 M6
  refine use_box M6 (sqL_same hS (M6.sameB hms1)) (by omega) (by omega) fun bg2 fl2 n7 c7 H7 l7 hc70 hc71 hb2 M7 => ?_
  have hms2 : ∀ m ∈ [bg2, bg], H m = none := fun m hm => by
    rcases List.mem_cons.mp hm with rfl | z
    · exact hb2
    · exact hms1 m z
  walk_at "go"
  refine lcR_bagI M7 hc70 (by decide) (fun x => rfl) ?_ ?_
  · intro i n' c' H' D acc R hi h0 h1 M' kR
    walk_at "go"
    exact use_value M' (by simp) h0 (by omega) fun d n2 c2 H4 a1 a2 M4 => kR d n2 c2 H4 a1 a2 M4
  intro pl pns n8 c8 H8 hl8 a81 a82 M8
  obtain ⟨x, y, z, rfl⟩ := three_of hl8
  walk_at "go"
  rename_i p9 H9 M9 d10 n10 c10 H10 a101 a102 a103 a104 M10
  refine k_ixAll (R := fun n => 0 ≤ n ∧ n ≤ 12) (M10.getL List.mem_cons_self) a101 (by simp; omega) (by
    intro v hv
    simp only [List.mem_cons, List.not_mem_nil, or_false] at hv
    rcases hv with rfl | rfl | rfl | rfl | rfl | rfl | rfl | rfl | rfl | rfl <;> exact ⟨_, rfl, by omega, by omega⟩) fun many hmn => ?_
  walk_at "go"
  refine lcR_bagR (m := marks) M10 a103 (by omega) (fun x => rfl) ?_ ?_
  · intro i n' c' H' l' R hi h0 h1 M' hsub kR
    walk_at "go"
    refine use_roll M' (by simp) h0 (by omega) (by omega) (by omega) hmk.1 hmk.2 (hsub (pl, .lst [.int x, .int y, .int z]) (by simp)) fun d r n2 c2 H4 a1 a2 a3 M4 => kR d r n2 c2 H4 a2 a3 a1 M4
  intro rl rxs rrs rzs n11 c11 H11 hrl hrr prz a111 a112 M11
  walk_at "go"
  refine use_roll M11 (by simp) a111 (by omega) (by omega) (by omega) hmk.1 hmk.2 (pl := pl) (x := x) (y := y) (z := z) (by simp) fun rq row n12 c12 H12 hrow a121 a122 M12 => ?_
  have hS12 := sqL_same hS (M12.sameB hms2)
  have hTp12 : H12 tp = some (.lst xs) := M12.getL (by simp)
  have hTs12 : Prs H12 xs ts := PrL.prs M12 (pz.more fun z hz => by simp [hz])
  have hRl12 : H12 rl = some (.lst rxs) := M12.getL (by simp)
  have hRs12 : Rws H12 rxs rrs := RwL.rws M12 (prz.more fun z hz => by simp [hz])
  have hRq12 : H12 rq = some (rowO row) := M12.getL List.mem_cons_self
  have hfit : ∀ r : List Int, (r.length : Int) = marks → Fit ts r := fun r hr t ht => by
    have := htm.rng t ht
    omega
  clear M1 M2 M3 M4 M5 M6 M7 M8 M9 M10 M11 M12
  have M0 : Mem H12 [] H12 [] [] := mem_start (by simp) (by simp) (by simp)
  walk_at "go"
  refine use_laid M0 hTp12 hTs12 hRl12 hRs12 (by omega) (fun r hr => hfit r (hrr r hr)) fun lp lzs lS H13 M13 plz hls hll => ?_
  walk_at "go"
  refine use_box M13 (sqL_same hS12 (Same.of_keep M13)) (by omega) (by omega) fun bg3 fl3 n14 c14 H14 l14 hc140 hc141 hb3 M14 => ?_
  have hms3 : ∀ m ∈ [bg3], H12 m = none := fun m hm => by rw [List.mem_singleton.mp hm]; exact hb3
  walk_at "go"
  have hlp : (lp, HO.lst lzs) ∈ l14 ++ [(lp, HO.lst lzs)] := List.mem_append_right _ List.mem_cons_self
  refine use_bagT M14 (by simp) (by omega) (by omega) ⟨lp, lzs, lS, rfl, ?_, M14.getL hlp, plz.same (M14.sameB hms3), by omega⟩ ?_
  · rintro rfl
    have nd := M14.nd
    rw [List.map_append, List.nodup_append] at nd
    exact nd.2.2 _ (List.mem_map.mpr ⟨_, hlp, rfl⟩) _ (List.mem_map.mpr ⟨_, List.mem_cons_self, rfl⟩) rfl
  rintro v l15 n15 c15 H15 ⟨mp, mzs, mS, rfl, rfl, pmz, hmS, hmsub⟩ a153 a154 hkt M15
  have s15 := M15.sameB hms3
  have hTp := s15 _ _ hTp12
  have hTs := hTs12.same s15
  have hRl := s15 _ _ hRl12
  have hRs := hRs12.same s15
  have hRq := s15 _ _ hRq12
  have hLp : H15 lp = some (.lst lzs) := M15.getL (by simp)
  have hLs := plz.same s15
  have hMp : H15 mp = some (.lst mzs) := M15.getL (by simp)
  have hMs : Rws H15 mzs mS := pmz.mono fun p r e => hkt _ _ e
  have hMsub := hmsub lp lzs lS rfl (M14.getL hlp) (plz.same (M14.sameB hms3))
  clear M0 M13 M14 M15
  have M : Mem H15 [] H15 [] [] := mem_start (by simp) (by simp) (by simp)
  have hxl := hTs.1
  walk_at "go"
  refine lcL_new (O := fun x o => ∃ p t, x = .ref p ∧ H15 p = some (prO t) ∧ o = prO (t.1, -t.2)) M (fun H' l' M' => SqL.of (M'.atB0 hTp)) (by omega) (fun x => rfl) ?_ ?_
  · intro x H' l' R hx M' kR
    obtain ⟨iu, hiu⟩ := List.mem_iff_getElem?.mp hx
    obtain ⟨t, p, ht, rfl, hp⟩ := hTs.get hiu
    have hp' := M'.atB0 hp
    walk_at "go"
    rename_i y H4 M4
    exact kR y _ H4 ⟨p, t, rfl, hp, rfl⟩ M4
  intro up uzs H16 hul hO M16
  have pu : PrL uzs (uzs.map fun z => V.ref z.1) (ts.map fun t => (t.1, -t.2)) := PG.ofNew (by
    apply List.ext_getElem?
    intro n
    rw [List.getElem?_map, List.getElem?_map, List.getElem?_map]
    by_cases hn : n < xs.length
    · have hxn := List.getElem?_eq_getElem hn
      have hzn := List.getElem?_eq_getElem (show n < uzs.length by omega)
      obtain ⟨p, t, e1, e2, e3⟩ := hO n _ _ hxn hzn
      obtain ⟨t', p', ht', e4, e5⟩ := hTs.get hxn
      rw [e1] at e4
      cases e4
      rw [e2] at e5
      have e6 : t = t' := by
        injection e5 with e5
        injection e5 with e5
        injection e5 with a1 a2
        injection a2 with a2 _
        injection a1 with a1
        injection a2 with a2
        exact Prod.ext a1 a2
      subst e6
      rw [hzn, ht']
      exact congrArg some e3
    · rw [List.getElem?_eq_none (show uzs.length ≤ n by omega), List.getElem?_eq_none (show ts.length ≤ n by omega)]
      rfl)
  have htm4 : Tms 4 ts := ⟨fun t ht => by have := htm.rng t ht; omega, htm.dir, htm.nd⟩
  have hdir2 : ∀ t ∈ ts.map fun t => (t.1, -t.2), t.2 = 1 ∨ t.2 = -1 := fun t ht => by
    obtain ⟨u, hu, rfl⟩ := List.mem_map.mp ht
    have := htm.dir u hu
    dsimp only
    omega
  have htm42 : Tms 4 (ts.map fun t => (t.1, -t.2)) := ⟨fun t ht => by
    obtain ⟨u, hu, rfl⟩ := List.mem_map.mp ht
    exact htm4.rng u hu, hdir2, by rw [List.map_map]; exact htm.nd⟩
  have hfit2 : ∀ r : List Int, (r.length : Int) = marks → Fit (ts.map fun t => (t.1, -t.2)) r := fun r hr t ht => by
    obtain ⟨u, hu, rfl⟩ := List.mem_map.mp ht
    exact hfit r hr u hu
  have hTp16 := M16.atB0 hTp
  walk_at "go"
  rename_i d17 H17 M17
  refine use_ruleL M17 (M17.getL List.mem_cons_self) (hTs.same (Same.of_keep M17)) htm4 (by omega) fun x1 dx1 tp1 H18 M18 => ?_
  walk_at "go"
  rename_i d19 H19 M19
  refine use_ruleT M19 (M19.getL List.mem_cons_self) (PrL.prs M19 (pu.more fun z hz => by simp [hz])) htm42 (by rw [List.length_map]; omega) fun x2 dx2 tp2 H20 l20 M20 htp2 => ?_
  walk_at "go"
  rename_i p21 H21 M21
  have s21 := Same.of_keep M21
  have hTp2 := s21 _ _ hTp
  have hTs2 := hTs.same s21
  have hUp2 : H21 up = some (.lst (uzs.map fun z => V.ref z.1)) := M21.getL (by simp)
  have hUs2 : Prs H21 (uzs.map fun z => V.ref z.1) (ts.map fun t => (t.1, -t.2)) := PrL.prs M21 (pu.more fun z hz => by simp [hz])
  have hx1 : H21 x1 = some (.ins C dx1 (ruF tp1)) := M21.getL (by simp)
  have ht1 : H21 tp1 = some (.tup xs) := M21.getL (by simp)
  have hx2 : H21 x2 = some (.ins C dx2 (ruF tp2)) := M21.getL (by simp)
  have ht2 : H21 tp2 = some (.tup (uzs.map fun z => V.ref z.1)) := by
    rcases htp2 with rfl | z
    · exact M21.getL (by simp)
    · exact M21.getL (by simp [z])
  have hRq2 := s21 _ _ hRq
  have hp21 : H21 p21 = some (.lst [.ref mp, .ref lp, .ref rl]) := M21.getL List.mem_cons_self
  have hshelf : ∀ (i : Nat) (v : V), ([.ref mp, .ref lp, .ref rl] : List V)[i]? = some v → ∃ (l : Addr) (ys : List V) (S : List (List Int)), v = .ref l ∧ H21 l = some (.lst ys) ∧ Rws H21 ys S ∧ S.length ≤ 19 ∧ ∀ r ∈ S, (r.length : Int) = marks := fun i v hv => by
    have hm := List.mem_of_getElem? hv
    simp only [List.mem_cons, List.not_mem_nil, or_false] at hm
    rcases hm with rfl | rfl | rfl
    · exact ⟨mp, mzs, mS, rfl, s21 _ _ hMp, hMs.same s21, hmS, fun r hr => hrr r (hls r (hMsub r hr))⟩
    · exact ⟨lp, lzs, lS, rfl, s21 _ _ hLp, hLs.same s21, by omega, fun r hr => hrr r (hls r hr)⟩
    · exact ⟨rl, rxs, rrs, rfl, s21 _ _ hRl, hRs.same s21, by omega, hrr⟩
  refine lst_loop (xs := [.ref mp, .ref lp, .ref rl]) ⟨fun i σ' H' => ∃ v14, σ' = [some (.ref a), some (.ref bg2), some (.int marks), some (.ref tp), some (.int way), some (.ref pl), some (.int many), some (.ref rl), some (.ref rq), some (.ref lp), some (.ref mp), some (.ref up), some (.ref x1), some (.ref x2), v14, none, none] ∧ Same H21 H', ?_, ?_, ?_, ?_⟩
  · exact ⟨none, rfl, fun _ _ e => e⟩
  · rintro i σ' H' _ ⟨v14, rfl, s1⟩
    exact SqL.of (s1 _ _ hp21)
  · rintro i v σ' H' hv ⟨v14, rfl, s1⟩
    obtain ⟨l, ys, S, rfl, hl, pS, hSl, hSr⟩ := hshelf i v hv
    walk_at "go"
    refine ⟨x1, dx1, tp1, tp, l, rq, _, _, ys, ts, S, row, _, rfl, s1 _ _ hx1, s1 _ _ ht1, hTs2.same s1, htm.dir, s1 _ _ hTp2, hTs2.same s1, s1 _ _ hl, pS.same s1, hSl, fun r hr => hfit r (hSr r hr), s1 _ _ hRq2, hfit row hrow, fun H32 s32' => ?_⟩
    have s32 := s1.trans s32'
    walk_at "go"
    refine ⟨x2, dx2, tp2, up, l, rq, _, _, ys, (ts.map fun t => (t.1, -t.2)), S, row, _, rfl, s32 _ _ hx2, s32 _ _ ht2, hUs2.same s32, hdir2, s32 _ _ hUp2, hUs2.same s32, s32 _ _ hl, pS.same s32, hSl, fun r hr => hfit2 r (hSr r hr), s32 _ _ hRq2, hfit2 row hrow, fun H33 s33' => ?_⟩
    have s33 := s32.trans s33'
    walk_at "go"
    refine ⟨x1, dx1, tp1, tp, l, rq, _, _, ys, ts, S, row, _, rfl, s33 _ _ hx1, s33 _ _ ht1, hTs2.same s33, htm.dir, s33 _ _ hTp2, hTs2.same s33, s33 _ _ hl, pS.same s33, hSl, fun r hr => hfit r (hSr r hr), s33 _ _ hRq2, hfit row hrow, fun H34 s34' => ?_⟩
    have s34 := s33.trans s34'
    walk_at "go"
    exact ⟨_, rfl, s34⟩
  · rintro σ' H' ⟨v14, rfl, s1⟩
    walk_at "go"
    exact k _
end
end K32

set_option Elab.async false
set_option linter.all false
set_option maxRecDepth 100000
set_option maxHeartbeats 8000000
namespace K32
open PySem L2 MyL
abbrev PR : Program := PySem.Challenge.rw_fittingpasts_k32_shelf_pairs.prog
abbrev s_InvalidRule : Stmt := inClass (top 7) 0
theorem e_InvalidRule : PySem.ErrX.ErrSt PR "InvalidRule.__init__" s_InvalidRule ["at"] :=
  ⟨_, _, _, _, _, _, _, _, _, _, rfl, fun _ => rfl, rfl, rfl, rfl, rfl, rfl, rfl, by decide +kernel, rfl, rfl, rfl, by decide +kernel, by decide +kernel, (.cons (by decide +kernel) .nil), fun _ _ _ _ _ _ us hl => match us, hl with | [_, _], _ => rfl⟩
abbrev s_NotSorted : Stmt := inClass (top 8) 0
theorem e_NotSorted : PySem.ErrX.ErrSt PR "NotSorted.__init__" s_NotSorted ["first", "second"] :=
  ⟨_, _, _, _, _, _, _, _, _, _, rfl, fun _ => rfl, rfl, rfl, rfl, rfl, rfl, rfl, by decide +kernel, rfl, rfl, rfl, by decide +kernel, by decide +kernel, (.cons (by decide +kernel) (.cons (by decide +kernel) .nil)), fun _ _ _ _ _ _ us hl => match us, hl with | [_, _, _], _ => rfl⟩
theorem b_Rule_init : BindsSt "__init__" "Rule.__init__" s_Rule_init ["self", "terms"] := fun _ _ _ _ _ _ us hl => match us, hl with | [_, _], _ => rfl
theorem b_Rule_compare : BindsSt "compare" "Rule.compare" s_Rule_compare ["self", "first", "second"] := fun _ _ _ _ _ _ us hl => match us, hl with | [_, _, _], _ => rfl
theorem b_is_integer : BindsSt "is_integer" "is_integer" s_is_integer ["value"] := fun _ _ _ _ _ _ us hl => match us, hl with | [_], _ => rfl
theorem b_is_term : BindsSt "is_term" "is_term" s_is_term ["term"] := fun _ _ _ _ _ _ us hl => match us, hl with | [_], _ => rfl
theorem b_compare_by : BindsSt "compare_by" "compare_by" s_compare_by ["terms", "first", "second"] := fun _ _ _ _ _ _ us hl => match us, hl with | [_, _, _], _ => rfl
theorem b_wrong_pairs : BindsSt "wrong_pairs" "wrong_pairs" s_wrong_pairs ["rule", "shelf"] := fun _ _ _ _ _ _ us hl => match us, hl with | [_, _], _ => rfl
theorem b_strays : BindsSt "strays" "strays" s_strays ["rule", "shelf"] := fun _ _ _ _ _ _ us hl => match us, hl with | [_, _], _ => rfl
theorem b_slots : BindsSt "slots" "slots" s_slots ["rule", "shelf", "roll"] := fun _ _ _ _ _ _ us hl => match us, hl with | [_, _, _], _ => rfl
theorem b__law_box : BindsSt "_law_box" "_law_box" s__law_box ["_law_script", "_law_place"] := fun _ _ _ _ _ _ us hl => match us, hl with | [_, _], _ => rfl
theorem b__law_take : BindsSt "_law_take" "_law_take" s__law_take ["_law_bag", "_law_size"] := fun _ _ _ _ _ _ us hl => match us, hl with | [_, _], _ => rfl
theorem b__law_integer : BindsSt "_law_integer" "_law_integer" s__law_integer ["_law_told"] := fun _ _ _ _ _ _ us hl => match us, hl with | [_], _ => rfl
theorem b__law_value : BindsSt "_law_value" "_law_value" s__law_value ["_law_bag", "_law_plain"] := fun _ _ _ _ _ _ us hl => match us, hl with | [_, _], _ => rfl
theorem b__law_terms : BindsSt "_law_terms" "_law_terms" s__law_terms ["_law_bag", "_law_many", "_law_marks"] := fun _ _ _ _ _ _ us hl => match us, hl with | [_, _, _], _ => rfl
theorem b__law_roll : BindsSt "_law_roll" "_law_roll" s__law_roll ["_law_bag", "_law_at", "_law_marks", "_law_pool"] := fun _ _ _ _ _ _ us hl => match us, hl with | [_, _, _, _], _ => rfl
theorem b__law_side : BindsSt "_law_side" "_law_side" s__law_side ["_law_terms_here", "_law_one", "_law_two"] := fun _ _ _ _ _ _ us hl => match us, hl with | [_, _, _], _ => rfl
theorem b__law_laid : BindsSt "_law_laid" "_law_laid" s__law_laid ["_law_terms_here", "_law_rolls"] := fun _ _ _ _ _ _ us hl => match us, hl with | [_, _], _ => rfl
theorem b__law_moved : BindsSt "_law_moved" "_law_moved" s__law_moved ["_law_bag", "_law_laid_here"] := fun _ _ _ _ _ _ us hl => match us, hl with | [_, _], _ => rfl
theorem b__law_wrong : BindsSt "_law_wrong" "_law_wrong" s__law_wrong ["_law_terms_here", "_law_shelf"] := fun _ _ _ _ _ _ us hl => match us, hl with | [_, _], _ => rfl
theorem b__law_pairs_are : BindsSt "_law_pairs_are" "_law_pairs_are" s__law_pairs_are ["_law_told", "_law_due"] := fun _ _ _ _ _ _ us hl => match us, hl with | [_, _], _ => rfl
theorem b__law_numbers_are : BindsSt "_law_numbers_are" "_law_numbers_are" s__law_numbers_are ["_law_told", "_law_due"] := fun _ _ _ _ _ _ us hl => match us, hl with | [_, _], _ => rfl
theorem b__law_strays : BindsSt "_law_strays" "_law_strays" s__law_strays ["_law_terms_here", "_law_shelf", "_law_wrong_here"] := fun _ _ _ _ _ _ us hl => match us, hl with | [_, _, _], _ => rfl
theorem b__law_slots_right : BindsSt "_law_slots_right" "_law_slots_right" s__law_slots_right ["_law_rule", "_law_terms_here", "_law_shelf", "_law_handed", "_law_roll_here", "_law_wrong_here"] := fun _ _ _ _ _ _ us hl => match us, hl with | [_, _, _, _, _, _], _ => rfl
theorem b__law_asked : BindsSt "_law_asked" "_law_asked" s__law_asked ["_law_rule", "_law_terms_here", "_law_shelf", "_law_roll_here", "_law_way"] := fun _ _ _ _ _ _ us hl => match us, hl with | [_, _, _, _, _], _ => rfl
theorem b_law : BindsSt "law" "law" s_law ["_law_script"] := fun _ _ _ _ _ _ us hl => match us, hl with | [_], _ => rfl
theorem all_mk {w : World} {K : PySem.W.Frag} {h : Heap} {mg : Str → Option Value} {C CR fR CN fN CA CU CI : Addr} {tG : Tok} (X : K.In h) (G : h.Ns mainGlobals mg)
    (a_Rule : PySem.W.nsIn K mainGlobals "Rule" = some (some (.ref C)))
    (a_NotSorted : PySem.W.nsIn K mainGlobals "NotSorted" = some (some (.ref CN)))
    (a_ArchiveError : PySem.W.nsIn K mainGlobals "ArchiveError" = some (some (.ref CA)))
    (a_UnknownError : PySem.W.nsIn K mainGlobals "UnknownError" = some (some (.ref CU)))
    (a_ImpossibleError : PySem.W.nsIn K mainGlobals "ImpossibleError" = some (some (.ref CI)))
    (z_isinstance : PySem.W.nsIn K mainGlobals "isinstance" = some none)
    (z_int : PySem.W.nsIn K mainGlobals "int" = some none)
    (z_bool : PySem.W.nsIn K mainGlobals "bool" = some none)
    (z_len : PySem.W.nsIn K mainGlobals "len" = some none)
    (z_min : PySem.W.nsIn K mainGlobals "min" = some none)
    (z_max : PySem.W.nsIn K mainGlobals "max" = some none)
    (z_list : PySem.W.nsIn K mainGlobals "list" = some none)
    (z_tuple : PySem.W.nsIn K mainGlobals "tuple" = some none)
    (z_range : PySem.W.nsIn K mainGlobals "range" = some none)
    (z_all : PySem.W.nsIn K mainGlobals "all" = some none)
    (z_enumerate : PySem.W.nsIn K mainGlobals "enumerate" = some none)
    (z_ValueError : PySem.W.nsIn K mainGlobals "ValueError" = some none)
    (v_GM : PySem.W.nsIn K mainGlobals "GREATEST_MARK" = some (some (.int 3 tG)))
    (cl_Rule : Cls K C)
    (na_Rule_terms : NoAttr K C "terms")
    (mk_Rule : PySem.W.makesIn K C = true)
    (kc_Rule : PySem.W.keepIn K (.ref C) = true)
    (ca_Rule : PySem.W.findIn K (.ref C) "__class__" = some (some (.builtin "object.__class__")))
    (cm_Rule : PySem.W.mroIn K C (.type "object") = some true)
    (er_InvalidRule : PySem.ErrX.ErrTxt PR K mg "InvalidRule" CR fR ["at"])
    (er_NotSorted : PySem.ErrX.ErrTxt PR K mg "NotSorted" CN fN ["first", "second"])
    (ek_N : ExcK K CN)
    (xf_NotSorted : XfC K CN)
    (nx_NotSorted_first : PySem.W.findIn K (.ref CN) "first" = some none)
    (nx_NotSorted_second : PySem.W.findIn K (.ref CN) "second" = some none)
    (exm : PySem.W.exmOne K (.ref CN) (.ref CA) = some true)
    (k1 : PySem.W.kitOne K (.ref CN) (.type "ValueError") = some true)
    (k2 : PySem.W.kitOne K (.ref CN) (.ref CI) = some false)
    (k3 : PySem.W.kitOne K (.ref CN) (.ref CU) = some false)
    (m_Rule_init : MethAt K C "__init__" "Rule.__init__" s_Rule_init)
    (m_Rule_compare : MethAt K C "compare" "Rule.compare" s_Rule_compare)
    (d_is_integer : DefAt K mg "is_integer" "is_integer" s_is_integer)
    (d_is_term : DefAt K mg "is_term" "is_term" s_is_term)
    (d_compare_by : DefAt K mg "compare_by" "compare_by" s_compare_by)
    (d_wrong_pairs : DefAt K mg "wrong_pairs" "wrong_pairs" s_wrong_pairs)
    (d_strays : DefAt K mg "strays" "strays" s_strays)
    (d_slots : DefAt K mg "slots" "slots" s_slots)
    (d__law_box : DefAt K mg "_law_box" "_law_box" s__law_box)
    (d__law_take : DefAt K mg "_law_take" "_law_take" s__law_take)
    (d__law_integer : DefAt K mg "_law_integer" "_law_integer" s__law_integer)
    (d__law_value : DefAt K mg "_law_value" "_law_value" s__law_value)
    (d__law_terms : DefAt K mg "_law_terms" "_law_terms" s__law_terms)
    (d__law_roll : DefAt K mg "_law_roll" "_law_roll" s__law_roll)
    (d__law_side : DefAt K mg "_law_side" "_law_side" s__law_side)
    (d__law_laid : DefAt K mg "_law_laid" "_law_laid" s__law_laid)
    (d__law_moved : DefAt K mg "_law_moved" "_law_moved" s__law_moved)
    (d__law_wrong : DefAt K mg "_law_wrong" "_law_wrong" s__law_wrong)
    (d__law_pairs_are : DefAt K mg "_law_pairs_are" "_law_pairs_are" s__law_pairs_are)
    (d__law_numbers_are : DefAt K mg "_law_numbers_are" "_law_numbers_are" s__law_numbers_are)
    (d__law_strays : DefAt K mg "_law_strays" "_law_strays" s__law_strays)
    (d__law_slots_right : DefAt K mg "_law_slots_right" "_law_slots_right" s__law_slots_right)
    (d__law_asked : DefAt K mg "_law_asked" "_law_asked" s__law_asked)
    (d_law : DefAt K mg "law" "law" s_law) :
    DefAt K mg "law" "law" s_law ∧ ∀ {f : Addr} {fd : FuncData}, Fun K "law" "law" s_law f fd → ∀ base : Heap, FnOk PR w K mg base (L2.CX PR w) 7 f fd ["_law_script"] (spLaw K) := by
  have z := fun {n : Str} (e : PySem.W.nsIn K mainGlobals n = some none) => PySem.W.mg_none_of X G e
  have y := fun {n : Str} {v : Value} (e : PySem.W.nsIn K mainGlobals n = some (some v)) => PySem.W.mg_of X G e
  have T : Txt PR K mg C CR fR CN fN CA CU C CI := ⟨cl_Rule, na_Rule_terms, z z_isinstance, z z_int, z z_bool, z z_len, z z_min, z z_max, z z_list, z z_tuple, z z_range, z z_all, z z_enumerate, z z_ValueError, ⟨_, y v_GM, ⟨_, rfl⟩⟩, y a_Rule, er_InvalidRule, er_NotSorted, y a_NotSorted, y a_ArchiveError, y a_UnknownError, y a_ImpossibleError, kit_ty (by decide +kernel), kit_ty (by decide +kernel), kit_ty (by decide +kernel), kit_ty (by decide +kernel), ek_N, xf_NotSorted, nx_NotSorted_first, nx_NotSorted_second, exm, k1, k2, k3⟩
  refine ⟨d_law, fun {f fd} F base => ?_⟩
  have c_is_integer : Cal PR w K mg base 1 "is_integer" sp_isn := cal_of d_is_integer b_is_integer fun F => ok_isi F T 
  have q__law_integer : CalQ PR w K mg base 1 "_law_integer" sp_isn := calQ_of d__law_integer b__law_integer fun F hb => ok_isn F hb T 
  have c__law_box : Cal PR w K mg base 1 "_law_box" (sp_box K) := cal_of d__law_box b__law_box fun F => ok_box F T 
  have c__law_take : Cal PR w K mg base 1 "_law_take" sp_take := cal_of d__law_take b__law_take fun F => ok_take F T 
  have c__law_side : Cal PR w K mg base 1 "_law_side" sp_side := cal_of d__law_side b__law_side fun F => ok_side F T 
  have c_compare_by : Cal PR w K mg base 1 "compare_by" sp_cmp := cal_of d_compare_by b_compare_by fun F => ok_cmpby F T 
  have c__law_value : Cal PR w K mg base 2 "_law_value" (sp_bag ArInt RInt) := cal_of d__law_value b__law_value fun F => ok_value F T c__law_take
  have c__law_terms : Cal PR w K mg base 2 "_law_terms" (sp_bag ArTm RTm) := cal_of d__law_terms b__law_terms fun F => ok_terms F T c__law_take
  have c__law_roll : Cal PR w K mg base 2 "_law_roll" (sp_bag ArRo RRo) := cal_of d__law_roll b__law_roll fun F => ok_roll F T c__law_take
  have c_is_term : Cal PR w K mg base 2 "is_term" sp_isterm := cal_of d_is_term b_is_term fun F => ok_isterm F T c_is_integer
  have c_Rule_compare : Met PR w K mg base 2 C "compare" (sp_rcmp C) := met_of m_Rule_compare T.cl b_Rule_compare fun F => ok_rcmp F T c_compare_by
  have c__law_wrong : Cal PR w K mg base 2 "_law_wrong" sp_wrong := cal_of d__law_wrong b__law_wrong fun F => ok_wrong F T c__law_side
  have c__law_laid : Cal PR w K mg base 2 "_law_laid" sp_laid := cal_of d__law_laid b__law_laid fun F => ok_laid F T c__law_side
  have c__law_moved : Cal PR w K mg base 2 "_law_moved" (sp_bag ArMv RMv) := cal_of d__law_moved b__law_moved fun F => ok_moved F T c__law_take
  have c__law_pairs_are : Cal PR w K mg base 2 "_law_pairs_are" sp_pairsare := cal_of d__law_pairs_are b__law_pairs_are fun F => ok_pairsare F T q__law_integer
  have c__law_numbers_are : Cal PR w K mg base 2 "_law_numbers_are" sp_numsare := cal_of d__law_numbers_are b__law_numbers_are fun F => ok_numsare F T q__law_integer
  have c_Rule : Mak PR w K mg base 3 "Rule" C (sp_rule C) := mak_of m_Rule_init T.g_Rule mk_Rule kc_Rule b_Rule_init fun F => ok_rule F T c_is_term
  have c_wrong_pairs : Cal PR w K mg base 3 "wrong_pairs" (sp_wpairs C) := cal_of d_wrong_pairs b_wrong_pairs fun F => ok_wpairs F T c_Rule_compare
  have c__law_strays : Cal PR w K mg base 3 "_law_strays" sp_lstray := cal_of d__law_strays b__law_strays fun F => ok_lstray F T c__law_wrong
  have c_strays : Cal PR w K mg base 4 "strays" (sp_stray C) := cal_of d_strays b_strays fun F => ok_stray F T c_wrong_pairs
  have c_slots : Cal PR w K mg base 4 "slots" (sp_slots C CN) := cal_of d_slots b_slots fun F => ok_slots F T c_wrong_pairs c_Rule_compare
  have c__law_slots_right : Cal PR w K mg base 5 "_law_slots_right" (sp_slotsR C) := cal_of d__law_slots_right b__law_slots_right fun F => ok_slotsR F T c_slots q__law_integer c__law_wrong c__law_numbers_are
  have c__law_asked : Cal PR w K mg base 6 "_law_asked" (sp_asked C) := cal_of d__law_asked b__law_asked fun F => ok_asked F T c__law_wrong c__law_pairs_are c_wrong_pairs c__law_numbers_are c_strays c__law_strays c__law_slots_right
  exact ok_law F T c__law_box c__law_take c__law_terms c__law_value c__law_roll c__law_laid c__law_moved c_Rule c__law_asked
end K32

set_option Elab.async false
set_option linter.all false
open PySem PySem.W PyProof.Rows L2 MyL K32
set_option maxRecDepth 100000 in
set_option maxHeartbeats 0 in
theorem PySem.Challenge.cw_fittingpasts_k32_shelf_pairs_holds : PySem.Challenge.rw_fittingpasts_k32_shelf_pairs.Holds := by
  w_on; o_law; k_head; (case hw => w_witness2)
  k_fill
  refine law_walk (l := PySem.Challenge.rw_fittingpasts_k32_shelf_pairs) (k := 7) (x := "_law_script") (st := s_law) rfl rfl ⟨rfl, by decide, by decide⟩ (fun w h Y => PySem.W.kIn_of Y) (fun _ _ _ _ _ _ _ _ => .of_eq rfl) ?F
  case F =>
    intro w mg h KX G
    refine' K32.all_mk KX G ?a_Rule ?a_NotSorted ?a_ArchiveError ?a_UnknownError ?a_ImpossibleError ?z_isinstance ?z_int ?z_bool ?z_len ?z_min ?z_max ?z_list ?z_tuple ?z_range ?z_all ?z_enumerate ?z_ValueError ?v_GM ?cl_Rule ?na_Rule_terms ?mk_Rule ?kc_Rule ?ca_Rule ?cm_Rule ?er_InvalidRule ?er_NotSorted ?ek_N ?xf_NotSorted ?nx_NotSorted_first ?nx_NotSorted_second ?exm ?k1 ?k2 ?k3 ?m_Rule_init ?m_Rule_compare ?d_is_integer ?d_is_term ?d_compare_by ?d_wrong_pairs ?d_strays ?d_slots ?d__law_box ?d__law_take ?d__law_integer ?d__law_value ?d__law_terms ?d__law_roll ?d__law_side ?d__law_laid ?d__law_moved ?d__law_wrong ?d__law_pairs_are ?d__law_numbers_are ?d__law_strays ?d__law_slots_right ?d__law_asked ?d_law
    (case a_Rule => k_is)
    (case a_NotSorted => k_is)
    (case a_ArchiveError => k_is)
    (case a_UnknownError => k_is)
    (case a_ImpossibleError => k_is)
    (case z_isinstance => k_is)
    (case z_int => k_is)
    (case z_bool => k_is)
    (case z_len => k_is)
    (case z_min => k_is)
    (case z_max => k_is)
    (case z_list => k_is)
    (case z_tuple => k_is)
    (case z_range => k_is)
    (case z_all => k_is)
    (case z_enumerate => k_is)
    (case z_ValueError => k_is)
    (case v_GM => k_is)
    (case cl_Rule => refine' ⟨?a, ?b, ?c, ?d⟩; (case a => k_is); (case b => k_is); (case c => k_is); (case d => k_is))
    (case na_Rule_terms => unfold NoAttr; k_is)
    (case mk_Rule => k_is)
    (case kc_Rule => k_is)
    (case ca_Rule => k_is)
    (case cm_Rule => k_is)
    (case er_InvalidRule => refine' PySem.ErrX.err_mk KX G e_InvalidRule ?g1 ?g2 ?g3 ?g4 ?g5 ?g6 ?g7 ?g8 ?g9 ?h1 ?h2 ?h3 ?h4 ?h5 ?h6 ?h7 ?h8 ?h9 ?i1 ?i2 ?i3; (case g1 => k_is); (case g2 => k_is); (case g3 => k_is); (case g4 => decide +kernel); (case g5 => k_is); (case g6 => (intro f hf; simp only [List.mem_cons, List.not_mem_nil, or_false] at hf; rcases hf with rfl; all_goals k_is)); (case g7 => k_is); (case g8 => k_is); (case g9 => k_is); (case h1 => k_is); (case h2 => k_is); (case h3 => k_is); (case h4 => k_is); (case h5 => ks_is); (case h6 => k_is); (case h7 => k_is); (case h8 => k_is); (case h9 => k_is); (case i1 => rfl); (case i2 => decide +kernel); (case i3 => k_is))
    (case er_NotSorted => refine' PySem.ErrX.err_mk KX G e_NotSorted ?g1 ?g2 ?g3 ?g4 ?g5 ?g6 ?g7 ?g8 ?g9 ?h1 ?h2 ?h3 ?h4 ?h5 ?h6 ?h7 ?h8 ?h9 ?i1 ?i2 ?i3; (case g1 => k_is); (case g2 => k_is); (case g3 => k_is); (case g4 => decide +kernel); (case g5 => k_is); (case g6 => (intro f hf; simp only [List.mem_cons, List.not_mem_nil, or_false] at hf; rcases hf with rfl | rfl; all_goals k_is)); (case g7 => k_is); (case g8 => k_is); (case g9 => k_is); (case h1 => k_is); (case h2 => k_is); (case h3 => k_is); (case h4 => k_is); (case h5 => ks_is); (case h6 => k_is); (case h7 => k_is); (case h8 => k_is); (case h9 => k_is); (case i1 => rfl); (case i2 => decide +kernel); (case i3 => k_is))
    (case ek_N => refine' PySem.ErrX.exck_mk ?a ?b ?c ?d ?e ?f ?g ?h; (case a => kernel_rfl); (case b => k_is); (case c => k_is); (case d => k_is); (case e => k_is); (case f => k_is); (case g => k_is); (case h => k_is))
    (case xf_NotSorted => refine' ⟨?a, ?b, ?c, ?d⟩; (case a => k_is); (case b => k_is); (case c => k_is); (case d => k_is))
    (case nx_NotSorted_first => k_is)
    (case nx_NotSorted_second => k_is)
    (case exm => kernel_rfl)
    (case k1 => kernel_rfl)
    (case k2 => kernel_rfl)
    (case k3 => kernel_rfl)
    (case m_Rule_init => refine' gmeth (st := s_Rule_init) ?a ?i ?l ?c ?k; (case a => k_is); (case i => k_is); (case l => k_is); (case c => k_is); (case k => k_is))
    (case m_Rule_compare => refine' gmeth (st := s_Rule_compare) ?a ?i ?l ?c ?k; (case a => k_is); (case i => k_is); (case l => k_is); (case c => k_is); (case k => k_is))
    (case d_is_integer => refine' gdef (st := s_is_integer) KX G ?a ?l ?c ?k; (case a => k_is); (case l => k_is); (case c => k_is); (case k => k_is))
    (case d_is_term => refine' gdef (st := s_is_term) KX G ?a ?l ?c ?k; (case a => k_is); (case l => k_is); (case c => k_is); (case k => k_is))
    (case d_compare_by => refine' gdef (st := s_compare_by) KX G ?a ?l ?c ?k; (case a => k_is); (case l => k_is); (case c => k_is); (case k => k_is))
    (case d_wrong_pairs => refine' gdef (st := s_wrong_pairs) KX G ?a ?l ?c ?k; (case a => k_is); (case l => k_is); (case c => k_is); (case k => k_is))
    (case d_strays => refine' gdef (st := s_strays) KX G ?a ?l ?c ?k; (case a => k_is); (case l => k_is); (case c => k_is); (case k => k_is))
    (case d_slots => refine' gdef (st := s_slots) KX G ?a ?l ?c ?k; (case a => k_is); (case l => k_is); (case c => k_is); (case k => k_is))
    (case d__law_box => refine' gdef (st := s__law_box) KX G ?a ?l ?c ?k; (case a => k_is); (case l => k_is); (case c => k_is); (case k => k_is))
    (case d__law_take => refine' gdef (st := s__law_take) KX G ?a ?l ?c ?k; (case a => k_is); (case l => k_is); (case c => k_is); (case k => k_is))
    (case d__law_integer => refine' gdef (st := s__law_integer) KX G ?a ?l ?c ?k; (case a => k_is); (case l => k_is); (case c => k_is); (case k => k_is))
    (case d__law_value => refine' gdef (st := s__law_value) KX G ?a ?l ?c ?k; (case a => k_is); (case l => k_is); (case c => k_is); (case k => k_is))
    (case d__law_terms => refine' gdef (st := s__law_terms) KX G ?a ?l ?c ?k; (case a => k_is); (case l => k_is); (case c => k_is); (case k => k_is))
    (case d__law_roll => refine' gdef (st := s__law_roll) KX G ?a ?l ?c ?k; (case a => k_is); (case l => k_is); (case c => k_is); (case k => k_is))
    (case d__law_side => refine' gdef (st := s__law_side) KX G ?a ?l ?c ?k; (case a => k_is); (case l => k_is); (case c => k_is); (case k => k_is))
    (case d__law_laid => refine' gdef (st := s__law_laid) KX G ?a ?l ?c ?k; (case a => k_is); (case l => k_is); (case c => k_is); (case k => k_is))
    (case d__law_moved => refine' gdef (st := s__law_moved) KX G ?a ?l ?c ?k; (case a => k_is); (case l => k_is); (case c => k_is); (case k => k_is))
    (case d__law_wrong => refine' gdef (st := s__law_wrong) KX G ?a ?l ?c ?k; (case a => k_is); (case l => k_is); (case c => k_is); (case k => k_is))
    (case d__law_pairs_are => refine' gdef (st := s__law_pairs_are) KX G ?a ?l ?c ?k; (case a => k_is); (case l => k_is); (case c => k_is); (case k => k_is))
    (case d__law_numbers_are => refine' gdef (st := s__law_numbers_are) KX G ?a ?l ?c ?k; (case a => k_is); (case l => k_is); (case c => k_is); (case k => k_is))
    (case d__law_strays => refine' gdef (st := s__law_strays) KX G ?a ?l ?c ?k; (case a => k_is); (case l => k_is); (case c => k_is); (case k => k_is))
    (case d__law_slots_right => refine' gdef (st := s__law_slots_right) KX G ?a ?l ?c ?k; (case a => k_is); (case l => k_is); (case c => k_is); (case k => k_is))
    (case d__law_asked => refine' gdef (st := s__law_asked) KX G ?a ?l ?c ?k; (case a => k_is); (case l => k_is); (case c => k_is); (case k => k_is))
    (case d_law => refine' gdef (st := s_law) KX G ?a ?l ?c ?k; (case a => k_is); (case l => k_is); (case c => k_is); (case k => k_is))
#print axioms PySem.Challenge.cw_fittingpasts_k32_shelf_pairs_holds

