import PyProof.Rows.All
import Wide.All
import OpenK.AllK
import Wide.FinOn
import KE.KExcSuper
import HandS.Exc
import HandS.ExcInit
import KE.KOpsOwn
import KE.KCallOwn
import KE.KExcIs
import HandS.ForExc
import HandS.ForMost
import HandS.HotCalls
import HandS.More
import HandS.SlotsOwn
import HandS.MakeKw
import HandS.IsInst
import HandS.ExcField
import HandS.Wide
import HandS.FStr
import HandS.EndBits
import HandS.Property
import HandS.ClsMeth
import HandS.ExcOwn
import HandS.Star
import KE.GoesMore
import HandS.Iter
import PyProof.ListRange
import HandS.Conv
import HandS.Sort
import HandS.Style
import HandS.Deep
import HandS.TupAny
import PySem.Challenge.RW_fittingpasts_k35_whole_demands
set_option Elab.async false
set_option linter.all false
set_option maxRecDepth 100000
set_option maxHeartbeats 4000000
/-! An own error whose body of __init__ is super().__init__('..') and then self.f = f for each field f. -/
namespace PySem
namespace ErrX
open PySem.W PySem.Calls PyProof.Rows PySem.HandSPX
/-- self.f = f for each name -/
inductive Asgs : List Str → List Stmt → Prop
  | nil : Asgs [] []
  | cons {f : Str} {fs : List Str} {r : List Stmt} {q1 q2 q3 q4 : Pos} : (f == ("__debug__" : Str)) = false → Asgs fs r → Asgs (f :: fs) (.Assign [.Attribute (.Name "self" q1) f q2] (.Name f q3) q4 :: r)
/-- what the written part says of the error's class at C and of its __init__ at fI -/
structure ErrTxt (prog : Program) (K : Frag) (mg : Str → Option Value) (x : Str) (C fI : Addr) (fs : List Str) : Prop where
  gC : mg x = some (.ref C)
  gS : mg "super" = none
  cls : ∃ nm q N bs bm sn sub ab col dd k0 k1 k2 k3 k5, K.lookup C = some (excClassObj nm q C N bs bm true sn sub ab col dd k0 k1 k2 k3 k5 "ValueError.__new__") ∧ refsVE bm = true
  sa : findIn K (.ref C) "__setattr__" = some (some (.builtin "object.__setattr__"))
  no : ∀ f ∈ fs, findIn K (.ref C) f = some none
  iC : findIn K (.ref C) "__init__" = some (some (.ref fI))
  tC : typeIn K (.ref fI) = some (.type "function")
  kC : keepIn K (.ref C) = true
  exC : subIn K (.ref C) (.type "BaseException") = some true
  veC : subIn K (.ref C) (.type "ValueError") = some true
  tyC : typeIn K (.ref C) = some (.type "type")
  op : nsIn K cStatics "thirdparty.any" = some none
  al : ks_superIn K C C "__init__" = some (some (.builtin "ValueError.__init__"))
  slf : mroIn K C (.ref C) = some true
  fn : ∃ (oc : Value) (od : Option Addr) (qual : Str) (params : Arguments) (scope : Scope) (rest : List Stmt) (doc pm : Value) (an : Option Addr) (cda : Addr) (ct : Value) (cc : Addr) (osl : Array (Option Value)) (txt : Str) (j : Nat) (p0 p1 p2 p3 p4 p5 : Pos) (ar : Arg)
      (ccl : Value) (cdd : Option Addr) (vs : Array Value) (ccs : Array (Option Value)) (file : Str) (tf : Tok) (cl : Value) (cld : Option Addr) (csl : Array (Option Value)),
    K.lookup fI = some ⟨oc, od, .func (ksFn "__init__" qual params (.Expr (.Call (.Attribute (.Call (.Name "super" p0) [] [] p1) "__init__" p2) [.Constant (.str txt) j p3] [] p4) p5 :: rest) scope .none .none doc pm an (.ref cda) ct cc), osl⟩ ∧ codeIn K (.ref cda) qual = true ∧
    K.lookup cda = some ⟨ccl, cdd, .fields vs, ccs⟩ ∧ vs[2]? = some (.str file tf) ∧ ((prog.main.file : Str) == file) = true ∧ K.lookup cc = some ⟨cl, cld, .cell (some (.ref C)), csl⟩ ∧
    (∀ env : Env, eval (.Call (.Attribute (.Call (.Name "super" p0) [] [] p1) "__init__" p2) [.Constant (.str txt) j p3] [] p4) env = (do
      let ov ← attributeBase (.Call (.Name "super" p0) [] [] p1) "__init__" env (eval (.Call (.Name "super" p0) [] [] p1) env)
      standAt p2.atName
      let (f, first) ← holding [ov] (getMethod ov "__init__" (do return (← importBound (.Call (.Name "super" p0) [] [] p1) env).getD true))
      callWith p4 f first (backTo p4 (starEach [.Constant (.str txt) j p3] env)) [])) ∧
    (prog.main.scope.names.lookup ("super" : Str)).isSome = false ∧
    (params.posonlyargs ++ params.args).head? = some ar ∧ ar.arg = "self" ∧
    scope.kind = .function ∧ scope.isCoroutine = false ∧ scope.isGenerator = false ∧ (∀ x ∈ scope.names, x.2 ≠ .cell) ∧ scope.names.lookup ("super" : Str) = some .globalImplicit ∧ scope.names.lookup ("__class__" : Str) = some .free ∧
    scope.names.lookup ("self" : Str) = some .local ∧ (∀ f ∈ fs, scope.names.lookup f = some .local) ∧ (("self" : Str) :: fs).Nodup ∧
    Asgs fs rest ∧ ∀ us : List Value, us.length = fs.length + 1 → bindArgs (ksFn "__init__" qual params (.Expr (.Call (.Attribute (.Call (.Name "super" p0) [] [] p1) "__init__" p2) [.Constant (.str txt) j p3] [] p4) p5 :: rest) scope .none .none doc pm an (.ref cda) ct cc) ⟨us, []⟩ = pure (((("self" : Str) :: fs)).zip us)

theorem lookup_rev : ∀ {l : List (Str × Value)} {x : Str} {v : Value}, (l.map (·.1)).Nodup → l.lookup x = some v → l.reverse.lookup x = some v := by
  intro l x v nd h
  have key : ∀ (m : List (Str × Value)), (m.map (·.1)).Nodup → (x, v) ∈ m → m.lookup x = some v := by
    intro m
    induction m with
    | nil => intro _ h; cases h
    | cons p m ih =>
      intro nd h
      obtain ⟨y, u⟩ := p
      rw [List.map_cons, List.nodup_cons] at nd
      rcases List.mem_cons.mp h with e | e
      · cases e; simp [List.lookup]
      · have hne : (x == y) = false := by
          rw [beq_eq_false_iff_ne]
          rintro rfl
          exact nd.1 (List.mem_map_of_mem (f := (·.1)) e)
        simp [List.lookup, hne]
        exact ih nd.2 e
  refine key _ ?_ (List.mem_reverse.mpr (PySem.mem_of_lookup h))
  rw [List.map_reverse]
  exact List.pairwise_reverse.mpr (nd.imp Ne.symm)

/-- what stands at the exception behind the stores: the fields so far (the last one first) -/
def DictOf (x : Addr) (n : Nat) (h : Heap) (fl : List (Str × Value)) (dv : Option Addr) : Prop :=
  match fl with
  | [] => dv = none
  | _ => ∃ dx, dv = some dx ∧ n ≤ dx ∧ dx ≠ x ∧ ∃ mA, h.Ns1 dx mA ∧ (∀ y, mA y = fl.lookup y)
theorem dictOf_cons {x : Addr} {n : Nat} {h : Heap} {fl : List (Str × Value)} {dv : Option Addr} {f : Str} {v : Value} : DictOf x n h ((f, v) :: fl) dv = ∃ dx, dv = some dx ∧ n ≤ dx ∧ dx ≠ x ∧ ∃ mA, h.Ns1 dx mA ∧ (∀ y, mA y = ((f, v) :: fl).lookup y) := rfl
abbrev excD (C t : Addr) (d : Option Addr) : Obj := { cls := .ref C, dict := d, data := .fields #[.ref t, .none, .none, .none, .bool false, .none] }
theorem lookup_ite (f y : Str) (v : Value) (fl : List (Str × Value)) : ((f, v) :: fl).lookup y = if y = f then some v else fl.lookup y := by
  by_cases h : y = f
  · subst h; simp [List.lookup]
  · have e : (y == f) = false := by simpa using h
    rw [if_neg h]; simp [List.lookup, e]
section
variable {prog : Program} {w : World} {A : Around} {E : Value → Shared → Prop} {K : Frag} {mg : Str → Option Value} {C fI : Addr}
theorem run_asgs {env : Env} {x t0 : Addr} {n : Nat} {m : Str → Option Value} {cd : ClassData} (hcd : clsIn K C = some cd) (hmr : refsVE cd.mro = true) (hh : cd.hasDict = true) (sa : findIn K (.ref C) "__setattr__" = some (some (.builtin "object.__setattr__")))
    (hnx : K.lookup x = none) (hk : env.scope.kind = .function) (hself : env.kindOf "self" = some .local) (mself : m "self" = some (.ref x)) (hLx : env.locals ≠ x) (hLn : env.locals < n) {Q : Flow → Shared → Prop} :
    ∀ {fs : List Str} {rest : List Stmt} {vs : List Value} {fl : List (Str × Value)} {dv : Option Addr} {s : Shared}, Asgs fs rest → vs.length = fs.length → (∀ p ∈ fs.zip vs, m p.1 = some p.2 ∧ env.kindOf p.1 = some .local ∧ findIn K (.ref C) p.1 = some none) → fl.length + fs.length ≤ 900 →
    K.In s.heap → s.heap.Ns env.locals m → s.heap.get? x = some (excD C t0 dv) → n ≤ s.heap.objs.size → DictOf x n s.heap fl dv → (∀ dx, dv = some dx → K.lookup dx = none ∧ dx ≠ env.locals) →
    (∀ h' tk dv', (∀ b o, b ≠ x → some b ≠ dv → s.heap.get? b = some o → h'.get? b = some o) → h'.get? x = some (excD C t0 dv') → DictOf x n h' ((fs.zip vs).reverse ++ fl) dv' → Q .next { s with heap := h', toks := tk }) →
    wpAny (model prog w) A (execs rest env) Q E s := by
  intro fs
  induction fs with
  | nil =>
    intro rest vs fl dv s ha hl _ _ _ _ hx _ hd _ hq
    cases ha
    refine wpAny_execs_nil ?_
    have := hq s.heap s.toks dv (fun b o _ _ e => e) hx (by simpa using hd)
    exact this
  | cons f fs ih =>
    intro rest vs fl dv s ha hl hm hz X hn hx hsz hd hdv hq
    cases ha with
    | cons hdb ha' =>
    cases vs with
    | nil => cases hl
    | cons v vs =>
    have hl' : vs.length = fs.length := by simpa using hl
    obtain ⟨mv, kv, nov⟩ := hm (f, v) (by simp)
    have hm' : ∀ p ∈ fs.zip vs, m p.1 = some p.2 ∧ env.kindOf p.1 = some .local ∧ findIn K (.ref C) p.1 = some none := fun p hp => hm p (by simp [hp])
    have hz' : fl.length + (fs.length + 1) ≤ 900 := by simpa using hz
    refine wpAny_execs_cons (plainObj_wpAny_Assign_Attribute ?_ (by rfl))
    refine wpAny_Name (wpAny_loadName_local hk kv hn mv ?_) hdb
    refine wpAny_Name (wpAny_loadName_local hk hself hn mself ?_) (by decide)
    show wpAny _ _ (setAttr (.ref x) f v) _ _ _
    obtain ⟨hp, g, d, tk, os⟩ := s
    cases fl with
    | nil =>
      have e0 : dv = none := hd
      subst e0
      refine set_plain X (ox := excD C t0 none) (od := none) ⟨hx, rfl, rfl, trivial⟩ sa ?_
      refine exc_osa X hx hcd hmr hh nov (fun h' tk' dx k dn dne hx' hn' => ?_)
      have ndl : ∀ {b o}, hp.get? b = some o → b ≠ dx := fun {b o} q => Nat.ne_of_lt (Nat.lt_of_lt_of_le (Heap.lt_size q) dn)
      have hnL : h'.Ns env.locals m := by
        obtain ⟨o, es, ep, ho, r⟩ := hn
        exact ⟨o, es, ep, k _ o hLx ho, r⟩
      have hsz' : n ≤ h'.objs.size := by
        have := Heap.lt_size (show h'.get? x = some _ from hx')
        obtain ⟨o, es, ep, ho, r⟩ := hn'
        have z := Heap.lt_size ho
        exact Nat.le_of_lt (Nat.lt_of_le_of_lt (Nat.le_trans hsz dn) z)
      have X' : K.In h' := fun a o e => k a o (fun z => by rw [z, hnx] at e; cases e) (X a o e)
      refine ih (fl := [(f, v)]) (dv := some dx) (s := ⟨h', g, d, tk', os⟩) ha' hl' hm' (by simp; omega) X' hnL hx' hsz' ?_ ?_ ?_
      · refine ⟨dx, rfl, Nat.le_trans hsz dn, dne, _, hn', fun y => ?_⟩
        rw [lookup_ite]
        rfl
      · intro dx' e
        cases e
        refine ⟨?_, ?_⟩
        · cases q : K.lookup dx with
          | none => rfl
          | some o => exact absurd (Heap.lt_size (X _ _ q)) (Nat.not_lt.mpr dn)
        · exact Ne.symm (Nat.ne_of_lt (Nat.lt_of_lt_of_le hLn (Nat.le_trans hsz dn)))
      · intro h2 tk2 dv2 k2 hx2 hd2
        refine hq h2 tk2 dv2 (fun b o hb _ e => k2 b o hb (fun z => ndl e (Option.some.inj z)) (k b o hb e)) hx2 ?_
        simpa using hd2
    | cons p0 fl =>
      obtain ⟨dx, rfl, dn, dne, mA, hns, hmA⟩ := hd
      obtain ⟨nK, nL⟩ := hdv dx rfl
      have hw : Within mA ((p0 :: fl).map (·.1)) := fun y hy => by
        rw [hmA y] at hy
        cases q : (p0 :: fl).lookup y with
        | none => exact absurd q hy
        | some u => exact List.mem_map_of_mem (f := (·.1)) (PySem.mem_of_lookup q)
      obtain ⟨oD, _, _, hoD, _, _⟩ := hns.count hw
      refine set_plain X (ox := excD C t0 (some dx)) (od := some oD) ⟨hx, rfl, rfl, hoD⟩ sa ?_
      refine PySem.OEX.osa_old X hx hns hw (by rw [List.length_map]; simp at hz' ⊢; omega) hcd hmr hh nov (fun h' tk' k hn' => ?_)
      have hnL : h'.Ns env.locals m := by
        obtain ⟨o, es, ep, ho, r⟩ := hn
        exact ⟨o, es, ep, k _ o (Ne.symm nL) ho, r⟩
      have hx' : h'.get? x = some (excD C t0 (some dx)) := k _ _ (Ne.symm dne) hx
      have hsz' : n ≤ h'.objs.size := by
        obtain ⟨o, es, ep, ho, r⟩ := hn'
        have z := Heap.lt_size ho
        exact Nat.le_of_lt (Nat.lt_of_le_of_lt dn z)
      have X' : K.In h' := fun a o e => k a o (fun z => by rw [z, nK] at e; cases e) (X a o e)
      refine ih (fl := (f, v) :: p0 :: fl) (dv := some dx) (s := ⟨h', g, d, tk', os⟩) ha' hl' hm' (by simp at hz' ⊢; omega) X' hnL hx' hsz' ?_ hdv ?_
      · refine ⟨dx, rfl, dn, dne, _, hn', fun y => ?_⟩
        rw [lookup_ite, hmA y]
      · intro h2 tk2 dv2 k2 hx2 hd2
        refine hq h2 tk2 dv2 (fun b o hb hb2 e => k2 b o hb hb2 (k b o (fun z => hb2 (by rw [z])) e)) hx2 ?_
        simpa using hd2
end
end ErrX
end PySem

set_option Elab.async false
set_option linter.all false
set_option maxRecDepth 100000
set_option maxHeartbeats 4000000
namespace PySem
namespace ErrX
open PySem.W PySem.Calls PyProof.Rows PySem.HandSPX
section
variable {prog : Program} {w : World} {A : Around} {E : Value → Shared → Prop} {K : Frag} {mg : Str → Option Value} {C fI : Addr} {R : Result → Shared → Prop}
/-- the call of super().__init__ as a wrapper -/
theorem call_mw {h : Heap} {g : Array GenState} {d : Drawn} {t : Nat} {os : OsState} {nm q : Str} {N : Addr} {bs bm : List Value} {hdct : Bool} {sn : List Str} {sub : List Value} {ab : Bool} {col : Option Bool} {dd : Option Addr} {k0 k1 k2 k3 k5 : Option Value} {u e t0 : Addr} {rest : List Value} {Q : Value → Shared → Prop}
    (hC : h.get? C = some (excClassObj nm q C N bs bm hdct sn sub ab col dd k0 k1 k2 k3 k5 "ValueError.__new__")) (he : h.get? e = some (excO C t0)) (hu : h.get? u = some (kxs_mw "ValueError.__init__" e)) (hrest : rest.length ≤ sizeLine)
    (hq : ∀ h' t1, (∀ b o, b ≠ e → h.get? b = some o → h'.get? b = some o) → h'.get? e = some (excO C t1) → Q .none ⟨h', g, d, t, os⟩) :
    wpAny (model prog w) A (call (.ref u) rest) Q E ⟨h, g, d, t, os⟩ := by
  refine wpAny_call (codeAny_of_tree ?_)
  show wpAny _ A.in1 (callAny (.ref u) ⟨rest, []⟩) _ _ _
  simp only [callAny]
  refine wpAny_bind (wpAny_load hu ?_)
  simp only [kxs_mw, show (Value.type "method-wrapper" == Value.type "method" || Value.type "method-wrapper" == Value.type "builtin_function_or_method" || Value.type "method-wrapper" == Value.type "method-wrapper") = true by decide, if_true]
  refine KFB.if_so (by decide) ?_
  refine wpAny_bind (check_bound_init PySem.F.excBase_ValueError.toExcCallFacts hC he rfl ?_)
  refine wpAny_bind (wpAny_pure (wpAny_pure ?_))
  refine ⟨plainId_quiet PySem.F.excBase_ValueError.init.plain _, codeAny_builtin PySem.F.excBase_ValueError.initEntry ?_⟩
  exact exc_init_tree (cls := .ref C) (t0 := t0) (dv := none) (c2 := .none) (c3 := .none) (b4 := .bool false) he hrest fun h' k e' _ => hq h' _ k e'
theorem str_size (v : Value) : [v].length ≤ sizeLine := by
  rw [sizeLine_eq]
  exact (by decide : 1 ≤ 16777216)
theorem run_init {x0 : Str} {fs : List Str} (T : ErrTxt prog K mg x0 C fI fs) (hfs : fs.length ≤ 100) {s : Shared} {x t0 : Addr} {vs : List Value} (hl : vs.length = fs.length) (X : K.In s.heap) (hlim : s.heap.NoLimit) (hg : s.heap.Ns mainGlobals mg)
    (hb : ∃ mb, s.heap.Ns builtinsNs mb ∧ ∀ y : Str, y ≠ "__name__" → mb y = bootBuiltins y) (hx : s.heap.get? x = some (excO C t0)) (hnx : K.lookup x = none) (hroom : A.depth < recursionLimit)
    (hq : ∀ h' tk t1 dv, (∀ b o, b ≠ x → s.heap.get? b = some o → h'.get? b = some o) → h'.get? x = some (excD C t1 dv) → DictOf x s.heap.objs.size h' (fs.zip vs).reverse dv → R (.ok (.ret .none)) { s with heap := h', toks := tk }) :
    codeAny (model prog w) A (.call (.ref fI) ⟨.ref x :: vs, []⟩) R s := by
  obtain ⟨oc, od, qual, params, scope, rest, doc, pm, an, cda, ct, cc, osl, txt, j, p0, p1, p2, p3, p4, p5, ar, ccl, cdd, cvs, ccs, file, tf, cl, cld, csl, lf, hcd, lcd, hvs, hfile, lcc, heq, htop, hhd, hself, hk, hco, hgen, hcell, hks, hkc, hks1, hkf, nd, hasg, hbind⟩ := T.fn
  obtain ⟨nm, q, N, bs, bm, sn, sub, ab, col, dd, k0, k1, k2, k3, k5, hC, hbm⟩ := T.cls
  have hcl : clsIn K C = some { name := nm, bases := bs, mro := .ref C :: bm, ns := N, qualname := q, hasDict := true, slotNames := sn, subclasses := sub, abstract := ab, collection := col, hasDel := false } := by unfold clsIn; rw [hC] <;> rfl
  have hxn : s.heap.objs.size ≠ x := Nat.ne_of_gt (Heap.lt_size hx)
  have hal := T.al
  unfold ks_superIn at hal
  rw [hcl] at hal
  refine ks_codeAny_call_defAt (binds := ((("self" : Str) :: fs)).zip (.ref x :: vs)) hroom (X _ _ lf) rfl hlim (codeRec_of X hcd) rfl (BindsTo.of_eq (hbind _ (by simp [hl]))) hcell (fun y hy => ?_) (fun h1 hn1 k1' => ?_) hco hgen hk
  · have := (List.of_mem_zip (show (y.1, y.2) ∈ _ from hy)).1
    rcases List.mem_cons.mp this with e | e
    · rw [e]; exact hks1
    · exact hkf _ e
  obtain ⟨hp, g, d, tk, os⟩ := s
  dsimp only at *
  have X1 : K.In h1 := X.keeps k1'
  have hx1 := k1' _ _ hx
  have mself : (fun y => (((("self" : Str) :: fs)).zip (.ref x :: vs)).reverse.lookup y) "self" = some (Value.ref x) := by
    refine lookup_rev ?_ (by simp [List.zip_cons_cons, List.lookup])
    rw [List.map_fst_zip (by simp [hl])]
    exact nd
  have mfs : ∀ p ∈ fs.zip vs, (fun y => (((("self" : Str) :: fs)).zip (.ref x :: vs)).reverse.lookup y) p.1 = some p.2 ∧ (ksEnv qual scope hp.objs.size fI (.ref cda) cc).kindOf p.1 = some .local ∧ findIn K (.ref C) p.1 = some none := by
    intro p hp'
    have hpf := (List.of_mem_zip (show (p.1, p.2) ∈ _ from hp')).1
    refine ⟨lookup_rev ?_ ?_, hkf _ hpf, T.no _ hpf⟩
    · rw [List.map_fst_zip (by simp [hl])]
      exact nd
    · have key : ∀ (m : List (Str × Value)), (m.map (·.1)).Nodup → p ∈ m → m.lookup p.1 = some p.2 := by
        intro m
        induction m with
        | nil => intro _ h; cases h
        | cons r m ih =>
          intro nd h
          obtain ⟨y, u⟩ := r
          rw [List.map_cons, List.nodup_cons] at nd
          rcases List.mem_cons.mp h with e | e
          · rw [e]; simp [List.lookup]
          · have hne : (p.1 == y) = false := by
              rw [beq_eq_false_iff_ne]
              rintro rfl
              exact nd.1 (List.mem_map_of_mem (f := (·.1)) e)
            simp [List.lookup, hne]
            exact ih nd.2 e
      refine key _ ?_ (by rw [List.zip_cons_cons]; exact List.mem_cons_of_mem _ hp')
      rw [List.map_fst_zip (by simp [hl])]
      exact nd
  generalize hm : (fun y => (((("self" : Str) :: fs)).zip (.ref x :: vs)).reverse.lookup y) = m at hn1 mself mfs
  have J : InstAt h1 x (excO C t0) C none := ⟨hx1, rfl, rfl, trivial⟩
  obtain ⟨oD, hD1, hD2⟩ : ∃ oD, h1.get? C = some oD ∧ ∃ cd, oD.data = .cls cd := ⟨_, X1 _ _ hC, _, rfl⟩
  obtain ⟨cdD, hD2⟩ := hD2
  obtain ⟨mb, hb1, hb2⟩ := hb
  have hint : interactive (callEnv (ksFn "__init__" qual params (.Expr (.Call (.Attribute (.Call (.Name "super" p0) [] [] p1) "__init__" p2) [.Constant (.str txt) j p3] [] p4) p5 :: rest) scope .none .none doc pm an (.ref cda) ct cc) hp.objs.size fI) = false := by
    show (scope.kind == .module && _) = false
    rw [hk]
    rfl
  -- super().__init__('..')
  refine ks_wpAt_execs_cons (ks_wpAt_Expr_any (ks_wpAt_MethodCall ?_ (heq _)) hint)
  refine ks_wpAt_super_base (env := ksEnv qual scope hp.objs.size fI (.ref cda) cc) hks hkc (by decide) rfl (X1 _ _ lf) rfl hhd rfl (X1 _ _ lcd) rfl hvs hfile htop ?_
  refine ks_loadName_global hk hks (loadGlobal_builtin (env := ksEnv qual scope hp.objs.size fI (.ref cda) cc) (hg.keeps k1') T.gS (hb1.keeps k1') ((hb2 _ (by decide)).trans (by decide +kernel : bootBuiltins "super" = some (.type "super"))) ⟨rfl, ?_⟩)
  refine wpAny_loadName_free hk hkc rfl ⟨_, X1 _ _ lcc, rfl⟩ ?_
  rw [hself]
  refine wpAny_loadName_local hk hks1 hn1 mself ?_
  refine ks_wpAny_isType_cls hD1 hD2 ⟨rfl, ?_⟩
  refine ks_wpAny_call_super hD1 hD2 J.at_ J.cls (fun c e => ?_) (looks_mroIn X1 T.slf) (fun h2 hso k2 => ?_)
  · cases e
  have X2 : K.In h2 := X1.keeps k2
  have hx2 := k2 _ _ hx1
  have J2 : InstAt h2 x (excO C t0) C none := ⟨hx2, rfl, rfl, trivial⟩
  refine kxs_getMethod (l₀ := Value.ref C :: bm) kxs_ValueError hso (looks_opaque X2 T.op) ?_ rfl X2 hal (J2.type.andThen (looks_subIn X2 T.veC)) (fun z => by rw [z, hC] at hnx; cases hnx) (by decide) ?_
  · exact fun A Q E s k q => wpAny_bind ((looks_clsIn X2 hcl) A _ E s k (wpAny_pure q))
  have hmw : (h2.push (kxs_mw "ValueError.__init__" x)).get? h2.objs.size = some (kxs_mw "ValueError.__init__" x) := Heap.get?_push_at rfl rfl
  have k3' : ∀ b o, h2.get? b = some o → (h2.push (kxs_mw "ValueError.__init__" x)).get? b = some o := fun b o e => Heap.get?_push_of_some _ e
  refine kxs_callWith (i := "ValueError.__init__") (x := x) (by rfl) ?_
  refine evalArgs_plain (spliced_cons (Constant_str (k := j) (pos := p3) (spliced_nil ?_)))
  refine ⟨hmw, ?_⟩
  refine call_mw (k3' _ _ (X2 _ _ hC)) (k3' _ _ hx2) hmw (str_size _) fun h4 t4 k4 hx4 => ?_
  have kA : ∀ b o, b ≠ x → h1.get? b = some o → h4.get? b = some o := fun b o hb e => k4 b o hb (k3' b o (k2 b o e))
  have X4 : K.In h4 := fun a o e => kA a o (fun z => by rw [z, hnx] at e; cases e) (X1 a o e)
  have hnL : h4.Ns hp.objs.size m := by
    obtain ⟨o, es, ep, ho, r⟩ := hn1
    exact ⟨o, es, ep, kA _ o hxn ho, r⟩
  have hs4 : hp.objs.size < h4.objs.size := by
    obtain ⟨o, es, ep, ho, r⟩ := hnL
    exact Heap.lt_size ho
  refine wpAt_of_wpAny ?_
  refine run_asgs (env := ksEnv qual scope hp.objs.size fI (.ref cda) cc) (n := hp.objs.size + 1) (fl := []) (dv := none) (s := ⟨h4, g, d, _, os⟩) hcl (show refsVE (.ref C :: bm) = true from hbm) rfl T.sa hnx hk hks1 mself hxn (Nat.lt_succ_self _) hasg hl mfs (by simp; omega) X4 hnL hx4 hs4 rfl (fun dx e => nomatch e) ?_
  intro h' tk' dv' k' hx' hd'
  refine hq h' tk' t4 dv' (fun b o hb e => k' b o hb (fun z => nomatch z) (kA b o hb (k1' b o e))) hx' ?_
  rw [List.append_nil] at hd'
  cases hz : (fs.zip vs).reverse with
  | nil =>
    rw [hz] at hd'
    exact hd'
  | cons p r =>
    rw [hz] at hd'
    obtain ⟨dx, e, dn, r⟩ := hd'
    exact ⟨dx, e, Nat.le_of_succ_le dn, r⟩
/-- what is made by C(..) -/
structure Made (h h' : Heap) (e C : Addr) (dv : Option Addr) (fl : List (Str × Value)) : Prop where
  keep : ∀ b o, h.get? b = some o → h'.get? b = some o
  new : h.objs.size ≤ e
  obj : ∃ t1, h'.get? e = some (excD C t1 dv)
  dct : DictOf e h.objs.size h' fl dv
theorem run_made {x0 : Str} {fs : List Str} (T : ErrTxt prog K mg x0 C fI fs) (hfs : fs.length ≤ 100) {s : Shared} {vs : List Value} (hl : vs.length = fs.length) (X : K.In s.heap) (hlim : s.heap.NoLimit) (hg : s.heap.Ns mainGlobals mg)
    (hb : ∃ mb, s.heap.Ns builtinsNs mb ∧ ∀ y : Str, y ≠ "__name__" → mb y = bootBuiltins y) (hroom : A.depth + 1 < recursionLimit)
    (hq : ∀ h' tk e dv, Made s.heap h' e C dv (fs.zip vs).reverse → R (.ok (.ret (.ref e))) { s with heap := h', toks := tk }) :
    codeAny (model prog w) A (.call (.ref C) ⟨vs, []⟩) R s := by
  obtain ⟨nm, q, N, bs, bm, sn, sub, ab, col, dd, k0, k1, k2, k3, k5, hC, hbm⟩ := T.cls
  obtain ⟨hp, g, dr, tk, os⟩ := s
  have k : ∀ b o, hp.get? b = some o → ((hp.push (kdv_tup vs)).push (excO C hp.objs.size)).get? b = some o := fun b o e => Heap.get?_push_of_some _ (Heap.get?_push_of_some _ e)
  have hget : ((hp.push (kdv_tup vs)).push (excO C hp.objs.size)).get? (hp.objs.size + 1) = some (excO C hp.objs.size) := by heap_get
  have hnx : K.lookup (hp.objs.size + 1) = none := by
    cases e : K.lookup (hp.objs.size + 1) with
    | none => rfl
    | some o =>
      have z : hp.get? (hp.objs.size + 1) = some o := X _ _ e
      exact absurd (Nat.lt_of_succ_lt (Heap.lt_size z)) (Nat.lt_irrefl _)
  obtain ⟨mb, hb1, hb2⟩ := hb
  have hvl : vs.length ≤ sizeLine := by rw [hl, sizeLine_eq]; omega
  refine call_own PySem.F.excBase_ValueError (fun X => refsVE_contains X bm hbm) (X _ _ hC) (looks_findIn X T.iC) (fun self => bind_fn X self T.tC) hvl ?_
  refine run_init (s := ⟨(hp.push (kdv_tup vs)).push (excO C hp.objs.size), g, dr, tk, os⟩) T hfs hl (X.keeps k) (hlim.keeps k) (hg.keeps k) ⟨mb, hb1.keeps k, hb2⟩ hget hnx ?_ fun h' tk' t1 dv k' hx hd => ?_
  · show A.depth + 1 < recursionLimit
    exact hroom
  · have old : ∀ b o, hp.get? b = some o → h'.get? b = some o := fun b o e => k' b o (Nat.ne_of_lt (Nat.lt_succ_of_lt (Heap.lt_size e))) (k b o e)
    refine ⟨rfl, hq h' tk' (hp.objs.size + 1) dv ⟨old, Nat.le_succ _, ⟨_, hx⟩, ?_⟩⟩
    cases hz : (fs.zip vs).reverse with
    | nil =>
      rw [hz] at hd
      exact hd
    | cons p r =>
      rw [hz] at hd
      obtain ⟨dx, e, dn, r⟩ := hd
      refine ⟨dx, e, Nat.le_trans ?_ dn, r⟩
      simp only [Heap.size_push]
      exact Nat.le_trans (Nat.le_succ _) (Nat.le_succ _)
end
end ErrX
end PySem
namespace L2
open PySem PySem.Spec PyProof.Rows
theorem relO_zip {vs : List V} {us : List Value} (r : Vals vs us) : ∀ (fs : List Str), fs.length = vs.length → ∀ f, RelO ((fs.zip vs).lookup f) ((fs.zip us).lookup f) := by
  induction r with
  | nil => intro fs h f; simp; trivial
  | cons rv rr ih =>
    intro fs h f
    cases fs with
    | nil => cases h
    | cons g fs =>
      rw [List.zip_cons_cons, List.zip_cons_cons, lookup_put, PySem.ErrX.lookup_ite]
      by_cases e : f = g
      · rw [if_pos e, if_pos e]; exact rv
      · rw [if_neg e, if_neg e]; exact ih fs (by simpa using h) f
theorem vals_reverse {vs : List V} {us : List Value} (r : Vals vs us) : Vals vs.reverse us.reverse := by
  induction r with
  | nil => exact .nil
  | cons rv rr ih =>
    rw [List.reverse_cons, List.reverse_cons]
    exact Vals.append ih (.cons rv .nil)
section
variable {X : Cx} {C fI : Addr}
/-- C(e, ..), an own error with the fields fs -/
def errQ (C : Addr) (fs : List Str) (vs : List V) (H1 : Hp) (Q : XK) : Prop :=
  match fs with
  | [] => Q (.ref C) none H1
  | f :: r => ∀ d, H1 d = none → Q (.ref C) (some d) (upd H1 d (.xd ((f :: r).reverse.zip vs.reverse)))
def tMkErr (C : Addr) (fs : List Str) (ta : TA) : St → Hp → XK → Prop := fun σ H Q => ta σ H fun vs H1 => vs.length = fs.length ∧ errQ C fs vs H1 Q
theorem mk_err_end {x0 : Str} {fs : List Str} {pins : List (Addr × Obj)} {σ : St} {H1 : Hp} {Q : XK} {s1 : Shared} {us : List Value} {vs : List V} (T : PySem.ErrX.ErrTxt X.prog X.K X.mg x0 C fI fs) (hfs : fs.length ≤ 100) {k : Nat} (hr : Room k X.A)
    (I1 : Inv X pins σ H1 s1) (r1 : Vals vs us) (hl : vs.length = fs.length) (q : errQ C fs vs H1 Q) :
    wpAny (model X.prog X.w) X.A (call (.ref C) us) (MkP X pins σ Q) X.xe s1 := by
  have hlim := I1.nolimit
  obtain ⟨mb, hb1, hb2⟩ := I1.mod.blt
  have hul : us.length = fs.length := by rw [← r1.length]; exact hl
  obtain ⟨hp, g, dr, tk, os⟩ := s1
  refine wpAny_call (PySem.ErrX.run_made (A := X.A) T hfs hul I1.kIn hlim (I1.mod.glob.keeps I1.bk) ⟨mb, hb1.keeps I1.bk, hb2⟩ (by have := hr.dp; omega) fun h' tk' e dv M => ?_)
  show MkP X pins σ Q (.ref e) ⟨h', g, dr, tk', os⟩
  obtain ⟨t1, hoe⟩ := M.obj
  have hzip : (fs.zip us).reverse = fs.reverse.zip us.reverse := by
    have hz := List.reverse_zipWith (f := Prod.mk) (l := fs) (l' := us) (by rw [hul])
    simpa [List.zip] using hz
  have hd := M.dct
  rw [hzip] at hd
  cases fs with
  | nil =>
    have e0 : dv = none := by simpa [PySem.ErrX.DictOf] using hd
    subst e0
    obtain ⟨G', g1, g2⟩ := restrict h' fun b => decide (b ≠ e)
    have gk : ∀ b, b ≠ e → G'.get? b = h'.get? b := fun b hb => g1 b (decide_eq_true hb)
    have ge : G'.get? e = none := g2 e (by simp)
    have old : ∀ b o, hp.get? b = some o → G'.get? b = some o := fun b o q => (gk b (Nat.ne_of_lt (Nat.lt_of_lt_of_le (Heap.lt_size q) M.new))).trans (M.keep b o q)
    have J : Inv X pins σ H1 ⟨G', g, dr, tk', os⟩ := I1.kept (t' := tk') old
    refine ⟨e, _, _, ⟨G', g, dr, tk', os⟩, _, .ref C, none, rfl, J, fun b o q => ?_, ge, hoe, ⟨rfl, rfl⟩, rfl, rfl, I1.hok.fresh M.new, rfl, I1.bare, raises_own T.exC T.tyC, q⟩
    by_cases hb : b = e
    · have q' : G'.get? b = some o := q
      rw [hb, ge] at q'; cases q'
    · exact (gk b hb).symm.trans q
  | cons f fs =>
    have hne : ∃ p r, (f :: fs).reverse.zip us.reverse = p :: r := by
      cases hz : (f :: fs).reverse.zip us.reverse with
      | nil =>
        have := congrArg List.length hz
        rw [List.length_zip, List.length_reverse, List.length_reverse, hul] at this
        simp at this
      | cons p r => exact ⟨p, r, rfl⟩
    obtain ⟨p, r, hne⟩ := hne
    rw [hne] at hd
    obtain ⟨d, e0, dn, dne, mA, hns, hmA⟩ := hd
    subst e0
    rw [← hne] at hmA
    obtain ⟨G', g1, g2⟩ := restrict h' fun b => decide (b ≠ e)
    have gk : ∀ b, b ≠ e → G'.get? b = h'.get? b := fun b hb => g1 b (decide_eq_true hb)
    have ge : G'.get? e = none := g2 e (by simp)
    have old : ∀ b o, hp.get? b = some o → G'.get? b = some o := fun b o q => (gk b (Nat.ne_of_lt (Nat.lt_of_lt_of_le (Heap.lt_size q) M.new))).trans (M.keep b o q)
    have ob : ObjOk X.prog X.w (upd H1 d (.xd ((f :: fs).reverse.zip vs.reverse))) G' d (.xd ((f :: fs).reverse.zip vs.reverse)) :=
      ⟨mA, hns.at (fun o q => (gk d dne).trans q), fun y => by rw [hmA y]; exact relO_zip (vals_reverse r1) _ (by rw [List.length_reverse, List.length_reverse, hl]) y⟩
    have J : Inv X pins σ (upd H1 d (.xd ((f :: fs).reverse.zip vs.reverse))) ⟨G', g, dr, tk', os⟩ := I1.laid (t' := tk') old dn ob
    refine ⟨e, _, _, ⟨G', g, dr, tk', os⟩, _, .ref C, some d, rfl, J, fun b o q => ?_, ge, hoe, ⟨rfl, rfl⟩, rfl, rfl, ?_, rfl, I1.bare, raises_own T.exC T.tyC, q d (I1.hok.fresh dn)⟩
    · by_cases hb : b = e
      · have q' : G'.get? b = some o := q
        rw [hb, ge] at q'; cases q'
      · exact (gk b hb).symm.trans q
    · rw [upd_ne (Ne.symm dne)]
      exact I1.hok.fresh M.new
theorem pmk_err {x0 : Str} {fs : List Str} {a : Expr} {es : List Expr} {ta : TA} {p pos : Pos} {k : Nat} (T : PySem.ErrX.ErrTxt X.prog X.K X.mg x0 C fI fs) (hfs : fs.length ≤ 100) (hr : Room k X.A) (ha : PA X (a :: es) ta) (hg : Gl X x0 := by rfl) (hdb : (x0 == ("__debug__" : Str)) = false := by decide)
    (he : starEach (a :: es) X.env = (false, eval a X.env) :: starEach es X.env := by rfl) (hpl : (backTo pos (starEach es X.env)).any (·.1) = false := by rfl) :
    PMk X (.Call (.Name x0 p) (a :: es) [] pos) (tMkErr C fs ta) := by
  intro pins s σ H Q I h
  refine wpAny_Call_Name_kw (ld_glob I hg T.gC ?_ hdb)
  refine PySem.W.callWith_K (h₀ := X.base) I.ok.mod.kin T.kC (thn (ha.run pos pins s σ H _ I h) fun us s1 hh => ?_) he hpl
  obtain ⟨vs, H1, I1, r1, hl, q⟩ := hh
  exact ⟨I1.kIn, mk_err_end T hfs hr I1 r1 hl q⟩
theorem pmk_err0 {x0 : Str} {p pos : Pos} {k : Nat} (T : PySem.ErrX.ErrTxt X.prog X.K X.mg x0 C fI []) (hr : Room k X.A) (hg : Gl X x0 := by rfl) (hdb : (x0 == ("__debug__" : Str)) = false := by decide) :
    PMk X (.Call (.Name x0 p) [] [] pos) (tMkErr C [] tNil) := by
  intro pins s σ H Q I h
  obtain ⟨hl, q⟩ := h
  refine wpAny_Call_Name_kw (ld_glob I hg T.gC ?_ hdb)
  exact PySem.W.callWith_K0 I.kIn T.kC (mk_err_end (us := []) (vs := []) T (Nat.zero_le _) hr I .nil rfl q)
end
end L2

set_option Elab.async false
set_option linter.all false
set_option maxRecDepth 100000
set_option maxHeartbeats 4000000
/-! Calls, makings and operators by defs of one's own, each as one rule. -/
namespace MyL
open PySem PySem.Spec PyProof.Rows L2
/-- a def of the module by its name -/
structure Cal (P : Program) (w : World) (K : PySem.W.Frag) (mg : Str → Option Value) (base : Heap) (k : Nat) (x : Str) (sp : Sp) : Prop where
  ex : ∃ (f : Addr) (fd : FuncData) (ps : List Str), mg x = some (.ref f) ∧ PySem.W.keepIn K (.ref f) = true ∧ Binds K fd ps [] ∧ FnOk P w K mg base (L2.CX P w) k f fd ps sp
/-- a class of the module by its name, made by its __init__ -/
structure Mak (P : Program) (w : World) (K : PySem.W.Frag) (mg : Str → Option Value) (base : Heap) (k : Nat) (x : Str) (C : Addr) (sp : Sp) : Prop where
  ex : ∃ (f : Addr) (fd : FuncData) (ps : List Str), mg x = some (.ref C) ∧ Mk K C f ∧ Binds K fd ps [] ∧ FnOk P w K mg base (L2.CX P w) k f fd ps sp
/-- a method of the class at C -/
structure Met (P : Program) (w : World) (K : PySem.W.Frag) (mg : Str → Option Value) (base : Heap) (k : Nat) (C : Addr) (m : Str) (sp : Sp) : Prop where
  ex : ∃ (f : Addr) (fd : FuncData) (ps : List Str), Cls K C ∧ Meth K C m f ∧ Binds K fd ps [] ∧ FnOk P w K mg base (L2.CX P w) k f fd ps sp
section
variable {P : Program} {w : World} {K : PySem.W.Frag} {mg : Str → Option Value} {base : Heap} {k : Nat} {x m : Str} {C : Addr} {sp : Sp}
theorem raw0 {CX : CXT} {f : Addr} {fd : FuncData} {ps : List Str} (F : FnOk P w K mg base CX k f fd ps sp) (hb : Binds K fd ps []) : FnR P w K mg base CX k f sp := by
  have h := F.raw hb (dvs := []) .nil
  intro A outer s H us vs Q E hr e0 r hs
  exact h A outer s H us vs Q E hr e0 r (by show sp (vs ++ []) H Q E; rw [List.append_nil]; exact hs)
end
section
variable {X : Cx} {W : WX} {pins : List (Addr × Obj)} {σ : L2.St} {H : Hp} {s : Shared} {k : Nat} {f C : Addr} {sp : Sp} {Q : VK} {us : List Value} {vs : List V}
/-- the callee runs below the running body, what it raises goes to W -/
theorem run_S {A : Around} (F : FnR X.prog X.w X.K X.mg X.base (L2.CX X.prog X.w) k f sp) (tk : Takes X W) (hr : Room k A) (e0 : Env0 X.prog X.w X.K X.mg X.base A X.stack s H) (I : Inv X pins σ H s) (r : Vals vs us) (h : sp vs H Q (WE W σ)) :
    codeAny (model X.prog X.w) A (.call (.ref f) ⟨us, []⟩) (fun r s' => match r with | .ok (.ret v) => EP X pins σ Q v s' | .ok _ => False | .error e => X.xe e s') s := by
  refine codeAny_mono (F A X.stack s H us vs Q (WE W σ) hr e0 r h) fun r s' hq => ?_
  match r, hq with
  | .error e, hq => exact passAt tk σ pins H s e s' I hq
  | .ok (.ret u), hq => exact I.after hq
  | .ok .next, hq => exact hq.elim
  | .ok .brk, hq => exact hq.elim
  | .ok .cont, hq => exact hq.elim
/-- C(..) with what __init__ raises going to W -/
theorem make_S {fd : FuncData} {ps : List Str} (M : Mk X.K C f) (F : FnOk X.prog X.w X.K X.mg X.base (L2.CX X.prog X.w) k f fd ps sp) (tk : Takes X W) (hr : Room (k + 1) X.A) (hb : Binds X.K fd ps []) (I : Inv X pins σ H s) (r : Vals vs us)
    (h : ∀ x dx, H x = none → H dx = none → dx ≠ x → sp (.ref x :: vs) (upd (upd H dx (.own x)) x (.ins C dx [])) (fun v H2 => v = .non ∧ Q (.ref x) H2) (WE W σ)) :
    wpAny (model X.prog X.w) X.A (call (.ref C) us) (EP X pins σ Q) X.xe s := by
  have hq := h (s.heap.objs.size + 1) s.heap.objs.size (I.hok.fresh (Nat.le_succ _)) (I.hok.fresh (Nat.le_refl _)) (Nat.ne_of_lt (Nat.lt_succ_self _))
  have I2 := Inv.made (C := C) I
  have r2 : Vals (V.ref (s.heap.objs.size + 1) :: vs) (Value.ref (s.heap.objs.size + 1) :: us) := .cons rfl r
  have hl : (Value.ref (s.heap.objs.size + 1) :: us ++ []).length = ps.length := by
    rw [List.append_nil, ← r2.length]; exact F.len _ _ _ _ hq
  have hbd := hb _ (Value.ref (s.heap.objs.size + 1) :: us) I2.kIn hl
  rw [List.append_nil] at hbd
  refine wpAny_call (make_map (f := f) I.kIn M.makes M.init (beq_iff_eq.mp M.fn) (codeAny_mono (F.run _ X.stack _ _ ⟨Value.ref (s.heap.objs.size + 1) :: us, []⟩ _ _ _ (WE W σ) (hr.make C us [])
    (I2.env0.make C us []) hbd r2 hq) fun r s' hq' => ?_))
  match r, hq' with
  | .error e, hq' => exact passAt tk σ pins _ _ e s' I2 hq'
  | .ok (.ret u), hq' =>
    obtain ⟨v, H', I3, rv, ev, q3⟩ := I2.after hq'
    subst ev
    exact ⟨rv, ⟨V.ref (s.heap.objs.size + 1), H', I3, rfl, q3⟩⟩
  | .ok .next, hq' => exact hq'.elim
  | .ok .brk, hq' => exact hq'.elim
  | .ok .cont, hq' => exact hq'.elim
end
/-! ### the rules -/
def tMakeS (C : Addr) (sp : Sp) (W : WX) (t : TA) : TE := fun σ H Q => t σ H fun vs H1 => ∀ x dx, H1 x = none → H1 dx = none → dx ≠ x → sp (.ref x :: vs) (upd (upd H1 dx (.own x)) x (.ins C dx [])) (fun v H2 => v = .non ∧ Q (.ref x) H2) (WE W σ)
def tMethS (C : Addr) (m : Str) (sp : Sp) (W : WX) (ta : TE) (t : TA) : TE := fun σ H Q => ta σ H fun x H1 => ∃ a dx fs, x = .ref a ∧ H1 a = some (.ins C dx fs) ∧ fs.lookup m = none ∧ t σ H1 fun vs H2 => sp (.ref a :: vs) H2 Q (WE W σ)
section
variable {X : Cx} {W : WX} {k j : Nat} {C : Addr} {sp : Sp} {x m : Str} {p pos apos : Pos} {e o : Expr} {es : List Expr} {ta : TE} {t : TA}
theorem c_call (c : Cal X.prog X.w X.K X.mg X.base k x sp) (tk : Takes X W) (hr : Room j X.A) (hk : k ≤ j) (ha : PA X (e :: es) t) (hg : Gl X x := by rfl)
    (hdb : (x == ("__debug__" : Str)) = false := by decide) (he : starEach (e :: es) X.env = (false, eval e X.env) :: starEach es X.env := by rfl) (hpl : (backTo pos (starEach es X.env)).any (·.1) = false := by rfl) :
    PE X (.Call (.Name x p) (e :: es) [] pos) (tCallS sp (WE W) t) := by
  obtain ⟨f, fd, ps, hm, kp, b, F⟩ := c.ex
  exact pe_callS F (hr.mono hk) hg hm kp b (fun σ => passAt tk σ) ha hdb he hpl
theorem c_call0 (c : Cal X.prog X.w X.K X.mg X.base k x sp) (tk : Takes X W) (hr : Room j X.A) (hk : k ≤ j) (hg : Gl X x := by rfl)
    (hdb : (x == ("__debug__" : Str)) = false := by decide) : PE X (.Call (.Name x p) [] [] pos) (tCallS sp (WE W) tNil) := by
  obtain ⟨f, fd, ps, hm, kp, b, F⟩ := c.ex
  refine ⟨fun pins s σ H Q I h => ?_⟩
  exact wpAny_Call_Name_kw (ld_glob I hg hm (PySem.W.callWith_K0 I.kIn kp (run_fnS (E := WE W) (us := []) F (hr.mono hk) b (passAt tk σ) I .nil h)) hdb)
theorem c_make (c : Mak X.prog X.w X.K X.mg X.base k x C sp) (tk : Takes X W) (hr : Room j X.A) (hk : k + 1 ≤ j) (ha : PA X (e :: es) t) (hg : Gl X x := by rfl)
    (hdb : (x == ("__debug__" : Str)) = false := by decide) (he : starEach (e :: es) X.env = (false, eval e X.env) :: starEach es X.env := by rfl) (hpl : (backTo pos (starEach es X.env)).any (·.1) = false := by rfl) :
    PE X (.Call (.Name x p) (e :: es) [] pos) (tMakeS C sp W t) := by
  obtain ⟨f, fd, ps, hm, M, b, F⟩ := c.ex
  refine ⟨fun pins s σ H Q I h => ?_⟩
  refine wpAny_Call_Name_kw (ld_glob I hg hm ?_ hdb)
  refine PySem.W.callWith_K (h₀ := X.base) I.ok.mod.kin M.kp (thn (ha.run pos pins s σ H _ I h) fun us s1 hh => ?_) he hpl
  obtain ⟨vs, H1, I1, r, q⟩ := hh
  exact ⟨I1.kIn, make_S M F tk (hr.mono hk) b I1 r q⟩
theorem c_meth {pl : Sem Bool} (c : Met X.prog X.w X.K X.mg X.base k C m sp) (tk : Takes X W) (hr : Room j X.A) (hk : k ≤ j) (ho : PE X o ta) (ha : PA X (e :: es) t)
    (hst : starEach (e :: es) X.env = (false, eval e X.env) :: starEach es X.env := by rfl) (hpl : (backTo pos (starEach es X.env)).any (·.1) = false := by rfl)
    (ht : eval (.Call (.Attribute o m apos) (e :: es) [] pos) X.env = (do
      let ov ← eval o X.env
      standAt apos.atName
      let (f, first) ← holding [ov] (getMethod ov m pl)
      callWith pos f first (backTo pos (starEach (e :: es) X.env)) (backToKw pos (keywordEach [] X.env))) := by rfl) :
    PE X (.Call (.Attribute o m apos) (e :: es) [] pos) (tMethS C m sp W ta t) := by
  obtain ⟨f, fd, ps, cl, hm, b, F⟩ := c.ex
  refine ⟨fun pins s σ H Q I h => ?_⟩
  refine PySem.W.methodCall_KW (pl := pl) (thn (ho.run pins s σ H _ I h) fun u s1 hh => ?_) ht
  obtain ⟨x, H1, I1, rx, a, dx, fs, ex, ea, l, q⟩ := hh
  subst ex
  obtain rfl : u = Value.ref a := rx
  refine getmeth_ok I1 ea cl hm l ?_
  refine PySem.W.callWith_K (first := [.ref a]) (h₀ := X.base) I.ok.mod.kin hm.kp (thn (ha.run pos pins s1 σ H1 _ I1 q) fun us s2 hh => ?_) hst hpl
  obtain ⟨vs, H2, I2, r, q2⟩ := hh
  exact ⟨I2.kIn, run_fnS (E := WE W) (us := .ref a :: us) (vs := .ref a :: vs) F (hr.mono hk) b (passAt tk σ) I2 (.cons rfl r) q2⟩
theorem c_meth0 {pl : Sem Bool} (c : Met X.prog X.w X.K X.mg X.base k C m sp) (tk : Takes X W) (hr : Room j X.A) (hk : k ≤ j) (ho : PE X o ta)
    (ht : eval (.Call (.Attribute o m apos) [] [] pos) X.env = (do
      let ov ← eval o X.env
      standAt apos.atName
      let (f, first) ← holding [ov] (getMethod ov m pl)
      callWith pos f first (backTo pos (starEach [] X.env)) (backToKw pos (keywordEach [] X.env))) := by rfl) :
    PE X (.Call (.Attribute o m apos) [] [] pos) (tMethS C m sp W ta tNil) := by
  obtain ⟨f, fd, ps, cl, hm, b, F⟩ := c.ex
  refine ⟨fun pins s σ H Q I h => ?_⟩
  refine PySem.W.methodCall_KW (pl := pl) (thn (ho.run pins s σ H _ I h) fun u s1 hh => ?_) ht
  obtain ⟨x, H1, I1, rx, a, dx, fs, ex, ea, l, q⟩ := hh
  subst ex
  obtain rfl : u = Value.ref a := rx
  refine getmeth_ok I1 ea cl hm l ?_
  exact PySem.W.callWith_K0 (first := [.ref a]) I1.kIn hm.kp (run_fnS (E := WE W) (us := [.ref a]) (vs := [.ref a]) F (hr.mono hk) b (passAt tk σ) I1 (.cons rfl .nil) q)
end
/-! ### operators by own methods -/
/-- the class at C has the def for the special name at f -/
structure Spc (P : Program) (w : World) (K : PySem.W.Frag) (mg : Str → Option Value) (base : Heap) (k : Nat) (C : Addr) (m : Str) (sp : Sp) : Prop where
  ex : ∃ f : Addr, PySem.W.findIn K (.ref C) m = some (some (.ref f)) ∧ PySem.W.isFn K (.ref f) = true ∧ FnR P w K mg base (L2.CX P w) k f sp
/-- a + n and the like, n a whole number -/
structure NumC (K : PySem.W.Frag) (C : Addr) (op : Operator) : Prop where
  sf : PySem.W.selfFirst K C = true
  r : PySem.W.findIn K (.ref C) (dunderR op.info.2) = some none
  it : PySem.W.subIn K (.type "int") (.ref C) = some false
  i1 : ∃ fo, PySem.W.findIn K (.type "int") (PySem.dunder op.info.2) = some fo
  i2 : ∃ ro, PySem.W.findIn K (.type "int") (dunderR op.info.2) = some ro
def tOwnN (C : Addr) (sp : Sp) (W : WX) (ta tb : TE) : TE := fun σ H Q => ta σ H fun x H1 => tb σ H1 fun y H2 => ∃ a dx fs j, x = .ref a ∧ y = .int j ∧ H2 a = some (.ins C dx fs) ∧ sp [.ref a, .int j] H2 Q (WE W σ)
def tOwnO (C : Addr) (sp : Sp) (W : WX) (ta tb : TE) : TE := fun σ H Q => ta σ H fun x H1 => tb σ H1 fun y H2 => ∃ a dx fs b dy gs, x = .ref a ∧ y = .ref b ∧ H2 a = some (.ins C dx fs) ∧ H2 b = some (.ins C dy gs) ∧ sp [.ref a, .ref b] H2 Q (WE W σ)
def rOwnEq (C : Addr) (sp : Sp) : R2 := fun x y H Q => ∃ a dx fs b dy gs, x = .ref a ∧ y = .ref b ∧ H a = some (.ins C dx fs) ∧ H b = some (.ins C dy gs) ∧ sp [.ref a, .ref b] H (fun v H' => ∃ c, v = .bl c ∧ Q v H') (fun _ _ _ => False)
def rOwnIn (C : Addr) (sp : Sp) : R2 := fun y x H Q => ∃ a dx fs, x = .ref a ∧ H a = some (.ins C dx fs) ∧ sp [.ref a, y] H (fun v H' => ∃ c, v = .bl c ∧ Q v H') (fun _ _ _ => False)
def rOwnU (C : Addr) (sp : Sp) : V → Hp → VK → Prop := fun x H Q => ∃ a dx fs, x = .ref a ∧ H a = some (.ins C dx fs) ∧ sp [.ref a] H Q (fun _ _ _ => False)
def rOwnStr (C : Addr) (sp : Sp) : List V → Hp → VK → Prop := fun xs H Q => ∃ a dx fs, xs = [.ref a] ∧ H a = some (.ins C dx fs) ∧ sp [.ref a] H (fun v H' => ∃ z, v = .str z ∧ Q v H') (fun _ _ _ => False)
section
variable {X : Cx} {W : WX} {k j : Nat} {C : Addr} {sp : Sp} {a b : Expr} {ta tb : TE} {pos : Pos}
theorem c_opN {op : Operator} (c : Spc X.prog X.w X.K X.mg X.base k C (PySem.dunder op.info.2) sp) (n : NumC X.K C op) (tk : Takes X W) (hr : Room j X.A) (hk : k ≤ j) (ha : PE X a ta) (hb : PE X b tb) : PE X (.BinOp a op b pos) (tOwnN C sp W ta tb) := by
  obtain ⟨f, hs, hf, F⟩ := c.ex
  obtain ⟨fo, h1⟩ := n.i1
  obtain ⟨ro, h2⟩ := n.i2
  refine ⟨fun pins s σ H Q I h => wpAny_BinOp (binT ha hb I h fun v u s2 x y H2 I2 rx ry q => ?_)⟩
  obtain ⟨p, dx, fs, i, rfl, rfl, hp, hsp⟩ := q
  obtain rfl : v = Value.ref p := rx
  obtain ⟨t, rfl⟩ := ry
  obtain ⟨mA, J, _⟩ := ins_get I2.hok hp
  obtain ⟨od, J, _⟩ := J.look
  obtain ⟨m, hF⟩ := I2.fr
  refine PySem.W.ksp_binT (T := "int") (rc := none) hF I2.ok.mod.kin J rfl n.sf hs hf n.r (.inl rfl) h1 h2 n.it ?_
  refine wpAny_mono (wpAny_call (run_S (us := [.ref p, .int i t]) (vs := [.ref p, .int i]) F tk (hr.mono hk) I2.env0 I2 (.cons rfl (.cons ⟨t, rfl⟩ .nil)) hsp)) (fun w s' z => ?_) fun _ _ x => x
  obtain ⟨z', H', I', rz, qz⟩ := z
  exact SlX.cmpback rz ⟨z', H', I', rz, qz⟩
theorem c_opO {op : Operator} (c : Spc X.prog X.w X.K X.mg X.base k C (PySem.dunder op.info.2) sp) (sf : PySem.W.selfFirst X.K C = true) (tk : Takes X W) (hr : Room j X.A) (hk : k ≤ j) (ha : PE X a ta) (hb : PE X b tb) : PE X (.BinOp a op b pos) (tOwnO C sp W ta tb) := by
  obtain ⟨f, hs, hf, F⟩ := c.ex
  refine ⟨fun pins s σ H Q I h => wpAny_BinOp (binT ha hb I h fun v u s2 x y H2 I2 rx ry q => ?_)⟩
  obtain ⟨p, dx, fs, p2, dy, gs, rfl, rfl, hp, hp2, hsp⟩ := q
  obtain rfl : v = Value.ref p := rx
  obtain rfl : u = Value.ref p2 := ry
  obtain ⟨mA, J, _⟩ := ins_get I2.hok hp
  obtain ⟨od, J, _⟩ := J.look
  obtain ⟨mB, J', _⟩ := ins_get I2.hok hp2
  obtain ⟨od', J', _⟩ := J'.look
  obtain ⟨m, hF⟩ := I2.fr
  refine PySem.W.binop_K hF I2.ok.mod.kin J J'.type sf hs hf ?_
  refine wpAny_mono (wpAny_call (run_S (us := [.ref p, .ref p2]) (vs := [.ref p, .ref p2]) F tk (hr.mono hk) I2.env0 I2 (.cons rfl (.cons rfl .nil)) hsp)) (fun w s' z => ?_) fun _ _ x => x
  obtain ⟨z', H', I', rz, qz⟩ := z
  exact SlX.cmpback rz ⟨z', H', I', rz, qz⟩
theorem c_eq (c : Spc X.prog X.w X.K X.mg X.base k C "__eq__" sp) (hr : Room j X.A) (hk : k ≤ j) : OpR X (compareOp .Eq) (rOwnEq C sp) := by
  intro pins s σ H x y v u Q I rx ry h
  obtain ⟨f, hs, hf, F⟩ := c.ex
  obtain ⟨p, dx, fs, p2, dy, gs, rfl, rfl, hp, hp2, hsp⟩ := h
  obtain rfl : v = Value.ref p := rx
  obtain rfl : u = Value.ref p2 := ry
  obtain ⟨mA, J, _⟩ := ins_get I.hok hp
  obtain ⟨od, J, _⟩ := J.look
  obtain ⟨mB, J', _⟩ := ins_get I.hok hp2
  obtain ⟨od', J', _⟩ := J'.look
  obtain ⟨m, hF⟩ := I.fr
  show wpAny _ _ (richCompare .Eq (.ref p) (.ref p2)) _ _ _
  refine PySem.W.cmp_K (op := .Eq) (tb := .ref C) hr.units0 hF I.ok.mod.kin J J'.type (by simp [PySem.W.notFirst]) hs hf ?_
  refine wpAny_mono (wpAny_call (run_S (W := fun _ _ _ _ => False) (us := [.ref p, .ref p2]) (vs := [.ref p, .ref p2]) F takes0 (hr.mono hk) I.env0 I (.cons rfl (.cons rfl .nil)) hsp)) (fun w s' z => ?_) fun _ _ x => x
  obtain ⟨z', H', I', rz, c, ec, qz⟩ := z
  exact SlX.cmpback rz ⟨z', H', I', rz, qz⟩
theorem c_in (c : Spc X.prog X.w X.K X.mg X.base k C "__contains__" sp) (hr : Room j X.A) (hk : k ≤ j) : OpR X (compareOp .In) (rOwnIn C sp) := by
  intro pins s σ H y x u v Q I ry rx h
  obtain ⟨f, hs, hf, F⟩ := c.ex
  obtain ⟨p, dx, fs, rfl, hp, hsp⟩ := h
  obtain rfl : v = Value.ref p := rx
  obtain ⟨mA, J, _⟩ := ins_get I.hok hp
  obtain ⟨od, J, _⟩ := J.look
  obtain ⟨m, hF⟩ := I.fr
  refine PySem.W.in_K hF I.ok.mod.kin J hs hf ?_
  refine wpAny_mono (wpAny_call (run_S (W := fun _ _ _ _ => False) (us := [.ref p, u]) (vs := [.ref p, y]) F takes0 (hr.mono hk) I.env0 I (.cons rfl (.cons ry .nil)) hsp)) (fun w s' z => ?_) fun _ _ x => x
  obtain ⟨z', H', I', rz, c, ec, qz⟩ := z
  subst ec
  obtain rfl : w = Value.bool c := rz
  exact wpAny_truthy_bool ⟨.bl c, H', I', rfl, qz⟩
theorem c_neg (c : Spc X.prog X.w X.K X.mg X.base k C "__neg__" sp) (hr : Room j X.A) (hk : k ≤ j) : UnR X (unaryOp .USub) (rOwnU C sp) := by
  intro pins s σ H x v Q I rx h
  obtain ⟨f, hs, hf, F⟩ := c.ex
  obtain ⟨p, dx, fs, rfl, hp, hsp⟩ := h
  obtain rfl : v = Value.ref p := rx
  obtain ⟨mA, J, _⟩ := ins_get I.hok hp
  obtain ⟨od, J, _⟩ := J.look
  obtain ⟨m, hF⟩ := I.fr
  exact PySem.W.ksp_neg hF I.ok.mod.kin J hs hf (wpAny_call (run_S (W := fun _ _ _ _ => False) (us := [.ref p]) (vs := [.ref p]) F takes0 (hr.mono hk) I.env0 I (.cons rfl .nil) hsp))
theorem c_str (c : Spc X.prog X.w X.K X.mg X.base k C "__str__" sp) (hr : Room j X.A) (hk : k + 2 ≤ j) : CallR X (.type "str") (rOwnStr C sp) := by
  intro pins s σ H xs us Q I r h
  obtain ⟨f, hs, hf, F⟩ := c.ex
  obtain ⟨p, dx, fs, rfl, hp, hsp⟩ := h
  obtain ⟨u, rfl, ru⟩ := r.one
  obtain rfl : u = Value.ref p := ru
  obtain ⟨mA, J, _⟩ := ins_get I.hok hp
  obtain ⟨od, J, _⟩ := J.look
  have hr2 : Room k X.A.in1.in1 := (show Room (k + 1) X.A.in1 from Room.in1 (hr.mono hk)).in1
  refine PySem.W.kso_call hr2.units0 I.kIn J hs hf ?_
  refine wpAny_mono (wpAny_call (run_S (W := fun _ _ _ _ => False) (us := [.ref p]) (vs := [.ref p]) F takes0 hr2 I.env0.in1.in1 I (.cons rfl .nil) hsp)) (fun w s' z => ?_) fun _ _ x => x
  obtain ⟨z', H', I', rz, y, ey, qz⟩ := z
  subst ey
  obtain ⟨t, rfl⟩ := rz
  exact ⟨.str y, H', I', ⟨t, rfl⟩, qz⟩
end
end MyL

set_option Elab.async false
set_option linter.all false
set_option maxRecDepth 100000
set_option maxHeartbeats 4000000
/-! Defs that raise nothing and run whatever is handled; isinstance of a caught error. -/
namespace MyL
open PySem PySem.Spec PyProof.Rows L2
/-- a def that lets nothing out, wherever it is called -/
def FnQ (P : Program) (w : World) (K : PySem.W.Frag) (mg : Str → Option Value) (base : Heap) (k : Nat) (f : Addr) (sp : Sp) : Prop :=
  ∀ (A : Around) (outer : List Env) (s : Shared) (H : Hp) (us : List Value) (vs : List V) (Q : VK), L2H.RoomH k A → Env0 P w K mg base A outer s H → Vals vs us → sp vs H Q (fun _ _ _ => False) →
    codeAny (model P w) A (.call (.ref f) ⟨us, []⟩) (CR (fun _ _ _ _ _ _ => False) outer P w H s Q (fun _ _ _ => False)) s
structure CalQ (P : Program) (w : World) (K : PySem.W.Frag) (mg : Str → Option Value) (base : Heap) (k : Nat) (x : Str) (sp : Sp) : Prop where
  ex : ∃ f : Addr, mg x = some (.ref f) ∧ PySem.W.keepIn K (.ref f) = true ∧ FnQ P w K mg base k f sp
def cxQ (P : Program) (w : World) (K : PySem.W.Frag) (mg : Str → Option Value) (base : Heap) (N : List Str) (qual : Str) (scope : Scope) (f : Addr) (cd : Value) (A : Around) (outer : List Env) (s : Shared) (H : Hp) : Cx :=
  { cxOf (fun _ _ _ _ _ _ => False) P w K mg base N qual scope f cd A outer s H (fun _ _ _ => False) with calm := false, xe := fun _ _ => False }
theorem inv_startQ {P : Program} {w : World} {K : PySem.W.Frag} {mg : Str → Option Value} {base : Heap} {N ps : List Str} {qual : Str} {scope : Scope} {f : Addr} {cd : Value} {A : Around} {outer : List Env} {s s1 : Shared} {H : Hp} {us : List Value} {vs : List V}
    (S : FnScope N ps scope) (e0 : Env0 P w K mg base A outer s H) (hl : vs.length = ps.length) (r : Vals vs us)
    (x : InCallC s s.heap.objs.size (bindL (envOfC qual scope s.heap.objs.size f cd).kindOf (ps.zip us) fun _ => none) (cellsFrom (s.heap.objs.size + 1) scope.names []) (bindC (envOfC qual scope s.heap.objs.size f cd).kindOf (ps.zip us) fun _ => none) s1) :
    Inv (cxQ P w K mg base N qual scope f cd A outer s H) [] (start N vs) H s1 := by
  have I := inv_start (CX := fun _ _ _ _ _ _ => False) (E := fun _ _ _ => False) (A := { A with handled := none }) (N := N) S rfl ⟨e0.frames, e0.mod, e0.bs, e0.bsz, e0.funs, e0.frf, e0.hok, e0.bare⟩ hl r x
  exact ⟨⟨I.ok.mod, I.ok.kind, I.ok.glob, I.ok.blt, I.ok.above, I.ok.inj, I.ok.has, I.ok.cab, fun z => Bool.noConfusion (show false = true from z), Around.frames_deeper e0.frames, I.ok.stk, I.ok.exf, I.ok.bs, I.ok.bsz, I.ok.noex, I.ok.exfs, I.ok.funs, I.ok.frf⟩,
    I.os, I.bare, I.base, I.loc, I.cell, I.free, I.freeC, I.pin, I.hok, I.len⟩
section
variable {P : Program} {w : World} {K : PySem.W.Frag} {mg : Str → Option Value} {base : Heap}
theorem Fun.okQ {x qual : Str} {st : Stmt} {f : Addr} {fd : FuncData} {N ps : List Str} {k : Nat} {sp : Sp} (F : L2.Fun K x qual st f fd) (S : FnScope N ps (defScope st)) (hb : Binds K fd ps []) (len : ∀ vs H Q E, sp vs H Q E → vs.length = ps.length)
    (hbody : ∀ (cdv : Value) (A : Around) (outer : List Env) (s : Shared) (H : Hp) (vs : List V) (Q : VK), L2H.RoomH k (A.deeper (envOfC qual (defScope st) s.heap.objs.size f cdv)) → sp vs H Q (fun _ _ _ => False) →
      ∃ t, PSs (cxQ P w K mg base N qual (defScope st) f cdv A outer s H) (defBody st) t ∧ t { nx := fun _ H' => Q .non H', rt := Q } (start N vs) H) : FnQ P w K mg base (k + 1) f sp := by
  obtain ⟨oc, od, kV, doc, pm, an, cdv, ct, osl, rfl, lk, hcd⟩ := F.ex
  intro A outer s H us vs Q hr e0 r hsp
  have hl := len _ _ _ _ hsp
  have KX : K.In s.heap := e0.mod.kin.keeps fun b o e => (e0.bs b o e).1
  have lim : s.heap.NoLimit := e0.mod.nolimit.keeps fun b o e => (e0.bs b o e).1
  have hb' := hb s us KX (by rw [List.append_nil, ← r.length]; exact hl)
  rw [List.append_nil] at hb'
  refine codeAny_call_function hr.depth (KX _ _ lk) rfl S.co S.gen rfl (PySem.W.codeRec_of KX hcd) (hb' _ _ _ _ ?_)
  refine wpAny_newFunctionEnv_cells S.kind (fun y hy => ?_) fun env he s1 x => ?_
  · rcases S.par y.1 (List.of_mem_zip (show (y.1, y.2) ∈ _ from hy)).1 with q | q
    · exact .inl q
    · exact .inr ⟨q, PySem.W.cellsFrom_some _ _ _ (.inl q)⟩
  subst he
  refine ⟨lim.keeps x.toInCall.keep, codeAny_func ?_⟩
  obtain ⟨t, ht, hq⟩ := hbody cdv A outer s H vs Q (hr.deeper _) hsp
  have I : Inv (cxQ P w K mg base N qual (defScope st) f cdv A outer s H) [] (start N vs) H s1 := inv_startQ S e0 hl r x
  refine wpAny_mono (ht.run [] s1 (start N vs) H _ I hq) (fun fl s' hs => ?_) fun e s' hs => (show False from hs).elim
  match fl, hs with
  | .ret u, hs =>
    obtain ⟨v, σ', H', J, rv, q⟩ := hs
    exact ⟨v, H', J.os, J.bare, J.base, J.hok, rv, q⟩
  | .next, hs =>
    obtain ⟨σ', H', J, q⟩ := hs
    exact ⟨.non, H', J.os, J.bare, J.base, J.hok, rfl, q⟩
  | .brk, hs =>
    obtain ⟨_, _, _, q⟩ := hs
    exact q.elim
  | .cont, hs =>
    obtain ⟨_, _, _, q⟩ := hs
    exact q.elim
end
theorem roomQ {j : Nat} {A : Around} (r : Room j A) (h : Option Value) : L2H.RoomH j (A.mark h) := ⟨r.dp, r.un⟩
section
variable {X : Cx} {k j : Nat} {sp : Sp} {x : Str} {p pos : Pos} {e : Expr} {es : List Expr} {t : TA}
theorem q_call (c : CalQ X.prog X.w X.K X.mg X.base k x sp) (hr : L2H.RoomH j X.A) (hk : k ≤ j) (ha : PA X (e :: es) t) (hg : Gl X x := by rfl)
    (hdb : (x == ("__debug__" : Str)) = false := by decide) (he : starEach (e :: es) X.env = (false, eval e X.env) :: starEach es X.env := by rfl) (hpl : (backTo pos (starEach es X.env)).any (·.1) = false := by rfl) :
    PE X (.Call (.Name x p) (e :: es) [] pos) (tCallS sp (fun _ _ _ _ => False) t) := by
  obtain ⟨f, hm, kp, F⟩ := c.ex
  refine ⟨fun pins s σ H Q I h => ?_⟩
  refine wpAny_Call_Name_kw (ld_glob I hg hm ?_ hdb)
  refine PySem.W.callWith_K (h₀ := X.base) I.ok.mod.kin kp (thn (ha.run pos pins s σ H _ I h) fun us s1 hh => ?_) he hpl
  obtain ⟨vs, H1, I1, r, q⟩ := hh
  refine ⟨I1.kIn, wpAny_call (codeAny_mono (F X.A X.stack s1 H1 us vs Q (hr.mono hk) I1.env0 r q) fun r s' hq => ?_)⟩
  match r, hq with
  | .error e, hq => exact (show False from hq).elim
  | .ok (.ret u), hq => exact I1.after hq
  | .ok .next, hq => exact hq.elim
  | .ok .brk, hq => exact hq.elim
  | .ok .cont, hq => exact hq.elim
end
/-! ### isinstance of the caught error -/
structure ExcK (K : PySem.W.Frag) (D : Addr) : Prop where
  cl : (PySem.W.clsIn K D).isSome = true
  ga : PySem.W.findIn K (.ref D) "__getattribute__" = some (some (.builtin "BaseException.__getattribute__"))
  gg : PySem.W.findIn K (.ref D) "__getattr__" = some none
  sb : PySem.W.subIn K (.ref D) (.type "BaseException") = some true
  ca : PySem.W.findIn K (.ref D) "__class__" = some (some (.builtin "object.__class__"))
  cn : PySem.W.specialIn K (.builtin "object.__class__") "__get__" = some (some (.builtin "getset_descriptor.__get__"))
  ct : PySem.W.takesIn K (.builtin "object.__class__") = some true
  cm : PySem.W.mroIn K D (.type "object") = some true
def DOk (H : Hp) : Option Addr → Prop
  | none => True
  | some dd => ∃ fs, H dd = some (.xd fs)
def rIsX (K : PySem.W.Frag) (cls : Value) (d : Option Addr) (a : Addr) : List V → Hp → VK → Prop := fun xs H Q => ∃ (D : Addr) (c : V) (cv : Value) (b : Bool), cls = .ref D ∧ ExcK K D ∧ DOk H d ∧ xs = [.ref a, c] ∧ ClsV c cv ∧ PySem.W.kitOne K (.ref D) cv = some b ∧ Q (.bl b) H
def rIsXT (K : PySem.W.Frag) (cls : Value) (d : Option Addr) (a : Addr) : List V → Hp → VK → Prop := fun xs H Q => ∃ (D tp : Addr) (cs : List V) (us : List Value) (b : Bool), cls = .ref D ∧ ExcK K D ∧ DOk H d ∧ xs = [.ref a, .ref tp] ∧ H tp = some (.tup cs) ∧ Paired ClsV cs us ∧ PySem.W.kitAny K (.ref D) us = some b ∧ Q (.bl b) H
section
variable {X : Cx} {a D : Addr} {oe : Obj} {cls : Value} {d : Option Addr} {pn pins : List (Addr × Obj)} {σ : L2.St} {H : Hp} {s : Shared}
theorem exc_inst (hz : Zc (.ref D) d oe) (hf : ∃ vs, oe.data = .fields vs) (hd : DOk H d) (I : Inv (X.suite a ((a, oe) :: pn)) pins σ H s) : ∃ od, PySem.W.InstAt s.heap a oe D od := by
  obtain ⟨hget, _⟩ := I.pin (a, oe) (List.mem_append_left _ List.mem_cons_self)
  obtain ⟨vs, hv⟩ := hf
  have hnc : PySem.W.notCls oe = true := by
    unfold PySem.W.notCls
    rw [hv]
  cases d with
  | none =>
    refine ⟨none, hget, hz.1, hnc, ?_⟩
    rw [hz.2]
    trivial
  | some dd =>
    obtain ⟨fs, hx⟩ := hd
    have hx : ObjOk X.prog X.w H s.heap dd (.xd fs) := I.hok dd _ hx
    obtain ⟨mA, hns, _⟩ := hx
    obtain ⟨od, ho, _⟩ := lookIn_ns hns
    refine ⟨some od, hget, hz.1, hnc, ?_⟩
    rw [hz.2]
    exact ho
theorem call_isX (hz : Zc cls d oe) (hf : ∃ vs, oe.data = .fields vs) : CallR (X.suite a ((a, oe) :: pn)) (.builtin "isinstance") (rIsX X.K cls d a) := by
  intro pins s σ H xs us Q I r h
  obtain ⟨D, c, cv, b, rfl, C, hd, rfl, hc, e, q⟩ := h
  obtain ⟨od, J⟩ := exc_inst hz hf hd I
  match us, r with
  | [u1, u2], .cons r1 (.cons r2 .nil) =>
    obtain rfl : u1 = Value.ref a := r1
    have e2 := hc.eq r2
    subst e2
    exact PySem.W.kia_one (PySem.W.kitx_exc C.cl C.ga C.gg C.sb C.ca C.cn C.ct C.cm) I.kIn J e (fun z => nomatch z) fun tk => ⟨.bl b, H, I.tok tk, rfl, q⟩
theorem call_isXT (hz : Zc cls d oe) (hf : ∃ vs, oe.data = .fields vs) : CallR (X.suite a ((a, oe) :: pn)) (.builtin "isinstance") (rIsXT X.K cls d a) := by
  intro pins s σ H xs us Q I r h
  obtain ⟨D, tp, cs, ws, b, rfl, C, hd, rfl, hT, k, e, q⟩ := h
  obtain ⟨od, J⟩ := exc_inst hz hf hd I
  match us, r with
  | [u1, u2], .cons r1 (.cons r2 .nil) =>
    obtain rfl : u1 = Value.ref a := r1
    obtain rfl : u2 = Value.ref tp := r2
    obtain ⟨_, its, rv, o, h1, h2, n, h3⟩ := (show ObjOk X.prog X.w H s.heap tp (.tup cs) from I.hok tp _ hT)
    have e3 := ClsV.all k rv
    subst e3
    obtain ⟨oc, od', dt, sl⟩ := o
    simp only at h2 h3
    subst h2 h3
    exact PySem.W.kia_tup (PySem.W.kitx_exc C.cl C.ga C.gg C.sb C.ca C.cn C.ct C.cm) I.kIn J h1 e (fun z => nomatch z) fun tk => ⟨.bl b, H, I.tok tk, rfl, q⟩
end
end MyL

set_option Elab.async false
set_option linter.all false
set_option maxRecDepth 100000
set_option maxHeartbeats 4000000
/-! What is known of the heap, and readings taken apart step by step. -/
namespace MyL
open PySem L2
/-- behind B, of which only the objects at ms may have changed: H holds f (handed in) and l (made here) -/
structure Mem (B : Hp) (ms : List Addr) (H : Hp) (f l : List (Addr × HO)) : Prop where
  atF : ∀ p ∈ f, H p.1 = some p.2
  atL : ∀ p ∈ l, H p.1 = some p.2
  nd : ((l ++ f).map (·.1)).Nodup
  keep : ∀ a o, B a = some o → a ∉ ms → H a = some o
  tr : ∀ m ∈ ms, H m ≠ none
  new : ∀ p ∈ l, B p.1 = none
theorem Same.of_keep {B H : Hp} {f l : List (Addr × HO)} (M : Mem B [] H f l) : Same B H := fun a o h => M.keep a o h (by simp)
theorem mem_start {H : Hp} {ms : List Addr} {f : List (Addr × HO)} (h : ∀ p ∈ f, H p.1 = some p.2) (nd : (f.map (·.1)).Nodup) (tr : ∀ m ∈ ms, m ∈ f.map (·.1)) : Mem H ms H f [] :=
  ⟨h, (fun _ h => nomatch h), by simpa using nd, fun _ _ h _ => h, (fun m hm z => by
    obtain ⟨p, hp, e⟩ := List.mem_map.mp (tr m hm)
    have := h p hp
    rw [e, z] at this; cases this), (fun _ h => nomatch h)⟩
section
variable {B H H' : Hp} {ms : List Addr} {f l : List (Addr × HO)} {p a : Addr} {o o' : HO}
theorem Mem.fresh (M : Mem B ms H f l) (h : H p = none) : B p = none := by
  cases e : B p with
  | none => rfl
  | some u =>
    by_cases hm : p ∈ ms
    · exact absurd h (M.tr p hm)
    · rw [M.keep p u e hm] at h; cases h
theorem Mem.ne (M : Mem B ms H f l) (h : H p = none) : p ∉ (l ++ f).map (·.1) := fun hm => by
  obtain ⟨q, hq, e⟩ := List.mem_map.mp hm
  rcases List.mem_append.mp hq with z | z
  · have := M.atL q z; rw [e, h] at this; cases this
  · have := M.atF q z; rw [e, h] at this; cases this
theorem Mem.same (M : Mem B ms H f l) (s : Same H H') : Mem B ms H' f l :=
  ⟨fun p hp => s _ _ (M.atF p hp), fun p hp => s _ _ (M.atL p hp), M.nd, fun a o h hm => s _ _ (M.keep a o h hm), fun m hm => by
    cases e : H m with
    | none => exact absurd e (M.tr m hm)
    | some o => rw [s _ _ e]; exact (fun z => nomatch z), M.new⟩
theorem same_alloc (h : H p = none) : Same H (upd H p o) := fun a u e => by
  rw [upd_ne (ne_of_none e h)]; exact e
theorem Mem.sameNew (M : Mem B ms H f l) (s : Same H H') (h : H p = none) (h' : H' p = some o) : Mem B ms H' f ((p, o) :: l) :=
  let M' := M.same s
  ⟨M'.atF, fun q hq => by
    rcases List.mem_cons.mp hq with rfl | hq
    · exact h'
    · exact M'.atL q hq, by
      show (p :: ((l ++ f).map (·.1))).Nodup
      exact List.nodup_cons.mpr ⟨M.ne h, M.nd⟩, M'.keep, M'.tr, fun q hq => by
    rcases List.mem_cons.mp hq with rfl | hq
    · exact M.fresh h
    · exact M.new q hq⟩
theorem Mem.alloc (M : Mem B ms H f l) (h : H p = none) : Mem B ms (upd H p o) f ((p, o) :: l) := M.sameNew (same_alloc h) h upd_same
/-- something that stands in the heap is known of, too -/
theorem Mem.drop {q : Addr × HO} (M : Mem B ms H f (q :: l)) : Mem B ms H f l :=
  ⟨M.atF, fun p hp => M.atL p (List.mem_cons_of_mem _ hp), by
    have := M.nd
    rw [List.cons_append, List.map_cons, List.nodup_cons] at this
    exact this.2, M.keep, M.tr, fun p hp => M.new p (List.mem_cons_of_mem _ hp)⟩
theorem Mem.setL {l1 l2 : List (Addr × HO)} (M : Mem B ms H f (l1 ++ (a, o) :: l2)) : Mem B ms (upd H a o') f (l1 ++ (a, o') :: l2) := by
  have nd := M.nd
  have hne : ∀ q ∈ l1 ++ l2 ++ f, q.1 ≠ a := by
    have e : ((l1 ++ (a, o) :: l2 ++ f).map (·.1)) = l1.map (·.1) ++ a :: (l2 ++ f).map (·.1) := by simp
    rw [e, List.nodup_append] at nd
    obtain ⟨_, n2, n3⟩ := nd
    rw [List.nodup_cons] at n2
    intro q hq z
    rw [List.append_assoc] at hq
    rcases List.mem_append.mp hq with hq | hq
    · exact n3 _ (List.mem_map_of_mem hq) _ List.mem_cons_self z
    · exact n2.1 (by rw [← z]; exact List.mem_map_of_mem hq)
  have hB : B a = none := M.new (a, o) (by simp)
  refine ⟨fun q hq => ?_, fun q hq => ?_, by simpa using nd, fun b u h hm => ?_, fun m hm z => ?_, fun q hq => ?_⟩
  · rw [upd_ne (hne q (by simp [hq]))]; exact M.atF q hq
  · rcases List.mem_append.mp hq with h | h
    · rw [upd_ne (hne q (by simp [h]))]; exact M.atL q (by simp [h])
    · rcases List.mem_cons.mp h with rfl | h
      · exact upd_same
      · rw [upd_ne (hne q (by simp [h]))]; exact M.atL q (by simp [h])
  · rw [upd_ne (ne_of_none h hB)]; exact M.keep b u h hm
  · by_cases e : m = a
    · rw [e, upd_same] at z; cases z
    · rw [upd_ne e] at z; exact M.tr m hm z
  · rcases List.mem_append.mp hq with h | h
    · exact M.new q (by simp [h])
    · rcases List.mem_cons.mp h with rfl | h
      · exact hB
      · exact M.new q (by simp [h])
theorem Mem.setF {f1 f2 : List (Addr × HO)} (M : Mem B ms H (f1 ++ (a, o) :: f2) l) (ha : a ∈ ms) : Mem B ms (upd H a o') (f1 ++ (a, o') :: f2) l := by
  have nd := M.nd
  have hne : ∀ q ∈ l ++ f1 ++ f2, q.1 ≠ a := by
    have e : ((l ++ (f1 ++ (a, o) :: f2)).map (·.1)) = (l ++ f1).map (·.1) ++ a :: f2.map (·.1) := by simp
    rw [e, List.nodup_append] at nd
    obtain ⟨_, n2, n3⟩ := nd
    rw [List.nodup_cons] at n2
    intro q hq z
    rcases List.mem_append.mp hq with hq | hq
    · exact n3 _ (List.mem_map_of_mem hq) _ List.mem_cons_self z
    · exact n2.1 (by rw [← z]; exact List.mem_map_of_mem hq)
  refine ⟨fun q hq => ?_, fun q hq => ?_, by simpa using nd, fun b u h hm => ?_, fun m hm z => ?_, M.new⟩
  · rcases List.mem_append.mp hq with h | h
    · rw [upd_ne (hne q (by simp [h]))]; exact M.atF q (by simp [h])
    · rcases List.mem_cons.mp h with rfl | h
      · exact upd_same
      · rw [upd_ne (hne q (by simp [h]))]; exact M.atF q (by simp [h])
  · rw [upd_ne (hne q (by simp [hq]))]; exact M.atL q hq
  · rw [upd_ne (fun z => hm (by rw [z]; exact ha))]; exact M.keep b u h hm
  · by_cases e : m = a
    · rw [e, upd_same] at z; cases z
    · rw [upd_ne e] at z; exact M.tr m hm z
/-- all but the objects at ms is as it was -/
def Keep (ms : List Addr) (H H' : Hp) : Prop := (∀ a o, H a = some o → a ∉ ms → H' a = some o) ∧ ∀ m ∈ ms, H' m ≠ none
theorem Mem.keeps (M : Mem B ms H f l) : Keep ms B H := ⟨M.keep, M.tr⟩
theorem Mem.getF (M : Mem B ms H f l) (h : (a, o) ∈ f) : H a = some o := M.atF _ h
theorem Mem.getL (M : Mem B ms H f l) (h : (a, o) ∈ l) : H a = some o := M.atL _ h
/-- behind a call that may have changed the first of what was handed in -/
theorem Mem.call1 {f : List (Addr × HO)} (M : Mem B ms H ((a, o) :: f) l) (ha : a ∈ ms) (k : Keep [a] H H') (h' : H' a = some o') : Mem B ms H' ((a, o') :: f) l := by
  have nd := M.nd
  have hne : ∀ q ∈ l ++ f, q.1 ≠ a := by
    rw [List.map_append, List.map_cons, List.nodup_append] at nd
    obtain ⟨_, n2, n3⟩ := nd
    rw [List.nodup_cons] at n2
    intro q hq z
    rcases List.mem_append.mp hq with hq | hq
    · exact n3 _ (List.mem_map.mpr ⟨q, hq, rfl⟩) _ List.mem_cons_self z
    · exact n2.1 (List.mem_map.mpr ⟨q, hq, z⟩)
  refine ⟨fun q hq => ?_, fun q hq => ?_, by simpa using nd, fun b u h hm => ?_, fun m hm z => ?_, M.new⟩
  · rcases List.mem_cons.mp hq with rfl | h
    · exact h'
    · exact k.1 _ _ (M.atF q (by simp [h])) (by simpa using hne q (by simp [h]))
  · exact k.1 _ _ (M.atL q hq) (by simpa using hne q (by simp [hq]))
  · exact k.1 _ _ (M.keep b u h hm) (by intro z; rw [List.mem_singleton] at z; exact hm (by rw [z]; exact ha))
  · cases e : H m with
    | none => exact M.tr m hm e
    | some u =>
      by_cases hma : m = a
      · rw [hma, h'] at z; cases z
      · rw [k.1 _ _ e (by simpa using hma)] at z; cases z
end
/-! ### steps -/
section
variable {n : L2.St → Hp → Prop} {r : VK} {b c : L2.St → Hp → Prop} {σ : L2.St} {H : Hp} {t u : TS} {te ta tb : TE} {tt tu : TT} {Q : VK} {QB : Bool → Hp → Prop} {QA : List V → Hp → Prop} {v : V} {i : Nat} {tA : TA}
theorem k_seq (h : t ⟨u ⟨n, r, b, c⟩, r, b, c⟩ σ H) : tSeq t u ⟨n, r, b, c⟩ σ H := h
theorem k_next (h : n σ H) : tNext ⟨n, r, b, c⟩ σ H := h
theorem k_break (h : b σ H) : tBreak ⟨n, r, b, c⟩ σ H := h
theorem k_cont (h : c σ H) : tCont ⟨n, r, b, c⟩ σ H := h
theorem k_asg (h : te σ H fun v H1 => n (σ.set i (some v)) H1) : tAsg te (gName i) ⟨n, r, b, c⟩ σ H := h
theorem k_ret (h : te σ H r) : tRet te ⟨n, r, b, c⟩ σ H := h
theorem k_retN (h : r .non H) : tRetN ⟨n, r, b, c⟩ σ H := h
theorem k_drop (h : te σ H fun _ H1 => n σ H1) : tDrop te ⟨n, r, b, c⟩ σ H := h
theorem k_ifS (h : tt σ H fun k H1 => if k = true then t ⟨n, r, b, c⟩ σ H1 else u ⟨n, r, b, c⟩ σ H1) : tIfS tt t u ⟨n, r, b, c⟩ σ H := h
theorem k_var (h : σ[i]? = some (some v)) (q : Q v H) : tVar i σ H Q := ⟨v, h, q⟩
theorem k_c (q : Q v H) : tC v σ H Q := q
theorem k_op {rr : R2} (h : ta σ H fun x H1 => tb σ H1 fun y H2 => rr x y H2 Q) : tOp rr ta tb σ H Q := h
theorem k_un {ru : V → Hp → VK → Prop} (h : ta σ H fun x H1 => ru x H1 Q) : tUn ru ta σ H Q := h
theorem k_test (h : te σ H fun x H' => ∃ k, x = .bl k ∧ QB k H') : tTest te σ H QB := h
theorem k_B (h : te σ H fun x H' => ∃ k, x = .bl k ∧ QB k H') : tB te σ H QB := h
theorem k_bl {k : Bool} {PB : Bool → Prop} (h : PB k) : ∃ k', V.bl k = .bl k' ∧ PB k' := ⟨k, rfl, h⟩
theorem k_and (h : tt σ H fun k H1 => if k = true then tu σ H1 QB else QB false H1) : tAnd tt tu σ H QB := h
theorem k_or (h : tt σ H fun k H1 => if k = true then QB true H1 else tu σ H1 QB) : tOr tt tu σ H QB := h
theorem k_not (h : tt σ H fun k H1 => QB (!k) H1) : tNot tt σ H QB := h
theorem k_andV (h : ta σ H fun x H1 => ∃ k, x = .bl k ∧ if k = true then tb σ H1 Q else Q (.bl false) H1) : tAndV ta tb σ H Q := h
theorem k_orV (h : ta σ H fun x H1 => ∃ k, x = .bl k ∧ if k = true then Q (.bl true) H1 else tb σ H1 Q) : tOrV ta tb σ H Q := h
theorem k_notV (h : ta σ H fun x H1 => ∃ k, x = .bl k ∧ Q (.bl (!k)) H1) : tNotV ta σ H Q := h
theorem k_ifE (h : tt σ H fun k H1 => if k = true then ta σ H1 Q else tb σ H1 Q) : tIf tt ta tb σ H Q := h
theorem k_nil (h : QA [] H) : tNil σ H QA := h
theorem k_cons (h : te σ H fun x H1 => tA σ H1 fun xs H2 => QA (x :: xs) H2) : tCons te tA σ H QA := h
theorem k_cb {rc : List V → Hp → VK → Prop} (h : tA σ H fun vs H1 => rc vs H1 Q) : tCB rc tA σ H Q := h
theorem k_callS {sp : Sp} {E : L2.St → XK} (h : tA σ H fun vs H1 => sp vs H1 Q (E σ)) : tCallS sp E tA σ H Q := h
theorem k_I {C : Int → Int → Prop} {g : Int → Int → V} {x y : Int} (hc : C x y) (q : Q (g x y) H) : rI C g (.int x) (.int y) H Q := ⟨x, y, rfl, rfl, hc, q⟩
theorem k_I0 {g : Int → Int → V} {x y : Int} (q : Q (g x y) H) : rI0 g (.int x) (.int y) H Q := ⟨x, y, rfl, rfl, q⟩
theorem k_U {g : Int → V} {x : Int} (q : Q (g x) H) : rU g (.int x) H Q := ⟨x, rfl, q⟩
theorem k_eqI {x y : Int} (q : Q (.bl (decide (x = y))) H) : rEq (.int x) (.int y) H Q := ⟨rfl, by
  have e : decide (V.int x = V.int y) = decide (x = y) := by
    by_cases h : x = y
    · subst h; simp
    · rw [decide_eq_false h, decide_eq_false (fun z => h (V.int.inj z))]
  rw [e]; exact q⟩
theorem k_neI {x y : Int} (q : Q (.bl (!decide (x = y))) H) : rNe (.int x) (.int y) H Q := ⟨rfl, by
  have e : decide (V.int x = V.int y) = decide (x = y) := by
    by_cases h : x = y
    · subst h; simp
    · rw [decide_eq_false h, decide_eq_false (fun z => h (V.int.inj z))]
  rw [e]; exact q⟩
theorem k_eqB {x y : Bool} (q : Q (.bl (x == y)) H) : rEq (.bl x) (.bl y) H Q := ⟨rfl, by
  have e : decide (V.bl x = V.bl y) = (x == y) := by cases x <;> cases y <;> simp
  rw [e]; exact q⟩
theorem k_neB {x y : Bool} (q : Q (.bl (!(x == y))) H) : rNe (.bl x) (.bl y) H Q := ⟨rfl, by
  have e : decide (V.bl x = V.bl y) = (x == y) := by cases x <;> cases y <;> simp
  rw [e]; exact q⟩
theorem k_eqS {x y : Str} (q : Q (.bl (decide (x = y))) H) : rEq (.str x) (.str y) H Q := ⟨rfl, by
  have e : decide (V.str x = V.str y) = decide (x = y) := by
    by_cases h : x = y
    · subst h; simp
    · rw [decide_eq_false h, decide_eq_false (fun z => h (V.str.inj z))]
  rw [e]; exact q⟩
theorem k_neS {x y : Str} (q : Q (.bl (!decide (x = y))) H) : rNe (.str x) (.str y) H Q := ⟨rfl, by
  have e : decide (V.str x = V.str y) = decide (x = y) := by
    by_cases h : x = y
    · subst h; simp
    · rw [decide_eq_false h, decide_eq_false (fun z => h (V.str.inj z))]
  rw [e]; exact q⟩
theorem k_iteD {p : Prop} [Decidable p] {A Z : Prop} (h1 : p → A) (h2 : ¬ p → Z) : if decide p = true then A else Z := by
  by_cases h : p
  · rw [if_pos (decide_eq_true h)]; exact h1 h
  · rw [if_neg (by simpa using h)]; exact h2 h
theorem k_iteN {p : Prop} [Decidable p] {A Z : Prop} (h1 : ¬ p → A) (h2 : p → Z) : if (!decide p) = true then A else Z := by
  by_cases h : p
  · rw [if_neg (by simpa using h)]; exact h2 h
  · rw [if_pos (by simpa using h)]; exact h1 h
theorem k_iteB {k : Bool} {A Z : Prop} (h1 : k = true → A) (h2 : k = false → Z) : if k = true then A else Z := by
  cases k with
  | true => rw [if_pos rfl]; exact h1 rfl
  | false => rw [if_neg Bool.false_ne_true]; exact h2 rfl
/-- new things -/
def newL (xs : List V) (H : Hp) (Q : VK) : Prop := xs.length ≤ sizeLine ∧ ∀ p, H p = none → Q (.ref p) (upd H p (.lst xs))
def newT (xs : List V) (H : Hp) (Q : VK) : Prop := xs.length ≤ sizeLine ∧ ∀ p, H p = none → Q (.ref p) (upd H p (.tup xs))
theorem k_lst {B : Hp} {ms : List Addr} {f l : List (Addr × HO)} {xs : List V} (M : Mem B ms H f l) (hl : xs.length ≤ sizeLine) (k : ∀ p H', Mem B ms H' f ((p, .lst xs) :: l) → Q (.ref p) H') : newL xs H Q :=
  ⟨hl, fun p hp => k p _ (M.alloc hp)⟩
theorem k_tup {B : Hp} {ms : List Addr} {f l : List (Addr × HO)} {xs : List V} (M : Mem B ms H f l) (hl : xs.length ≤ sizeLine) (k : ∀ p H', Mem B ms H' f ((p, .tup xs) :: l) → Q (.ref p) H') : newT xs H Q :=
  ⟨hl, fun p hp => k p _ (M.alloc hp)⟩
theorem k_lst0 (h : tA σ H fun xs H1 => newL xs H1 Q) : tLst tA σ H Q := h
theorem k_tup0 (h : tA σ H fun xs H1 => newT xs H1 Q) : tTup tA σ H Q := h
/-- an attribute -/
theorem k_fld0 {K : PySem.W.Frag} {f : Str} (h : ta σ H fun x H1 => ∃ a C dx fs v, x = .ref a ∧ H1 a = some (.ins C dx fs) ∧ Cls K C ∧ NoAttr K C f ∧ fs.lookup f = some v ∧ Q v H1) : tFld K ta f σ H Q := h
theorem k_fld {K : PySem.W.Frag} {f : Str} {a C dx : Addr} {fs : List (Str × V)} {v : V} (h : H a = some (.ins C dx fs)) (hc : Cls K C) (hn : NoAttr K C f) (hl : fs.lookup f = some v) {PV : V → Prop} (q : PV v) :
    ∃ a' C' dx' fs' v', V.ref a = .ref a' ∧ H a' = some (.ins C' dx' fs') ∧ Cls K C' ∧ NoAttr K C' f ∧ fs'.lookup f = some v' ∧ PV v' := ⟨a, C, dx, fs, v, rfl, h, hc, hn, hl, q⟩
/-- an item -/
theorem k_ixL {K : PySem.W.Frag} {p : Addr} {xs : List V} {j : Int} {v : V} (h : H p = some (.lst xs)) (ha : atI xs j = some v) (q : Q v H) : rIxL K (.ref p) (.int j) H Q := ⟨p, xs, j, v, rfl, rfl, SqL.of h, ha, q⟩
theorem k_ixT {K : PySem.W.Frag} {p : Addr} {xs : List V} {j : Int} {v : V} (h : H p = some (.tup xs)) (ha : atI xs j = some v) (q : Q v H) : rIxT K (.ref p) (.int j) H Q := ⟨p, xs, j, v, rfl, rfl, SqT.of h, ha, q⟩
end
end MyL

set_option Elab.async false
set_option linter.all false
set_option maxRecDepth 100000
set_option maxHeartbeats 4000000
namespace MyL
open PySem PySem.Spec PyProof.Rows L2
section
variable {X : Cx} {e a b : Expr} {t t' ta tb : TE} {pos : Pos}
theorem pe_imp (h : PE X e t) (hi : ∀ σ H Q, t' σ H Q → t σ H Q) : PE X e t' := ⟨fun pins s σ H Q I q => h.run pins s σ H Q I (hi _ _ _ q)⟩
/-- a * b -/
def CMulU (i j : Int) : Prop := CMul i j ∨ CMulW i j
theorem op_mulU : OpR X (binaryOp .Mult) (rI CMulU fun i j => .int (i * j)) := by
  intro pins s σ H x y v u Q I rx ry h
  obtain ⟨i, j, ex, ey, hc, q⟩ := h
  rcases hc with hc | hc
  · exact op_mul pins s σ H x y v u Q I rx ry ⟨i, j, ex, ey, hc, q⟩
  · exact op_mulW pins s σ H x y v u Q I rx ry ⟨i, j, ex, ey, hc, q⟩
/-- a written power -/
theorem pe_powC {i j n : Int} {k1 k2 : Nat} {p1 p2 : Pos} (hc : CPow i j := by unfold CPow; decide) (hv : i ^ j.toNat = n := by decide +kernel) : PE X (.BinOp (.Constant (.int i) k1 p1) .Pow (.Constant (.int j) k2 p2) pos) (tC (.int n)) :=
  pe_imp (pe_op op_pow pe_int pe_int) fun σ H Q q => ⟨i, j, rfl, rfl, hc, by show Q (.int (i ^ j.toNat)) H; rw [hv]; exact q⟩
/-- a written number below zero -/
theorem pe_negC {i : Int} {k1 : Nat} {p1 : Pos} : PE X (.UnaryOp .USub (.Constant (.int i) k1 p1) pos) (tC (.int (-i))) :=
  pe_imp (pe_un un_neg pe_int) fun σ H Q q => ⟨i, rfl, q⟩
end
section
variable {P : Program} {w : World} {K : PySem.W.Frag} {mg : Str → Option Value} {base : Heap}
/-- a def that may raise, by its body; what leaves the frame is the caller's wish -/
theorem okT {x qual : Str} {st : Stmt} {f : Addr} {fd : FuncData} {N ps : List Str} {k : Nat} {sp : Sp} (F : L2.Fun K x qual st f fd) (S : FnScope N ps (defScope st)) (len : ∀ vs H Q E, sp vs H Q E → vs.length = ps.length)
    (hbody : ∀ (cdv : Value) (A : Around) (outer : List Env) (s : Shared) (H : Hp) (vs : List V) (Q : VK) (E : XK), Room k (A.deeper (envOfC qual (defScope st) s.heap.objs.size f cdv)) →
      Takes (cxOf (L2.CX P w) P w K mg base N qual (defScope st) f cdv A outer s H E) (fun c d _ H => E c d H) → sp vs H Q E →
      ∃ t, PSs (cxOf (L2.CX P w) P w K mg base N qual (defScope st) f cdv A outer s H E) (defBody st) t ∧ t ⟨fun _ H' => Q .non H', Q, fun _ _ => False, fun _ _ => False⟩ (start N vs) H) : FnOk P w K mg base (L2.CX P w) (k + 1) f fd ps sp :=
  F.okX S len fun cdv A outer s H vs Q E hr h => hbody cdv A outer s H vs Q E hr (takes_of rfl rfl rfl rfl) h
end
/-! ### built-ins of one argument -/
def rInt1 : List V → Hp → VK → Prop := fun xs H Q => ∃ i, xs = [.int i] ∧ Q (.int i) H
def rAbs1 : List V → Hp → VK → Prop := fun xs H Q => ∃ i : Int, xs = [.int i] ∧ Q (.int (if i < 0 then -i else i)) H
def rStrI : List V → Hp → VK → Prop := fun xs H Q => ∃ i : Int, xs = [.int i] ∧ i.natAbs.log2 < 1920 ∧ Q (.str (toString i)) H
def rLenQ (K : PySem.W.Frag) : List V → Hp → VK → Prop := fun xs H Q => ∃ p ys, xs = [.ref p] ∧ (SqL K H p ys ∨ SqT K H p ys) ∧ Q (.int ys.length) H
def rMin2 : List V → Hp → VK → Prop := fun xs H Q => ∃ i j : Int, xs = [.int i, .int j] ∧ Q (.int (if j < i then j else i)) H
def rMax2 : List V → Hp → VK → Prop := fun xs H Q => ∃ i j : Int, xs = [.int i, .int j] ∧ Q (.int (if j > i then j else i)) H
section
variable {X : Cx}
theorem b_int : CallR X (.type "int") rInt1 := fun pins s σ H xs us Q I r h => call_int1 pins s σ H xs us Q I r (.inl h)
theorem b_abs : CallR X (.builtin "abs") rAbs1 := call_abs
theorem b_strI : CallR X (.type "str") rStrI := call_str_int
theorem b_len : CallR X (.builtin "len") (rLenQ X.K) := call_len_seq
theorem b_min2 (hc : X.calm = true) : CallR X (.builtin "min") rMin2 := call_min2 hc
theorem b_max2 (hc : X.calm = true) : CallR X (.builtin "max") rMax2 := call_max2 hc
end
section
variable {H : Hp} {Q : VK} {i j : Int} {K : PySem.W.Frag}
theorem k_int1 (q : Q (.int i) H) : rInt1 [.int i] H Q := ⟨i, rfl, q⟩
theorem k_abs1 (q : Q (.int (if i < 0 then -i else i)) H) : rAbs1 [.int i] H Q := ⟨i, rfl, q⟩
theorem k_strI (h : i.natAbs.log2 < 1920) (q : Q (.str (toString i)) H) : rStrI [.int i] H Q := ⟨i, rfl, h, q⟩
theorem k_lenL {p : Addr} {ys : List V} (h : H p = some (.lst ys)) (q : Q (.int ys.length) H) : rLenQ K [.ref p] H Q := ⟨p, ys, rfl, .inl (SqL.of h), q⟩
theorem k_lenT {p : Addr} {ys : List V} (h : H p = some (.tup ys)) (q : Q (.int ys.length) H) : rLenQ K [.ref p] H Q := ⟨p, ys, rfl, .inr (SqT.of h), q⟩
theorem k_min2 (q : Q (.int (if j < i then j else i)) H) : rMin2 [.int i, .int j] H Q := ⟨i, j, rfl, q⟩
theorem k_max2 (q : Q (.int (if j > i then j else i)) H) : rMax2 [.int i, .int j] H Q := ⟨i, j, rfl, q⟩
/-- isinstance of numbers and truths -/
theorem k_isiI {c : String} {b : Bool} (e : PySem.W.kitOne K (.type "int") (.type c) = some b) (q : Q (.bl b) H) : rIsi K [.int i, .ty c] H Q := ⟨_, _, _, _, b, rfl, .ty c, .base (.int i), e, q⟩
/-- the rest of a division -/
theorem k_mod {x y : Int} {g : Int → Int → V} {C : Int → Int → Prop} (hc : C x y) (q : Q (g x y) H) : rI C g (.int x) (.int y) H Q := ⟨x, y, rfl, rfl, hc, q⟩
/-- xs[j] = v, xs made here or handed in to be changed -/
theorem k_sub0 {σ : L2.St} {n : L2.St → Hp → Prop} {r : VK} {b c : L2.St → Hp → Prop} {te to ti : TE} {ts : TSet} (h : te σ H fun v H1 => to σ H1 fun o H2 => ti σ H2 fun i H3 => ts o i v H3 fun H4 => n σ H4) : tAsg te (gSub to ti ts) ⟨n, r, b, c⟩ σ H := h
theorem k_setL {QH : Hp → Prop} {p : Addr} {xs : List V} {k : Int} {jn : Nat} {v : V} (h : H p = some (.lst xs)) (hi : ixN xs.length k = some jn) (q : QH (upd H p (.lst (xs.set jn v)))) : rSetL (.ref p) (.int k) v H QH := ⟨p, xs, k, jn, rfl, rfl, h, hi, q⟩
end
end MyL

set_option Elab.async false
set_option linter.all false
set_option maxRecDepth 100000
set_option maxHeartbeats 4000000
namespace MyL
open PySem L2
/-! ### the steps of a reading, as one word -/
theorem k_iteNT {A Z : Prop} (h : Z) : if (!true) = true then A else Z := h
theorem k_iteNF {A Z : Prop} (h : A) : if (!false) = true then A else Z := h
theorem divW {i j : Int} (h : 0 < j) (h2 : j < 2 ^ 64) : CDivW i j := ⟨h, by
  have e : j.natAbs < 2 ^ 64 := by omega
  exact Nat.lt_of_le_of_lt (Nat.log2_lt (by omega) |>.mpr e |> Nat.le_of_lt) (by decide)⟩
theorem cxK {CX : CXT} {P : Program} {w : World} {K : PySem.W.Frag} {mg : Str → Option Value} {base : Heap} {N : List Str} {qual : Str} {scope : Scope} {f : Addr} {cd : Value} {A : Around} {outer : List Env} {s : Shared} {H : Hp} {E : XK} : (cxOf CX P w K mg base N qual scope f cd A outer s H E).K = K := rfl
theorem cxQK {P : Program} {w : World} {K : PySem.W.Frag} {mg : Str → Option Value} {base : Heap} {N : List Str} {qual : Str} {scope : Scope} {f : Addr} {cd : Value} {A : Around} {outer : List Env} {s : Shared} {H : Hp} : (cxQ P w K mg base N qual scope f cd A outer s H).K = K := rfl
theorem mulL {i j : Int} (h : -(2 ^ 64) < i) (h2 : i < 2 ^ 64) : CMulU i j := .inl (.inl ⟨h, h2⟩)
theorem mulR {i j : Int} (h : -(2 ^ 64) < j) (h2 : j < 2 ^ 64) : CMulU i j := .inl (.inr ⟨h, h2⟩)
theorem atI_map {ns : List Int} {j : Int} (h0 : 0 ≤ j) (h1 : j < ns.length) : atI (ns.map V.int) j = some (.int (ns.getD j.toNat 0)) := by
  have hj : j.toNat < ns.length := by omega
  unfold atI ixN
  rw [List.length_map, if_pos h0, if_pos h1]
  simp [hj]
theorem k_lenM {K : PySem.W.Frag} {H : Hp} {Q : VK} {p : Addr} {ns : List Int} (h : H p = some (.lst (ns.map V.int))) (q : Q (.int ns.length) H) : rLenQ K [.ref p] H Q := ⟨p, _, rfl, .inl (SqL.of h), by rw [List.length_map]; exact q⟩
theorem sz {n : Nat} (h : n ≤ 100000) : n ≤ sizeLine := Nat.le_trans h (by decide)
section
variable {B H : Hp} {ms : List Addr} {f l : List (Addr × HO)} {QH : Hp → Prop} {p : Addr} {xs : List V} {k : Int} {jn : Nat} {v : V} {x0 x1 x2 x3 : Addr × HO}
theorem k_setF0 (M : Mem B ms H ((p, .lst xs) :: f) l) (hm : p ∈ ms) (hi : ixN xs.length k = some jn) (q : ∀ H', Mem B ms H' ((p, .lst (xs.set jn v)) :: f) l → QH H') : rSetL (.ref p) (.int k) v H QH :=
  ⟨p, xs, k, jn, rfl, rfl, M.getF List.mem_cons_self, hi, q _ (Mem.setF (f1 := []) M hm)⟩
theorem k_setL0 (M : Mem B ms H f ((p, .lst xs) :: l)) (hi : ixN xs.length k = some jn) (q : ∀ H', Mem B ms H' f ((p, .lst (xs.set jn v)) :: l) → QH H') : rSetL (.ref p) (.int k) v H QH :=
  ⟨p, xs, k, jn, rfl, rfl, M.getL List.mem_cons_self, hi, q _ (Mem.setL (l1 := []) M)⟩
theorem k_setL1 (M : Mem B ms H f (x0 :: (p, .lst xs) :: l)) (hi : ixN xs.length k = some jn) (q : ∀ H', Mem B ms H' f (x0 :: (p, .lst (xs.set jn v)) :: l) → QH H') : rSetL (.ref p) (.int k) v H QH :=
  ⟨p, xs, k, jn, rfl, rfl, M.getL (by simp), hi, q _ (Mem.setL (l1 := [x0]) M)⟩
theorem k_setL2 (M : Mem B ms H f (x0 :: x1 :: (p, .lst xs) :: l)) (hi : ixN xs.length k = some jn) (q : ∀ H', Mem B ms H' f (x0 :: x1 :: (p, .lst (xs.set jn v)) :: l) → QH H') : rSetL (.ref p) (.int k) v H QH :=
  ⟨p, xs, k, jn, rfl, rfl, M.getL (by simp), hi, q _ (Mem.setL (l1 := [x0, x1]) M)⟩
end

section
variable {B H H' : Hp} {ms : List Addr} {f l : List (Addr × HO)} {p a : Addr} {o o' u : HO}
theorem Mem.call1New {f : List (Addr × HO)} (M : Mem B ms H ((a, o) :: f) l) (ha : a ∈ ms) (k : Keep [a] H H') (h' : H' a = some o') (hn : H p = none) (hp : H' p = some u) : Mem B ms H' ((a, o') :: f) ((p, u) :: l) := by
  have M1 := M.call1 ha k h'
  have hpa : p ≠ a := fun z => by
    have := M.getF (a := a) (o := o) List.mem_cons_self
    rw [← z, hn] at this; cases this
  have hne : p ∉ (l ++ (a, o') :: f).map (·.1) := by
    have h := M.ne hn
    simpa using h
  refine ⟨M1.atF, fun q hq => ?_, ?_, M1.keep, M1.tr, fun q hq => ?_⟩
  · rcases List.mem_cons.mp hq with rfl | hq
    · exact hp
    · exact M1.atL q hq
  · show (p :: ((l ++ (a, o') :: f).map (·.1))).Nodup
    exact List.nodup_cons.mpr ⟨hne, M1.nd⟩
  · rcases List.mem_cons.mp hq with rfl | hq
    · exact M.fresh hn
    · exact M.new q hq
theorem Keep.of_same (h : Same H H') : Keep [] H H' := ⟨fun a o e _ => h a o e, fun _ h => nomatch h⟩
end
section
variable {K : PySem.W.Frag} {H : Hp} {Q : VK} {p : Addr} {j a b c d e g : Int}
theorem k_ix2 (h : H p = some (.lst [.int a, .int b])) (h0 : 0 ≤ j) (h1 : j < 2) (q : ∀ n, n = a ∨ n = b → Q (.int n) H) : rIxL K (.ref p) (.int j) H Q := by
  obtain rfl | rfl : j = 0 ∨ j = 1 := by omega
  · exact ⟨p, _, _, _, rfl, rfl, SqL.of h, rfl, q _ (by simp)⟩
  · exact ⟨p, _, _, _, rfl, rfl, SqL.of h, rfl, q _ (by simp)⟩
theorem k_ix3 (h : H p = some (.lst [.int a, .int b, .int c])) (h0 : 0 ≤ j) (h1 : j < 3) (q : ∀ n, n = a ∨ n = b ∨ n = c → Q (.int n) H) : rIxL K (.ref p) (.int j) H Q := by
  obtain rfl | rfl | rfl : j = 0 ∨ j = 1 ∨ j = 2 := by omega
  · exact ⟨p, _, _, _, rfl, rfl, SqL.of h, rfl, q _ (by simp)⟩
  · exact ⟨p, _, _, _, rfl, rfl, SqL.of h, rfl, q _ (by simp)⟩
  · exact ⟨p, _, _, _, rfl, rfl, SqL.of h, rfl, q _ (by simp)⟩
theorem k_ix4 (h : H p = some (.lst [.int a, .int b, .int c, .int d])) (h0 : 0 ≤ j) (h1 : j < 4) (q : ∀ n, n = a ∨ n = b ∨ n = c ∨ n = d → Q (.int n) H) : rIxL K (.ref p) (.int j) H Q := by
  obtain rfl | rfl | rfl | rfl : j = 0 ∨ j = 1 ∨ j = 2 ∨ j = 3 := by omega
  · exact ⟨p, _, _, _, rfl, rfl, SqL.of h, rfl, q _ (by simp)⟩
  · exact ⟨p, _, _, _, rfl, rfl, SqL.of h, rfl, q _ (by simp)⟩
  · exact ⟨p, _, _, _, rfl, rfl, SqL.of h, rfl, q _ (by simp)⟩
  · exact ⟨p, _, _, _, rfl, rfl, SqL.of h, rfl, q _ (by simp)⟩
end
end MyL

set_option Elab.async false
set_option linter.all false
set_option maxRecDepth 100000
set_option maxHeartbeats 4000000
namespace MyL
open PySem L2
section
variable {n : L2.St → Hp → Prop} {r : VK} {b c : L2.St → Hp → Prop} {σ : L2.St} {H : Hp} {te ta tb : TE} {Q : VK} {tA : TA} {K : PySem.W.Frag} {C : Addr} {sp : Sp} {W : WX}
/-- C(..), its values at hand -/
def newO (C : Addr) (sp : Sp) (vs : List V) (H : Hp) (Q : VK) (E : XK) : Prop := ∀ x dx, H x = none → H dx = none → dx ≠ x → sp (.ref x :: vs) (upd (upd H dx (.own x)) x (.ins C dx [])) (fun v H2 => v = .non ∧ Q (.ref x) H2) E
theorem k_make0 (h : tA σ H fun vs H1 => newO C sp vs H1 Q (WE W σ)) : tMakeS C sp W tA σ H Q := h
theorem k_meth0 {m : Str} (h : ta σ H fun x H1 => ∃ a dx fs, x = .ref a ∧ H1 a = some (.ins C dx fs) ∧ fs.lookup m = none ∧ tA σ H1 fun vs H2 => sp (.ref a :: vs) H2 Q (WE W σ)) : tMethS C m sp W ta tA σ H Q := h
theorem k_meth {m : Str} {a dx : Addr} {fs : List (Str × V)} {PQ : Addr → Prop} (h : H a = some (.ins C dx fs)) (hl : fs.lookup m = none) (q : PQ a) : ∃ a' dx' fs', V.ref a = .ref a' ∧ H a' = some (.ins C dx' fs') ∧ fs'.lookup m = none ∧ PQ a' := ⟨a, dx, fs, rfl, h, hl, q⟩
theorem k_ownN0 (h : ta σ H fun x H1 => tb σ H1 fun y H2 => ∃ a dx fs j, x = .ref a ∧ y = .int j ∧ H2 a = some (.ins C dx fs) ∧ sp [.ref a, .int j] H2 Q (WE W σ)) : tOwnN C sp W ta tb σ H Q := h
theorem k_ownO0 (h : ta σ H fun x H1 => tb σ H1 fun y H2 => ∃ a dx fs b dy gs, x = .ref a ∧ y = .ref b ∧ H2 a = some (.ins C dx fs) ∧ H2 b = some (.ins C dy gs) ∧ sp [.ref a, .ref b] H2 Q (WE W σ)) : tOwnO C sp W ta tb σ H Q := h
theorem k_ownN {a dx : Addr} {fs : List (Str × V)} {j : Int} {E : XK} (h : H a = some (.ins C dx fs)) (q : sp [.ref a, .int j] H Q E) : ∃ a' dx' fs' j', V.ref a = .ref a' ∧ V.int j = .int j' ∧ H a' = some (.ins C dx' fs') ∧ sp [.ref a', .int j'] H Q E := ⟨a, dx, fs, j, rfl, rfl, h, q⟩
theorem k_ownO {a dx b dy : Addr} {fs gs : List (Str × V)} {E : XK} (h : H a = some (.ins C dx fs)) (h2 : H b = some (.ins C dy gs)) (q : sp [.ref a, .ref b] H Q E) : ∃ a' dx' fs' b' dy' gs', V.ref a = .ref a' ∧ V.ref b = .ref b' ∧ H a' = some (.ins C dx' fs') ∧ H b' = some (.ins C dy' gs') ∧ sp [.ref a', .ref b'] H Q E := ⟨a, dx, fs, b, dy, gs, rfl, rfl, h, h2, q⟩
theorem k_ownEq {a dx b dy : Addr} {fs gs : List (Str × V)} (h : H a = some (.ins C dx fs)) (h2 : H b = some (.ins C dy gs)) (q : sp [.ref a, .ref b] H (fun v H' => ∃ c, v = .bl c ∧ Q v H') (fun _ _ _ => False)) : rOwnEq C sp (.ref a) (.ref b) H Q := ⟨a, dx, fs, b, dy, gs, rfl, rfl, h, h2, q⟩
theorem k_ownIn {a dx : Addr} {fs : List (Str × V)} {y : V} (h : H a = some (.ins C dx fs)) (q : sp [.ref a, y] H (fun v H' => ∃ c, v = .bl c ∧ Q v H') (fun _ _ _ => False)) : rOwnIn C sp y (.ref a) H Q := ⟨a, dx, fs, rfl, h, q⟩
theorem k_ownU {a dx : Addr} {fs : List (Str × V)} (h : H a = some (.ins C dx fs)) (q : sp [.ref a] H Q (fun _ _ _ => False)) : rOwnU C sp (.ref a) H Q := ⟨a, dx, fs, rfl, h, q⟩
theorem k_ownStr {a dx : Addr} {fs : List (Str × V)} (h : H a = some (.ins C dx fs)) (q : sp [.ref a] H (fun v H' => ∃ z, v = .str z ∧ Q v H') (fun _ _ _ => False)) : rOwnStr C sp [.ref a] H Q := ⟨a, dx, fs, rfl, h, q⟩
theorem k_st {z : Str} {PS : Str → Prop} (q : PS z) : ∃ z', V.str z = .str z' ∧ PS z' := ⟨z, rfl, q⟩
/-- isinstance of an instance and its own class -/
theorem k_isiO {a dx : Addr} {fs : List (Str × V)} (h : H a = some (.ins C dx fs)) (cl : Cls K C) (ha : PySem.W.findIn K (.ref C) "__class__" = some (some (.builtin "object.__class__"))) (hn : PySem.W.specialIn K (.builtin "object.__class__") "__get__" = some (some (.builtin "getset_descriptor.__get__")))
    (ht : PySem.W.takesIn K (.builtin "object.__class__") = some true) (hm : PySem.W.mroIn K C (.type "object") = some true) (q : Q (.bl true) H) : rIsi K [.ref a, .ref C] H Q :=
  ⟨_, _, _, _, true, rfl, .own C, .base (.ins h cl ha hn ht hm), by simp [PySem.W.kitOne], q⟩
/-- self.f = e -/
theorem k_sfld0 {f : Str} (h : te σ H fun y H1 => ta σ H1 fun x H2 => ∃ a C dx fs, x = .ref a ∧ H2 a = some (.ins C dx fs) ∧ Cls K C ∧ NoAttr K C f ∧ fs.length < 1000 ∧ n σ (upd H2 a (.ins C dx (putF f y fs)))) : sFld K ta te f ⟨n, r, b, c⟩ σ H := h
theorem k_sfld {f : Str} {a dx : Addr} {fs : List (Str × V)} {y : V} {PQ : Hp → Prop} (h : H a = some (.ins C dx fs)) (cl : Cls K C) (na : NoAttr K C f) (hl : fs.length < 1000) (q : PQ (upd H a (.ins C dx (putF f y fs)))) :
    ∃ a' C' dx' fs', V.ref a = .ref a' ∧ H a' = some (.ins C' dx' fs') ∧ Cls K C' ∧ NoAttr K C' f ∧ fs'.length < 1000 ∧ PQ (upd H a' (.ins C' dx' (putF f y fs'))) := ⟨a, C, dx, fs, rfl, h, cl, na, hl, q⟩
/-- f'..' -/
theorem k_jnil {acc : Str} {QS : Str → Hp → Prop} (q : QS acc H) : tJs [] acc σ H QS := q
theorem k_jcons {t : TE} {ts : List TE} {acc : Str} {QS : Str → Hp → Prop} (q : t σ H fun x H1 => ∃ y : Str, x = .str y ∧ (acc ++ y).length ≤ sizeLine ∧ tJs ts (acc ++ y) σ H1 QS) : tJs (t :: ts) acc σ H QS := q
theorem k_jst {acc y : Str} {PS : Str → Prop} (h : (acc ++ y).length ≤ sizeLine) (q : PS y) : ∃ y' : Str, V.str y = .str y' ∧ (acc ++ y').length ≤ sizeLine ∧ PS y' := ⟨y, rfl, h, q⟩
theorem k_fmt0 (q : te σ H fun x H1 => (∃ y : Str, x = .str y ∧ y.length ≤ sizeLine ∧ Q (.str y) H1) ∨ ∃ i : Int, x = .int i ∧ i.natAbs.log2 < 1920 ∧ Q (.str (toString i)) H1) : tFmt te σ H Q := q
theorem k_fmtI {i : Int} {P1 : Str → Prop} {P2 : Int → Prop} (h : i.natAbs.log2 < 1920) (q : P2 i) : (∃ y : Str, V.int i = .str y ∧ y.length ≤ sizeLine ∧ P1 y) ∨ ∃ i' : Int, V.int i = .int i' ∧ i'.natAbs.log2 < 1920 ∧ P2 i' := .inr ⟨i, rfl, h, q⟩
theorem k_fmtS {z : Str} {P1 : Str → Prop} {P2 : Int → Prop} (h : z.length ≤ sizeLine) (q : P1 z) : (∃ y : Str, V.str z = .str y ∧ y.length ≤ sizeLine ∧ P1 y) ∨ ∃ i' : Int, V.str z = .int i' ∧ i'.natAbs.log2 < 1920 ∧ P2 i' := .inl ⟨z, rfl, h, q⟩
theorem k_addS {x y : Str} {P2 : Str → Str → Prop} (h : x.length + y.length ≤ sizeLine) (q : P2 x y) : ∃ i j, V.str x = .str i ∧ V.str y = .str j ∧ i.length + j.length ≤ sizeLine ∧ P2 i j := ⟨x, y, rfl, rfl, h, q⟩
/-- xs + ys -/
theorem k_cat {B : Hp} {ms : List Addr} {f l : List (Addr × HO)} {p q : Addr} {xs ys : List V} (M : Mem B ms H f l) (h1 : H p = some (.lst xs)) (h2 : H q = some (.lst ys)) (hl : xs.length + ys.length ≤ sizeLine) (k : ∀ a H', Mem B ms H' f ((a, .lst (xs ++ ys)) :: l) → Q (.ref a) H') : rCat (.ref p) (.ref q) H Q :=
  ⟨p, q, xs, ys, rfl, rfl, h1, h2, hl, fun a ha => k a _ (M.alloc ha)⟩
/-- xs[a:b] -/
theorem k_sl0 {rr : V → Option Int → Option Int → Hp → VK → Prop} {tl th : TO} (h : te σ H fun x H1 => tl σ H1 fun l H2 => th σ H2 fun u H3 => rr x l u H3 Q) : tSl rr te tl th σ H Q := h
theorem k_slL {B : Hp} {ms : List Addr} {f l : List (Addr × HO)} {p : Addr} {xs : List V} {lo hi : Option Int} (M : Mem B ms H f l) (h1 : SqL K H p xs) (k : ∀ a H', Mem B ms H' f ((a, .lst (cutV xs lo hi)) :: l) → Q (.ref a) H') : rSlL K (.ref p) lo hi H Q :=
  ⟨p, xs, rfl, h1, fun a ha => k a _ (M.alloc ha)⟩
theorem k_nopart {QO : Option Int → Hp → Prop} (q : QO none H) : tNoPart σ H QO := q
theorem k_part {QO : Option Int → Hp → Prop} (q : te σ H fun x H1 => ∃ i, x = .int i ∧ QO (some i) H1) : tPart te σ H QO := q
theorem k_parti {i : Int} {PQ : Int → Prop} (q : PQ i) : ∃ i', V.int i = .int i' ∧ PQ i' := ⟨i, rfl, q⟩
end
section
variable {σ : L2.St} {H : Hp} {tA : TA} {C : Addr} {fs : List Str} {X : XK} {f g h : Str} {v u t : V}
theorem k_err0 (q : tA σ H fun vs H1 => vs.length = fs.length ∧ errQ C fs vs H1 X) : tMkErr C fs tA σ H X := q
theorem k_errQ0 (q : X (.ref C) none H) : ([] : List V).length = ([] : List Str).length ∧ errQ C [] [] H X := ⟨rfl, q⟩
theorem k_errQ1 (q : ∀ d, H d = none → X (.ref C) (some d) (upd H d (.xd [(f, v)]))) : [v].length = [f].length ∧ errQ C [f] [v] H X := ⟨rfl, q⟩
theorem k_errQ2 (q : ∀ d, H d = none → X (.ref C) (some d) (upd H d (.xd [(g, u), (f, v)]))) : [v, u].length = [f, g].length ∧ errQ C [f, g] [v, u] H X := ⟨rfl, q⟩
theorem k_errQ3 (q : ∀ d, H d = none → X (.ref C) (some d) (upd H d (.xd [(h, t), (g, u), (f, v)]))) : [v, u, t].length = [f, g, h].length ∧ errQ C [f, g, h] [v, u, t] H X := ⟨rfl, q⟩
end
/-- a class of the module, as a value -/
theorem g_ref {X : Cx} {x : Str} {C : Addr} {pos : Pos} (hm : X.mg x = some (.ref C)) (hg : Gl X x := by rfl) (hd : (x == ("__debug__" : Str)) = false := by decide) : PE X (.Name x pos) (tC (.ref C)) := pe_glob (v := .ref C) hg hm rfl hd
/-- a built-in class, as a value -/
theorem g_ty {X : Cx} {x : Str} {n : String} {pos : Pos} (hm : X.mg x = none) (hv : bootBuiltins x = some (.type n)) (hg : Gl X x := by rfl) (hn : x ≠ "__name__" := by decide) (hd : (x == ("__debug__" : Str)) = false := by decide) : PE X (.Name x pos) (tC (.ty n)) := pe_bltn (v := .ty n) hg hm hv rfl hn hd
theorem log2_64 {i : Int} (h : -(2 ^ 64) < i) (h2 : i < 2 ^ 64) : i.natAbs.log2 < 1920 := by
  by_cases e : i.natAbs = 0
  · rw [e]; decide
  · exact Nat.lt_of_lt_of_le ((Nat.log2_lt e).mpr (show i.natAbs < 2 ^ 64 by omega)) (by decide)
theorem strI_len {i : Int} (h : -(2 ^ 64) < i) (h2 : i < 2 ^ 64) : (Str.ofString (toString i)).length ≤ 31 := by
  rw [PySem.ofString_length]
  exact int_text_length_le10 (k := 30) (by decide) (by omega)
end MyL

set_option Elab.async false
set_option linter.all false
set_option maxRecDepth 100000
set_option maxHeartbeats 4000000
/-! Loops by a word between two turns. -/
namespace MyL
open PySem L2
/-- for k in a range that begins at lo and has n turns -/
def RngLoop (lo : Int) (n : Nat) (g : TG) (tb : TS) (nx : L2.St → Hp → Prop) (rt : VK) (σ : L2.St) (H : Hp) : Prop :=
  ∃ Pv : Nat → L2.St → Hp → Prop, Pv 0 σ H ∧ (∀ i σ' H', i < n → Pv i σ' H' → g (.int (lo + i)) σ' H' fun σ2 H2 => tb ⟨Pv (i + 1), rt, nx, Pv (i + 1)⟩ σ2 H2) ∧ ∀ σ' H', Pv n σ' H' → nx σ' H'
/-- for x in a list of xs -/
def LstLoop (K : PySem.W.Frag) (a : Addr) (xs : List V) (g : TG) (tb : TS) (nx : L2.St → Hp → Prop) (rt : VK) (σ : L2.St) (H : Hp) : Prop :=
  ∃ Pv : Nat → L2.St → Hp → Prop, Pv 0 σ H ∧ (∀ i σ' H', i ≤ xs.length → Pv i σ' H' → SqL K H' a xs) ∧ (∀ i x σ' H', xs[i]? = some x → Pv i σ' H' → g x σ' H' fun σ2 H2 => tb ⟨Pv (i + 1), rt, nx, Pv (i + 1)⟩ σ2 H2) ∧ ∀ σ' H', Pv xs.length σ' H' → nx σ' H'
def TupLoop (K : PySem.W.Frag) (a : Addr) (xs : List V) (g : TG) (tb : TS) (nx : L2.St → Hp → Prop) (rt : VK) (σ : L2.St) (H : Hp) : Prop :=
  ∃ Pv : Nat → L2.St → Hp → Prop, Pv 0 σ H ∧ (∀ i σ' H', i ≤ xs.length → Pv i σ' H' → SqT K H' a xs) ∧ (∀ i x σ' H', xs[i]? = some x → Pv i σ' H' → g x σ' H' fun σ2 H2 => tb ⟨Pv (i + 1), rt, nx, Pv (i + 1)⟩ σ2 H2) ∧ ∀ σ' H', Pv xs.length σ' H' → nx σ' H'
/-- a comprehension over a range, over a list -/
def LcR (lo : Int) (n : Nat) (g : TG) (tt : TT) (te : TE) (vs : List Nat) (σ : L2.St) (H : Hp) (Q : VK) : Prop :=
  ∀ D, H D = none → ∃ Pv : Nat → Hp → Prop, Pv 0 (upd H D (.lst [])) ∧ (∀ i H', i < n → Pv i H' → g (.int (lo + i)) (wipe σ vs) H' fun σ2 H2 => wipe σ2 vs = wipe σ vs ∧ tt σ2 H2 fun b H3 =>
    if b = true then te σ2 H3 fun y H4 => ∃ acc, H4 D = some (.lst acc) ∧ acc.length < sizeLine ∧ Pv (i + 1) (upd H4 D (.lst (acc ++ [y]))) else Pv (i + 1) H3) ∧ ∀ H', Pv n H' → Q (.ref D) H'
def LcL (K : PySem.W.Frag) (a : Addr) (xs : List V) (g : TG) (tt : TT) (te : TE) (vs : List Nat) (σ : L2.St) (H : Hp) (Q : VK) : Prop :=
  ∀ D, H D = none → ∃ Pv : Nat → Hp → Prop, Pv 0 (upd H D (.lst [])) ∧ (∀ i H', i ≤ xs.length → Pv i H' → SqL K H' a xs) ∧ (∀ i x H', xs[i]? = some x → Pv i H' → g x (wipe σ vs) H' fun σ2 H2 => wipe σ2 vs = wipe σ vs ∧ tt σ2 H2 fun b H3 =>
    if b = true then te σ2 H3 fun y H4 => ∃ acc, H4 D = some (.lst acc) ∧ acc.length < sizeLine ∧ Pv (i + 1) (upd H4 D (.lst (acc ++ [y]))) else Pv (i + 1) H3) ∧ ∀ H', Pv xs.length H' → Q (.ref D) H'
def iJ (J : It) : TI := fun _ H R => R J H
section
variable {nx : L2.St → Hp → Prop} {rt : VK} {bk ct : L2.St → Hp → Prop} {σ : L2.St} {H : Hp} {tb : TS} {g : TG} {te tl : TE} {tt : TT} {Q : VK} {tA : TA} {K : PySem.W.Frag} {D : Ends} {vs : List Nat}
theorem k_forR1 (h : tA σ H fun vs H1 => ∃ j : Int, vs = [.int j] ∧ -(2 ^ 62) ≤ j ∧ j < 2 ^ 62 ∧ tFor (iJ (Itr 0 j.toNat)) g tb D σ H1) : tFor (iRng1 tA) g tb D σ H := h
theorem k_forR2 (h : tA σ H fun vs H1 => ∃ i j : Int, vs = [.int i, .int j] ∧ (-(2 ^ 62) ≤ i ∧ i < 2 ^ 62 ∧ -(2 ^ 62) ≤ j ∧ j < 2 ^ 62) ∧ tFor (iJ (Itr i (j - i).toNat)) g tb D σ H1) : tFor (iRng2 tA) g tb D σ H := h
theorem k_forL (h : tl σ H fun x H1 => ∃ a, x = .ref a ∧ (∃ xs, SqL K H1 a xs) ∧ tFor (iJ (Itl K a)) g tb D σ H1) : tFor (iList K tl) g tb D σ H := h
theorem k_forT (h : tl σ H fun x H1 => ∃ a, x = .ref a ∧ (∃ xs, SqT K H1 a xs) ∧ tFor (iJ (Itt K a)) g tb D σ H1) : tFor (iTup K tl) g tb D σ H := h
theorem k_lcR1 (h : tA σ H fun zs H1 => ∃ j : Int, zs = [.int j] ∧ -(2 ^ 62) ≤ j ∧ j < 2 ^ 62 ∧ tLc (iJ (Itr 0 j.toNat)) g tt te vs σ H1 Q) : tLc (iRng1 tA) g tt te vs σ H Q := h
theorem k_lcR2 (h : tA σ H fun zs H1 => ∃ i j : Int, zs = [.int i, .int j] ∧ (-(2 ^ 62) ≤ i ∧ i < 2 ^ 62 ∧ -(2 ^ 62) ≤ j ∧ j < 2 ^ 62) ∧ tLc (iJ (Itr i (j - i).toNat)) g tt te vs σ H1 Q) : tLc (iRng2 tA) g tt te vs σ H Q := h
theorem k_lcL (h : tl σ H fun x H1 => ∃ a, x = .ref a ∧ (∃ xs, SqL K H1 a xs) ∧ tLc (iJ (Itl K a)) g tt te vs σ H1 Q) : tLc (iList K tl) g tt te vs σ H Q := h
theorem k_rng1 {n : Int} {PR : Int → Prop} (h1 : -(2 ^ 62) ≤ n) (h2 : n < 2 ^ 62) (q : PR n) : ∃ j : Int, [V.int n] = [.int j] ∧ -(2 ^ 62) ≤ j ∧ j < 2 ^ 62 ∧ PR j := ⟨n, rfl, h1, h2, q⟩
theorem k_rng2 {m n : Int} {PR : Int → Int → Prop} (h1 : -(2 ^ 62) ≤ m) (h2 : m < 2 ^ 62) (h3 : -(2 ^ 62) ≤ n) (h4 : n < 2 ^ 62) (q : PR m n) : ∃ i j : Int, [V.int m, V.int n] = [.int i, .int j] ∧ (-(2 ^ 62) ≤ i ∧ i < 2 ^ 62 ∧ -(2 ^ 62) ≤ j ∧ j < 2 ^ 62) ∧ PR i j := ⟨m, n, rfl, ⟨h1, h2, h3, h4⟩, q⟩
theorem k_lstAt {p : Addr} {xs : List V} {PR : Addr → Prop} (h : SqL K H p xs) (q : PR p) : ∃ a, V.ref p = .ref a ∧ (∃ xs, SqL K H a xs) ∧ PR a := ⟨p, rfl, ⟨xs, h⟩, q⟩
theorem k_tupAt {p : Addr} {xs : List V} {PR : Addr → Prop} (h : SqT K H p xs) (q : PR p) : ∃ a, V.ref p = .ref a ∧ (∃ xs, SqT K H a xs) ∧ PR a := ⟨p, rfl, ⟨xs, h⟩, q⟩
theorem rng_loop {lo : Int} {n : Nat} (h : RngLoop lo n g tb nx rt σ H) : tFor (iJ (Itr lo n)) g tb ⟨nx, rt, bk, ct⟩ σ H := by
  obtain ⟨Pv, h0, hs, hd⟩ := h
  exact for_range (D := ⟨nx, rt, bk, ct⟩) Pv h0 hs hd
theorem lst_loop {a : Addr} {xs : List V} (h : LstLoop K a xs g tb nx rt σ H) : tFor (iJ (Itl K a)) g tb ⟨nx, rt, bk, ct⟩ σ H := by
  obtain ⟨Pv, h0, hl, hs, hd⟩ := h
  exact for_list (D := ⟨nx, rt, bk, ct⟩) Pv h0 hl hs hd
theorem tup_loop {a : Addr} {xs : List V} (h : TupLoop K a xs g tb nx rt σ H) : tFor (iJ (Itt K a)) g tb ⟨nx, rt, bk, ct⟩ σ H := by
  obtain ⟨Pv, h0, hl, hs, hd⟩ := h
  exact for_tup (D := ⟨nx, rt, bk, ct⟩) Pv h0 hl hs hd
theorem lc_rng {lo : Int} {n : Nat} (h : LcR lo n g tt te vs σ H Q) : tLc (iJ (Itr lo n)) g tt te vs σ H Q := fun D hD => by
  obtain ⟨Pv, h0, hs, hd⟩ := h D hD
  exact lc_range Pv h0 hs hd
theorem lc_lst {a : Addr} {xs : List V} (h : LcL K a xs g tt te vs σ H Q) : tLc (iJ (Itl K a)) g tt te vs σ H Q := fun D hD => by
  obtain ⟨Pv, h0, hl, hs, hd⟩ := h D hD
  exact lc_list Pv h0 hl hs hd
theorem k_iteNE {x : Bool} {A Z : Prop} (h : Z) : if (!(x == x)) = true then A else Z := by
  rw [if_neg (by simp)]; exact h
theorem k_iteNS {z : Str} {A Z : Prop} (h : Z) : if (!decide (z = z)) = true then A else Z := by
  rw [if_neg (by simp)]; exact h
theorem k_gName {i : Nat} {v : V} {QG : L2.St → Hp → Prop} (q : QG (σ.set i (some v)) H) : gName i v σ H QG := q
theorem Mem.one {B : Hp} {ms : List Addr} {f l : List (Addr × HO)} {x : Addr × HO} (M : Mem B ms H f (x :: l)) : Mem B ms H f [x] := by
  refine ⟨M.atF, fun p hp => M.atL p (by simp at hp; simp [hp]), ?_, M.keep, M.tr, fun p hp => M.new p (by simp at hp; simp [hp])⟩
  have nd := M.nd
  simp only [List.cons_append, List.map_cons, List.nodup_cons, List.map_append, List.nil_append, List.nodup_append, List.mem_append, List.append_eq] at nd ⊢
  exact ⟨fun z => nd.1 (.inr z), nd.2.2.1⟩
theorem Mem.none {B : Hp} {ms : List Addr} {f l : List (Addr × HO)} (M : Mem B ms H f l) : Mem B ms H f [] := by
  refine ⟨M.atF, (fun p hp => nomatch hp), ?_, M.keep, M.tr, (fun p hp => nomatch hp)⟩
  have nd := M.nd
  rw [List.map_append, List.nodup_append] at nd
  simpa using nd.2.1
/-- a comprehension over a range without a test, whose element is reckoned and makes nothing -/
theorem lcR_pure {B : Hp} {ms : List Addr} {f l : List (Addr × HO)} {lo : Int} {n j : Nat} (M : Mem B ms H f l) (v : Nat → V) (hn : n ≤ 50000) (hw : ∀ x, wipe ((wipe σ vs).set j (some x)) vs = wipe σ vs)
    (he : ∀ (i : Nat) H' D (R : VK), i < n → Mem B ms H' f ((D, .lst ((List.range i).map v)) :: l) → (∀ H4, Mem B ms H4 f ((D, .lst ((List.range i).map v)) :: l) → R (v i) H4) → te ((wipe σ vs).set j (some (.int (lo + i)))) H' R)
    (k : ∀ D H', Mem B ms H' f ((D, .lst ((List.range n).map v)) :: l) → Q (.ref D) H') : tLc (iJ (Itr lo n)) (gName j) tYes te vs σ H Q := by
  refine lc_rng fun D hD => ⟨fun i H' => Mem B ms H' f ((D, .lst ((List.range i).map v)) :: l), M.alloc hD, fun i H' hi M' => ⟨hw _, ?_⟩, fun H' M' => k D H' M'⟩
  refine iteT (B := Mem B ms H' f ((D, .lst ((List.range (i + 1)).map v)) :: l)) (he i H' D _ hi M' fun H4 M4 => ⟨_, M4.getL List.mem_cons_self, ?_, ?_⟩)
  · rw [List.length_map, List.length_range]; exact Nat.lt_of_lt_of_le hi (Nat.le_trans hn (by decide))
  · dsimp only; rw [List.range_succ, List.map_append]; exact Mem.setL (l1 := []) M4
/-- .. over a list -/
theorem lcL_pure {B : Hp} {ms : List Addr} {f l : List (Addr × HO)} {a : Addr} {xs : List V} {j : Nat} (M : Mem B ms H f l) (hx : ∀ H', Mem B ms H' f l → SqL K H' a xs) (v : Nat → V) (hn : xs.length ≤ 50000) (hw : ∀ x, wipe ((wipe σ vs).set j (some x)) vs = wipe σ vs)
    (he : ∀ (i : Nat) x H' D (R : VK), xs[i]? = some x → Mem B ms H' f ((D, .lst ((List.range i).map v)) :: l) → (∀ H4, Mem B ms H4 f ((D, .lst ((List.range i).map v)) :: l) → R (v i) H4) → te ((wipe σ vs).set j (some x)) H' R)
    (k : ∀ D H', Mem B ms H' f ((D, .lst ((List.range xs.length).map v)) :: l) → Q (.ref D) H') : tLc (iJ (Itl K a)) (gName j) tYes te vs σ H Q := by
  refine lc_lst (xs := xs) fun D hD => ⟨fun i H' => Mem B ms H' f ((D, .lst ((List.range i).map v)) :: l), M.alloc hD, fun i H' _ M' => hx H' M'.drop, fun i x H' hi M' => ⟨hw _, ?_⟩, fun H' M' => k D H' M'⟩
  refine iteT (B := Mem B ms H' f ((D, .lst ((List.range (i + 1)).map v)) :: l)) (he i x H' D _ hi M' fun H4 M4 => ⟨_, M4.getL List.mem_cons_self, ?_, ?_⟩)
  · rw [List.length_map, List.length_range]; exact Nat.lt_of_lt_of_le (List.getElem?_eq_some_iff.mp hi).1 (Nat.le_trans hn (by decide))
  · dsimp only; rw [List.range_succ, List.map_append]; exact Mem.setL (l1 := []) M4
end
end MyL

set_option Elab.async false
set_option linter.all false
set_option maxRecDepth 100000
set_option maxHeartbeats 4000000
/-! What is asked of a caught error, step by step. -/
namespace MyL
open PySem L2
section
variable {K : PySem.W.Frag} {H : Hp} {Q : VK} {D a dd C1 C2 C3 : Addr} {fs : List (Str × V)} {b : Bool} {σ : L2.St} {te : TE} {f : Str} {v : V}
theorem k_isXo (hD : ExcK K D) (hd : H dd = some (.xd fs)) (e : PySem.W.kitOne K (.ref D) (.ref C1) = some b) (q : Q (.bl b) H) : rIsX K (.ref D) (some dd) a [.ref a, .ref C1] H Q := ⟨D, _, _, b, rfl, hD, ⟨fs, hd⟩, rfl, .own C1, e, q⟩
theorem k_isXs (hD : ExcK K D) (hd : H dd = some (.xd fs)) (q : Q (.bl true) H) : rIsX K (.ref D) (some dd) a [.ref a, .ref D] H Q := k_isXo hD hd (by simp [PySem.W.kitOne]) q
theorem k_isXt {n : String} (hD : ExcK K D) (hd : H dd = some (.xd fs)) (e : PySem.W.kitOne K (.ref D) (.type n) = some b) (q : Q (.bl b) H) : rIsX K (.ref D) (some dd) a [.ref a, .ty n] H Q := ⟨D, _, _, b, rfl, hD, ⟨fs, hd⟩, rfl, .ty n, e, q⟩
theorem k_isX3 {tp : Addr} (hD : ExcK K D) (hd : H dd = some (.xd fs)) (ht : H tp = some (.tup [.ref C1, .ref C2, .ref C3])) (e : PySem.W.kitAny K (.ref D) [.ref C1, .ref C2, .ref C3] = some b) (q : Q (.bl b) H) : rIsXT K (.ref D) (some dd) a [.ref a, .ref tp] H Q :=
  ⟨D, tp, _, _, b, rfl, hD, ⟨fs, hd⟩, rfl, ht, .cons (.own C1) (.cons (.own C2) (.cons (.own C3) .nil)), e, q⟩
theorem k_isX2 {tp : Addr} (hD : ExcK K D) (hd : H dd = some (.xd fs)) (ht : H tp = some (.tup [.ref C1, .ref C2])) (e : PySem.W.kitAny K (.ref D) [.ref C1, .ref C2] = some b) (q : Q (.bl b) H) : rIsXT K (.ref D) (some dd) a [.ref a, .ref tp] H Q :=
  ⟨D, tp, _, _, b, rfl, hD, ⟨fs, hd⟩, rfl, ht, .cons (.own C1) (.cons (.own C2) .nil), e, q⟩
theorem k_xf0 {cls : Value} {d : Option Addr} (h : te σ H fun x H1 => x = .ref a ∧ cls = .ref D ∧ ∃ (dd : Addr) (fs : List (Str × V)) (v : V), d = some dd ∧ H1 dd = some (.xd fs) ∧ fs.lookup f = some v ∧ Q v H1) : tXf a cls d D f te σ H Q := h
theorem k_xf {PV : V → Prop} (hd : H dd = some (.xd fs)) (hl : fs.lookup f = some v) (q : PV v) : V.ref a = .ref a ∧ Value.ref D = .ref D ∧ ∃ (dd' : Addr) (fs' : List (Str × V)) (v' : V), some dd = some dd' ∧ H dd' = some (.xd fs') ∧ fs'.lookup f = some v' ∧ PV v' := ⟨rfl, rfl, dd, fs, v, rfl, hd, hl, q⟩
theorem xd1 {g : Str} {v : V} : List.lookup g [(g, v)] = some v := by simp [List.lookup]
theorem xd2 {g h : Str} {v u : V} (n : ¬ g = h) : List.lookup g [(h, u), (g, v)] = some v := by
  rw [lookup_put, if_neg n, lookup_put, if_pos rfl]
/-- the clause takes the error -/
theorem k_caught {K : PySem.W.Frag} {c : Value} {i : Nat} {ts : Addr → Value → Option Addr → TS} {Wout : WX} {nx : L2.St → Hp → Prop} {rt : VK} {bk ct : L2.St → Hp → Prop} {cls : Value} {d : Option Addr} (h : PySem.W.exmOne K cls c = some true)
    (q : ∀ a, H a = none → ts a cls d ⟨fun σ' H' => nx (σ'.set i none) H', rt, fun σ' H' => bk (σ'.set i none) H', fun σ' H' => ct (σ'.set i none) H'⟩ (σ.set i (some (.ref a))) H) : wAs K c i ts Wout ⟨nx, rt, bk, ct⟩ cls d σ H :=
  ⟨true, h, fun _ => q, fun z => nomatch z⟩
/-- the script's list -/
theorem k_lenS {p : Addr} {ns : List Int} (h : SqL K H p (ns.map V.int)) (q : Q (.int ns.length) H) : rLenQ K [.ref p] H Q := ⟨p, _, rfl, .inl h, by rw [List.length_map]; exact q⟩
theorem k_ixS {p : Addr} {xs : List V} {j : Int} {v : V} (h : SqL K H p xs) (ha : atI xs j = some v) (q : Q v H) : rIxL K (.ref p) (.int j) H Q := ⟨p, xs, j, v, rfl, rfl, h, ha, q⟩
theorem cut_all {xs : List V} {n : Int} (h : (xs.length : Int) ≤ n) : cutV xs none (some n) = xs := by
  unfold cutV
  have h0 : HT.sIx xs.length 0 none = 0 := rfl
  have h1 : HT.sIx xs.length xs.length (some n) = xs.length := by
    show (if n < 0 then (n + (xs.length : Int)).toNat else min n.toNat xs.length) = xs.length
    rw [if_neg (by omega)]
    omega
  rw [h0, h1]
  simp
end
end MyL

set_option Elab.async false
set_option linter.all false
set_option maxRecDepth 100000
set_option maxHeartbeats 4000000
/-! A class of one's own made by keywords alone. -/
namespace MyL
open PySem PySem.Spec PyProof.Rows L2
structure MakK (P : Program) (w : World) (K : PySem.W.Frag) (mg : Str → Option Value) (base : Heap) (k : Nat) (x : Str) (C : Addr) (ks : List Str) (pm : {α : Type} → List α → List α) (sp : Sp) : Prop where
  ex : ∃ (f : Addr) (fd : FuncData) (ps : List Str), mg x = some (.ref C) ∧ Mk K C f ∧ (∀ (s : Shared) (u : Value) (ws : List Value), K.In s.heap → ws.length = ks.length → BindsTo s fd ⟨[u], ks.zip ws⟩ (ps.zip (u :: pm ws))) ∧
    (∀ (zs : List V) (ws : List Value), Vals zs ws → zs.length = ks.length → Vals (pm zs) (pm ws)) ∧ FnOk P w K mg base (L2.CX P w) k f fd ps sp
def tMakeK (C : Addr) (sp : Sp) (pm : List V → List V) (n : Nat) (W : WX) (tk : TA) : TE := fun σ H Q => tk σ H fun zs H1 => zs.length = n ∧ newO C sp (pm zs) H1 Q (WE W σ)
section
variable {X : Cx} {W : WX} {k j : Nat} {C : Addr} {sp : Sp} {x : Str} {p pos : Pos} {kws : List Keyword} {ks : List Str} {t : TA} {pm : {α : Type} → List α → List α}
theorem c_makeK (c : MakK X.prog X.w X.K X.mg X.base k x C ks pm sp) (tk : Takes X W) (hr : Room j X.A) (hk : k + 1 ≤ j) (hkw : PK X kws t) (hg : Gl X x := by rfl) (hall : (backToKw pos (keywordEach kws X.env)).all (·.1.isSome) = true := by rfl) (hks : (backToKw pos (keywordEach kws X.env)).filterMap (·.1) = ks := by rfl)
    (hdb : (x == ("__debug__" : Str)) = false := by decide) (hpl : ((backTo pos (starEach [] X.env)).any (·.1) || (backToKw pos (keywordEach kws X.env)).any (·.1.isNone)) = false := by rfl) :
    PE X (.Call (.Name x p) [] kws pos) (tMakeK C sp pm ks.length W t) := by
  obtain ⟨f, fd, ps, hm, M, hb, hrel, F⟩ := c.ex
  refine ⟨fun pins s σ H Q I h => ?_⟩
  refine wpAny_Call_Name_kw (ld_glob I hg hm ?_ hdb)
  refine PySem.W.callWith_KW0 (first := []) (h₀ := X.base) I.ok.mod.kin M.kp hall (thn (hkw.run pos pins s σ H _ I h) fun ws s1 hh => ?_) hpl
  obtain ⟨zs, H1, I1, rz, hl, q⟩ := hh
  refine ⟨I1.kIn, ?_⟩
  rw [hks]
  have hwl : ws.length = ks.length := by rw [← rz.length]; exact hl
  have hq := q (s1.heap.objs.size + 1) s1.heap.objs.size (I1.hok.fresh (Nat.le_succ _)) (I1.hok.fresh (Nat.le_refl _)) (Nat.ne_of_lt (Nat.lt_succ_self _))
  have I2 := Inv.made (C := C) I1
  have r2 : Vals (V.ref (s1.heap.objs.size + 1) :: pm zs) (Value.ref (s1.heap.objs.size + 1) :: pm ws) := .cons rfl (hrel zs ws rz hl)
  have hr2 : Room (k + 1) X.A := hr.mono hk
  show wpAny _ _ (call (.ref C) [] (ks.zip ws)) _ _ _
  refine wpAny_call (make_map (f := f) I1.kIn M.makes M.init (beq_iff_eq.mp M.fn) (codeAny_mono (F.run _ X.stack _ _ ⟨[Value.ref (s1.heap.objs.size + 1)], ks.zip ws⟩ (Value.ref (s1.heap.objs.size + 1) :: pm ws) _ _ (WE W σ) (hr2.make C [] (ks.zip ws))
    (I2.env0.make C [] (ks.zip ws)) (hb _ _ ws I2.kIn hwl) r2 hq) fun r s' hq' => ?_))
  match r, hq' with
  | .error e, hq' => exact passAt tk σ pins _ _ e s' I2 hq'
  | .ok (.ret u), hq' =>
    obtain ⟨v, H', I3, rv, ev, q3⟩ := I2.after hq'
    subst ev
    exact ⟨rv, ⟨V.ref (s1.heap.objs.size + 1), H', I3, rfl, q3⟩⟩
  | .ok .next, hq' => exact hq'.elim
  | .ok .brk, hq' => exact hq'.elim
  | .ok .cont, hq' => exact hq'.elim
theorem k_makeK0 {σ : L2.St} {H : Hp} {Q : VK} {pm : List V → List V} {n : Nat} (h : t σ H fun zs H1 => zs.length = n ∧ newO C sp (pm zs) H1 Q (WE W σ)) : tMakeK C sp pm n W t σ H Q := h
end
/-- two turned about -/
def swap2 {α : Type} : List α → List α
  | [a, b] => [b, a]
  | l => l
theorem k_swap2 {H : Hp} {Q : VK} {E : XK} {C : Addr} {sp : Sp} {u v : V} (q : newO C sp [v, u] H Q E) : [u, v].length = 2 ∧ newO C sp (swap2 [u, v]) H Q E := ⟨rfl, q⟩
end MyL

set_option Elab.async false
set_option linter.all false
set_option maxRecDepth 100000
set_option maxHeartbeats 4000000
/-! A comprehension whose element makes an object at every turn. -/
namespace MyL
open PySem L2
section
variable {σ : L2.St} {H : Hp} {te : TE} {Q : VK} {K : PySem.W.Frag} {vs : List Nat} {B : Hp} {ms : List Addr} {f l : List (Addr × HO)}
theorem Mem.swap {x y : Addr × HO} (M : Mem B ms H f (x :: y :: l)) : Mem B ms H f (y :: x :: l) := by
  refine ⟨M.atF, fun p hp => M.atL p ?_, ?_, M.keep, M.tr, fun p hp => M.new p ?_⟩
  · simp at hp ⊢; rcases hp with h | h | h <;> simp [h]
  · have nd := M.nd
    simp only [List.cons_append, List.map_cons, List.nodup_cons, List.mem_cons, not_or] at nd ⊢
    exact ⟨⟨fun z => nd.1.1 z.symm, nd.2.1⟩, nd.1.2, nd.2.2⟩
  · simp at hp ⊢; rcases hp with h | h | h <;> simp [h]
theorem lcL_new {O : V → HO → Prop} {a : Addr} {xs : List V} {j : Nat} (M : Mem B ms H f l) (hx : ∀ H' l', Mem B ms H' f l' → SqL K H' a xs) (hn : xs.length ≤ 50000) (hw : ∀ x, wipe ((wipe σ vs).set j (some x)) vs = wipe σ vs)
    (he : ∀ x H' l' (R : VK), x ∈ xs → Mem B ms H' f l' → (∀ y o H4, O x o → Mem B ms H4 f ((y, o) :: l') → R (.ref y) H4) → te ((wipe σ vs).set j (some x)) H' R)
    (k : ∀ (D : Addr) (zs : List (Addr × HO)) (H' : Hp), zs.length = xs.length → (∀ (n : Nat) (x : V) (z : Addr × HO), xs[n]? = some x → zs[n]? = some z → O x z.2) → Mem B ms H' f ((D, .lst (zs.map fun z => V.ref z.1)) :: (zs.reverse ++ l)) → Q (.ref D) H') : tLc (iJ (Itl K a)) (gName j) tYes te vs σ H Q := by
  refine lc_lst (xs := xs) fun D hD => ⟨fun i H' => ∃ zs : List (Addr × HO), zs.length = i ∧ (∀ (n : Nat) (x : V) (z : Addr × HO), xs[n]? = some x → zs[n]? = some z → O x z.2) ∧ Mem B ms H' f ((D, .lst (zs.map fun z => V.ref z.1)) :: (zs.reverse ++ l)), ?_, ?_, ?_, ?_⟩
  · exact ⟨[], rfl, (fun n x z _ h => by simp at h), M.alloc hD⟩
  · rintro i H' _ ⟨zs, _, _, M'⟩
    exact hx H' _ M'
  · rintro i x H' hi ⟨zs, hz, hO, M'⟩
    refine ⟨hw _, ?_⟩
    refine iteT (B := ∃ zs : List (Addr × HO), zs.length = i + 1 ∧ (∀ (n : Nat) (x : V) (z : Addr × HO), xs[n]? = some x → zs[n]? = some z → O x z.2) ∧ Mem B ms H' f ((D, .lst (zs.map fun z => V.ref z.1)) :: (zs.reverse ++ l))) (he x H' _ _ (List.mem_of_getElem? hi) M' fun y o H4 ho M4 => ?_)
    have hil : i < xs.length := by
      have := List.getElem?_eq_some_iff.1 hi
      exact this.1
    refine ⟨_, M4.getL (List.mem_cons_of_mem _ List.mem_cons_self), ?_, zs ++ [(y, o)], ?_, ?_, ?_⟩
    · rw [List.length_map, hz]; exact Nat.lt_of_lt_of_le hil (Nat.le_trans hn (by decide))
    · simp [hz]
    · intro n x' z hx' hz'
      by_cases hlt : n < i
      · rw [List.getElem?_append_left (by omega)] at hz'
        exact hO n x' z hx' hz'
      · have hni : n = i := by
          have := (List.getElem?_eq_some_iff.1 hz').1
          simp at this
          omega
        subst hni
        rw [List.getElem?_append_right (by omega), hz, Nat.sub_self] at hz'
        rw [hi] at hx'
        simp at hx' hz'
        subst hx' hz'
        exact ho
    · have := (Mem.setL (l1 := [(y, o)]) (o' := .lst (List.map (fun z : Addr × HO => V.ref z.1) (zs ++ [(y, o)]))) M4).swap
      simpa using this
  · rintro H' ⟨zs, hz, hO, M'⟩
    exact k D zs H' hz hO M'
theorem k_swapK {E : XK} {C : Addr} {sp : Sp} {u v : V} {s t : Str} (q : newO C sp [v, u] H Q E) : [u, v].length = [s, t].length ∧ newO C sp (swap2 [u, v]) H Q E := ⟨rfl, q⟩
theorem k_iteNEq {x y : Bool} {A Z : Prop} (e : x = y) (h : Z) : if (!(x == y)) = true then A else Z := by
  subst e; rw [if_neg (by simp)]; exact h
end
end MyL

set_option Elab.async false
set_option linter.all false
set_option maxRecDepth 100000
set_option maxHeartbeats 4000000
/-! The end: what the top has written, def by def, and the law's own head. -/
namespace MyL
open PySem PySem.Spec PyProof.Rows L2
def DefAt (K : PySem.W.Frag) (mg : Str → Option Value) (x qual : Str) (st : Stmt) : Prop := ∃ (f : Addr) (fd : FuncData), mg x = some (.ref f) ∧ Fun K x qual st f fd
def MethAt (K : PySem.W.Frag) (C : Addr) (m qual : Str) (st : Stmt) : Prop := ∃ (f : Addr) (fd : FuncData), PySem.W.findIn K (.ref C) m = some (some (.ref f)) ∧ PySem.W.isFn K (.ref f) = true ∧ Fun K m qual st f fd
section
variable {P : Program} {w : World} {K : PySem.W.Frag} {mg : Str → Option Value} {base h : Heap} {k : Nat} {C f : Addr} {x m qual : Str} {sp : Sp} {st : Stmt} {fd : FuncData} {ps : List Str} {oc : Value} {od an : Option Addr} {osl : Array (Option Value)} {kV doc pm cdv ct : Value}
theorem gdef (X : K.In h) (G : h.Ns mainGlobals mg) (a : PySem.W.nsIn K mainGlobals x = some (some (.ref f))) (l : K.lookup f = some ⟨oc, od, .func (PySem.W.fnOf x qual (defArgs st) (defBody st) (defScope st) .none kV doc pm an cdv ct), osl⟩)
    (c : PySem.W.codeIn K cdv qual = true) (kp : PySem.W.keepIn K (.ref f) = true) : DefAt K mg x qual st := ⟨f, _, PySem.W.mg_of X G a, fun_mk l c kp⟩
theorem gmeth (a : PySem.W.findIn K (.ref C) m = some (some (.ref f))) (i : PySem.W.isFn K (.ref f) = true) (l : K.lookup f = some ⟨oc, od, .func (PySem.W.fnOf m qual (defArgs st) (defBody st) (defScope st) .none kV doc pm an cdv ct), osl⟩)
    (c : PySem.W.codeIn K cdv qual = true) (kp : PySem.W.keepIn K (.ref f) = true) : MethAt K C m qual st := ⟨f, _, a, i, fun_mk l c kp⟩
/-- the arguments of a def of the text bind by place -/
def BindsSt (x qual : Str) (st : Stmt) (ps : List Str) : Prop := ∀ (kV doc pm : Value) (an : Option Addr) (cdv ct : Value) (us : List Value), us.length = ps.length → bindArgs (PySem.W.fnOf x qual (defArgs st) (defBody st) (defScope st) .none kV doc pm an cdv ct) ⟨us, []⟩ = pure (ps.zip us)
theorem cal_of (D : DefAt K mg x qual st) (hb : BindsSt x qual st ps) (ok : ∀ {f : Addr} {fd : FuncData}, Fun K x qual st f fd → FnOk P w K mg base (L2.CX P w) k f fd ps sp) : Cal P w K mg base k x sp := by
  obtain ⟨f, fd, a, F⟩ := D
  exact ⟨f, fd, ps, a, F.kp, F.binds hb, ok F⟩
theorem calQ_of (D : DefAt K mg x qual st) (hb : BindsSt x qual st ps) (ok : ∀ {f : Addr} {fd : FuncData}, Fun K x qual st f fd → Binds K fd ps [] → FnQ P w K mg base k f sp) : CalQ P w K mg base k x sp := by
  obtain ⟨f, fd, a, F⟩ := D
  exact ⟨f, a, F.kp, ok F (F.binds hb)⟩
theorem spc_of (D : MethAt K C m qual st) (hb : BindsSt m qual st ps) (ok : ∀ {f : Addr} {fd : FuncData}, Fun K m qual st f fd → FnOk P w K mg base (L2.CX P w) k f fd ps sp) : Spc P w K mg base k C m sp := by
  obtain ⟨f, fd, a, i, F⟩ := D
  exact ⟨f, a, i, raw0 (ok F) (F.binds hb)⟩
theorem met_of (D : MethAt K C m qual st) (cl : Cls K C) (hb : BindsSt m qual st ps) (ok : ∀ {f : Addr} {fd : FuncData}, Fun K m qual st f fd → FnOk P w K mg base (L2.CX P w) k f fd ps sp) : Met P w K mg base k C m sp := by
  obtain ⟨f, fd, a, i, F⟩ := D
  exact ⟨f, fd, ps, cl, ⟨a, i, F.kp⟩, F.binds hb, ok F⟩
theorem mak_of (D : MethAt K C "__init__" qual st) (gC : mg x = some (.ref C)) (mk : PySem.W.makesIn K C = true) (kc : PySem.W.keepIn K (.ref C) = true) (hb : BindsSt "__init__" qual st ps) (ok : ∀ {f : Addr} {fd : FuncData}, Fun K "__init__" qual st f fd → FnOk P w K mg base (L2.CX P w) k f fd ps sp) : Mak P w K mg base k x C sp := by
  obtain ⟨f, fd, a, i, F⟩ := D
  exact ⟨f, fd, ps, gC, ⟨mk, a, i, kc⟩, F.binds hb, ok F⟩
def KwSt (x qual : Str) (st : Stmt) (ps ks : List Str) (pm : {α : Type} → List α → List α) : Prop := ∀ (kV doc pm' : Value) (an : Option Addr) (cdv ct : Value) (u : Value) (ws : List Value), ws.length = ks.length → bindArgs (PySem.W.fnOf x qual (defArgs st) (defBody st) (defScope st) .none kV doc pm' an cdv ct) ⟨[u], ks.zip ws⟩ = pure (ps.zip (u :: pm ws))
theorem swap2_vals {zs : List V} {ws : List Value} (r : Vals zs ws) : Vals (swap2 zs) (swap2 ws) := by
  cases r with
  | nil => exact .nil
  | cons h1 r1 =>
    cases r1 with
    | nil => exact .cons h1 .nil
    | cons h2 r2 =>
      cases r2 with
      | nil => exact .cons h2 (.cons h1 .nil)
      | cons h3 r3 => exact .cons h1 (.cons h2 (.cons h3 r3))
theorem makK_of {ks : List Str} (D : MethAt K C "__init__" qual st) (gC : mg x = some (.ref C)) (mk : PySem.W.makesIn K C = true) (kc : PySem.W.keepIn K (.ref C) = true) (hb : KwSt "__init__" qual st ps ks swap2) (ok : ∀ {f : Addr} {fd : FuncData}, Fun K "__init__" qual st f fd → FnOk P w K mg base (L2.CX P w) k f fd ps sp) : MakK P w K mg base k x C ks swap2 sp := by
  obtain ⟨f, fd, a, i, F⟩ := D
  obtain ⟨oc, od, kV, doc, pm', an, cdv, ct, osl, rfl, lk, hcd⟩ := id F.ex
  exact ⟨f, _, ps, gC, ⟨mk, a, i, kc⟩, fun s u ws _ hl => .of_eq (hb kV doc pm' an cdv ct u ws hl), fun zs ws r _ => swap2_vals r, ok F⟩
def spLaw (K : PySem.W.Frag) : Sp := fun vs H Q _ => ∃ (a : Addr) (ns : List Int), vs = [.ref a] ∧ SqL K H a (ns.map V.int) ∧ ns.length ≤ 63 ∧ ∀ H', Q (.bl true) H'
end
theorem law_walk {l : PySem.W.OpenLaw} {k : Nat} {q : Program} {loose : List Str} {XP : (Str → Option Value) → Heap → Prop} {YP : World → Heap → Prop} {d : DefRec} {K : Params → PySem.W.Frag} {st : Stmt} {x : Str} (hn : l.most = some 63) (hdf : d.params.defaults = []) (hr : Room k callerA)
    (hY : ∀ (w : World) (h : Heap), YP w h → (K w.params).In h)
    (hb : ∀ (kV doc pm : Value) (an : Option Addr) (cdv ct : Value) (s : Shared) (u : Value), BindsTo s (PySem.W.fnOf d.name d.name (defArgs st) (defBody st) (defScope st) .none kV doc pm an cdv ct) ⟨[u], []⟩ [(x, u)])
    (F : ∀ (w : World) (mg : Str → Option Value) (h : Heap), (K w.params).In h → h.Ns mainGlobals mg → DefAt (K w.params) mg d.name d.name st ∧ ∀ {f : Addr} {fd : FuncData}, Fun (K w.params) d.name d.name st f fd → ∀ base : Heap, FnOk l.prog w (K w.params) mg base (L2.CX l.prog w) k f fd [x] (spLaw (K w.params))) :
    PySem.W.WalkO q loose XP YP l.row.toRowW d [] (fun f vs => PySem.call f vs) := by
  refine L2.walk_of (n := 63) (k := k) (x := x) (CX := fun w => L2.CX l.prog w) (sp := fun w => spLaw (K w.params)) hn (by decide) hdf hr hY (fun w mg fa h KX G hmg => ?_) (fun _ _ a ns hl _ hS => ⟨a, ns, rfl, hS, hl, fun _ => rfl⟩) fun _ _ _ _ _ ⟨_, _, _, _, _, _, _, _, _, _, _, _, z⟩ => z
  obtain ⟨⟨f, fd, a, Fn⟩, ok⟩ := F w mg h KX G
  have e := hmg.symm.trans a
  cases e
  obtain ⟨oc, od, kV, doc, pm, an, cdv, ct, osl, rfl, lk, hcd⟩ := id Fn.ex
  exact ⟨_, fun s u => hb kV doc pm an cdv ct s u, fun base _ _ => ok Fn base⟩
end MyL

set_option Elab.async false
set_option linter.all false
set_option maxRecDepth 100000
set_option maxHeartbeats 4000000
/-! The end, for error classes of one's own. -/
namespace PySem.ErrX
open PySem PySem.W PySem.Spec PyProof.Rows L2 PySem.ErrX HandSPX
/-- what the text of an error's __init__ says -/
def ErrSt (prog : Program) (qual : Str) (st : Stmt) (fs : List Str) : Prop :=
  ∃ (rest : List Stmt) (txt : Str) (j : Nat) (p0 p1 p2 p3 p4 p5 : Pos) (ar : Arg),
    defBody st = .Expr (.Call (.Attribute (.Call (.Name "super" p0) [] [] p1) "__init__" p2) [.Constant (.str txt) j p3] [] p4) p5 :: rest ∧
    (∀ env : Env, eval (.Call (.Attribute (.Call (.Name "super" p0) [] [] p1) "__init__" p2) [.Constant (.str txt) j p3] [] p4) env = (do
      let ov ← attributeBase (.Call (.Name "super" p0) [] [] p1) "__init__" env (eval (.Call (.Name "super" p0) [] [] p1) env)
      standAt p2.atName
      let (f, first) ← holding [ov] (getMethod ov "__init__" (do return (← importBound (.Call (.Name "super" p0) [] [] p1) env).getD true))
      callWith p4 f first (backTo p4 (starEach [.Constant (.str txt) j p3] env)) [])) ∧
    (prog.main.scope.names.lookup ("super" : Str)).isSome = false ∧
    ((defArgs st).posonlyargs ++ (defArgs st).args).head? = some ar ∧ ar.arg = "self" ∧
    (defScope st).kind = .function ∧ (defScope st).isCoroutine = false ∧ (defScope st).isGenerator = false ∧ (∀ x ∈ (defScope st).names, x.2 ≠ .cell) ∧ (defScope st).names.lookup ("super" : Str) = some .globalImplicit ∧ (defScope st).names.lookup ("__class__" : Str) = some .free ∧
    (defScope st).names.lookup ("self" : Str) = some .local ∧ (∀ f ∈ fs, (defScope st).names.lookup f = some .local) ∧ (("self" : Str) :: fs).Nodup ∧
    Asgs fs rest ∧ ∀ (doc pm : Value) (an : Option Addr) (cda : Addr) (ct : Value) (cc : Addr) (us : List Value), us.length = fs.length + 1 → bindArgs (ksFn "__init__" qual (defArgs st) (defBody st) (defScope st) .none .none doc pm an (.ref cda) ct cc) ⟨us, []⟩ = pure (((("self" : Str) :: fs)).zip us)
theorem fn_mk {prog : Program} {K : Frag} {C fI : Addr} {fs : List Str} {st : Stmt} {qual : Str} {oc : Value} {od : Option Addr} {doc pm : Value} {an : Option Addr} {cda : Addr} {ct : Value} {cc : Addr} {osl : Array (Option Value)} {ccl : Value} {cdd : Option Addr} {vs : Array Value} {ccs : Array (Option Value)} {file : Str} {tf : Tok} {cl : Value} {cld : Option Addr} {csl : Array (Option Value)}
    (S : ErrSt prog qual st fs) (l : K.lookup fI = some ⟨oc, od, .func (ksFn "__init__" qual (defArgs st) (defBody st) (defScope st) .none .none doc pm an (.ref cda) ct cc), osl⟩) (hc : codeIn K (.ref cda) qual = true) (l2 : K.lookup cda = some ⟨ccl, cdd, .fields vs, ccs⟩) (hv : vs[2]? = some (.str file tf)) (hf : ((prog.main.file : Str) == file) = true)
    (l3 : K.lookup cc = some ⟨cl, cld, .cell (some (.ref C)), csl⟩) :
    ∃ (oc : Value) (od : Option Addr) (qual : Str) (params : Arguments) (scope : Scope) (rest : List Stmt) (doc pm : Value) (an : Option Addr) (cda : Addr) (ct : Value) (cc : Addr) (osl : Array (Option Value)) (txt : Str) (j : Nat) (p0 p1 p2 p3 p4 p5 : Pos) (ar : Arg)
      (ccl : Value) (cdd : Option Addr) (vs : Array Value) (ccs : Array (Option Value)) (file : Str) (tf : Tok) (cl : Value) (cld : Option Addr) (csl : Array (Option Value)),
    K.lookup fI = some ⟨oc, od, .func (ksFn "__init__" qual params (.Expr (.Call (.Attribute (.Call (.Name "super" p0) [] [] p1) "__init__" p2) [.Constant (.str txt) j p3] [] p4) p5 :: rest) scope .none .none doc pm an (.ref cda) ct cc), osl⟩ ∧ codeIn K (.ref cda) qual = true ∧
    K.lookup cda = some ⟨ccl, cdd, .fields vs, ccs⟩ ∧ vs[2]? = some (.str file tf) ∧ ((prog.main.file : Str) == file) = true ∧ K.lookup cc = some ⟨cl, cld, .cell (some (.ref C)), csl⟩ ∧
    (∀ env : Env, eval (.Call (.Attribute (.Call (.Name "super" p0) [] [] p1) "__init__" p2) [.Constant (.str txt) j p3] [] p4) env = (do
      let ov ← attributeBase (.Call (.Name "super" p0) [] [] p1) "__init__" env (eval (.Call (.Name "super" p0) [] [] p1) env)
      standAt p2.atName
      let (f, first) ← holding [ov] (getMethod ov "__init__" (do return (← importBound (.Call (.Name "super" p0) [] [] p1) env).getD true))
      callWith p4 f first (backTo p4 (starEach [.Constant (.str txt) j p3] env)) [])) ∧
    (prog.main.scope.names.lookup ("super" : Str)).isSome = false ∧
    (params.posonlyargs ++ params.args).head? = some ar ∧ ar.arg = "self" ∧
    scope.kind = .function ∧ scope.isCoroutine = false ∧ scope.isGenerator = false ∧ (∀ x ∈ scope.names, x.2 ≠ .cell) ∧ scope.names.lookup ("super" : Str) = some .globalImplicit ∧ scope.names.lookup ("__class__" : Str) = some .free ∧
    scope.names.lookup ("self" : Str) = some .local ∧ (∀ f ∈ fs, scope.names.lookup f = some .local) ∧ (("self" : Str) :: fs).Nodup ∧
    Asgs fs rest ∧ ∀ us : List Value, us.length = fs.length + 1 → bindArgs (ksFn "__init__" qual params (.Expr (.Call (.Attribute (.Call (.Name "super" p0) [] [] p1) "__init__" p2) [.Constant (.str txt) j p3] [] p4) p5 :: rest) scope .none .none doc pm an (.ref cda) ct cc) ⟨us, []⟩ = pure (((("self" : Str) :: fs)).zip us) := by
  obtain ⟨rest, txt, j, p0, p1, p2, p3, p4, p5, ar, e, h1, h2, h3, h4, h5, h6, h7, h8, h9, h10, h11, h12, h13, h14, h15⟩ := S
  have h15' := h15 doc pm an cda ct cc
  rw [e] at l h15'
  exact ⟨oc, od, qual, defArgs st, defScope st, rest, doc, pm, an, cda, ct, cc, osl, txt, j, p0, p1, p2, p3, p4, p5, ar, ccl, cdd, vs, ccs, file, tf, cl, cld, csl, l, hc, l2, hv, hf, l3, h1, h2, h3, h4, h5, h6, h7, h8, h9, h10, h11, h12, h13, h14, h15'⟩
theorem err_mk {prog : Program} {K : Frag} {h : Heap} {mg : Str → Option Value} {x : Str} {C fI : Addr} {fs : List Str} {st : Stmt} {qual : Str} {oc : Value} {od : Option Addr} {doc pm : Value} {an : Option Addr} {cda : Addr} {ct : Value} {cc : Addr} {osl : Array (Option Value)} {ccl : Value} {cdd : Option Addr} {vs : Array Value} {ccs : Array (Option Value)} {file : Str} {tf : Tok} {cl : Value} {cld : Option Addr} {csl : Array (Option Value)}
    {nm q N bs bm sn sub ab col dd k0 k1 k2 k3 k5}
    (X : K.In h) (G : h.Ns mainGlobals mg) (S : ErrSt prog qual st fs) (gC : nsIn K mainGlobals x = some (some (.ref C))) (gS : nsIn K mainGlobals "super" = some none)
    (xL : K.lookup C = some (excClassObj nm q C N bs bm true sn sub ab col dd k0 k1 k2 k3 k5 "ValueError.__new__")) (xM : refsVE bm = true)
    (sa : findIn K (.ref C) "__setattr__" = some (some (.builtin "object.__setattr__"))) (no : ∀ f ∈ fs, findIn K (.ref C) f = some none) (iC : findIn K (.ref C) "__init__" = some (some (.ref fI))) (tC : typeIn K (.ref fI) = some (.type "function")) (kC : keepIn K (.ref C) = true)
    (exC : subIn K (.ref C) (.type "BaseException") = some true) (veC : subIn K (.ref C) (.type "ValueError") = some true) (tyC : typeIn K (.ref C) = some (.type "type")) (op : nsIn K cStatics "thirdparty.any" = some none) (al : ks_superIn K C C "__init__" = some (some (.builtin "ValueError.__init__"))) (slf : mroIn K C (.ref C) = some true)
    (l : K.lookup fI = some ⟨oc, od, .func (ksFn "__init__" qual (defArgs st) (defBody st) (defScope st) .none .none doc pm an (.ref cda) ct cc), osl⟩) (hc : codeIn K (.ref cda) qual = true) (l2 : K.lookup cda = some ⟨ccl, cdd, .fields vs, ccs⟩) (hv : vs[2]? = some (.str file tf)) (hf : ((prog.main.file : Str) == file) = true)
    (l3 : K.lookup cc = some ⟨cl, cld, .cell (some (.ref C)), csl⟩) : ErrTxt prog K mg x C fI fs :=
  ⟨mg_of X G gC, mg_none_of X G gS, ⟨nm, q, N, bs, bm, sn, sub, ab, col, dd, k0, k1, k2, k3, k5, xL, xM⟩, sa, no, iC, tC, kC, exC, veC, tyC, op, al, slf, fn_mk S l hc l2 hv hf l3⟩
theorem exck_mk {K : Frag} {D : Addr} (cl : (clsIn K D).isSome = true) (ga : findIn K (.ref D) "__getattribute__" = some (some (.builtin "BaseException.__getattribute__"))) (gg : findIn K (.ref D) "__getattr__" = some none) (sb : subIn K (.ref D) (.type "BaseException") = some true)
  (ca : findIn K (.ref D) "__class__" = some (some (.builtin "object.__class__"))) (cn : specialIn K (.builtin "object.__class__") "__get__" = some (some (.builtin "getset_descriptor.__get__"))) (ct : takesIn K (.builtin "object.__class__") = some true) (cm : mroIn K D (.type "object") = some true) : MyL.ExcK K D := ⟨cl, ga, gg, sb, ca, cn, ct, cm⟩
theorem int_has {K : Frag} {x : Str} (h : (fastLookup "int" x).isSome = true) : ∃ fo, findIn K (.type "int") x = some fo := Option.isSome_iff_exists.mp h
theorem num_mk {K : Frag} {C : Addr} {op : Operator} (sf : selfFirst K C = true) (r : findIn K (.ref C) (dunderR op.info.2) = some none) (it : subIn K (.type "int") (.ref C) = some false) (h1 : (fastLookup "int" (PySem.dunder op.info.2)).isSome = true) (h2 : (fastLookup "int" (dunderR op.info.2)).isSome = true) : MyL.NumC K C op := ⟨sf, r, it, int_has h1, int_has h2⟩
end PySem.ErrX

set_option Elab.async false
set_option linter.all false
set_option maxRecDepth 100000
set_option maxHeartbeats 4000000
/-! != by an own __eq__; properties. -/
namespace MyL
open PySem PySem.Spec PyProof.Rows L2
section
variable {prog : Program} {w : World} {A : Around} {E : Value → Shared → Prop} {s : Shared} {K : PySem.W.Frag} {x C L f : Addr} {h₀ : Heap} {m : Str → Option Value} {ox : Obj} {od : Option Obj} {name : Str} {b tb : Value}
theorem ifBound_B {M : Model} {args : List Value} {id : String} {Q : Option Value → Shared → Prop} (X : K.In s.heap) (I : PySem.W.InstAt s.heap x ox C od) (hs : PySem.W.findIn K (.ref C) name = some (some (.builtin id))) (hb : ∀ self, bindSpecial (.builtin id) self = pure (.builtin id, [self]))
    (h : wpAny M A (call (.builtin id) (.ref x :: args)) (fun v => Q (some v)) E s) : wpAny M A (callSpecialIfBound? (.ref x) name args) Q E s := by
  simp only [callSpecialIfBound?, bindSpecialIfBound?]
  refine wpAny_holding (wpAny_bind (wpAny_bind (wpAny_bind (I.type.here ((PySem.W.looks_findIn X hs).here ?_)))))
  simp only [hb]
  refine wpAny_bind (wpAny_askSetting (wpAny_ite ?_))
  have fin : wpAny M A (call (.builtin id) ([.ref x] ++ args) >>= fun v => pure (some v)) Q E s := wpAny_bind (wpAny_mono h (fun v s' h' => wpAny_pure h') fun _ _ h' => h')
  split
  · exact wpAny_bind (wpAny_pure (wpAny_pure fin))
  · exact wpAny_tryCatch (wpAny_bind (wpAny_pure (wpAny_pure fin)))
theorem objNe_own {Q : Fin → Shared → Prop} (hu : A.units < cLine) (X : K.In s.heap) (I : PySem.W.InstAt s.heap x ox C od) (hs : PySem.W.findIn K (.ref C) "__eq__" = some (some (.ref f))) (hf : PySem.W.isFn K (.ref f) = true)
    (hcall : wpAny (model prog w) A (call (.ref f) [.ref x, b]) (fun v s' => ∃ c, v = .bool c ∧ Q (.done (.ret (.bool (!c)))) s') E s) :
    wpAny (model prog w) A (Builtin.«object.__ne__» ⟨[.ref x, b], []⟩) Q E s := by
  unfold Builtin.«object.__ne__»
  repeat (first
    | with_reducible refine wpAny_cRoomFor hu ?_
    | (refine wpAny_bind (m := callSpecialIfBound? (.ref x) (Str.ofString "__eq__") [b])
        (PySem.W.ifBound_K X I hs hf (wpAny_mono hcall (fun r s' hr => by
          obtain ⟨c, rfl, hq⟩ := hr
          repeat (first | exact hq | exact wpAny_pure hq | exact wpAny_truthy_bool hq | (refine wpAny_bind (m := truthy (.bool _)) (wpAny_truthy_bool ?_)) | wp_step)) fun _ _ e => e)))
    | wp_step)
theorem ne_own {Q : Value → Shared → Prop} (hu : A.units + 1 < cLine) (X : K.In s.heap) (I : PySem.W.InstAt s.heap x ox C od) (hb : PySem.W.Looks (model prog w) s.heap (typeOf b) (.ref C)) (hn : PySem.W.findIn K (.ref C) "__ne__" = some (some (.builtin "object.__ne__"))) (hm : PySem.W.mroIn K C (.type "object") = some true)
    (hs : PySem.W.findIn K (.ref C) "__eq__" = some (some (.ref f))) (hf : PySem.W.isFn K (.ref f) = true)
    (hcall : wpAny (model prog w) A.in1 (call (.ref f) [.ref x, b]) (fun v s' => ∃ c, v = .bool c ∧ Q (.bool (!c)) s') E s) : wpAny (model prog w) A (richCompare .NotEq (.ref x) b) Q E s := by
  have one : wpAny (model prog w) A (tryCompare (.ref x) "__ne__" b) (fun r s' => ∃ v, r = some v ∧ Q v s') E s := by
    unfold tryCompare
    refine wpAny_bind (ifBound_B X I hn F.cmp_object.ne.bind (wpAny_call (codeAny_call_builtin F.cmp_object.ne.plain F.cmpEntry_ne (@PySem.W.check_slot (model prog w) _ _ s "object.__ne__" "object" "__ne__" (.ref x) [b] [] _ F.cmpKind_ne F.cmpSplit_ne (I.type.andThen (PySem.W.looks_mroIn X hm)) (F.cmpArgs_ne _ _)
      (objNe_own (A := A.in1) hu X I hs hf (wpAny_mono hcall (fun v s' hv => ?_) fun _ _ e => e))))))
    obtain ⟨c, rfl, hq⟩ := hv
    exact ⟨c, rfl, wpAny_pure ⟨_, rfl, hq⟩⟩
  unfold richCompare
  simp only [oneThing_ref]
  refine wpAny_holding (wpAny_bind (wpAny_cRoomFor (Nat.lt_of_succ_lt hu) ?_))
  rw [cmpInfo_NotEq]
  dsimp only
  refine wpAny_bind (I.type.here (wpAny_bind (hb.here ?_)))
  rw [show (Value.ref C != Value.ref C) = false from by simp]
  simp only [Bool.false_eq_true, if_false]
  refine wpAny_bind (wpAny_pure ?_)
  simp only [Bool.false_eq_true, if_false]
  refine wpAny_bind (wpAny_mono one (fun r s' z => ?_) fun _ _ e => e)
  obtain ⟨v, rfl, hq⟩ := z
  exact wpAny_pure hq
end
def rOwnNe (C : Addr) (sp : Sp) : R2 := fun x y H Q => ∃ a dx fs b dy gs, x = .ref a ∧ y = .ref b ∧ H a = some (.ins C dx fs) ∧ H b = some (.ins C dy gs) ∧ sp [.ref a, .ref b] H (fun v H' => ∃ c, v = .bl c ∧ Q (.bl (!c)) H') (fun _ _ _ => False)
structure NeC (K : PySem.W.Frag) (C : Addr) : Prop where
  ne : PySem.W.findIn K (.ref C) "__ne__" = some (some (.builtin "object.__ne__"))
  mro : PySem.W.mroIn K C (.type "object") = some true
section
variable {X : Cx} {W : WX} {k j : Nat} {C : Addr} {sp : Sp}
theorem c_ne (c : Spc X.prog X.w X.K X.mg X.base k C "__eq__" sp) (n : NeC X.K C) (hr : Room j X.A) (hk : k + 1 ≤ j) : OpR X (compareOp .NotEq) (rOwnNe C sp) := by
  intro pins s σ H x y v u Q I rx ry h
  obtain ⟨f, hs, hf, F⟩ := c.ex
  obtain ⟨p, dx, fs, p2, dy, gs, rfl, rfl, hp, hp2, hsp⟩ := h
  obtain rfl : v = Value.ref p := rx
  obtain rfl : u = Value.ref p2 := ry
  obtain ⟨mA, J, _⟩ := ins_get I.hok hp
  obtain ⟨od, J, _⟩ := J.look
  obtain ⟨mB, J', _⟩ := ins_get I.hok hp2
  obtain ⟨od', J', _⟩ := J'.look
  show wpAny _ _ (richCompare .NotEq (.ref p) (.ref p2)) _ _ _
  refine ne_own (Nat.lt_of_le_of_lt (Nat.add_le_add_left (by decide : 1 ≤ 64) _) hr.units) I.kIn J J'.type n.ne n.mro hs hf ?_
  have z := run_S (A := X.A.in1) (W := fun _ _ _ _ => False) (us := [.ref p, .ref p2]) (vs := [.ref p, .ref p2]) F takes0 (hr.mono hk).in1 I.env0.in1 I (.cons rfl (.cons rfl .nil)) hsp
  refine wpAny_mono (wpAny_call z) (fun w s' z => ?_) fun _ _ x => x
  obtain ⟨z', H', I', rz, c, ec, qz⟩ := z
  subst ec
  exact ⟨c, rz, .bl (!c), H', I', rfl, qz⟩
end
end MyL
namespace MyL
open PySem PySem.Spec PyProof.Rows L2
/-- a property of the class at C -/
structure Prp (P : Program) (w : World) (K : PySem.W.Frag) (mg : Str → Option Value) (base : Heap) (k : Nat) (C : Addr) (f : Str) (sp : Sp) : Prop where
  ex : ∃ (p g : Addr) (fd : FuncData) (ps : List Str), Cls K C ∧ PropOf K C f p g ∧ Binds K fd ps [] ∧ FnOk P w K mg base (L2.CX P w) k g fd ps sp
section
variable {X : Cx} {k j : Nat} {C : Addr} {sp : Sp} {f : Str} {e : Expr} {ta : TE} {pos : Pos}
theorem c_prop (c : Prp X.prog X.w X.K X.mg X.base k C f sp) (hr : Room j X.A) (hk : k + 1 ≤ j) (he : PE X e ta) (hab : attributeBase e f X.env (eval e X.env) = eval e X.env := by rfl) : PE X (.Attribute e f pos) (tProp C sp [] (fun _ _ _ => False) ta) := by
  obtain ⟨p, g, fd, ps, cl, hp, hb, F⟩ := c.ex
  exact pe_prop he cl hp F (hr.mono hk) hb .nil (fun _ _ _ _ _ _ _ ⟨_, _, _, _, _, _, _, _, _, _, _, _, z⟩ => z.elim) hab
end
section
variable {σ : L2.St} {H : Hp} {Q : VK} {C : Addr} {sp : Sp} {ta : TE} {K : PySem.W.Frag} {E : XK}
theorem k_prop0 (h : ta σ H fun x H1 => ∃ a dx fs, x = .ref a ∧ H1 a = some (.ins C dx fs) ∧ sp [.ref a] H1 Q E) : tProp C sp [] E ta σ H Q := h
theorem k_prop {a dx : Addr} {fs : List (Str × V)} (h : H a = some (.ins C dx fs)) (q : sp [.ref a] H Q E) : ∃ a' dx' fs', V.ref a = .ref a' ∧ H a' = some (.ins C dx' fs') ∧ sp [.ref a'] H Q E := ⟨a, dx, fs, rfl, h, q⟩
theorem k_ownNe {a dx b dy : Addr} {fs gs : List (Str × V)} (h1 : H a = some (.ins C dx fs)) (h2 : H b = some (.ins C dy gs)) (q : sp [.ref a, .ref b] H (fun v H' => ∃ c, v = .bl c ∧ Q (.bl (!c)) H') (fun _ _ _ => False)) : rOwnNe C sp (.ref a) (.ref b) H Q := ⟨a, dx, fs, b, dy, gs, rfl, rfl, h1, h2, q⟩
theorem k_neBack {PB : Bool → Prop} {c : Bool} (q : PB c) : ∃ c', V.bl c = .bl c' ∧ PB c' := ⟨c, rfl, q⟩
theorem beq_dec {i k : Int} : (i == k) = decide (i = k) := rfl
theorem k_eqP {a b : Addr} {i j k l : Int} (h1 : H a = some (.tup [.int i, .int j])) (h2 : H b = some (.tup [.int k, .int l])) (q : Q (.bl (decide (i = k) && decide (j = l))) H) : rEqD K (.ref a) (.ref b) H Q := by
  refine ⟨.tuple [.int i, .int j], .tuple [.int k, .int l], .tup (SqT.of h1) (.cons (.int _) (.cons (.int _) .nil)), .tup (SqT.of h2) (.cons (.int _) (.cons (.int _) .nil)), rfl, rfl, ?_⟩
  have : PyData.eqv (.tuple [.int i, .int j]) (.tuple [.int k, .int l]) = (decide (i = k) && decide (j = l)) := by
    simp only [PyData.eqv, PyData.eqvAll, Bool.and_true]
    rfl
  rw [this]; exact q
theorem k_neP {a b : Addr} {i j k l : Int} (h1 : H a = some (.tup [.int i, .int j])) (h2 : H b = some (.tup [.int k, .int l])) (q : Q (.bl (!(decide (i = k) && decide (j = l)))) H) : rNeD K (.ref a) (.ref b) H Q := by
  refine ⟨.tuple [.int i, .int j], .tuple [.int k, .int l], .tup (SqT.of h1) (.cons (.int _) (.cons (.int _) .nil)), .tup (SqT.of h2) (.cons (.int _) (.cons (.int _) .nil)), rfl, rfl, ?_⟩
  have : PyData.eqv (.tuple [.int i, .int j]) (.tuple [.int k, .int l]) = (decide (i = k) && decide (j = l)) := by
    simp only [PyData.eqv, PyData.eqvAll, Bool.and_true]
    rfl
  rw [this]; exact q
end
end MyL

set_option Elab.async false
set_option linter.all false
set_option maxRecDepth 100000
set_option maxHeartbeats 4000000
namespace MyL
open PySem PySem.Spec PyProof.Rows L2
def PropAt (K : PySem.W.Frag) (C : Addr) (m qual : Str) (st : Stmt) : Prop := ∃ (p g : Addr) (fd : FuncData), PropOf K C m p g ∧ Fun K m qual st g fd
section
variable {P : Program} {w : World} {K : PySem.W.Frag} {mg : Str → Option Value} {base h : Heap} {k : Nat} {C f p : Addr} {x m qual : Str} {sp : Sp} {st : Stmt} {fd : FuncData} {ps : List Str} {oc : Value} {od an : Option Addr} {osl : Array (Option Value)} {kV doc pm cdv ct : Value} {rest : List Value}
theorem gprop (a : PySem.W.findIn K (.ref C) m = some (some (.ref p))) (g : PySem.W.specialIn K (.ref p) "__get__" = some (some (.builtin "property.__get__"))) (t : PySem.W.takesIn K (.ref p) = some true) (r : PySem.W.recIn K p "property" = some (.ref f :: rest))
    (l : K.lookup f = some ⟨oc, od, .func (PySem.W.fnOf m qual (defArgs st) (defBody st) (defScope st) .none kV doc pm an cdv ct), osl⟩)
    (c : PySem.W.codeIn K cdv qual = true) (kp : PySem.W.keepIn K (.ref f) = true) : PropAt K C m qual st := ⟨p, f, _, ⟨a, g, t, rest, r⟩, fun_mk l c kp⟩
theorem prp_of (D : PropAt K C m qual st) (cl : Cls K C) (hb : BindsSt m qual st ps) (ok : ∀ {f : Addr} {fd : FuncData}, Fun K m qual st f fd → FnOk P w K mg base (L2.CX P w) k f fd ps sp) : Prp P w K mg base k C m sp := by
  obtain ⟨p, f, fd, a, F⟩ := D
  exact ⟨p, f, fd, ps, cl, a, F.binds hb, ok F⟩
end
section
variable {σ : L2.St} {H : Hp} {Q : VK} {K : PySem.W.Frag} {p : Addr} {xs : List V}
theorem k_chain {r r' : R2} {ta tb tc : TE} (h : ta σ H fun x H1 => tb σ H1 fun y H2 => r x y H2 fun z H3 => ∃ k, z = .bl k ∧ (if k = true then tc σ H3 fun w' H4 => r' y w' H4 Q else Q (.bl false) H3)) : tChain r r' ta tb tc σ H Q := h
/-- an item of a list of whole numbers, each within R -/
theorem k_ixAll {R : Int → Prop} {j : Int} (h : H p = some (.lst xs)) (h0 : 0 ≤ j) (h1 : j < xs.length) (hR : ∀ x ∈ xs, ∃ n : Int, x = .int n ∧ R n) (q : ∀ n, R n → Q (.int n) H) : rIxL K (.ref p) (.int j) H Q := by
  obtain ⟨i, rfl⟩ := Int.eq_ofNat_of_zero_le h0
  have hi : i < xs.length := by omega
  obtain ⟨n, e, hn⟩ := hR _ (List.getElem_mem hi)
  exact ⟨p, xs, (i : Int), .int n, rfl, rfl, SqL.of h, atI_nat (by rw [List.getElem?_eq_getElem hi, e]), q n hn⟩
theorem k_ixAllT {R : Int → Prop} {j : Int} (h : H p = some (.tup xs)) (h0 : 0 ≤ j) (h1 : j < xs.length) (hR : ∀ x ∈ xs, ∃ n : Int, x = .int n ∧ R n) (q : ∀ n, R n → Q (.int n) H) : rIxT K (.ref p) (.int j) H Q := by
  obtain ⟨i, rfl⟩ := Int.eq_ofNat_of_zero_le h0
  have hi : i < xs.length := by omega
  obtain ⟨n, e, hn⟩ := hR _ (List.getElem_mem hi)
  exact ⟨p, xs, (i : Int), .int n, rfl, rfl, SqT.of h, atI_nat (by rw [List.getElem?_eq_getElem hi, e]), q n hn⟩
end
end MyL

set_option Elab.async false
set_option linter.all false
set_option maxRecDepth 100000
set_option maxHeartbeats 4000000
namespace MyL
open PySem PySem.Spec PyProof.Rows L2
section
variable {K : PySem.W.Frag} {D dd a C1 C2 C3 C4 : Addr} {H : Hp} {Q : VK} {fs : List (Str × V)} {b : Bool}
theorem k_isX4 {tp : Addr} (hD : ExcK K D) (hd : H dd = some (.xd fs)) (ht : H tp = some (.tup [.ref C1, .ref C2, .ref C3, .ref C4])) (e : PySem.W.kitAny K (.ref D) [.ref C1, .ref C2, .ref C3, .ref C4] = some b) (q : Q (.bl b) H) : rIsXT K (.ref D) (some dd) a [.ref a, .ref tp] H Q :=
  ⟨D, tp, _, _, b, rfl, hD, ⟨fs, hd⟩, rfl, ht, .cons (.own C1) (.cons (.own C2) (.cons (.own C3) (.cons (.own C4) .nil))), e, q⟩
theorem k_ixT2 {p : Addr} {i j n : Int} (h : H p = some (.tup [.int i, .int j])) (h0 : 0 ≤ n) (h1 : n < 2) (q : ∀ m, m = i ∨ m = j → Q (.int m) H) : rIxT K (.ref p) (.int n) H Q :=
  k_ixAllT (R := fun m => m = i ∨ m = j) h h0 (by simpa using h1) (fun x hx => by simp at hx; rcases hx with rfl | rfl <;> exact ⟨_, rfl, by simp⟩) q
theorem Mem.atB {B : Hp} {f l : List (Addr × HO)} {o : HO} (M : Mem B [] H f l) (h : B a = some o) : H a = some o := Same.of_keep M a o h
theorem xdH {g : Str} {v : V} {l : List (Str × V)} : List.lookup g ((g, v) :: l) = some v := by simp [List.lookup]
end
end MyL

set_option Elab.async false
set_option linter.all false
set_option maxRecDepth 100000
set_option maxHeartbeats 4000000
/-! Static methods by the class; own errors without own __init__. -/
namespace MyL
open PySem PySem.Spec PyProof.Rows L2
/-- C.m is a staticmethod: its record at p, its def at g -/
structure StaOf (K : PySem.W.Frag) (C : Addr) (m : Str) (p g : Addr) : Prop where
  ga : PySem.W.specialIn K (.ref C) "__getattribute__" = some (some (.builtin "type.__getattribute__"))
  rd : PySem.W.readsIn K C (.type "type") = true
  at_ : PySem.W.findCls K (.ref C) (.type "type") m = some (.get (.builtin "staticmethod.__get__") (.ref p) .none (.ref C))
  rc : ∃ rest, PySem.W.recIn K p "staticmethod" = some (.ref g :: rest)
  kp : PySem.W.keepIn K (.ref g) = true
structure Sta (P : Program) (w : World) (K : PySem.W.Frag) (mg : Str → Option Value) (base : Heap) (k : Nat) (C : Addr) (m : Str) (sp : Sp) : Prop where
  ex : ∃ (p g : Addr) (fd : FuncData) (ps : List Str), StaOf K C m p g ∧ Binds K fd ps [] ∧ FnOk P w K mg base (L2.CX P w) k g fd ps sp
def tSta (C : Addr) (sp : Sp) (W : WX) (ta : TE) (t : TA) : TE := fun σ H Q => ta σ H fun x H1 => x = .ref C ∧ t σ H1 fun vs H2 => sp vs H2 Q (WE W σ)
section
variable {X : Cx} {W : WX} {k j : Nat} {C : Addr} {sp : Sp} {x m : Str} {p pos apos : Pos} {e o : Expr} {es : List Expr} {ta : TE} {t : TA}
theorem c_sta {pl : Sem Bool} (c : Sta X.prog X.w X.K X.mg X.base k C m sp) (tk : Takes X W) (hr : Room j X.A) (hk : k ≤ j) (ho : PE X o ta) (ha : PA X (e :: es) t)
    (hst : starEach (e :: es) X.env = (false, eval e X.env) :: starEach es X.env := by rfl) (hpl : (backTo pos (starEach es X.env)).any (·.1) = false := by rfl)
    (ht : eval (.Call (.Attribute o m apos) (e :: es) [] pos) X.env = (do
      let ov ← eval o X.env
      standAt apos.atName
      let (f, first) ← holding [ov] (getMethod ov m pl)
      callWith pos f first (backTo pos (starEach (e :: es) X.env)) (backToKw pos (keywordEach [] X.env))) := by rfl) :
    PE X (.Call (.Attribute o m apos) (e :: es) [] pos) (tSta C sp W ta t) := by
  obtain ⟨p, g, fd, ps, hm, b, F⟩ := c.ex
  obtain ⟨rest, hrec⟩ := hm.rc
  refine ⟨fun pins s σ H Q I h => ?_⟩
  refine PySem.W.methodCall_KW (pl := pl) (thn (ho.run pins s σ H _ I h) fun u s1 hh => ?_) ht
  obtain ⟨x, H1, I1, rx, ex, q⟩ := hh
  subst ex
  obtain rfl : u = Value.ref C := rx
  have I1' := I1.tok (s1.toks + 1)
  refine PySem.W.method_cls I1.kIn hm.ga (PySem.W.cls_bind I1.kIn hm.rd hm.at_ (wpAny_call (PySem.W.sm_get (s := { s1 with toks := s1.toks + 1 }) I1.kIn hrec (PySem.W.handed_on rfl ?_))))
  refine PySem.W.callWith_K (first := []) (h₀ := X.base) I.ok.mod.kin hm.kp (thn (ha.run pos pins _ σ H1 _ I1' q) fun us s2 hh => ?_) hst hpl
  obtain ⟨vs, H2, I2, r, q2⟩ := hh
  exact ⟨I2.kIn, run_fnS (E := WE W) (us := us) (vs := vs) F (hr.mono hk) b (passAt tk σ) I2 r q2⟩
end
/-- an own error whose class has no __init__ of its own -/
structure PlainErr (K : PySem.W.Frag) (mg : Str → Option Value) (x : Str) (C : Addr) : Prop where
  gC : mg x = some (.ref C)
  kC : PySem.W.keepIn K (.ref C) = true
  exc : PySem.W.excIn K C [.type "ValueError", .type "Exception", .type "BaseException", .type "object"] "ValueError.__new__" = true
  sb : PySem.W.subIn K (.ref C) (.type "BaseException") = some true
  ty : PySem.W.typeIn K (.ref C) = some (.type "type")
theorem pmk_plain0 {X : Cx} {x : Str} {C : Addr} {p pos : Pos} (T : PlainErr X.K X.mg x C) (hg : Gl X x := by rfl) (hdb : (x == ("__debug__" : Str)) = false := by decide) : PMk X (.Call (.Name x p) [] [] pos) (fun _ H Q => Q (.ref C) none H) := by
  intro pins s σ H Q I h
  refine wpAny_Call_Name_kw (ld_glob I hg T.gC (PySem.W.callWith_K0 I.kIn T.kC ?_) hdb)
  obtain ⟨bm, N, nm, qn, bs, hdct, sn, sub, ab, col, dd, k0, k1, k2, k3, k5, mN, hC, hN, hni, T'⟩ := exc_obj I.kIn T.exc
  refine wpAny_call_exc_subT PySem.F.excBase_ValueError T' hC hN hni (fun h' e hm => ?_) (Nat.zero_le _)
  exact mk_of I hm (raises_own T.sb T.ty) h (I.hok.gone hm.new)
section
variable {K : PySem.W.Frag} {D a C1 C2 C3 C4 : Addr} {H : Hp} {Q : VK} {b : Bool}
theorem k_isX0o (hD : ExcK K D) (e : PySem.W.kitOne K (.ref D) (.ref C1) = some b) (q : Q (.bl b) H) : rIsX K (.ref D) none a [.ref a, .ref C1] H Q := ⟨D, _, _, b, rfl, hD, trivial, rfl, .own C1, e, q⟩
theorem k_isX0s (hD : ExcK K D) (q : Q (.bl true) H) : rIsX K (.ref D) none a [.ref a, .ref D] H Q := k_isX0o hD (by simp [PySem.W.kitOne]) q
theorem k_isX0t {n : String} (hD : ExcK K D) (e : PySem.W.kitOne K (.ref D) (.type n) = some b) (q : Q (.bl b) H) : rIsX K (.ref D) none a [.ref a, .ty n] H Q := ⟨D, _, _, b, rfl, hD, trivial, rfl, .ty n, e, q⟩
theorem k_isX04 {tp : Addr} (hD : ExcK K D) (ht : H tp = some (.tup [.ref C1, .ref C2, .ref C3, .ref C4])) (e : PySem.W.kitAny K (.ref D) [.ref C1, .ref C2, .ref C3, .ref C4] = some b) (q : Q (.bl b) H) : rIsXT K (.ref D) none a [.ref a, .ref tp] H Q :=
  ⟨D, tp, _, _, b, rfl, hD, trivial, rfl, ht, .cons (.own C1) (.cons (.own C2) (.cons (.own C3) (.cons (.own C4) .nil))), e, q⟩
end
section
variable {σ : L2.St} {H : Hp} {Q : VK} {C : Addr} {sp : Sp} {W : WX} {ta : TE} {t : TA}
theorem k_sta0 (h : ta σ H fun x H1 => x = .ref C ∧ t σ H1 fun vs H2 => sp vs H2 Q (WE W σ)) : tSta C sp W ta t σ H Q := h
theorem k_sta {PR : Prop} (q : PR) : V.ref C = .ref C ∧ PR := ⟨rfl, q⟩
end
end MyL

set_option Elab.async false
set_option linter.all false
set_option maxRecDepth 100000
set_option maxHeartbeats 4000000
/-! min and max of a list or a tuple of whole numbers. -/
namespace MyL
open PySem PySem.Spec PyProof.Rows L2
section
variable {prog : Program} {w : World} {A : Around} {E : Value → Shared → Prop} {s : Shared} {l : Addr} {xs : Array (Int × Tok)}
theorem iter_intTup {Q : Value → Shared → Prop} (hl : s.heap.IsTuple l (intItems xs))
    (h : ∀ s₂ : Shared, s₂ = { s with heap := s.heap.push { cls := .type "tuple_iterator", data := .fields #[.ref l, .int 0 0] } } →
      (s₂.heap.IsTupleIter s.heap.objs.size l 0 ∧ s₂.heap.IsTuple l (intItems xs)) → (∀ b ∈ [s.heap.objs.size, l], b < s₂.heap.objs.size) → l ≠ s.heap.objs.size → Q (.ref s.heap.objs.size) s₂) :
    wpAny (model prog w) A (pyIter (.ref l)) Q E s := by
  have hlt : l < s.heap.objs.size := by obtain ⟨_, e, _⟩ := hl; exact Heap.lt_size e
  refine wpAny_pyIter_tuple hl (h _ rfl ⟨⟨_, Heap.get?_push_size _ rfl, rfl, rfl⟩, hl.push _⟩ (fun b hb => ?_) (Nat.ne_of_lt hlt))
  show b < (s.heap.push _).objs.size
  rw [Heap.size_push]
  rcases List.mem_cons.mp hb with rfl | hb
  · exact Nat.lt_succ_self _
  · rcases List.mem_cons.mp hb with rfl | hb
    · exact Nat.lt_succ_of_lt hlt
    · cases hb
theorem old_keptT {o0 : Obj} {h' : Heap} (hk : ∀ b o, b ∉ [s.heap.objs.size] → (s.heap.push o0).get? b = some o → h'.get? b = some o) :
    ∀ b o, s.heap.get? b = some o → h'.get? b = some o := fun b o e => by
  refine hk b o (fun hm => ?_) (Heap.get?_push_of_some _ e)
  rcases List.mem_cons.mp hm with e1 | hm
  · exact absurd (e1 ▸ Heap.lt_size e) (Nat.lt_irrefl _)
  · cases hm
theorem max_intTup {Q : Value → Shared → Prop} (hh : A.handled = none) (hl : s.heap.IsTuple l (intItems xs)) (hne : 0 < xs.size)
    (h : ∀ v h' tk, (intItems xs)[argBest (fun i j => decide (numAt xs i > numAt xs j)) (xs.size - 1)]? = some v → (∀ b o, s.heap.get? b = some o → h'.get? b = some o) → Q v { s with heap := h', toks := tk }) :
    wpAny (model prog w) A (call (.builtin "max") [.ref l]) Q E s := by
  refine call_max_walk (iter_intTup hl fun s₂ e st hfp hlI => ?_)
  subst e
  refine ⟨_, _, _, _, _, _, _, rfl, Walks.tuple (A := A.in1) hh _ l hlI (intItems xs), st, hfp, by simpa [intItems] using hne, CmpOf.ints_gt (numAt xs) (fun _ _ => intItems_at), fun v h' tk hP hk => ?_⟩
  exact h v h' tk (by simpa [intItems] using hP) (old_keptT hk)
theorem min_intTup {Q : Value → Shared → Prop} (hh : A.handled = none) (hl : s.heap.IsTuple l (intItems xs)) (hne : 0 < xs.size)
    (h : ∀ v h' tk, (intItems xs)[argBest (fun i j => decide (numAt xs i < numAt xs j)) (xs.size - 1)]? = some v → (∀ b o, s.heap.get? b = some o → h'.get? b = some o) → Q v { s with heap := h', toks := tk }) :
    wpAny (model prog w) A (call (.builtin "min") [.ref l]) Q E s := by
  refine call_min_walk (iter_intTup hl fun s₂ e st hfp hlI => ?_)
  subst e
  refine ⟨_, _, _, _, _, _, _, rfl, Walks.tuple (A := A.in1) hh _ l hlI (intItems xs), st, hfp, by simpa [intItems] using hne, CmpOf.ints_lt (numAt xs) (fun _ _ => intItems_at), fun v h' tk hP hk => ?_⟩
  exact h v h' tk (by simpa [intItems] using hP) (old_keptT hk)
theorem max_rawT {its : List Value} {ns : List Int} {Q : Value → Shared → Prop} (hh : A.handled = none) (hl : s.heap.IsTuple l its.toArray) (hi : IntsAre its ns) (hne : 0 < ns.length)
    (h : ∀ h' tk M t', (∀ b o, s.heap.get? b = some o → h'.get? b = some o) → M ∈ ns → (∀ a, a ∈ ns → a ≤ M) → Q (.int M t') { s with heap := h', toks := tk }) : wpAny (model prog w) A (call (.builtin "max") [.ref l]) Q E s := by
  obtain ⟨xs, e⟩ := hi.allInts.items
  have hn : numsOf (intItems xs).toList = ns := by rw [← e]; exact hi.numsOf
  rw [nums_intItems] at hn
  subst hn
  rw [e] at hl
  have hsz : 0 < xs.size := by simpa using hne
  refine max_intTup hh hl hsz fun v h' tk hv hk => ?_
  obtain ⟨t, rfl⟩ := intItems_at hv
  obtain ⟨h1, h2⟩ := argBest_gt (numAt xs) (xs.size - 1)
  refine h h' tk _ t hk ?_ fun a ha => ?_
  · rw [numAt_eq]; exact PySem.getD_mem (by rw [List.length_map, Array.length_toList]; omega)
  · obtain ⟨j, hj, rfl⟩ := mem_getD ha
    rw [List.length_map, Array.length_toList] at hj
    rw [← numAt_eq]; exact h2 j (by omega)
theorem min_rawT {its : List Value} {ns : List Int} {Q : Value → Shared → Prop} (hh : A.handled = none) (hl : s.heap.IsTuple l its.toArray) (hi : IntsAre its ns) (hne : 0 < ns.length)
    (h : ∀ h' tk M t', (∀ b o, s.heap.get? b = some o → h'.get? b = some o) → M ∈ ns → (∀ a, a ∈ ns → M ≤ a) → Q (.int M t') { s with heap := h', toks := tk }) : wpAny (model prog w) A (call (.builtin "min") [.ref l]) Q E s := by
  obtain ⟨xs, e⟩ := hi.allInts.items
  have hn : numsOf (intItems xs).toList = ns := by rw [← e]; exact hi.numsOf
  rw [nums_intItems] at hn
  subst hn
  rw [e] at hl
  have hsz : 0 < xs.size := by simpa using hne
  refine min_intTup hh hl hsz fun v h' tk hv hk => ?_
  obtain ⟨t, rfl⟩ := intItems_at hv
  obtain ⟨h1, h2⟩ := argBest_lt (numAt xs) (xs.size - 1)
  refine h h' tk _ t hk ?_ fun a ha => ?_
  · rw [numAt_eq]; exact PySem.getD_mem (by rw [List.length_map, Array.length_toList]; omega)
  · obtain ⟨j, hj, rfl⟩ := mem_getD ha
    rw [List.length_map, Array.length_toList] at hj
    rw [← numAt_eq]; exact h2 j (by omega)
end
def rMaxQ (K : PySem.W.Frag) : List V → Hp → VK → Prop := fun vs H Q => ∃ (a : Addr) (ns : List Int), vs = [V.ref a] ∧ (SqL K H a (ns.map V.int) ∨ SqT K H a (ns.map V.int)) ∧ 0 < ns.length ∧ ∀ m, m ∈ ns → (∀ y, y ∈ ns → y ≤ m) → Q (.int m) H
def rMinQ (K : PySem.W.Frag) : List V → Hp → VK → Prop := fun vs H Q => ∃ (a : Addr) (ns : List Int), vs = [V.ref a] ∧ (SqL K H a (ns.map V.int) ∨ SqT K H a (ns.map V.int)) ∧ 0 < ns.length ∧ ∀ m, m ∈ ns → (∀ y, y ∈ ns → m ≤ y) → Q (.int m) H
section
variable {X : Cx}
theorem b_maxQ (hc : X.calm = true) : CallR X (.builtin "max") (rMaxQ X.K) := by
  intro pins s σ H vs us Q I r h
  obtain ⟨a, ns, rfl, hs | hs, hne, q⟩ := h
  · exact cr_max hc pins s σ H _ us Q I r ⟨a, ns, rfl, hs, hne, q⟩
  · obtain ⟨its, rv, hl, _⟩ := I.tuple hs
    rw [Vals.ref1 r]
    obtain ⟨o, ho, hc', n, hd⟩ := hl
    exact max_rawT (I.ok.hd hc) ⟨o, ho, hc', n, hd⟩ rv.ints hne fun h' tk m t' hk h1 h2 => ⟨.int _, H, I.kept hk, ⟨_, rfl⟩, q m h1 h2⟩
theorem b_minQ (hc : X.calm = true) : CallR X (.builtin "min") (rMinQ X.K) := by
  intro pins s σ H vs us Q I r h
  obtain ⟨a, ns, rfl, hs | hs, hne, q⟩ := h
  · exact cr_min hc pins s σ H _ us Q I r ⟨a, ns, rfl, hs, hne, q⟩
  · obtain ⟨its, rv, hl, _⟩ := I.tuple hs
    rw [Vals.ref1 r]
    obtain ⟨o, ho, hc', n, hd⟩ := hl
    exact min_rawT (I.ok.hd hc) ⟨o, ho, hc', n, hd⟩ rv.ints hne fun h' tk m t' hk h1 h2 => ⟨.int _, H, I.kept hk, ⟨_, rfl⟩, q m h1 h2⟩
end
end MyL

set_option Elab.async false
set_option linter.all false
set_option maxRecDepth 100000
set_option maxHeartbeats 4000000
/-! Steps for list methods, list(..), tuple(..), in, tests against [], comprehensions with a test. -/
namespace MyL
open PySem PySem.Spec PyProof.Rows L2
section
variable {X : Cx}
def rListOf (K : PySem.W.Frag) : List V → Hp → VK → Prop := fun xs H Q => ∃ p ys, xs = [.ref p] ∧ (SqL K H p ys ∨ SqT K H p ys) ∧ ∀ l, H l = none → Q (.ref l) (upd H l (.lst ys))
def rTupleOf (K : PySem.W.Frag) : List V → Hp → VK → Prop := fun xs H Q => ∃ p ys, xs = [.ref p] ∧ ((SqL K H p ys ∧ ∀ l, H l = none → Q (.ref l) (upd H l (.tup ys))) ∨ (SqT K H p ys ∧ Q (.ref p) H))
theorem b_listOf : CallR X (.type "list") (rListOf X.K) := call_list_of
theorem b_tupleOf : CallR X (.type "tuple") (rTupleOf X.K) := call_tuple_of
end
section
variable {σ : L2.St} {H : Hp} {Q : VK} {K : PySem.W.Frag} {T : String} {r : V → List V → Hp → VK → Prop} {to te : TE} {t : TA} {tt : TT} {B : Hp} {ms : List Addr} {f l : List (Addr × HO)} {p : Addr} {xs : List V} {y : V} {x0 x1 x2 x3 : Addr × HO} {vs : List Nat}
theorem k_bm (h : to σ H fun x H1 => tyV K T x H1 ∧ t σ H1 fun xs H2 => r x xs H2 Q) : tBM K T r to t σ H Q := h
theorem k_bm0 (h : to σ H fun x H1 => tyV K T x H1 ∧ r x [] H1 Q) : tBM0 K T r to σ H Q := h
theorem k_tyL {PR : Prop} (h : H p = some (.lst xs)) (q : PR) : tyV K "list" (.ref p) H ∧ PR := ⟨.inl ⟨rfl, xs, SqL.of h⟩, q⟩
theorem k_appL0 (M : Mem B ms H f ((p, .lst xs) :: l)) (hs : xs.length < sizeLine) (q : ∀ H', Mem B ms H' f ((p, .lst (xs ++ [y])) :: l) → Q .non H') : rAppend (.ref p) [y] H Q :=
  ⟨p, xs, y, rfl, rfl, M.getL List.mem_cons_self, hs, q _ (Mem.setL (l1 := []) M)⟩
theorem k_appL1 (M : Mem B ms H f (x0 :: (p, .lst xs) :: l)) (hs : xs.length < sizeLine) (q : ∀ H', Mem B ms H' f (x0 :: (p, .lst (xs ++ [y])) :: l) → Q .non H') : rAppend (.ref p) [y] H Q :=
  ⟨p, xs, y, rfl, rfl, M.getL (by simp), hs, q _ (Mem.setL (l1 := [x0]) M)⟩
theorem k_appL2 (M : Mem B ms H f (x0 :: x1 :: (p, .lst xs) :: l)) (hs : xs.length < sizeLine) (q : ∀ H', Mem B ms H' f (x0 :: x1 :: (p, .lst (xs ++ [y])) :: l) → Q .non H') : rAppend (.ref p) [y] H Q :=
  ⟨p, xs, y, rfl, rfl, M.getL (by simp), hs, q _ (Mem.setL (l1 := [x0, x1]) M)⟩
theorem k_appL3 (M : Mem B ms H f (x0 :: x1 :: x2 :: (p, .lst xs) :: l)) (hs : xs.length < sizeLine) (q : ∀ H', Mem B ms H' f (x0 :: x1 :: x2 :: (p, .lst (xs ++ [y])) :: l) → Q .non H') : rAppend (.ref p) [y] H Q :=
  ⟨p, xs, y, rfl, rfl, M.getL (by simp), hs, q _ (Mem.setL (l1 := [x0, x1, x2]) M)⟩
theorem k_revL0 (M : Mem B ms H f ((p, .lst xs) :: l)) (q : ∀ H', Mem B ms H' f ((p, .lst xs.reverse) :: l) → Q .non H') : rReverse (.ref p) [] H Q :=
  ⟨p, xs, rfl, rfl, M.getL List.mem_cons_self, q _ (Mem.setL (l1 := []) M)⟩
theorem k_revL1 (M : Mem B ms H f (x0 :: (p, .lst xs) :: l)) (q : ∀ H', Mem B ms H' f (x0 :: (p, .lst xs.reverse) :: l) → Q .non H') : rReverse (.ref p) [] H Q :=
  ⟨p, xs, rfl, rfl, M.getL (by simp), q _ (Mem.setL (l1 := [x0]) M)⟩
theorem k_listOf (M : Mem B ms H f l) (h : SqL K H p xs ∨ SqT K H p xs) (q : ∀ d H', Mem B ms H' f ((d, .lst xs) :: l) → Q (.ref d) H') : rListOf K [.ref p] H Q := ⟨p, xs, rfl, h, fun d hd => q d _ (M.alloc hd)⟩
theorem k_tupleOf (M : Mem B ms H f l) (h : SqL K H p xs) (q : ∀ d H', Mem B ms H' f ((d, .tup xs) :: l) → Q (.ref d) H') : rTupleOf K [.ref p] H Q := ⟨p, xs, rfl, .inl ⟨h, fun d hd => q d _ (M.alloc hd)⟩⟩
theorem k_tupleOfT (h : SqT K H p xs) (q : Q (.ref p) H) : rTupleOf K [.ref p] H Q := ⟨p, xs, rfl, .inr ⟨h, q⟩⟩
theorem inV_ints {n : Int} {ns : List Int} : inV (.int n) (ns.map V.int) = decide (n ∈ ns) := by
  rw [Bool.eq_iff_iff]
  simp [inV, eqV]
theorem flat_ints {ns : List Int} : (ns.map V.int).all flatV = true := by simp [flatV]
theorem k_inI {n : Int} {ns : List Int} (h : SqL K H p (ns.map V.int) ∨ SqT K H p (ns.map V.int)) (q : Q (.bl (decide (n ∈ ns))) H) : rIn K false (.int n) (.ref p) H Q :=
  ⟨p, _, rfl, h, rfl, flat_ints, by show Q (.bl (inV (.int n) (ns.map V.int))) H; rw [inV_ints]; exact q⟩
/-- a list against [] -/
theorem k_neNil {b : Addr} {ds : List PyData} (h1 : SqL K H p xs) (h2 : H b = some (.lst [])) (hd : DpAll K H xs ds) (hs : SeqAt.shaped (.list ds) = true) (q : Q (.bl (!xs.isEmpty)) H) : rNeD K (.ref p) (.ref b) H Q := by
  refine ⟨.list ds, .list [], .lst h1 hd, .lst (SqL.of h2) .nil, hs, by decide +kernel, ?_⟩
  have e : PyData.eqv (.list ds) (.list []) = xs.isEmpty := by
    cases hd with
    | nil => rfl
    | cons _ _ => rfl
  rw [e]; exact q
theorem dp_ints {ns : List Int} : DpAll K H (ns.map V.int) (ns.map PyData.int) := by
  induction ns with
  | nil => exact .nil
  | cons n ns ih => exact .cons (.int n) ih
theorem lcL_sel {a : Addr} {j : Nat} (M : Mem B ms H f l) (hx : ∀ H' D acc, Mem B ms H' f ((D, .lst acc) :: l) → SqL K H' a xs) (P : V → Bool) (v : V → V) (hn : xs.length ≤ 50000) (hw : ∀ x, wipe ((wipe σ vs).set j (some x)) vs = wipe σ vs)
    (ht : ∀ x H' D acc (R : Bool → Hp → Prop), x ∈ xs → Mem B ms H' f ((D, .lst acc) :: l) → (∀ H4, Mem B ms H4 f ((D, .lst acc) :: l) → R (P x) H4) → tt ((wipe σ vs).set j (some x)) H' R)
    (he : ∀ x H' D acc (R : VK), x ∈ xs → P x = true → Mem B ms H' f ((D, .lst acc) :: l) → (∀ H4, Mem B ms H4 f ((D, .lst acc) :: l) → R (v x) H4) → te ((wipe σ vs).set j (some x)) H' R)
    (k : ∀ (D : Addr) (H' : Hp), Mem B ms H' f ((D, .lst ((xs.filter P).map v)) :: l) → Q (.ref D) H') : tLc (iJ (Itl K a)) (gName j) tt te vs σ H Q := by
  refine lc_lst (xs := xs) fun D hD => ⟨fun i H' => Mem B ms H' f ((D, .lst (((xs.take i).filter P).map v)) :: l), M.alloc hD, fun i H' _ M' => hx H' D _ M', fun i x H' hi M' => ⟨hw _, ?_⟩, fun H' M' => k D H' (by dsimp only at M'; rw [List.take_length] at M'; exact M')⟩
  have hm := List.mem_of_getElem? hi
  have hil := (List.getElem?_eq_some_iff.mp hi).1
  have htk : xs.take (i + 1) = xs.take i ++ [x] := by rw [List.take_add_one, hi]; rfl
  refine ht x H' D _ _ hm M' fun H4 M4 => ?_
  by_cases hp : P x = true
  · rw [hp, if_pos rfl]
    refine he x H4 D _ _ hm hp M4 fun H5 M5 => ⟨_, M5.getL List.mem_cons_self, ?_, ?_⟩
    · rw [List.length_map]
      have h1 := List.length_filter_le P (xs.take i)
      have h2 := List.length_take_le i xs
      exact Nat.lt_of_le_of_lt (Nat.le_trans h1 h2) (Nat.lt_of_lt_of_le hil (Nat.le_trans hn (by decide)))
    · dsimp only
      rw [htk, List.filter_append, List.map_append]
      have e : ([x].filter P).map v = [v x] := by simp [hp]
      rw [e]; exact Mem.setL (l1 := []) M5
  · have hf : P x = false := by simpa using hp
    rw [hf, if_neg (by decide)]
    dsimp only
    rw [htk, List.filter_append]
    have e : [x].filter P = [] := by simp [hf]
    rw [e, List.append_nil]; exact M4
end
end MyL
namespace MyL
open PySem PySem.Spec PyProof.Rows L2
def StaAt (K : PySem.W.Frag) (C : Addr) (m qual : Str) (st : Stmt) : Prop := ∃ (p g : Addr) (fd : FuncData), StaOf K C m p g ∧ Fun K m qual st g fd
section
variable {P : Program} {w : World} {K : PySem.W.Frag} {mg : Str → Option Value} {base h : Heap} {k : Nat} {C f p : Addr} {x m qual : Str} {sp : Sp} {st : Stmt} {fd : FuncData} {ps : List Str} {oc : Value} {od an : Option Addr} {osl : Array (Option Value)} {kV doc pm cdv ct : Value} {rest : List Value}
theorem gsta (ga : PySem.W.specialIn K (.ref C) "__getattribute__" = some (some (.builtin "type.__getattribute__"))) (rd : PySem.W.readsIn K C (.type "type") = true)
    (a : PySem.W.findCls K (.ref C) (.type "type") m = some (.get (.builtin "staticmethod.__get__") (.ref p) .none (.ref C))) (r : PySem.W.recIn K p "staticmethod" = some (.ref f :: rest))
    (l : K.lookup f = some ⟨oc, od, .func (PySem.W.fnOf m qual (defArgs st) (defBody st) (defScope st) .none kV doc pm an cdv ct), osl⟩)
    (c : PySem.W.codeIn K cdv qual = true) (kp : PySem.W.keepIn K (.ref f) = true) : StaAt K C m qual st := ⟨p, f, _, ⟨ga, rd, a, ⟨rest, r⟩, kp⟩, fun_mk l c kp⟩
theorem sta_of (D : StaAt K C m qual st) (hb : BindsSt m qual st ps) (ok : ∀ {f : Addr} {fd : FuncData}, Fun K m qual st f fd → FnOk P w K mg base (L2.CX P w) k f fd ps sp) : Sta P w K mg base k C m sp := by
  obtain ⟨p, f, fd, a, F⟩ := D
  exact ⟨p, f, fd, ps, a, F.binds hb, ok F⟩
theorem plain_mk (X : K.In h) (G : h.Ns mainGlobals mg) (g : PySem.W.nsIn K mainGlobals x = some (some (.ref C))) (kC : PySem.W.keepIn K (.ref C) = true) (e : PySem.W.excIn K C [.type "ValueError", .type "Exception", .type "BaseException", .type "object"] "ValueError.__new__" = true)
    (sb : PySem.W.subIn K (.ref C) (.type "BaseException") = some true) (ty : PySem.W.typeIn K (.ref C) = some (.type "type")) : PlainErr K mg x C := ⟨PySem.W.mg_of X G g, kC, e, sb, ty⟩
end
end MyL

set_option Elab.async false
set_option linter.all false
set_option maxRecDepth 100000
set_option maxHeartbeats 4000000
/-! Walks over a list or a tuple, unpacking, while, all, extend; pairs of numbers in the heap. -/
namespace MyL
open PySem PySem.Spec PyProof.Rows L2
/-- a list or a tuple of xs -/
def Sq (H : Hp) (a : Addr) (xs : List V) : Prop := H a = some (.lst xs) ∨ H a = some (.tup xs)
theorem Sq.same {H H' : Hp} {a : Addr} {xs : List V} (h : Sq H a xs) (s : Same H H') : Sq H' a xs := h.elim (fun z => .inl (s _ _ z)) fun z => .inr (s _ _ z)
def rIsN0 : R2 := fun x y H Q => y = .non ∧ Q (.bl (decide (x = .non))) H
def rNotN0 : R2 := fun x y H Q => y = .non ∧ Q (.bl (!decide (x = .non))) H
theorem op_isN0 {X : Cx} : OpR X (compareOp .Is) rIsN0 := op_isN
theorem op_notN0 {X : Cx} : OpR X (compareOp .IsNot) rNotN0 := op_notN
def iOr (a b : TI) : TI := fun σ H R => a σ H R ∨ b σ H R
section
variable {X : Cx} {tg l : Expr} {tl : TE} {a b : TI}
theorem pi_or (h1 : PI X tg l a) (h2 : PI X tg l b) : PI X tg l (iOr a b) := ⟨fun pins s σ H R I h => h.elim (h1.run pins s σ H R I) (h2.run pins s σ H R I)⟩
theorem pi_seq (h : PE X l tl) : PI X tg l (iOr (iList X.K tl) (iTup X.K tl)) := pi_or (pi_list h) (pi_tup h)
end
section
variable {nx : L2.St → Hp → Prop} {rt : VK} {bk ct : L2.St → Hp → Prop} {σ : L2.St} {H : Hp} {tb : TS} {g : TG} {te tl : TE} {tt : TT} {Q : VK} {tA : TA} {K : PySem.W.Frag} {D : Ends} {vs : List Nat} {B : Hp} {ms : List Addr} {f l : List (Addr × HO)}
theorem sq_loop {n : Nat} {a : Addr} {xs : List V} (hv : σ[n]? = some (some (.ref a))) (hq : Sq H a xs) (Pv : Nat → L2.St → Hp → Prop) (h0 : Pv 0 σ H) (hk : ∀ i σ' H', i ≤ xs.length → Pv i σ' H' → Same H H')
    (hs : ∀ i x σ' H', xs[i]? = some x → Pv i σ' H' → g x σ' H' fun σ2 H2 => tb ⟨Pv (i + 1), rt, nx, Pv (i + 1)⟩ σ2 H2) (hd : ∀ σ' H', Pv xs.length σ' H' → nx σ' H') : tFor (iOr (iList K (tVar n)) (iTup K (tVar n))) g tb ⟨nx, rt, bk, ct⟩ σ H := by
  rcases hq with hq | hq
  · exact .inl ⟨_, hv, a, rfl, ⟨xs, SqL.of hq⟩, lst_loop (K := K) ⟨Pv, h0, fun i σ' H' hi hp => SqL.of (hk i σ' H' hi hp _ _ hq), hs, hd⟩⟩
  · exact .inr ⟨_, hv, a, rfl, ⟨xs, SqT.of hq⟩, tup_loop (K := K) ⟨Pv, h0, fun i σ' H' hi hp => SqT.of (hk i σ' H' hi hp _ _ hq), hs, hd⟩⟩
def LcT (K : PySem.W.Frag) (a : Addr) (xs : List V) (g : TG) (tt : TT) (te : TE) (vs : List Nat) (σ : L2.St) (H : Hp) (Q : VK) : Prop :=
  ∀ D, H D = none → ∃ Pv : Nat → Hp → Prop, Pv 0 (upd H D (.lst [])) ∧ (∀ i H', i ≤ xs.length → Pv i H' → SqT K H' a xs) ∧ (∀ i x H', xs[i]? = some x → Pv i H' → g x (wipe σ vs) H' fun σ2 H2 => wipe σ2 vs = wipe σ vs ∧ tt σ2 H2 fun b H3 =>
    if b = true then te σ2 H3 fun y H4 => ∃ acc, H4 D = some (.lst acc) ∧ acc.length < sizeLine ∧ Pv (i + 1) (upd H4 D (.lst (acc ++ [y]))) else Pv (i + 1) H3) ∧ ∀ H', Pv xs.length H' → Q (.ref D) H'
theorem lc_tupW {a : Addr} {xs : List V} (h : LcT K a xs g tt te vs σ H Q) : tLc (iJ (Itt K a)) g tt te vs σ H Q := fun D hD => by
  obtain ⟨Pv, h0, hl, hs, hd⟩ := h D hD
  exact lc_tup Pv h0 hl hs hd
theorem k_lcT (h : tl σ H fun x H1 => ∃ a, x = .ref a ∧ (∃ xs, SqT K H1 a xs) ∧ tLc (iJ (Itt K a)) g tt te vs σ H1 Q) : tLc (iTup K tl) g tt te vs σ H Q := h
theorem lcT_pure {a : Addr} {xs : List V} {j : Nat} (M : Mem B ms H f l) (hx : ∀ H', Mem B ms H' f l → SqT K H' a xs) (v : Nat → V) (hn : xs.length ≤ 50000) (hw : ∀ x, wipe ((wipe σ vs).set j (some x)) vs = wipe σ vs)
    (he : ∀ (i : Nat) x H' D (R : VK), xs[i]? = some x → Mem B ms H' f ((D, .lst ((List.range i).map v)) :: l) → (∀ H4, Mem B ms H4 f ((D, .lst ((List.range i).map v)) :: l) → R (v i) H4) → te ((wipe σ vs).set j (some x)) H' R)
    (k : ∀ D H', Mem B ms H' f ((D, .lst ((List.range xs.length).map v)) :: l) → Q (.ref D) H') : tLc (iJ (Itt K a)) (gName j) tYes te vs σ H Q := by
  refine lc_tupW (xs := xs) fun D hD => ⟨fun i H' => Mem B ms H' f ((D, .lst ((List.range i).map v)) :: l), M.alloc hD, fun i H' _ M' => hx H' M'.drop, fun i x H' hi M' => ⟨hw _, ?_⟩, fun H' M' => k D H' M'⟩
  refine iteT (B := Mem B ms H' f ((D, .lst ((List.range (i + 1)).map v)) :: l)) (he i x H' D _ hi M' fun H4 M4 => ⟨_, M4.getL List.mem_cons_self, ?_, ?_⟩)
  · rw [List.length_map, List.length_range]; exact Nat.lt_of_lt_of_le (List.getElem?_eq_some_iff.mp hi).1 (Nat.le_trans hn (by decide))
  · dsimp only; rw [List.range_succ, List.map_append]; exact Mem.setL (l1 := []) M4
theorem lcQ_pure {n : Nat} {a : Addr} {xs : List V} {j : Nat} (hv : σ[n]? = some (some (.ref a))) (hq : Sq H a xs) (M : Mem B ms H f l) (hx : ∀ H', Mem B ms H' f l → Same H H') (v : Nat → V) (hn : xs.length ≤ 50000) (hw : ∀ x, wipe ((wipe σ vs).set j (some x)) vs = wipe σ vs)
    (he : ∀ (i : Nat) x H' D (R : VK), xs[i]? = some x → Mem B ms H' f ((D, .lst ((List.range i).map v)) :: l) → (∀ H4, Mem B ms H4 f ((D, .lst ((List.range i).map v)) :: l) → R (v i) H4) → te ((wipe σ vs).set j (some x)) H' R)
    (k : ∀ D H', Mem B ms H' f ((D, .lst ((List.range xs.length).map v)) :: l) → Q (.ref D) H') : tLc (iOr (iList K (tVar n)) (iTup K (tVar n))) (gName j) tYes te vs σ H Q := by
  rcases hq with hq | hq
  · exact .inl ⟨_, hv, a, rfl, ⟨xs, SqL.of hq⟩, lcL_pure M (fun H' M' => SqL.of (hx H' M' _ _ hq)) v hn hw he k⟩
  · exact .inr ⟨_, hv, a, rfl, ⟨xs, SqT.of hq⟩, lcT_pure M (fun H' M' => SqT.of (hx H' M' _ _ hq)) v hn hw he k⟩
/-- a comprehension over a range with a test, whose element is a new object -/
theorem lcR_selNew {lo : Int} {n j : Nat} (M : Mem B ms H f l) (P : Nat → Bool) (O : Nat → HO) (hn : n ≤ 50000) (hw : ∀ x, wipe ((wipe σ vs).set j (some x)) vs = wipe σ vs)
    (ht : ∀ (i : Nat) H' l' (R : Bool → Hp → Prop), i < n → Mem B ms H' f l' → (∀ H4, Mem B ms H4 f l' → R (P i) H4) → tt ((wipe σ vs).set j (some (.int (lo + i)))) H' R)
    (he : ∀ (i : Nat) H' l' (R : VK), i < n → P i = true → Mem B ms H' f l' → (∀ y H4, Mem B ms H4 f ((y, O i) :: l') → R (.ref y) H4) → te ((wipe σ vs).set j (some (.int (lo + i)))) H' R)
    (k : ∀ (D : Addr) (zs : List (Addr × HO)) (H' : Hp), zs.map (·.2) = ((List.range n).filter P).map O → Mem B ms H' f ((D, .lst (zs.map fun z => V.ref z.1)) :: (zs.reverse ++ l)) → Q (.ref D) H') : tLc (iJ (Itr lo n)) (gName j) tt te vs σ H Q := by
  refine lc_rng fun D hD => ⟨fun i H' => ∃ zs : List (Addr × HO), zs.map (·.2) = ((List.range i).filter P).map O ∧ Mem B ms H' f ((D, .lst (zs.map fun z => V.ref z.1)) :: (zs.reverse ++ l)), ?_, ?_, ?_⟩
  · exact ⟨[], rfl, M.alloc hD⟩
  · rintro i H' hi ⟨zs, hz, M'⟩
    refine ⟨hw _, ?_⟩
    refine ht i H' _ _ hi M' fun H4 M4 => ?_
    by_cases hp : P i = true
    · rw [hp, if_pos rfl]
      refine he i H4 _ _ hi hp M4 fun y H5 M5 => ⟨_, M5.getL (List.mem_cons_of_mem _ List.mem_cons_self), ?_, zs ++ [(y, O i)], ?_, ?_⟩
      · have e := congrArg List.length hz
        rw [List.length_map, List.length_map] at e
        have h1 := List.length_filter_le P (List.range i)
        rw [List.length_range] at h1
        rw [List.length_map]
        exact Nat.lt_of_lt_of_le (by omega : zs.length < n) (Nat.le_trans hn (by decide))
      · rw [List.map_append, hz, List.range_succ, List.filter_append, List.map_append]
        simp [hp]
      · have := (Mem.setL (l1 := [(y, O i)]) (o' := .lst (List.map (fun z : Addr × HO => V.ref z.1) (zs ++ [(y, O i)]))) M5).swap
        simpa using this
    · have hf : P i = false := by simpa using hp
      rw [hf, if_neg (by decide)]
      refine ⟨zs, ?_, M4⟩
      rw [hz, List.range_succ, List.filter_append]
      simp [hf]
  · rintro H' ⟨zs, hz, M'⟩
    exact k D zs H' hz M'
/-! ### unpacking -/
theorem k_asgT {n : Nat} {t : TGs} (h : te σ H fun x H1 => gTup K n t x σ H1 nx) : tAsg te (gTup K n t) ⟨nx, rt, bk, ct⟩ σ H := h
theorem k_gTup {n : Nat} {t : TGs} {p : Addr} {xs : List V} {QG : L2.St → Hp → Prop} (h : H p = some (.tup xs)) (hl : xs.length = n) (q : t xs σ H QG) : gTup K n t (.ref p) σ H QG := ⟨p, xs, rfl, SqT.of h, hl, q⟩
theorem k_gCons {t : TG} {u : TGs} {v : V} {r : List V} {QG : L2.St → Hp → Prop} (q : t v σ H fun σ' H' => u r σ' H' QG) : gCons t u (v :: r) σ H QG := ⟨v, r, rfl, q⟩
theorem k_gNil {QG : L2.St → Hp → Prop} (q : QG σ H) : gNil [] σ H QG := ⟨rfl, q⟩
theorem k_par {i j : Nat} (h : tA σ H fun vs H1 => ∃ v w, vs = [v, w] ∧ nx ((σ.set i (some v)).set j (some w)) H1) : tPar i j tA ⟨nx, rt, bk, ct⟩ σ H := h
theorem k_two {v w : V} {PR : V → V → Prop} (q : PR v w) : ∃ v' w', [v, w] = [v', w'] ∧ PR v' w' := ⟨v, w, rfl, q⟩
/-! ### while -/
theorem k_while {tc : TT} (Pv : L2.St → Hp → Prop) (μ : L2.St → Hp → Nat) (h0 : Pv σ H)
    (hs : ∀ σ' H', Pv σ' H' → tc σ' H' fun b H1 => if b = true then ∃ N : L2.St → Hp → Prop, (∀ σ2 H2, N σ2 H2 → ∃ m', m' < μ σ' H' ∧ (m' = μ σ2 H2 ∧ Pv σ2 H2)) ∧ tb ⟨N, rt, nx, N⟩ σ' H1 else nx σ' H1) : tWhile tc tb ⟨nx, rt, bk, ct⟩ σ H := by
  refine ⟨fun m σ H => m = μ σ H ∧ Pv σ H, ⟨_, rfl, h0⟩, ?_⟩
  rintro m σ' H' ⟨rfl, p⟩
  exact hs σ' H' p
theorem k_turn {Pv : L2.St → Hp → Prop} {μ : L2.St → Hp → Nat} {m : Nat} (h : tb ⟨fun σ2 H2 => Pv σ2 H2 ∧ μ σ2 H2 < m, rt, nx, fun σ2 H2 => Pv σ2 H2 ∧ μ σ2 H2 < m⟩ σ H) :
    ∃ N : L2.St → Hp → Prop, (∀ σ2 H2, N σ2 H2 → ∃ m', m' < m ∧ (m' = μ σ2 H2 ∧ Pv σ2 H2)) ∧ tb ⟨N, rt, nx, N⟩ σ H := ⟨_, fun σ2 H2 ⟨a, b⟩ => ⟨_, b, rfl, a⟩, h⟩
/-! ### all, isinstance, is None -/
theorem k_all {p : Addr} {bs : List Bool} (h : H p = some (.lst (bs.map V.bl))) (q : Q (.bl (bs.all id)) H) : rAll K [.ref p] H Q := ⟨p, bs, rfl, SqL.of h, q⟩
theorem k_isiL {p : Addr} {xs : List V} {c : String} {b : Bool} (h : H p = some (.lst xs)) (e : PySem.W.kitOne K (.type "list") (.type c) = some b) (q : Q (.bl b) H) : rIsi K [.ref p, .ty c] H Q := ⟨_, _, _, _, b, rfl, .ty c, .base (.lst h), e, q⟩
theorem k_isiT {p : Addr} {xs : List V} {c : String} {b : Bool} (h : H p = some (.tup xs)) (e : PySem.W.kitOne K (.type "tuple") (.type c) = some b) (q : Q (.bl b) H) : rIsi K [.ref p, .ty c] H Q := ⟨_, _, _, _, b, rfl, .ty c, .base (.tup h), e, q⟩
theorem k_isN {x : V} (q : Q (.bl (decide (x = .non))) H) : rIsN0 x .non H Q := ⟨rfl, q⟩
theorem k_notN {x : V} (q : Q (.bl (!decide (x = .non))) H) : rNotN0 x .non H Q := ⟨rfl, q⟩
theorem k_eqV {x y : V} (h : scal x y = true) (q : Q (.bl (decide (x = y))) H) : rEq x y H Q := ⟨h, q⟩
theorem k_neV {x y : V} (h : scal x y = true) (q : Q (.bl (!decide (x = y))) H) : rNe x y H Q := ⟨h, q⟩
theorem k_ixQ {p : Addr} {xs : List V} {j : Int} {v : V} (h : Sq H p xs) (ha : atI xs j = some v) (q : Q v H) : rIx K (.ref p) (.int j) H Q := by
  rcases h with h | h
  · exact .inl ⟨p, xs, j, v, rfl, rfl, SqL.of h, ha, q⟩
  · exact .inr (.inl ⟨p, xs, j, v, rfl, rfl, SqT.of h, ha, q⟩)
theorem k_lenQ {p : Addr} {xs : List V} (h : Sq H p xs) (q : Q (.int xs.length) H) : rLenQ K [.ref p] H Q := ⟨p, xs, rfl, h.elim (fun z => .inl (SqL.of z)) fun z => .inr (SqT.of z), q⟩
/-! ### what was made, in another order -/
theorem Mem.perm {l' : List (Addr × HO)} (M : Mem B ms H f l) (h : l.Perm l') : Mem B ms H f l' :=
  ⟨M.atF, fun p hp => M.atL p (h.mem_iff.mpr hp), by
    have e := (h.append_right f).map (·.1)
    exact e.nodup_iff.mp M.nd, M.keep, M.tr, fun p hp => M.new p (h.mem_iff.mpr hp)⟩
theorem Mem.sub {l' : List (Addr × HO)} (M : Mem B ms H f l) (h : l'.Sublist l) : Mem B ms H f l' :=
  ⟨M.atF, fun p hp => M.atL p (h.subset hp), by
    have e := (h.append_right f).map (·.1)
    exact e.nodup M.nd, M.keep, M.tr, fun p hp => M.new p (h.subset hp)⟩
theorem k_ext {p b : Addr} {xs zs : List V} (M : Mem B ms H f ((p, .lst xs) :: l)) (hb : H b = some (.lst zs)) (hs : xs.length + zs.length ≤ sizeLine) (q : ∀ H', Mem B ms H' f ((p, .lst (xs ++ zs)) :: l) → Q .non H') : rExtend (.ref p) [.ref b] H Q :=
  ⟨p, b, xs, zs, rfl, rfl, M.getL List.mem_cons_self, hb, hs, q _ (Mem.setL (l1 := []) M)⟩
/-! ### pairs of numbers -/
abbrev Pr := Int × Int
abbrev prO (s : Pr) : HO := .tup [.int s.1, .int s.2]
/-- xs are the pairs ss, each told by R -/
def PG (R : Addr → Pr → Prop) (xs : List V) (ss : List Pr) : Prop := xs.length = ss.length ∧ ∀ (i : Nat) (x : V) (s : Pr), xs[i]? = some x → ss[i]? = some s → ∃ p, x = .ref p ∧ R p s
/-- .. in the heap -/
abbrev Prs (H : Hp) : List V → List Pr → Prop := PG fun p s => H p = some (prO s)
/-- .. among what was made -/
abbrev PrL (l : List (Addr × HO)) : List V → List Pr → Prop := PG fun p s => (p, prO s) ∈ l
section
variable {R R' : Addr → Pr → Prop} {xs ys : List V} {ss ts : List Pr}
theorem PG.nil : PG R [] [] := ⟨rfl, fun i x s h => by simp at h⟩
theorem PG.get (h : PG R xs ss) {i : Nat} {x : V} (hx : xs[i]? = some x) : ∃ s p, ss[i]? = some s ∧ x = .ref p ∧ R p s := by
  have hi := (List.getElem?_eq_some_iff.mp hx).1
  rw [h.1] at hi
  obtain ⟨p, e, hp⟩ := h.2 i x _ hx (List.getElem?_eq_getElem hi)
  exact ⟨_, p, List.getElem?_eq_getElem hi, e, hp⟩
theorem PG.mono (h : PG R xs ss) (k : ∀ p s, R p s → R' p s) : PG R' xs ss :=
  ⟨h.1, fun i x s a b => (h.2 i x s a b).imp fun p ⟨e, z⟩ => ⟨e, k p s z⟩⟩
theorem PG.append (h1 : PG R xs ss) (h2 : PG R ys ts) : PG R (xs ++ ys) (ss ++ ts) := by
  refine ⟨by rw [List.length_append, List.length_append, h1.1, h2.1], fun i x s hx hs => ?_⟩
  by_cases hi : i < xs.length
  · rw [List.getElem?_append_left hi] at hx
    rw [List.getElem?_append_left (by rw [← h1.1]; exact hi)] at hs
    exact h1.2 i x s hx hs
  · rw [List.getElem?_append_right (by omega)] at hx
    rw [List.getElem?_append_right (by rw [← h1.1]; omega), ← h1.1] at hs
    exact h2.2 _ x s hx hs
theorem PG.one {p : Addr} {s : Pr} (h : R p s) : PG R [.ref p] [s] := ⟨rfl, fun i x s' a b => by
  cases i with
  | zero => simp at a b; subst a b; exact ⟨p, rfl, h⟩
  | succ i => simp at a⟩
theorem Prs.same {H' : Hp} (h : Prs H xs ss) (k : Same H H') : Prs H' xs ss := h.mono fun p s e => k _ _ e
theorem PrL.prs (M : Mem B ms H f l) (h : PrL l xs ss) : Prs H xs ss := h.mono fun p s e => M.getL e
theorem PrL.more {l' : List (Addr × HO)} (h : PrL l xs ss) (k : ∀ z ∈ l, z ∈ l') : PrL l' xs ss := h.mono fun p s e => k _ e
/-- new objects as pairs -/
theorem PG.ofNew {zs : List (Addr × HO)} (h : zs.map (·.2) = ss.map prO) : PrL zs (zs.map fun z => V.ref z.1) ss := by
  have e := congrArg List.length h
  rw [List.length_map, List.length_map] at e
  refine ⟨by rw [List.length_map]; exact e, fun i x s hx hs => ?_⟩
  rw [List.getElem?_map] at hx
  cases hz : zs[i]? with
  | none => rw [hz] at hx; simp at hx
  | some z =>
    rw [hz] at hx
    simp at hx
    have h1 : (zs.map (·.2))[i]? = some z.2 := by rw [List.getElem?_map, hz]; rfl
    rw [h, List.getElem?_map, hs] at h1
    simp at h1
    refine ⟨z.1, hx.symm, ?_⟩
    show (z.1, prO s) ∈ zs
    rw [h1]
    exact List.mem_of_getElem? hz
end
theorem atI_nat {xs : List V} {i : Nat} {x : V} (h : xs[i]? = some x) : atI xs (i : Int) = some x := by
  have hi := (List.getElem?_eq_some_iff.mp h).1
  unfold atI ixN
  rw [if_pos (by omega), if_pos (by omega)]
  simpa using h
theorem atI_nat0 {xs : List V} {i : Nat} {x : V} (h : xs[i]? = some x) : atI xs (0 + (i : Int)) = some x := by rw [Int.zero_add]; exact atI_nat h
theorem atI_0 {xs : List V} {x : V} (h : xs[0]? = some x) : atI xs 0 = some x := atI_nat (i := 0) h
theorem map_range_getD {α β : Type} {ss : List α} {d : α} {v : α → β} : (List.range ss.length).map (fun i => v (ss.getD i d)) = ss.map v := by
  refine List.ext_getElem? fun i => ?_
  rw [List.getElem?_map, List.getElem?_map]
  by_cases hi : i < ss.length
  · rw [List.getElem?_range hi, List.getElem?_eq_getElem hi]; simp [hi]
  · rw [List.getElem?_eq_none (by simpa using hi), List.getElem?_eq_none (by omega)]; rfl
theorem getD_of {α : Type} {ss : List α} {i : Nat} {s d : α} (h : ss[i]? = some s) : ss.getD i d = s := by
  rw [List.getD_eq_getElem?_getD, h]; rfl
theorem all_at {α : Type} {ss : List α} {p : α → Bool} {i : Nat} {s : α} (h : ss[i]? = some s) (hp : p s = false) : ss.all p = false := by
  rw [List.all_eq_false]; exact ⟨s, List.mem_of_getElem? h, by rw [hp]; exact Bool.false_ne_true⟩
theorem all_next {α : Type} {ss : List α} {p : α → Bool} {i : Nat} {s : α} (h : ss[i]? = some s) (hp : p s = true) (ha : (ss.take i).all p = true) : (ss.take (i + 1)).all p = true := by
  rw [List.take_add_one, h, List.all_append, ha]; simp [hp]
theorem Mem.front1 {x0 y : Addr × HO} (M : Mem B ms H f (x0 :: y :: l)) : Mem B ms H f (y :: x0 :: l) := M.swap
theorem Mem.front2 {x0 x1 y : Addr × HO} (M : Mem B ms H f (x0 :: x1 :: y :: l)) : Mem B ms H f (y :: x0 :: x1 :: l) := M.perm ((List.Perm.cons x0 (List.Perm.swap y x1 l)).trans (List.Perm.swap y x0 _))
theorem Mem.front3 {x0 x1 x2 y : Addr × HO} (M : Mem B ms H f (x0 :: x1 :: x2 :: y :: l)) : Mem B ms H f (y :: x0 :: x1 :: x2 :: l) := M.perm ((List.Perm.cons x0 ((List.Perm.cons x1 (List.Perm.swap y x2 l)).trans (List.Perm.swap y x1 _))).trans (List.Perm.swap y x0 _))
theorem Mem.frontA {zs : List (Addr × HO)} {x0 y : Addr × HO} (M : Mem B ms H f (x0 :: (zs ++ y :: l))) : Mem B ms H f (y :: x0 :: (zs ++ l)) := M.perm ((List.Perm.cons x0 List.perm_middle).trans (List.Perm.swap y x0 _))
theorem k_isNn (q : Q (.bl true) H) : rIsN0 .non .non H Q := ⟨rfl, by rw [decide_eq_true rfl]; exact q⟩
theorem k_isNi {i : Int} (q : Q (.bl false) H) : rIsN0 (.int i) .non H Q := ⟨rfl, by rw [decide_eq_false (fun z => nomatch z)]; exact q⟩
theorem k_notNn (q : Q (.bl false) H) : rNotN0 .non .non H Q := ⟨rfl, by rw [decide_eq_true rfl]; exact q⟩
theorem k_notNi {i : Int} (q : Q (.bl true) H) : rNotN0 (.int i) .non H Q := ⟨rfl, by rw [decide_eq_false (fun z => nomatch z)]; exact q⟩
abbrev pd (s : Pr) : PyData := .tuple [.int s.1, .int s.2]
theorem Prs.dp {xs : List V} {ss : List Pr} (h : Prs H xs ss) : DpAll K H xs (ss.map pd) := by
  induction xs generalizing ss with
  | nil =>
    have e := h.1
    cases ss with
    | nil => exact .nil
    | cons s ss => simp at e
  | cons x xs ih =>
    have e := h.1
    cases ss with
    | nil => simp at e
    | cons s ss =>
      obtain ⟨p, rfl, hp⟩ := h.2 0 x s rfl rfl
      refine .cons (.tup (SqT.of hp) (.cons (.int _) (.cons (.int _) .nil))) (ih ⟨by simpa using e, fun i x s a b => h.2 (i + 1) x s (by simpa using a) (by simpa using b)⟩)
theorem pd_lay (ss : List Pr) : PyData.canLayAll0 (ss.map pd) = true := by
  induction ss with
  | nil => rfl
  | cons s ss ih => simp only [List.map_cons, PyData.canLayAll0, PyData.canLay0, ih, Bool.and_self]
theorem pd_depth (ss : List Pr) : PyData.depthAll (ss.map pd) ≤ 1 := by
  induction ss with
  | nil => simp [PyData.depthAll]
  | cons s ss ih => simp only [List.map_cons, PyData.depthAll, PyData.depth]; omega
theorem pd_shaped (ss : List Pr) : SeqAt.shaped (.list (ss.map pd)) = true := by
  have h := pd_depth ss
  unfold SeqAt.shaped
  rw [Bool.and_eq_true, decide_eq_true_eq]
  refine ⟨by simp only [PyData.canLay0]; exact pd_lay ss, by simp only [PyData.depth]; omega⟩
theorem pd_eqv (ss : List Pr) : PyData.eqvAll (ss.map pd) (ss.map pd) = true := by
  induction ss with
  | nil => rfl
  | cons s ss ih => simp only [List.map_cons, PyData.eqvAll, PyData.eqv, ih, beq_self_eq_true, Bool.and_self]
theorem k_eqPrs {a b : Addr} {xs ys : List V} {ss : List Pr} (h1 : H a = some (.lst xs)) (h2 : H b = some (.lst ys)) (p1 : Prs H xs ss) (p2 : Prs H ys ss) (q : Q (.bl true) H) : rEqD K (.ref a) (.ref b) H Q :=
  ⟨_, _, .lst (SqL.of h1) p1.dp, .lst (SqL.of h2) p2.dp, pd_shaped ss, pd_shaped ss, by simp only [PyData.eqv]; rw [pd_eqv]; exact q⟩
theorem k_nePrs {a b : Addr} {xs ys : List V} {ss : List Pr} (h1 : H a = some (.lst xs)) (h2 : H b = some (.lst ys)) (p1 : Prs H xs ss) (p2 : Prs H ys ss) (q : Q (.bl false) H) : rNeD K (.ref a) (.ref b) H Q :=
  ⟨_, _, .lst (SqL.of h1) p1.dp, .lst (SqL.of h2) p2.dp, pd_shaped ss, pd_shaped ss, by simp only [PyData.eqv]; rw [pd_eqv]; exact q⟩
theorem k_neNilP {a b : Addr} {xs : List V} {ss : List Pr} (h1 : H a = some (.lst xs)) (h2 : H b = some (.lst [])) (p1 : Prs H xs ss) (q : Q (.bl (!ss.isEmpty)) H) : rNeD K (.ref a) (.ref b) H Q :=
  k_neNil (SqL.of h1) h2 p1.dp (pd_shaped ss) (by
    have e : xs.isEmpty = ss.isEmpty := by
      have := p1.1
      cases xs <;> cases ss <;> simp at this ⊢
    rw [e]; exact q)
end
end MyL

set_option Elab.async false
set_option linter.all false
set_option maxRecDepth 100000
set_option maxHeartbeats 4000000
/-! The box of a script and draws from it; what a call leaves, joined with what was known. -/
namespace MyL
open PySem PySem.Spec PyProof.Rows L2
section
variable {B H H' : Hp} {ms : List Addr} {f g l l2 : List (Addr × HO)} {a bx : Addr} {o o' : HO}
theorem Mem.comp1 (M : Mem B ms H ((bx, o) :: f) l) (hm : bx ∈ ms) (M2 : Mem H [bx] H' ((bx, o') :: g) l2) : Mem B ms H' ((bx, o') :: f) (l2 ++ l) := by
  have nd := M.nd
  have hne : ∀ q ∈ l ++ f, q.1 ≠ bx := by
    rw [List.map_append, List.map_cons, List.nodup_append] at nd
    obtain ⟨_, n2, n3⟩ := nd
    rw [List.nodup_cons] at n2
    intro q hq z
    rcases List.mem_append.mp hq with hq | hq
    · exact n3 _ (List.mem_map.mpr ⟨q, hq, rfl⟩) _ List.mem_cons_self z
    · exact n2.1 (List.mem_map.mpr ⟨q, hq, z⟩)
  have hk : ∀ q ∈ l ++ f, H' q.1 = some q.2 := fun q hq => M2.keep _ _ ((List.mem_append.mp hq).elim (fun z => M.atL q z) fun z => M.atF q (List.mem_cons_of_mem _ z)) (by simpa using hne q hq)
  refine ⟨fun q hq => ?_, fun q hq => ?_, ?_, fun b u h hmb => ?_, fun m hmm z => ?_, fun q hq => ?_⟩
  · rcases List.mem_cons.mp hq with rfl | h
    · exact M2.atF _ List.mem_cons_self
    · exact hk q (List.mem_append_right _ h)
  · rcases List.mem_append.mp hq with h | h
    · exact M2.atL q h
    · exact hk q (List.mem_append_left _ h)
  · rw [List.append_assoc, List.map_append, List.nodup_append]
    have n2 := M2.nd
    rw [List.map_append, List.nodup_append] at n2
    refine ⟨n2.1, by simpa using nd, fun x hx y hy e => ?_⟩
    obtain ⟨q, hq, rfl⟩ := List.mem_map.mp hx
    have h0 := M2.new q hq
    have h1 := M.ne h0
    exact h1 (by simpa [e] using hy)
  · exact M2.keep _ _ (M.keep b u h hmb) (by intro z; rw [List.mem_singleton] at z; exact hmb (by rw [z]; exact hm))
  · by_cases e : m = bx
    · rw [e] at z; exact M2.tr bx (by simp) z
    · cases e2 : H m with
      | none => exact M.tr m hmm e2
      | some u => rw [M2.keep _ _ e2 (by simpa using e)] at z; cases z
  · rcases List.mem_append.mp hq with h | h
    · exact M.fresh (M2.new q h)
    · exact M.new q h
theorem Mem.comp0 (M : Mem B ms H f l) (M2 : Mem H [] H' g l2) : Mem B ms H' f (l2 ++ l) := by
  have hk : ∀ b u, H b = some u → H' b = some u := fun b u h => M2.keep b u h (by simp)
  refine ⟨fun q hq => hk _ _ (M.atF q hq), fun q hq => ?_, ?_, fun b u h hmb => hk _ _ (M.keep b u h hmb), fun m hmm z => ?_, fun q hq => ?_⟩
  · rcases List.mem_append.mp hq with h | h
    · exact M2.atL q h
    · exact hk _ _ (M.atL q h)
  · rw [List.append_assoc, List.map_append, List.nodup_append]
    have n2 := M2.nd
    rw [List.map_append, List.nodup_append] at n2
    refine ⟨n2.1, M.nd, fun x hx y hy e => ?_⟩
    obtain ⟨q, hq, rfl⟩ := List.mem_map.mp hx
    exact M.ne (M2.new q hq) (by rw [e]; exact hy)
  · cases e2 : H m with
    | none => exact M.tr m hmm e2
    | some u => rw [hk _ _ e2] at z; cases z
  · rcases List.mem_append.mp hq with h | h
    · exact M.fresh (M2.new q h)
    · exact M.new q h
end
/-- the box: the script's list at sc, the place, the digits left, the turn, the seed -/
abbrev boxO (sc : Addr) (pos big turn seed : Int) : HO := .lst [.ref sc, .int pos, .int big, .int turn, .int seed]
def sp_draw : Sp := fun vs H Q _ => ∃ (bx sc : Addr) (ns : List Int) (pos big turn seed size : Int), vs = [.ref bx, .int size] ∧ H bx = some (boxO sc pos big turn seed) ∧ H sc = some (.lst (ns.map V.int)) ∧ bx ≠ sc ∧ 0 ≤ pos ∧ 0 ≤ big ∧ 1 ≤ size ∧ size < 2 ^ 64 ∧
  ∀ (d pos' big' turn' : Int) H', 0 ≤ d → d < size → 0 ≤ pos' → 0 ≤ big' → Keep [bx] H H' → H' bx = some (boxO sc pos' big' turn' seed) → Q (.int d) H'
def sp_box (K : PySem.W.Frag) : Sp := fun vs H Q _ => ∃ (a : Addr) (ns : List Int), vs = [.ref a] ∧ SqL K H a (ns.map V.int) ∧ ns.length ≤ 63 ∧ ∀ (bx sc : Addr) (seed : Int) H', H bx = none → H sc = none → bx ≠ sc → Same H H' → H' bx = some (boxO sc 0 0 0 seed) → H' sc = some (.lst (ns.map V.int)) → Q (.ref bx) H'
section
variable {B H : Hp} {ms : List Addr} {f l : List (Addr × HO)} {Q : VK} {E : XK} {bx sc : Addr} {ns : List Int} {pos big turn seed size : Int}
theorem box_ne (M : Mem B ms H ((bx, boxO sc pos big turn seed) :: (sc, .lst (ns.map V.int)) :: f) l) : bx ≠ sc := by
  have nd := M.nd
  rw [List.map_append, List.nodup_append] at nd
  have := nd.2.1
  simp at this
  exact this.1.1
theorem use_draw (M : Mem B ms H ((bx, boxO sc pos big turn seed) :: (sc, .lst (ns.map V.int)) :: f) l) (hm : bx ∈ ms) (h0 : 0 ≤ pos) (h1 : 0 ≤ big) (h2 : 1 ≤ size) (h3 : size < 2 ^ 64)
    (k : ∀ (d pos' big' turn' : Int) H', 0 ≤ d → d < size → 0 ≤ pos' → 0 ≤ big' → Mem B ms H' ((bx, boxO sc pos' big' turn' seed) :: (sc, .lst (ns.map V.int)) :: f) l → Q (.int d) H') : sp_draw [.ref bx, .int size] H Q E :=
  ⟨bx, sc, ns, pos, big, turn, seed, size, rfl, M.getF List.mem_cons_self, M.getF (by simp), box_ne M, h0, h1, h2, h3, fun d pos' big' turn' H' a1 a2 a3 a4 kp hb => k d pos' big' turn' H' a1 a2 a3 a4 (M.call1 hm kp hb)⟩
/-- a def that draws: what it may answer, by the objects that it makes -/
def sp_drawn (ar : List V → Prop) (R : List V → V → List (Addr × HO) → Prop) : Sp := fun vs H Q _ => ∃ (bx sc : Addr) (ns : List Int) (pos big turn seed : Int) (as : List V), vs = .ref bx :: as ∧ ar as ∧ H bx = some (boxO sc pos big turn seed) ∧ H sc = some (.lst (ns.map V.int)) ∧ bx ≠ sc ∧ 0 ≤ pos ∧ 0 ≤ big ∧
  ∀ (v : V) (l2 : List (Addr × HO)) (pos' big' turn' : Int) H', R as v l2 → 0 ≤ pos' → 0 ≤ big' → Mem H [bx] H' [(bx, boxO sc pos' big' turn' seed), (sc, .lst (ns.map V.int))] l2 → Q v H'
theorem use_drawn {ar : List V → Prop} {R : List V → V → List (Addr × HO) → Prop} {as : List V} (M : Mem B ms H ((bx, boxO sc pos big turn seed) :: (sc, .lst (ns.map V.int)) :: f) l) (hm : bx ∈ ms) (h0 : 0 ≤ pos) (h1 : 0 ≤ big) (ha : ar as)
    (k : ∀ (v : V) (l2 : List (Addr × HO)) (pos' big' turn' : Int) H', R as v l2 → 0 ≤ pos' → 0 ≤ big' → Mem B ms H' ((bx, boxO sc pos' big' turn' seed) :: (sc, .lst (ns.map V.int)) :: f) (l2 ++ l) → Q v H') : sp_drawn ar R (.ref bx :: as) H Q E :=
  ⟨bx, sc, ns, pos, big, turn, seed, as, rfl, ha, M.getF List.mem_cons_self, M.getF (by simp), box_ne M, h0, h1, fun v l2 pos' big' turn' H' hr a3 a4 M2 => k v l2 pos' big' turn' H' hr a3 a4 (M.comp1 hm M2)⟩
end
end MyL

set_option Elab.async false
set_option linter.all false
set_option maxRecDepth 100000
set_option maxHeartbeats 4000000
/-! What the residues' defs do (contracts alone), and a comprehension over two ranges. -/
namespace MyL
open PySem PySem.Spec PyProof.Rows L2
def resF (p l : Int) : List (Str × V) := [("place", .int p), ("length", .int l)]
theorem ne_pl : ¬ (("length" : Str) = "place") := by decide +kernel
theorem ne_lp : ¬ (("place" : Str) = "length") := by decide +kernel
theorem resF_place (p l : Int) : (resF p l).lookup ("place" : Str) = some (.int p) := by
  unfold resF; rw [lookup_put, if_pos rfl]
theorem resF_length (p l : Int) : (resF p l).lookup ("length" : Str) = some (.int l) := by
  unfold resF; rw [lookup_put, if_neg ne_pl, lookup_put, if_pos rfl]
theorem resF_put (p l : Int) : putF "length" (.int l) (putF "place" (.int p) []) = resF p l := by
  show (if ("place" : Str) = "length" then _ else (("place" : Str), V.int p) :: [(("length" : Str), V.int l)]) = _
  rw [if_neg ne_lp]; rfl
theorem resF_no {p l : Int} {m : Str} (h1 : ¬ m = "place") (h2 : ¬ m = "length") : (resF p l).lookup m = none := by
  unfold resF; rw [lookup_put, if_neg h1, lookup_put, if_neg h2]; rfl
def sp_res (C CO : Addr) : Sp := fun vs H Q E => ∃ (x dx : Addr) (p l : Int), vs = [.ref x, .int p, .int l] ∧ H x = some (.ins C dx []) ∧
  (1 ≤ l → ∀ H', H' x = some (.ins C dx (resF (p % l) l)) → (∀ b o, H b = some o → b ≠ x → H' b = some o) → Q .non H') ∧
  (l < 1 → ∀ d, H d = none → E (.ref CO) (some d) (upd H d (.xd [("value", .int l)])))
def sp_resEq (C : Addr) : Sp := fun vs H Q _ => ∃ (a dx b dy : Addr) (p l p2 l2 : Int), vs = [.ref a, .ref b] ∧ H a = some (.ins C dx (resF p l)) ∧ H b = some (.ins C dy (resF p2 l2)) ∧ Q (.bl (decide (p = p2) && decide (l = l2))) H
def sp_resIn (C : Addr) : Sp := fun vs H Q _ => ∃ (a dx : Addr) (p l d : Int), vs = [.ref a, .int d] ∧ H a = some (.ins C dx (resF p l)) ∧ 1 ≤ l ∧ Q (.bl (decide ((d - p) % l = 0))) H
section
variable {B H : Hp} {ms : List Addr} {f l : List (Addr × HO)} {Q : VK} {E : XK} {C CO a dx b dy : Addr} {p n p2 n2 d : Int}
theorem use_resEq (h1 : H a = some (.ins C dx (resF p n))) (h2 : H b = some (.ins C dy (resF p2 n2))) (q : Q (.bl (decide (p = p2) && decide (n = n2))) H) : sp_resEq C [.ref a, .ref b] H Q E := ⟨a, dx, b, dy, p, n, p2, n2, rfl, h1, h2, q⟩
theorem use_resIn (h1 : H a = some (.ins C dx (resF p n))) (hl : 1 ≤ n) (q : Q (.bl (decide ((d - p) % n = 0))) H) : sp_resIn C [.ref a, .int d] H Q E := ⟨a, dx, p, n, d, rfl, h1, hl, q⟩
theorem use_res (M : Mem B ms H f l) (h : 1 ≤ n) (k : ∀ x dx H', Mem B ms H' f ((x, .ins C dx (resF (p % n) n)) :: l) → Q (.ref x) H') :
    newO C (sp_res C CO) [.int p, .int n] H Q E := by
  intro x dx hx hdx hne
  refine ⟨x, dx, p, n, rfl, upd_same, fun _ H' hx' hk => ⟨rfl, k x dx H' (M.sameNew (fun a o e => ?_) hx hx')⟩, fun h' => absurd h (by omega)⟩
  have hax : a ≠ x := ne_of_none e hx
  exact hk a o (by rw [upd_ne hax, upd_ne (ne_of_none e hdx)]; exact e) hax
theorem use_resE (M : Mem B ms H f l) (h : n < 1) (k : ∀ d H', Mem B ms H' f ((d, .xd [("value", .int n)]) :: l) → E (.ref CO) (some d) H') : newO C (sp_res C CO) [.int p, .int n] H Q E := by
  intro x dx hx hdx hne
  refine ⟨x, dx, p, n, rfl, upd_same, fun h' => absurd h' (by omega), fun _ d hd => k d _ ?_⟩
  have s1 : Same H (upd (upd H dx (.own x)) x (.ins C dx [])) := fun a o e => by
    rw [upd_ne (ne_of_none e hx), upd_ne (ne_of_none e hdx)]; exact e
  exact M.sameNew (s1.trans (same_alloc hd)) (s1.free hd) upd_same
end
section
variable {σ : L2.St} {H : Hp} {te : TE} {Q : VK} {K : PySem.W.Frag} {vs vs1 : List Nat} {B : Hp} {ms : List Addr} {f l : List (Addr × HO)} {g g1 : TG} {tt tt1 : TT} {wi1 : TI} {tA : TA}
theorem k_xfB {H : Hp} {D dd : Addr} {fs : List (Str × V)} {f : Str} {v : V} {PV : V → Prop} (hd : H dd = some (.xd fs)) (hl : fs.lookup f = some v) (q : PV v) : Value.ref D = .ref D ∧ ∃ (dd' : Addr) (fs' : List (Str × V)) (v' : V), some dd = some dd' ∧ H dd' = some (.xd fs') ∧ fs'.lookup f = some v' ∧ PV v' := ⟨rfl, dd, fs, v, rfl, hd, hl, q⟩
/-- a comprehension over a range with a test, whose element is reckoned -/
theorem lcR_selV {lo : Int} {n j : Nat} (M : Mem B ms H f l) (P : Nat → Bool) (v : Nat → V) (hn : n ≤ 50000) (hw : ∀ x, wipe ((wipe σ vs).set j (some x)) vs = wipe σ vs)
    (ht : ∀ (i : Nat) H' D acc (R : Bool → Hp → Prop), i < n → Mem B ms H' f ((D, .lst acc) :: l) → (∀ H4, Mem B ms H4 f ((D, .lst acc) :: l) → R (P i) H4) → tt ((wipe σ vs).set j (some (.int (lo + i)))) H' R)
    (he : ∀ (i : Nat) H' D acc (R : VK), i < n → P i = true → Mem B ms H' f ((D, .lst acc) :: l) → (∀ H4, Mem B ms H4 f ((D, .lst acc) :: l) → R (v i) H4) → te ((wipe σ vs).set j (some (.int (lo + i)))) H' R)
    (k : ∀ (D : Addr) (H' : Hp), Mem B ms H' f ((D, .lst (((List.range n).filter P).map v)) :: l) → Q (.ref D) H') : tLc (iJ (Itr lo n)) (gName j) tt te vs σ H Q := by
  refine lc_rng fun D hD => ⟨fun i H' => Mem B ms H' f ((D, .lst (((List.range i).filter P).map v)) :: l), M.alloc hD, fun i H' hi M' => ⟨hw _, ?_⟩, fun H' M' => k D H' M'⟩
  refine ht i H' D _ _ hi M' fun H4 M4 => ?_
  by_cases hp : P i = true
  · rw [hp, if_pos rfl]
    refine he i H4 D _ _ hi hp M4 fun H5 M5 => ⟨_, M5.getL List.mem_cons_self, ?_, ?_⟩
    · rw [List.length_map]
      have h1 := List.length_filter_le P (List.range i)
      rw [List.length_range] at h1
      exact Nat.lt_of_lt_of_le (Nat.lt_of_le_of_lt h1 hi) (Nat.le_trans hn (by decide))
    · dsimp only
      rw [List.range_succ, List.filter_append, List.map_append]
      have e : ([i].filter P).map v = [v i] := by simp [hp]
      rw [e]; exact Mem.setL (l1 := []) M5
  · have hf : P i = false := by simpa using hp
    rw [hf, if_neg (by decide)]
    dsimp only
    rw [List.range_succ, List.filter_append]
    have e : [i].filter P = [] := by simp [hf]
    rw [e, List.append_nil]; exact M4
theorem k_lc2R2 (h : tA σ H fun zs H1 => ∃ i j : Int, zs = [.int i, .int j] ∧ (-(2 ^ 62) ≤ i ∧ i < 2 ^ 62 ∧ -(2 ^ 62) ≤ j ∧ j < 2 ^ 62) ∧ tLc2 (iJ (Itr i (j - i).toNat)) g tt wi1 g1 tt1 te vs vs1 σ H1 Q) : tLc2 (iRng2 tA) g tt wi1 g1 tt1 te vs vs1 σ H Q := h
/-- the objects that two ranges give, the second one to the number of the first -/
def tot2 (lo : Int) (O : Nat → Nat → HO) (n : Nat) : List HO := (List.range n).flatMap fun (i : Nat) => (List.range (lo + i).toNat).map (O i)
theorem tot2_succ (lo : Int) (O : Nat → Nat → HO) (n : Nat) : tot2 lo O (n + 1) = tot2 lo O n ++ (List.range (lo + n).toNat).map (O n) := by
  unfold tot2; rw [List.range_succ, List.flatMap_append]; simp
theorem tot2_len {lo : Int} {O : Nat → Nat → HO} {n : Nat} (h : lo + n ≤ 200) : (tot2 lo O n).length ≤ 200 * n := by
  induction n with
  | zero => simp [tot2]
  | succ n ih =>
    rw [tot2_succ, List.length_append, List.length_map, List.length_range]
    have := ih (by omega)
    omega
theorem lc2R_new {lo : Int} {n j j1 : Nat} (M : Mem B ms H f l) (O : Nat → Nat → HO) (h0 : 0 ≤ lo) (hn : n ≤ 200) (h2 : lo + n ≤ 200) (hw : ∀ x, wipe ((wipe σ vs).set j (some x)) vs = wipe σ vs)
    (hw1 : ∀ x y, wipe ((wipe ((wipe σ vs).set j (some x)) vs1).set j1 (some y)) vs1 = wipe ((wipe σ vs).set j (some x)) vs1) (hv : ∀ x, ((wipe σ vs).set j (some x))[j]? = some (some x))
    (he : ∀ (i k : Nat) H' l' (R : VK), i < n → k < (lo + i).toNat → Mem B ms H' f l' → (∀ y H4, Mem B ms H4 f ((y, O i k) :: l') → R (.ref y) H4) → te ((wipe ((wipe σ vs).set j (some (.int (lo + i)))) vs1).set j1 (some (.int (0 + (k : Int))))) H' R)
    (k : ∀ (D : Addr) (zs : List (Addr × HO)) (H' : Hp), zs.map (·.2) = tot2 lo O n → Mem B ms H' f ((D, .lst (zs.map fun z => V.ref z.1)) :: (zs.reverse ++ l)) → Q (.ref D) H') : tLc2 (iJ (Itr lo n)) (gName j) tYes (iRng1 (tCons (tVar j) tNil)) (gName j1) tYes te vs vs1 σ H Q := by
  intro D hD
  refine ⟨fun i m H' => m = n - i ∧ i ≤ n ∧ ∃ zs : List (Addr × HO), zs.map (·.2) = tot2 lo O i ∧ Mem B ms H' f ((D, .lst (zs.map fun z => V.ref z.1)) :: (zs.reverse ++ l)), ⟨n, by simp, Nat.zero_le _, [], rfl, M.alloc hD⟩, ?_⟩
  rintro i m H' ⟨rfl, hi, zs, hz, M'⟩
  by_cases hlt : i < n
  · refine .inr ⟨hlt, fun H2 => ∃ zs : List (Addr × HO), zs.map (·.2) = tot2 lo O (i + 1) ∧ Mem B ms H2 f ((D, .lst (zs.map fun z => V.ref z.1)) :: (zs.reverse ++ l)), fun H2 p2 => ⟨n - (i + 1), by omega, rfl, hlt, p2⟩, fun x H2 y => ?_⟩
    obtain ⟨e, y⟩ := y
    subst e y
    refine ⟨hw _, iteT (B := ∃ zs : List (Addr × HO), zs.map (·.2) = tot2 lo O (i + 1) ∧ Mem B ms H2 f ((D, .lst (zs.map fun z => V.ref z.1)) :: (zs.reverse ++ l))) ?_⟩
    refine ⟨_, hv _, lo + i, rfl, by omega, by omega, ?_⟩
    refine ⟨fun u m H3 => m = (lo + i).toNat - u ∧ u ≤ (lo + i).toNat ∧ ∃ zs : List (Addr × HO), zs.map (·.2) = tot2 lo O i ++ (List.range u).map (O i) ∧ Mem B ms H3 f ((D, .lst (zs.map fun z => V.ref z.1)) :: (zs.reverse ++ l)), ⟨_, rfl, Nat.zero_le _, zs, by simpa using hz, M'⟩, ?_⟩
    rintro u m H3 ⟨rfl, hu, zs, hz, M3⟩
    by_cases hul : u < (lo + i).toNat
    · refine .inr ⟨hul, fun H4 => ∃ zs : List (Addr × HO), zs.map (·.2) = tot2 lo O i ++ (List.range (u + 1)).map (O i) ∧ Mem B ms H4 f ((D, .lst (zs.map fun z => V.ref z.1)) :: (zs.reverse ++ l)), fun H4 p4 => ⟨(lo + i).toNat - (u + 1), by omega, rfl, hul, p4⟩, fun x H4 y => ?_⟩
      obtain ⟨e, y⟩ := y
      subst e y
      refine ⟨hw1 _ _, iteT (B := ∃ zs : List (Addr × HO), zs.map (·.2) = tot2 lo O i ++ (List.range (u + 1)).map (O i) ∧ Mem B ms H4 f ((D, .lst (zs.map fun z => V.ref z.1)) :: (zs.reverse ++ l))) ?_⟩
      refine he i u _ _ _ hlt hul M3 fun y H5 M5 => ⟨_, M5.getL (List.mem_cons_of_mem _ List.mem_cons_self), ?_, zs ++ [(y, O i u)], ?_, ?_⟩
      · have e := congrArg List.length hz
        have ht := tot2_len (lo := lo) (O := O) (n := i) (by omega)
        simp only [List.length_map, List.length_append, List.length_range] at e
        rw [List.length_map]
        exact Nat.lt_of_lt_of_le (m := 50000) (by omega) (by decide)
      · rw [List.map_append, hz, List.range_succ, List.map_append, List.append_assoc]; rfl
      · have := (Mem.setL (l1 := [(y, O i u)]) (o' := .lst (List.map (fun z : Addr × HO => V.ref z.1) (zs ++ [(y, O i u)]))) M5).swap
        simpa using this
    · have e : u = (lo + i).toNat := by omega
      subst e
      exact .inl ⟨Nat.le_refl _, zs, by rw [tot2_succ]; exact hz, M3⟩
  · have e : i = n := by omega
    subst e
    exact .inl ⟨Nat.le_refl _, k D zs H' hz M'⟩
end
end MyL

set_option Elab.async false
set_option linter.all false
set_option maxRecDepth 100000
set_option maxHeartbeats 4000000
/-! Static methods by a positional promise, also without arguments and with a star parameter. -/
namespace MyL
open PySem PySem.Spec PyProof.Rows L2
structure StaR (P : Program) (w : World) (K : PySem.W.Frag) (mg : Str → Option Value) (base : Heap) (k : Nat) (C : Addr) (m : Str) (sp : Sp) : Prop where
  ex : ∃ (p g : Addr), StaOf K C m p g ∧ FnR P w K mg base (L2.CX P w) k g sp
section
variable {X : Cx} {W : WX} {k j : Nat} {C : Addr} {sp : Sp} {x m : Str} {p pos apos : Pos} {e o : Expr} {es : List Expr} {ta : TE} {t : TA}
theorem c_staR {pl : Sem Bool} (c : StaR X.prog X.w X.K X.mg X.base k C m sp) (tk : Takes X W) (hr : Room j X.A) (hk : k ≤ j) (ho : PE X o ta) (ha : PA X (e :: es) t)
    (hst : starEach (e :: es) X.env = (false, eval e X.env) :: starEach es X.env := by rfl) (hpl : (backTo pos (starEach es X.env)).any (·.1) = false := by rfl)
    (ht : eval (.Call (.Attribute o m apos) (e :: es) [] pos) X.env = (do
      let ov ← eval o X.env
      standAt apos.atName
      let (f, first) ← holding [ov] (getMethod ov m pl)
      callWith pos f first (backTo pos (starEach (e :: es) X.env)) (backToKw pos (keywordEach [] X.env))) := by rfl) :
    PE X (.Call (.Attribute o m apos) (e :: es) [] pos) (tSta C sp W ta t) := by
  obtain ⟨p, g, hm, F⟩ := c.ex
  obtain ⟨rest, hrec⟩ := hm.rc
  refine ⟨fun pins s σ H Q I h => ?_⟩
  refine PySem.W.methodCall_KW (pl := pl) (thn (ho.run pins s σ H _ I h) fun u s1 hh => ?_) ht
  obtain ⟨x, H1, I1, rx, ex, q⟩ := hh
  subst ex
  obtain rfl : u = Value.ref C := rx
  have I1' := I1.tok (s1.toks + 1)
  refine PySem.W.method_cls I1.kIn hm.ga (PySem.W.cls_bind I1.kIn hm.rd hm.at_ (wpAny_call (PySem.W.sm_get (s := { s1 with toks := s1.toks + 1 }) I1.kIn hrec (PySem.W.handed_on rfl ?_))))
  refine PySem.W.callWith_K (first := []) (h₀ := X.base) I.ok.mod.kin hm.kp (thn (ha.run pos pins _ σ H1 _ I1' q) fun us s2 hh => ?_) hst hpl
  obtain ⟨vs, H2, I2, r, q2⟩ := hh
  exact ⟨I2.kIn, wpAny_call (run_S F tk (hr.mono hk) I2.env0 I2 r q2)⟩
theorem c_sta0R {pl : Sem Bool} (c : StaR X.prog X.w X.K X.mg X.base k C m sp) (tk : Takes X W) (hr : Room j X.A) (hk : k ≤ j) (ho : PE X o ta)
    (ht : eval (.Call (.Attribute o m apos) [] [] pos) X.env = (do
      let ov ← eval o X.env
      standAt apos.atName
      let (f, first) ← holding [ov] (getMethod ov m pl)
      callWith pos f first (backTo pos (starEach [] X.env)) (backToKw pos (keywordEach [] X.env))) := by rfl) :
    PE X (.Call (.Attribute o m apos) [] [] pos) (tSta C sp W ta tNil) := by
  obtain ⟨p, g, hm, F⟩ := c.ex
  obtain ⟨rest, hrec⟩ := hm.rc
  refine ⟨fun pins s σ H Q I h => ?_⟩
  refine PySem.W.methodCall_KW (pl := pl) (thn (ho.run pins s σ H _ I h) fun u s1 hh => ?_) ht
  obtain ⟨x, H1, I1, rx, ex, q⟩ := hh
  subst ex
  obtain rfl : u = Value.ref C := rx
  have I1' := I1.tok (s1.toks + 1)
  refine PySem.W.method_cls I1.kIn hm.ga (PySem.W.cls_bind I1.kIn hm.rd hm.at_ (wpAny_call (PySem.W.sm_get (s := { s1 with toks := s1.toks + 1 }) I1.kIn hrec (PySem.W.handed_on rfl ?_))))
  exact PySem.W.callWith_K0 (first := []) I1'.kIn hm.kp (wpAny_call (run_S F tk (hr.mono hk) I1'.env0 I1' .nil q))
end
section
variable {P : Program} {w : World} {K : PySem.W.Frag} {mg : Str → Option Value} {base : Heap} {k : Nat} {C : Addr} {m qual : Str} {st : Stmt} {sp : Sp}
/-- what a def with a star parameter alone is promised, by what its body is promised -/
def starSp (sp : Sp) : Sp := fun vs H Q E => vs.length ≤ sizeLine ∧ ∀ p, H p = none → sp [.ref p] (upd H p (.tup vs)) Q E
/-- the arguments of a def of the text with a star parameter alone -/
def StarSt (x qual : Str) (st : Stmt) (pv : Str) : Prop := ∀ (kV doc pm : Value) (an : Option Addr) (cdv ct : Value) (rest : List Value), bindArgs (PySem.W.fnOf x qual (defArgs st) (defBody st) (defScope st) .none kV doc pm an cdv ct) ⟨rest, []⟩ = (newTuple rest >>= fun t => pure [(pv, t)])
theorem okStar {x : Str} {f : Addr} {fd : FuncData} {N : List Str} {pv : Str} (F : L2.Fun K x qual st f fd) (hb : StarSt x qual st pv) (S : FnScope N [pv] (defScope st))
    (hbody : ∀ (cdv : Value) (A : Around) (outer : List Env) (s : Shared) (H : Hp) (vs : List V) (Q : VK) (E : XK), Room k (A.deeper (envOfC qual (defScope st) s.heap.objs.size f cdv)) →
      Takes (cxOf (L2.CX P w) P w K mg base N qual (defScope st) f cdv A outer s H E) (fun c d _ H => E c d H) → sp vs H Q E →
      ∃ t, PSs (cxOf (L2.CX P w) P w K mg base N qual (defScope st) f cdv A outer s H E) (defBody st) t ∧ t ⟨fun _ H' => Q .non H', Q, fun _ _ => False, fun _ _ => False⟩ (start N vs) H) : FnR P w K mg base (L2.CX P w) (k + 1) f (starSp sp) := by
  obtain ⟨oc, od, kV, doc, pm, an, cdv, ct, osl, rfl, lk, hcd⟩ := id F.ex
  refine (StX.fn_star (ps := []) (pv := pv) (sp := sp) lk hcd S StX.cxUp (fun us rest hl => ?_) fun A outer s H vs Q E hr h => hbody cdv A outer s H vs Q E hr (takes_of rfl rfl rfl rfl) h).imp ?_
  · cases us with
    | nil => exact hb kV doc pm an cdv ct rest
    | cons u us => cases hl
  · rintro vs H Q E ⟨hl, h⟩
    exact ⟨[], vs, rfl, rfl, hl, h⟩
theorem staR_of {ps : List Str} (D : StaAt K C m qual st) (hb : BindsSt m qual st ps) (ok : ∀ {f : Addr} {fd : FuncData}, Fun K m qual st f fd → FnOk P w K mg base (L2.CX P w) k f fd ps sp) : StaR P w K mg base k C m sp := by
  obtain ⟨p, f, fd, a, F⟩ := D
  exact ⟨p, f, a, raw0 (ok F) (F.binds hb)⟩
theorem staS_of (D : StaAt K C m qual st) (ok : ∀ {f : Addr} {fd : FuncData}, Fun K m qual st f fd → FnR P w K mg base (L2.CX P w) k f sp) : StaR P w K mg base k C m sp := by
  obtain ⟨p, f, fd, a, F⟩ := D
  exact ⟨p, f, a, ok F⟩
end
end MyL

set_option Elab.async false
set_option linter.all false
set_option maxRecDepth 100000
set_option maxHeartbeats 4000000
/-! enumerate over a tuple that was made here. -/
namespace MyL
open PySem PySem.Spec PyProof.Rows L2
theorem enum_makes {v : Value} {o : Obj} {U : Heap → Prop} (B : Begins v o U) :
    Meets (Builtin.«enumerate.__new__» ⟨[.type "enumerate", v], []⟩) fun _ R s => U s.heap ∧ R (.ok (.ret (.ref (s.heap.push o).objs.size)))
      { s with heap := (s.heap.push o).push { cls := .type "enumerate", data := .fields #[.none, .bool false, .ref s.heap.objs.size, rawInt 0, .none, .none] } } :=
  .of_wp fun prog w A R s hyp => by
    obtain ⟨hp, g, d, tk, os⟩ := s
    obtain ⟨hU, hR⟩ := hyp
    have sb := sub_enumerate
    have goIt : ∀ {A2 : Around} {E2 : Value → Shared → Prop} {Q2 : Value → Shared → Prop}, Q2 (.ref hp.objs.size) ⟨hp.push o, g, d, tk, os⟩ → wpAny (model prog w) A2 (pyIter v) Q2 E2 ⟨hp, g, d, tk, os⟩ := fun z => B.iter prog w _ _ ⟨hp, g, d, tk, os⟩ _ hU z
    wp_walk using goIt
    refine wpAny_stack_any fun st2 => wpAny_pure ?_
    split
    · rename_i cc _ _ _ _ _
      cases (cc == Value.type "enumerate") <;> (wp_walk using goIt; exact ⟨_, rfl, hR⟩)
    · wp_walk using goIt
      exact ⟨_, rfl, hR⟩
theorem enum_call {prog : Program} {w : World} {A : Around} {E : Value → Shared → Prop} {s : Shared} {v : Value} {o : Obj} {U : Heap → Prop} {Q : Value → Shared → Prop} (B : Begins v o U) (hU : U s.heap)
    (fin : ∀ h2, IsEnum h2 (s.heap.objs.size + 1) s.heap.objs.size 0 .none → h2.get? s.heap.objs.size = some o → (∀ b ob, s.heap.get? b = some ob → h2.get? b = some ob) → Q (.ref (s.heap.objs.size + 1)) { s with heap := h2 }) :
    wpAny (model prog w) A (call (.type "enumerate") [v]) Q E s := by
  refine callType_new F.called_enumerate (by decide) (F.typeCall_enumerate_1 v) (F.newCall_enumerate_1 v) (fun ob => F.args_object_init_2 ob v) F.entry_enumerate_new (enum_makes B) ⟨hU, ?_⟩
  have size1 : (s.heap.push o).objs.size = s.heap.objs.size + 1 := Heap.size_push ..
  show _ ∧ _
  rw [size1]
  have isE : IsEnum ((s.heap.push o).push { cls := .type "enumerate", data := .fields #[.none, .bool false, .ref s.heap.objs.size, rawInt 0, .none, .none] }) (s.heap.objs.size + 1) s.heap.objs.size 0 .none := by
    have z := Heap.get?_push_size (s.heap.push o) (o := { cls := .type "enumerate", data := .fields #[.none, .bool false, .ref s.heap.objs.size, rawInt 0, .none, .none] }) rfl
    rw [size1] at z
    exact z
  exact ⟨⟨_, isE, rfl⟩, fin _ isE (Heap.get?_push_of_some _ (Heap.get?_push_size _ B.free)) fun b ob z => Heap.get?_push_of_some _ (Heap.get?_push_of_some _ z)⟩
/-- the tuple at a, each item in a new pair -/
def IteT (a : Addr) : It :=
  ⟨fun i H => ∃ (xs : List V) (x : V), H a = some (.tup xs) ∧ xs[i]? = some x,
   fun i H v H' => ∃ T x, v = .ref T ∧ H T = none ∧ H' = upd H T (.tup [.int (i : Nat), x]) ∧ ∀ xs, H a = some (.tup xs) → xs[i]? = some x,
   fun i H => ∃ xs : List V, H a = some (.tup xs) ∧ xs.length = i⟩
theorem turn_enumT {P : Program} {w : World} {K : PySem.W.Frag} {elts : List Expr} {kk : Nat} {tpos : Pos} (a e it : Addr) :
    Turn P w K (.Tuple elts kk tpos) (IteT a) [e, it] e fun i h => (∃ old, IsEnum h e it ((i : Nat) : Int) old) ∧ h.IsTupleIter it a i ∧ e ≠ it where
  mem := List.mem_cons_self
  obj := fun i h st b hb => by
    obtain ⟨⟨old, he⟩, ⟨o, ho, hc, hd⟩, _⟩ := st
    simp only [List.mem_cons, List.not_mem_nil, or_false] at hb
    rcases hb with rfl | rfl
    · exact ⟨_, he, fun v z => nomatch z⟩
    · exact ⟨o, ho, fun v z => by rw [hd] at z; cases z⟩
  keep := fun i h h2 st k => by
    obtain ⟨⟨old, he⟩, hi, hne⟩ := st
    exact ⟨⟨old, k e (by simp) _ he⟩, hi.at fun o z => k it (by simp) o z, hne⟩
  item := by
    rintro X rfl rfl rfl calm i pins s σ H E I fp ⟨⟨old, he⟩, hit, hne⟩ ⟨xs, x, hq, hx⟩
    obtain ⟨its, rv, tup, _⟩ := I.tuple (SqT.of (K := X.K) hq)
    obtain ⟨u, hu, ru⟩ := rv.get hx
    have apart : ∀ b ∈ [e, it], a ≠ b := fun b hb z => by
      have n := (fp b hb).1
      rw [← z, hq] at n
      cases n
    have elt : e < s.heap.objs.size := Heap.lt_size he
    have ilt : it < s.heap.objs.size := by
      obtain ⟨_, z, _⟩ := hit
      exact Heap.lt_size z
    have isz : i < its.toArray.size := by
      have := (List.getElem?_eq_some_iff.mp hu).1
      simpa using this
    refine wpAny_pyNext_enum_itemD (Draws.tuple (A := X.A.in1) (I.ok.hd calm) it a (apart it (by simp)) its.toArray) he ⟨hit, tup⟩ isz hne (by simp [hne, Ne.symm (apart e (by simp))]) fun y h2 tk hy out st2 hT _ hk => ?_
    have ey : y = u := by
      have : its.toArray[i]? = some u := by simpa using hu
      rw [this] at hy
      exact (Option.some.inj hy).symm
    subst ey
    refine ⟨_, rfl, wpAny_letOwnedTupleGo_enum (s := { s with heap := h2, toks := tk + 1 }) out fun h3 he3 sb => ?_⟩
    have at3 : h3.get? s.heap.objs.size = some { cls := .type "tuple", data := .seq #[.int i tk, y] } := (sb.2 _ (Nat.ne_of_gt elt)).trans hT
    have pair : ObjOk X.prog X.w (upd H s.heap.objs.size (.tup [.int (i : Nat), x])) h3 s.heap.objs.size (.tup [.int (i : Nat), x]) := ⟨by show 2 ≤ sizeLine; decide, [.int i tk, y], .cons ⟨_, rfl⟩ (.cons ru .nil), _, at3, rfl, _, rfl⟩
    have I2 : Inv X pins σ (upd H s.heap.objs.size (.tup [.int (i : Nat), x])) { s with heap := h3, toks := tk + 1 } := I.turnedNew (ch := [e, it]) (fun b ob nb z => (sb.2 b fun q => nb (by simp [q])).trans (hk b ob (fun q => nb (by simp [q])) (fun q => nb (by simp [q])) z)) fp (Nat.le_refl _) pair
    refine ⟨.ref s.heap.objs.size, _, I2, rfl, ⟨_, x, rfl, I.hok.fresh (Nat.le_refl _), rfl, fun ys hy2 => by rw [hq] at hy2; cases hy2; exact hx⟩, ⟨⟨y, ?_⟩, st2.1.at fun ob z => (sb.2 it (Ne.symm hne)).trans z, hne⟩, fun b hb => ?_⟩
    · rw [show ((i + 1 : Nat) : Int) = (i : Int) + 1 by omega]
      exact he3
    · have blt : b < s.heap.objs.size := by
        simp only [List.mem_cons, List.not_mem_nil, or_false] at hb
        rcases hb with rfl | rfl <;> assumption
      rw [upd_ne (Nat.ne_of_lt blt)]
      exact (fp b hb).1
  done := by
    rintro X rfl rfl rfl calm i pins s σ H E I fp ⟨⟨old, he⟩, hit, hne⟩ ⟨xs, hq, hl⟩
    obtain ⟨its, rv, tup, _⟩ := I.tuple (SqT.of (K := X.K) hq)
    have apart : a ≠ it := fun z => by
      have n := (fp it (by simp)).1
      rw [← z, hq] at n
      cases n
    have en : its.toArray.size = i := by
      have := rv.length
      simp
      omega
    obtain ⟨f0, f1, _, f3, f4, f5⟩ := fp it (by simp)
    exact wpAny_pyNext_enum_endD (Draws.tuple (A := X.A.in1) (I.ok.hd calm) it a apart its.toArray) he ⟨by rw [en]; exact hit, tup⟩ fun h2 eb => ⟨rfl, I.turned (t' := s.toks) (fun b ob nb z => eb b ob nb z) f0 f1 f3 f4 f5⟩
  self := fun A i s Q E st z => by
    obtain ⟨⟨_, he⟩, _⟩ := st
    exact wpAny_pyIter_enum he z
def iEnumT (ta : TA) : TI := fun σ H R => ta σ H fun vs H1 => ∃ a xs, vs = [.ref a] ∧ H1 a = some (.tup xs) ∧ R (IteT a) H1
theorem pi_enumT {X : Cx} {e : Expr} {ta : TA} {p pos tpos : Pos} {elts : List Expr} {kk : Nat} (hg : Gl X "enumerate") (hm : X.mg "enumerate" = none) (ha : PA X [e] ta) (hs : starEach [e] X.env = [(false, eval e X.env)] := by rfl) :
    PI X (.Tuple elts kk tpos) (.Call (.Name "enumerate" p) [e] [] pos) (iEnumT ta) := by
  refine ⟨fun pins s σ H R I hyp => Call_ (ld_blt I hg hm boot_enumerate (PyProof.Rows.callWith_type1 (thn (ha.run pos pins s σ H _ I hyp) fun us s1 hq => ?_) hs rfl))⟩
  obtain ⟨vs, H1, I1, r1, a, xs, rfl, hq, q⟩ := hq
  obtain ⟨u, rfl, ru⟩ := r1.one
  cases ru
  obtain ⟨its, rv, tup, _⟩ := I1.tuple (SqT.of (K := X.K) hq)
  refine enum_call (begins_tuple a its.toArray) tup fun h2 isE ho hk => wpAny_pyIter_enum isE ?_
  have I2 : Inv X pins σ H1 { s1 with heap := h2 } := I1.kept (t' := s1.toks) hk
  refine ⟨s1.heap.objs.size + 1, [s1.heap.objs.size + 1, s1.heap.objs.size], _, _, H1, rfl, I2, turn_enumT a (s1.heap.objs.size + 1) s1.heap.objs.size, ⟨⟨.none, isE⟩, ⟨_, ho, rfl, rfl⟩, Nat.succ_ne_self _⟩, fun b hb => ?_, q⟩
  have above : s1.heap.objs.size ≤ b := by
    simp only [List.mem_cons, List.not_mem_nil, or_false] at hb
    rcases hb with rfl | rfl
    · exact Nat.le_add_right _ _
    · exact Nat.le_refl _
  exact I1.fpOk above (I1.hok.fresh above)
end MyL

set_option Elab.async false
set_option linter.all false
set_option maxRecDepth 100000
set_option maxHeartbeats 4000000
/-! list(range(..)), insert, pop(i), truth of lists, enumerate loops; rows of numbers in the heap. -/
namespace MyL
open PySem PySem.Spec PyProof.Rows L2
section
variable {X : Cx}
theorem cr_range1 : CallR X (.type "range") fun vs H Q => ∃ j, vs = [V.int j] ∧ ∀ p, H p = none → Q (.ref p) (upd H p (.rng 0 j)) := by
  rintro pins s σ H vs us Q I r ⟨j, rfl, q⟩
  obtain ⟨u, rfl, t, rfl⟩ := r.one
  refine call_range_1 ⟨.ref s.heap.objs.size, upd H s.heap.objs.size (.rng 0 j), I.laid (t' := s.toks + 1 + 1) (fun b o z => Heap.get?_push_of_some _ z) (Nat.le_refl _) ?_, rfl, q _ (I.hok.fresh (Nat.le_refl _))⟩
  exact ⟨s.toks, t, s.toks + 1, Heap.get?_push_size _ rfl⟩
def rListRng : List V → Hp → VK → Prop := fun vs H Q => ∃ a lo hi, vs = [V.ref a] ∧ H a = some (.rng lo hi) ∧ Builtin.Range.small lo hi 1 = true ∧ (hi - lo).toNat ≤ 2 ^ 24 ∧ ∀ p, H p = none → Q (.ref p) (upd H p (.lst ((List.range (hi - lo).toNat).map fun (i : Nat) => .int (lo + i))))
theorem b_listRng (hc : X.calm = true) : CallR X (.type "list") rListRng := by
  rintro pins s σ H vs us Q I r ⟨a, lo, hi, rfl, ha, hsm, hle, q⟩
  obtain ⟨u, rfl, ru⟩ := r.one
  cases ru
  obtain ⟨t1, t2, t3, ho⟩ := I.hok a _ ha
  have sz : Builtin.Range.rangeSize lo hi 1 = ((hi - lo).toNat : Nat) := by
    unfold Builtin.Range.rangeSize
    rw [if_pos (by decide)]
    split <;> omega
  refine call_list_range (I.ok.hd hc) ho hsm sz hle fun h2 tk acc c2 hk hS hacc => ?_
  have en : acc.toList.length = (hi - lo).toNat := by simpa using hacc.1
  have rv : Vals ((List.range (hi - lo).toNat).map fun (i : Nat) => V.int (lo + i)) acc.toList := by
    rw [← en]
    refine vals_of_get acc.toList (fun (i : Nat) => V.int (lo + i)) fun j v hj => ?_
    obtain ⟨t, e⟩ := hacc.2 j v (by simpa using hj)
    exact ⟨t, by rw [e, Int.mul_one]⟩
  refine ⟨.ref s.heap.objs.size, _, I.laid (t' := tk) hk (Nat.le_refl _) (show ObjOk X.prog X.w _ h2 _ (.lst ((List.range (hi - lo).toNat).map fun (i : Nat) => V.int (lo + i))) from ⟨?_, acc.toList, c2, rv, by simpa using hS⟩), rfl, q _ (I.hok.fresh (Nat.le_refl _))⟩
  rw [List.length_map, List.length_range]
  exact Nat.le_trans hle (by rw [sizeLine_eq]; decide)
theorem pi_enumQ {e : Expr} {ta : TA} {p pos tpos : Pos} {elts : List Expr} {kk : Nat} (hg : Gl X "enumerate") (hm : X.mg "enumerate" = none) (ha : PA X [e] ta) (hs : starEach [e] X.env = [(false, eval e X.env)] := by rfl) :
    PI X (.Tuple elts kk tpos) (.Call (.Name "enumerate" p) [e] [] pos) (iOr (iEnum X.K ta) (iEnumT ta)) := pi_or (pi_enum hg hm ha hs) (pi_enumT hg hm ha hs)
def rInsert : V → List V → Hp → VK → Prop := fun x vs H Q => ∃ (l : Addr) (xs : List V) (i : Int) (y : V), x = .ref l ∧ vs = [.int i, y] ∧ H l = some (.lst xs) ∧ xs.length < sizeLine ∧ 0 ≤ i ∧ i < 2 ^ 63 ∧ Q .non (upd H l (.lst (xs.take i.toNat ++ [y] ++ xs.drop i.toNat)))
theorem mt_insert0 : MtR X "list.insert" rInsert := mt_insert
end
section
variable {nx : L2.St → Hp → Prop} {rt : VK} {bk ct : L2.St → Hp → Prop} {σ : L2.St} {H : Hp} {tb : TS} {g : TG} {te tl : TE} {tt : TT} {Q : VK} {tA : TA} {K : PySem.W.Frag} {B : Hp} {ms : List Addr} {f l : List (Addr × HO)}
theorem enumQ_loop {n : Nat} {a : Addr} {xs : List V} (hv : σ[n]? = some (some (.ref a))) (hq : Sq H a xs) (Pv : Nat → L2.St → Hp → Prop) (h0 : Pv 0 σ H) (hk : ∀ i σ' H' o, i ≤ xs.length → Pv i σ' H' → H a = some o → H' a = some o)
    (hs : ∀ i x σ' H' T, xs[i]? = some x → Pv i σ' H' → H' T = none → g (.ref T) σ' (upd H' T (.tup [.int (i : Nat), x])) fun σ2 H2 => tb ⟨Pv (i + 1), rt, nx, Pv (i + 1)⟩ σ2 H2) (hd : ∀ σ' H', Pv xs.length σ' H' → nx σ' H') :
    tFor (iOr (iEnum K (tCons (tVar n) tNil)) (iEnumT (tCons (tVar n) tNil))) g tb ⟨nx, rt, bk, ct⟩ σ H := by
  rcases hq with hq | hq
  · refine .inl ⟨_, hv, a, xs, rfl, SqL.of hq, fun i m σ' H' => m = xs.length - i ∧ i ≤ xs.length ∧ Pv i σ' H', ⟨_, rfl, Nat.zero_le _, h0⟩, ?_⟩
    rintro i m σ' H' ⟨rfl, hi, hp⟩
    have sq := hk i σ' H' _ hi hp hq
    by_cases hlt : i < xs.length
    · refine .inr ⟨⟨xs, xs[i], SqL.of sq, List.getElem?_eq_getElem hlt⟩, Pv (i + 1), fun σ2 H2 p2 => ⟨xs.length - (i + 1), by omega, rfl, hlt, p2⟩, ?_⟩
      rintro v H2 ⟨T, x, rfl, hT, rfl, hx⟩
      exact hs i x σ' H' T (hx xs (SqL.of sq)) hp hT
    · have e : i = xs.length := by omega
      subst e
      exact .inl ⟨⟨xs, SqL.of sq, Nat.le_refl _⟩, hd σ' H' hp⟩
  · refine .inr ⟨_, hv, a, xs, rfl, hq, fun i m σ' H' => m = xs.length - i ∧ i ≤ xs.length ∧ Pv i σ' H', ⟨_, rfl, Nat.zero_le _, h0⟩, ?_⟩
    rintro i m σ' H' ⟨rfl, hi, hp⟩
    have sq := hk i σ' H' _ hi hp hq
    by_cases hlt : i < xs.length
    · refine .inr ⟨⟨xs, xs[i], sq, List.getElem?_eq_getElem hlt⟩, Pv (i + 1), fun σ2 H2 p2 => ⟨xs.length - (i + 1), by omega, rfl, hlt, p2⟩, ?_⟩
      rintro v H2 ⟨T, x, rfl, hT, rfl, hx⟩
      exact hs i x σ' H' T (hx xs sq) hp hT
    · have e : i = xs.length := by omega
      subst e
      exact .inl ⟨⟨xs, sq, rfl⟩, hd σ' H' hp⟩
theorem k_truL {p : Addr} {xs : List V} {QB : Bool → Hp → Prop} (h : H p = some (.lst xs)) (q : QB (!xs.isEmpty) H) : ∃ k, TruV K (.ref p) H k ∧ QB k H := ⟨_, .inl ⟨xs, SqL.of h, rfl⟩, q⟩
theorem k_truT {p : Addr} {xs : List V} {QB : Bool → Hp → Prop} (h : H p = some (.tup xs)) (q : QB (!xs.isEmpty) H) : ∃ k, TruV K (.ref p) H k ∧ QB k H := ⟨_, .inr (.inl ⟨xs, SqT.of h, rfl⟩), q⟩
theorem k_insert {p : Addr} {xs : List V} {i : Int} {y : V} (M : Mem B ms H f ((p, .lst xs) :: l)) (hs : xs.length < sizeLine) (h0 : 0 ≤ i) (h1 : i < 2 ^ 63) (q : ∀ H', Mem B ms H' f ((p, .lst (xs.take i.toNat ++ [y] ++ xs.drop i.toNat)) :: l) → Q .non H') : rInsert (.ref p) [.int i, y] H Q :=
  ⟨p, xs, i, y, rfl, rfl, M.getL List.mem_cons_self, hs, h0, h1, q _ (Mem.setL (l1 := []) M)⟩
theorem seqIx {i : Int} {n : Nat} (h0 : 0 ≤ i) (h1 : i < n) : seqIndex? i n = some i.toNat := by
  unfold seqIndex?
  simp only
  split
  · omega
  · split
    · rfl
    · rename_i z; simp at z; omega
theorem k_popAt {p : Addr} {xs : List V} {i : Int} {y : V} (M : Mem B ms H f ((p, .lst xs) :: l)) (h0 : 0 ≤ i) (h1 : i < xs.length) (hl : xs.length ≤ 50000) (hy : xs[i.toNat]? = some y) (q : ∀ H', Mem B ms H' f ((p, .lst (xs.eraseIdx i.toNat)) :: l) → Q y H') : rPopAt (.ref p) [.int i] H Q :=
  ⟨p, xs, i, i.toNat, y, rfl, rfl, M.getL List.mem_cons_self, by omega, by omega, seqIx h0 h1, hy, q _ (Mem.setL (l1 := []) M)⟩
theorem k_range1 {j : Int} (M : Mem B ms H f l) (q : ∀ p H', Mem B ms H' f ((p, .rng 0 j) :: l) → Q (.ref p) H') : (fun (vs : List V) (H : Hp) (Q : VK) => ∃ j, vs = [V.int j] ∧ ∀ p, H p = none → Q (.ref p) (upd H p (.rng 0 j))) [.int j] H Q := ⟨j, rfl, fun p hp => q p _ (M.alloc hp)⟩
end
/-! ### things told of a row of values -/
def PX {β : Type} (R : Addr → β → Prop) (xs : List V) (bs : List β) : Prop := xs.length = bs.length ∧ ∀ (i : Nat) (x : V) (b : β), xs[i]? = some x → bs[i]? = some b → ∃ p, x = .ref p ∧ R p b
section
variable {β : Type} {R R' : Addr → β → Prop} {xs ys : List V} {bs cs : List β}
theorem PX.nil : PX R [] [] := ⟨rfl, fun i x s h => by simp at h⟩
theorem PX.get (h : PX R xs bs) {i : Nat} {x : V} (hx : xs[i]? = some x) : ∃ b p, bs[i]? = some b ∧ x = .ref p ∧ R p b := by
  have hi := (List.getElem?_eq_some_iff.mp hx).1
  rw [h.1] at hi
  obtain ⟨p, e, hp⟩ := h.2 i x _ hx (List.getElem?_eq_getElem hi)
  exact ⟨_, p, List.getElem?_eq_getElem hi, e, hp⟩
theorem PX.mono (h : PX R xs bs) (k : ∀ p b, R p b → R' p b) : PX R' xs bs := ⟨h.1, fun i x s a b => (h.2 i x s a b).imp fun p ⟨e, z⟩ => ⟨e, k p s z⟩⟩
theorem PX.append (h1 : PX R xs bs) (h2 : PX R ys cs) : PX R (xs ++ ys) (bs ++ cs) := by
  refine ⟨by rw [List.length_append, List.length_append, h1.1, h2.1], fun i x s hx hs => ?_⟩
  by_cases hi : i < xs.length
  · rw [List.getElem?_append_left hi] at hx
    rw [List.getElem?_append_left (by rw [← h1.1]; exact hi)] at hs
    exact h1.2 i x s hx hs
  · rw [List.getElem?_append_right (by omega)] at hx
    rw [List.getElem?_append_right (by rw [← h1.1]; omega), ← h1.1] at hs
    exact h2.2 _ x s hx hs
theorem PX.one {p : Addr} {b : β} (h : R p b) : PX R [.ref p] [b] := ⟨rfl, fun i x s' a c => by
  cases i with
  | zero => simp at a c; subst a c; exact ⟨p, rfl, h⟩
  | succ i => simp at a⟩
theorem PX.take (h : PX R xs bs) (n : Nat) : PX R (xs.take n) (bs.take n) := by
  refine ⟨by rw [List.length_take, List.length_take, h.1], fun i x s hx hs => ?_⟩
  rw [List.getElem?_take] at hx hs
  split at hx
  · rename_i hn; rw [if_pos hn] at hs; exact h.2 i x s hx hs
  · cases hx
theorem PX.drop (h : PX R xs bs) (n : Nat) : PX R (xs.drop n) (bs.drop n) := by
  refine ⟨by rw [List.length_drop, List.length_drop, h.1], fun i x s hx hs => ?_⟩
  rw [List.getElem?_drop] at hx hs
  exact h.2 _ x s hx hs
theorem PX.reverse (h : PX R xs bs) : PX R xs.reverse bs.reverse := by
  refine ⟨by rw [List.length_reverse, List.length_reverse, h.1], fun i x s hx hs => ?_⟩
  have hi := (List.getElem?_eq_some_iff.mp hx).1
  rw [List.length_reverse] at hi
  rw [List.getElem?_reverse hi] at hx
  rw [List.getElem?_reverse (by rw [← h.1]; exact hi), ← h.1] at hs
  exact h.2 _ x s hx hs
theorem PX.erase (h : PX R xs bs) (n : Nat) : PX R (xs.eraseIdx n) (bs.eraseIdx n) := by
  rw [List.eraseIdx_eq_take_drop_succ, List.eraseIdx_eq_take_drop_succ]
  exact (h.take n).append (h.drop (n + 1))
end
/-! ### rows of numbers -/
abbrev rowO (r : List Int) : HO := .tup (r.map V.int)
abbrev Rws (H : Hp) : List V → List (List Int) → Prop := PX fun p r => H p = some (rowO r)
abbrev RwL (l : List (Addr × HO)) : List V → List (List Int) → Prop := PX fun p r => (p, rowO r) ∈ l
section
variable {B H H' : Hp} {ms : List Addr} {f l l' : List (Addr × HO)} {xs ys : List V} {rs : List (List Int)} {K : PySem.W.Frag} {Q : VK} {a b : Addr}
theorem Rws.same (h : Rws H xs rs) (s : Same H H') : Rws H' xs rs := h.mono fun p r e => s _ _ e
theorem RwL.rws (M : Mem B ms H f l) (h : RwL l xs rs) : Rws H xs rs := h.mono fun p r e => M.getL e
theorem RwL.more (h : RwL l xs rs) (k : ∀ z ∈ l, z ∈ l') : RwL l' xs rs := h.mono fun p r e => k _ e
abbrev rd (r : List Int) : PyData := .tuple (r.map PyData.int)
theorem Rws.dp (h : Rws H xs rs) : DpAll K H xs (rs.map rd) := by
  induction xs generalizing rs with
  | nil =>
    have e := h.1
    cases rs with
    | nil => exact .nil
    | cons s ss => simp at e
  | cons x xs ih =>
    have e := h.1
    cases rs with
    | nil => simp at e
    | cons s ss =>
      obtain ⟨p, rfl, hp⟩ := h.2 0 x s rfl rfl
      exact .cons (.tup (SqT.of hp) dp_ints) (ih ⟨by simpa using e, fun i x s a b => h.2 (i + 1) x s (by simpa using a) (by simpa using b)⟩)
theorem ints_lay (r : List Int) : PyData.canLayAll0 (r.map PyData.int) = true := by
  induction r with
  | nil => rfl
  | cons s ss ih => simp only [List.map_cons, PyData.canLayAll0, PyData.canLay0, ih, Bool.and_self]
theorem ints_depth (r : List Int) : PyData.depthAll (r.map PyData.int) = 0 := by
  induction r with
  | nil => rfl
  | cons s ss ih => simp only [List.map_cons, PyData.depthAll, PyData.depth, ih]; rfl
theorem rd_lay (rs : List (List Int)) : PyData.canLayAll0 (rs.map rd) = true := by
  induction rs with
  | nil => rfl
  | cons s ss ih => simp only [List.map_cons, PyData.canLayAll0, PyData.canLay0, ih, ints_lay, Bool.and_self]
theorem rd_depth (rs : List (List Int)) : PyData.depthAll (rs.map rd) ≤ 1 := by
  induction rs with
  | nil => simp [PyData.depthAll]
  | cons s ss ih => simp only [List.map_cons, PyData.depthAll, PyData.depth, ints_depth]; omega
theorem rd_shaped (rs : List (List Int)) : SeqAt.shaped (.list (rs.map rd)) = true := by
  have h := rd_depth rs
  unfold SeqAt.shaped
  rw [Bool.and_eq_true, decide_eq_true_eq]
  exact ⟨by simp only [PyData.canLay0]; exact rd_lay rs, by simp only [PyData.depth]; omega⟩
theorem ints_eqv (r s : List Int) : PyData.eqvAll (r.map PyData.int) (s.map PyData.int) = decide (r = s) := by
  induction r generalizing s with
  | nil => cases s with
    | nil => rfl
    | cons y s => rfl
  | cons x r ih => cases s with
    | nil => rfl
    | cons y s =>
      simp only [List.map_cons, PyData.eqvAll, PyData.eqv, ih]
      by_cases h : x = y
      · subst h; simp
      · simp [h]
theorem rd_eqv (rs : List (List Int)) : PyData.eqvAll (rs.map rd) (rs.map rd) = true := by
  induction rs with
  | nil => rfl
  | cons s ss ih => simp only [List.map_cons, PyData.eqvAll, PyData.eqv, ints_eqv, ih, decide_true, Bool.and_self]
theorem k_eqRws (h1 : H a = some (.lst xs)) (h2 : H b = some (.lst ys)) (p1 : Rws H xs rs) (p2 : Rws H ys rs) (q : Q (.bl true) H) : rEqD K (.ref a) (.ref b) H Q :=
  ⟨_, _, .lst (SqL.of h1) p1.dp, .lst (SqL.of h2) p2.dp, rd_shaped rs, rd_shaped rs, by simp only [PyData.eqv]; rw [rd_eqv]; exact q⟩
theorem k_eqNil {ds : List PyData} (h1 : SqL K H a xs) (h2 : H b = some (.lst [])) (hd : DpAll K H xs ds) (hs : SeqAt.shaped (.list ds) = true) (q : Q (.bl xs.isEmpty) H) : rEqD K (.ref a) (.ref b) H Q := by
  refine ⟨.list ds, .list [], .lst h1 hd, .lst (SqL.of h2) .nil, hs, by decide +kernel, ?_⟩
  have e : PyData.eqv (.list ds) (.list []) = xs.isEmpty := by
    cases hd with
    | nil => rfl
    | cons _ _ => rfl
  rw [e]; exact q
theorem ints_shaped (r : List Int) : SeqAt.shaped (.list (r.map PyData.int)) = true := by
  unfold SeqAt.shaped
  rw [Bool.and_eq_true, decide_eq_true_eq]
  exact ⟨by simp only [PyData.canLay0]; exact ints_lay r, by simp only [PyData.depth, ints_depth]; omega⟩
end
end MyL

set_option Elab.async false
set_option linter.all false
set_option maxRecDepth 100000
set_option maxHeartbeats 4000000
/-! tuple + tuple, list * int, int(bool), l[i] = v, rows and rows of rows told alike, a row in a list of rows. -/
namespace MyL
open PySem PySem.Spec PyProof.Rows L2
theorem units65 {k : Nat} {A : Around} (r : Room k A) : A.units + 65 < cLine := by have := r.un; omega
section
variable {X : Cx}
def rIntB : List V → Hp → VK → Prop := fun xs H Q => ∃ k, xs = [.bl k] ∧ Q (.int (if k = true then 1 else 0)) H
theorem b_intB : CallR X (.type "int") rIntB := fun pins s σ H xs us Q I r h => call_int1 pins s σ H xs us Q I r (.inr h)
end
section
variable {B H : Hp} {ms : List Addr} {f l : List (Addr × HO)} {Q : VK} {K : PySem.W.Frag} {a b p : Addr} {xs ys : List V}
theorem k_intB {k : Bool} (q : Q (.int (if k = true then 1 else 0)) H) : rIntB [.bl k] H Q := ⟨k, rfl, q⟩
theorem k_catA (M : Mem B ms H f l) (h1 : SqT K H a xs) (hb : (b, HO.tup ys) ∈ l) (hy : ys ≠ []) (hz : xs.length + ys.length ≤ sizeLine) (q : ∀ p H' l2, (p, HO.tup (xs ++ ys)) ∈ l2 ++ l → Mem B ms H' f (l2 ++ l) → Q (.ref p) H') : rCatA K (.ref a) (.ref b) H Q := by
  refine ⟨a, b, xs, ys, rfl, rfl, h1, SqT.of (M.getL hb), hz, ?_, ?_, ?_⟩
  · rintro rfl
    exact q b H [] hb M
  · intro _ e
    exact absurd e hy
  · intro _ _ p hp
    exact q p _ [(p, .tup (xs ++ ys))] List.mem_cons_self (M.alloc hp)
theorem rep_ints {n : Nat} {x : Int} : (List.replicate n [V.int x]).flatten = (List.replicate n x).map V.int := by
  induction n with
  | zero => rfl
  | succ n ih => rw [List.replicate_succ, List.flatten_cons, ih, List.replicate_succ, List.map_cons]; rfl
theorem k_rep {x k : Int} (M : Mem B ms H f l) (h : H a = some (.lst [.int x])) (h0 : 0 ≤ k) (h1 : k ≤ 50000) (q : ∀ p H', Mem B ms H' f ((p, .lst ((List.replicate k.toNat x).map V.int)) :: l) → Q (.ref p) H') : rRep (.ref a) (.int k) H Q := by
  refine ⟨a, k, _, rfl, rfl, h, by omega, by omega, ?_, fun p hp => ?_⟩
  · rw [List.length_singleton, Nat.one_mul]
    exact Nat.le_trans (show k.toNat ≤ 50000 by omega) (by decide)
  · rw [rep_ints]
    exact q p _ (M.alloc hp)
theorem k_setI {k : Int} {v : V} {QH : Hp → Prop} (M : Mem B ms H f ((p, .lst xs) :: l)) (h0 : 0 ≤ k) (h1 : k < xs.length) (q : ∀ H', Mem B ms H' f ((p, .lst (xs.set k.toNat v)) :: l) → QH H') : rSetL (.ref p) (.int k) v H QH := by
  refine ⟨p, xs, k, k.toNat, rfl, rfl, M.getL List.mem_cons_self, ?_, q _ (Mem.setL (l1 := []) M)⟩
  unfold ixN
  rw [if_pos h0, if_pos (by omega)]
theorem row_shaped (r : List Int) : SeqAt.shaped (.tuple (r.map PyData.int)) = true := by
  have h := ints_depth r
  unfold SeqAt.shaped
  rw [Bool.and_eq_true, decide_eq_true_eq]
  exact ⟨by simp only [PyData.canLay0]; exact ints_lay r, by simp only [PyData.depth]; omega⟩
theorem k_neRow {r s : List Int} (h1 : SqT K H a (r.map V.int)) (h2 : SqT K H b (s.map V.int)) (q : Q (.bl (!decide (r = s))) H) : rNeD K (.ref a) (.ref b) H Q :=
  ⟨.tuple (r.map PyData.int), .tuple (s.map PyData.int), .tup h1 dp_ints, .tup h2 dp_ints, row_shaped r, row_shaped s, by simp only [PyData.eqv]; rw [ints_eqv]; exact q⟩
theorem k_eqRow {r s : List Int} (h1 : SqT K H a (r.map V.int)) (h2 : SqT K H b (s.map V.int)) (q : Q (.bl (decide (r = s))) H) : rEqD K (.ref a) (.ref b) H Q :=
  ⟨.tuple (r.map PyData.int), .tuple (s.map PyData.int), .tup h1 dp_ints, .tup h2 dp_ints, row_shaped r, row_shaped s, by simp only [PyData.eqv]; rw [ints_eqv]; exact q⟩
theorem rows_any (rows : List (List Int)) (r : List Int) : ((rows.map rd).any fun z => PyData.eqv z (.tuple (r.map PyData.int))) = decide (r ∈ rows) := by
  induction rows with
  | nil => rfl
  | cons s rows ih =>
    rw [List.map_cons, List.any_cons, ih]
    simp only [rd, PyData.eqv]
    rw [ints_eqv, Bool.eq_iff_iff]
    simp only [Bool.or_eq_true, decide_eq_true_eq, List.mem_cons]
    exact or_congr eq_comm Iff.rfl
theorem k_inRows {r : List Int} {rows : List (List Int)} (h1 : SqT K H a (r.map V.int)) (h2 : H b = some (.lst xs)) (p : Rws H xs rows) (q : Q (.bl (decide (r ∈ rows))) H) : rInD K (.ref a) (.ref b) H Q :=
  ⟨.tuple (r.map PyData.int), rows.map rd, .tup h1 dp_ints, .lst (SqL.of h2) p.dp, row_shaped r, rd_shaped rows, by rw [rows_any]; exact q⟩
theorem PX.cons {β : Type} {R : Addr → β → Prop} {xs : List V} {b : β} {bs : List β} {p : Addr} (h : R p b) (t : PX R xs bs) : PX R (.ref p :: xs) (b :: bs) := (PX.one h).append t
theorem pdT_shaped (ss : List Pr) : SeqAt.shaped (.tuple (ss.map pd)) = true := by
  have h := pd_shaped ss
  unfold SeqAt.shaped at h ⊢
  rw [Bool.and_eq_true, decide_eq_true_eq] at h ⊢
  simp only [PyData.canLay0, PyData.depth] at h ⊢
  exact h
theorem k_eqPrsT {ss : List Pr} (h1 : H a = some (.tup xs)) (h2 : H b = some (.tup ys)) (p1 : Prs H xs ss) (p2 : Prs H ys ss) (q : Q (.bl true) H) : rEqD K (.ref a) (.ref b) H Q :=
  ⟨_, _, .tup (SqT.of h1) p1.dp, .tup (SqT.of h2) p2.dp, pdT_shaped ss, pdT_shaped ss, by simp only [PyData.eqv]; rw [pd_eqv]; exact q⟩
theorem k_neRws {rs : List (List Int)} (h1 : H a = some (.lst xs)) (h2 : H b = some (.lst ys)) (p1 : Rws H xs rs) (p2 : Rws H ys rs) (q : Q (.bl false) H) : rNeD K (.ref a) (.ref b) H Q :=
  ⟨_, _, .lst (SqL.of h1) p1.dp, .lst (SqL.of h2) p2.dp, rd_shaped rs, rd_shaped rs, by simp only [PyData.eqv]; rw [rd_eqv]; exact q⟩
/-! ### triples of two numbers and a row -/
abbrev Tr3 := Int × Int × List Int
abbrev trO (t : Tr3) (q : Addr) : HO := .tup [.int t.1, .int t.2.1, .ref q]
abbrev Trs (H : Hp) : List V → List Tr3 → Prop := PX fun p t => ∃ q, H p = some (trO t q) ∧ H q = some (rowO t.2.2)
abbrev TrL (l : List (Addr × HO)) : List V → List Tr3 → Prop := PX fun p t => ∃ q, (p, trO t q) ∈ l ∧ (q, rowO t.2.2) ∈ l
theorem Trs.same {H' : Hp} {ts : List Tr3} (h : Trs H xs ts) (s : Same H H') : Trs H' xs ts := h.mono fun p t ⟨q, e1, e2⟩ => ⟨q, s _ _ e1, s _ _ e2⟩
theorem TrL.trs {ts : List Tr3} (M : Mem B ms H f l) (h : TrL l xs ts) : Trs H xs ts := h.mono fun p t ⟨q, e1, e2⟩ => ⟨q, M.getL e1, M.getL e2⟩
theorem TrL.more {l' : List (Addr × HO)} {ts : List Tr3} (h : TrL l xs ts) (k : ∀ z ∈ l, z ∈ l') : TrL l' xs ts := h.mono fun p t ⟨q, e1, e2⟩ => ⟨q, k _ e1, k _ e2⟩
theorem k_neTr {t : Tr3} {u v : Addr} (h1 : H a = some (trO t u)) (h2 : H u = some (rowO t.2.2)) (h3 : H b = some (trO t v)) (h4 : H v = some (rowO t.2.2)) (q : Q (.bl false) H) : rNeD K (.ref a) (.ref b) H Q := by
  have hs : SeqAt.shaped (.tuple [.int t.1, .int t.2.1, .tuple (t.2.2.map PyData.int)]) = true := by
    have h := ints_depth t.2.2
    unfold SeqAt.shaped
    rw [Bool.and_eq_true, decide_eq_true_eq]
    refine ⟨?_, ?_⟩
    · simp only [PyData.canLay0, PyData.canLayAll0, ints_lay, Bool.and_self]
    · simp only [PyData.depth, PyData.depthAll, h]; omega
  refine ⟨_, _, .tup (SqT.of h1) (.cons (.int _) (.cons (.int _) (.cons (.tup (SqT.of h2) dp_ints) .nil))), .tup (SqT.of h3) (.cons (.int _) (.cons (.int _) (.cons (.tup (SqT.of h4) dp_ints) .nil))), hs, hs, ?_⟩
  have e : PyData.eqv (.tuple [.int t.1, .int t.2.1, .tuple (t.2.2.map PyData.int)]) (.tuple [.int t.1, .int t.2.1, .tuple (t.2.2.map PyData.int)]) = true := by
    simp only [PyData.eqv, PyData.eqvAll, ints_eqv, decide_true, Bool.and_true, beq_self_eq_true]
  rw [e]
  exact q
end
end MyL

set_option Elab.async false
set_option linter.all false
set_option maxRecDepth 100000
set_option maxHeartbeats 8000000
namespace K35
open PySem L2 MyL
def top (i : Nat) : Stmt := PySem.Challenge.pw_fittingpasts_k35_whole_demands.main.body.getD i (.Pass ⟨0, 0, 0, 0⟩)
abbrev s_is_integer : Stmt := top 7
abbrev N_is_integer : List Str := ["value"]
theorem sc_is_integer : FnScope N_is_integer ["value"] (defScope s_is_integer) := ⟨rfl, rfl, rfl, by decide +kernel, rfl, by decide +kernel, by decide +kernel⟩
theorem st_is_integer (a0 : V) : start N_is_integer [a0] = [some a0] := rfl
abbrev s_is_term : Stmt := top 12
abbrev N_is_term : List Str := ["term", "mark", "direction"]
theorem sc_is_term : FnScope N_is_term ["term"] (defScope s_is_term) := ⟨rfl, rfl, rfl, by decide +kernel, rfl, by decide +kernel, by decide +kernel⟩
theorem st_is_term (a0 : V) : start N_is_term [a0] = [some a0, none, none] := rfl
abbrev s_compare_by : Stmt := top 15
abbrev N_compare_by : List Str := ["terms", "first", "second", "mark", "direction"]
theorem sc_compare_by : FnScope N_compare_by ["terms", "first", "second"] (defScope s_compare_by) := ⟨rfl, rfl, rfl, by decide +kernel, rfl, by decide +kernel, by decide +kernel⟩
theorem st_compare_by (a0 a1 a2 : V) : start N_compare_by [a0, a1, a2] = [some a0, some a1, some a2, none, none] := rfl
abbrev s_Rule_init : Stmt := inClass (top 16) 0
abbrev N_Rule_init : List Str := ["self", "terms", "marks", "at", "term"]
theorem sc_Rule_init : FnScope N_Rule_init ["self", "terms"] (defScope s_Rule_init) := ⟨rfl, rfl, rfl, by decide +kernel, rfl, by decide +kernel, by decide +kernel⟩
theorem st_Rule_init (a0 a1 : V) : start N_Rule_init [a0, a1] = [some a0, some a1, none, none, none] := rfl
abbrev s_demand : Stmt := top 19
abbrev N_demand : List Str := ["rule", "first", "second", "other", "signs", "sign"]
theorem sc_demand : FnScope N_demand ["rule", "first", "second"] (defScope s_demand) := ⟨rfl, rfl, rfl, by decide +kernel, rfl, by decide +kernel, by decide +kernel⟩
theorem st_demand (a0 a1 a2 : V) : start N_demand [a0, a1, a2] = [some a0, some a1, some a2, none, none, none] := rfl
abbrev s_shelf_demands : Stmt := top 20
abbrev N_shelf_demands : List Str := ["rule", "shelf", "demands", "i", "j", "signs"]
theorem sc_shelf_demands : FnScope N_shelf_demands ["rule", "shelf"] (defScope s_shelf_demands) := ⟨rfl, rfl, rfl, by decide +kernel, rfl, by decide +kernel, by decide +kernel⟩
theorem st_shelf_demands (a0 a1 : V) : start N_shelf_demands [a0, a1] = [some a0, some a1, none, none, none, none] := rfl
abbrev s__law_box : Stmt := top 22
abbrev N__law_box : List Str := ["_law_script", "_law_place"]
theorem sc__law_box : FnScope N__law_box ["_law_script", "_law_place"] (defScope s__law_box) := ⟨rfl, rfl, rfl, by decide +kernel, rfl, by decide +kernel, by decide +kernel⟩
theorem st__law_box (a0 a1 : V) : start N__law_box [a0, a1] = [some a0, some a1] := rfl
abbrev s__law_take : Stmt := top 23
abbrev N__law_take : List Str := ["_law_bag", "_law_size", "_law_digit", "_law_mixed"]
theorem sc__law_take : FnScope N__law_take ["_law_bag", "_law_size"] (defScope s__law_take) := ⟨rfl, rfl, rfl, by decide +kernel, rfl, by decide +kernel, by decide +kernel⟩
theorem st__law_take (a0 a1 : V) : start N__law_take [a0, a1] = [some a0, some a1, none, none] := rfl
abbrev s__law_integer : Stmt := top 24
abbrev N__law_integer : List Str := ["_law_told"]
theorem sc__law_integer : FnScope N__law_integer ["_law_told"] (defScope s__law_integer) := ⟨rfl, rfl, rfl, by decide +kernel, rfl, by decide +kernel, by decide +kernel⟩
theorem st__law_integer (a0 : V) : start N__law_integer [a0] = [some a0] := rfl
abbrev s__law_value : Stmt := top 25
abbrev N__law_value : List Str := ["_law_bag", "_law_plain", "_law_kind", "_law_size"]
theorem sc__law_value : FnScope N__law_value ["_law_bag", "_law_plain"] (defScope s__law_value) := ⟨rfl, rfl, rfl, by decide +kernel, rfl, by decide +kernel, by decide +kernel⟩
theorem st__law_value (a0 a1 : V) : start N__law_value [a0, a1] = [some a0, some a1, none, none] := rfl
abbrev s__law_terms : Stmt := top 26
abbrev N__law_terms : List Str := ["_law_bag", "_law_many", "_law_marks", "_law_left", "_law_terms_here", "_law_turn", "_law_mark"]
theorem sc__law_terms : FnScope N__law_terms ["_law_bag", "_law_many", "_law_marks"] (defScope s__law_terms) := ⟨rfl, rfl, rfl, by decide +kernel, rfl, by decide +kernel, by decide +kernel⟩
theorem st__law_terms (a0 a1 a2 : V) : start N__law_terms [a0, a1, a2] = [some a0, some a1, some a2, none, none, none, none] := rfl
abbrev s__law_roll : Stmt := top 27
abbrev N__law_roll : List Str := ["_law_bag", "_law_at", "_law_marks", "_law_pool", "_law_row", "_law_mark", "_law_value_here", "_law_near"]
theorem sc__law_roll : FnScope N__law_roll ["_law_bag", "_law_at", "_law_marks", "_law_pool"] (defScope s__law_roll) := ⟨rfl, rfl, rfl, by decide +kernel, rfl, by decide +kernel, by decide +kernel⟩
theorem st__law_roll (a0 a1 a2 a3 : V) : start N__law_roll [a0, a1, a2, a3] = [some a0, some a1, some a2, some a3, none, none, none, none] := rfl
abbrev s__law_side : Stmt := top 28
abbrev N__law_side : List Str := ["_law_terms_here", "_law_one", "_law_two", "_law_mark", "_law_direction"]
theorem sc__law_side : FnScope N__law_side ["_law_terms_here", "_law_one", "_law_two"] (defScope s__law_side) := ⟨rfl, rfl, rfl, by decide +kernel, rfl, by decide +kernel, by decide +kernel⟩
theorem st__law_side (a0 a1 a2 : V) : start N__law_side [a0, a1, a2] = [some a0, some a1, some a2, none, none] := rfl
abbrev s__law_laid : Stmt := top 29
abbrev N__law_laid : List Str := ["_law_terms_here", "_law_rolls", "_law_laid_here", "_law_roll_here", "_law_at", "_law_one"]
theorem sc__law_laid : FnScope N__law_laid ["_law_terms_here", "_law_rolls"] (defScope s__law_laid) := ⟨rfl, rfl, rfl, by decide +kernel, rfl, by decide +kernel, by decide +kernel⟩
theorem st__law_laid (a0 a1 : V) : start N__law_laid [a0, a1] = [some a0, some a1, none, none, none, none] := rfl
abbrev s__law_shelf : Stmt := top 30
abbrev N__law_shelf : List Str := ["_law_bag", "_law_known", "_law_terms_here", "_law_pool", "_law_many", "_law_rolls", "_law_at", "_law_term"]
theorem sc__law_shelf : FnScope N__law_shelf ["_law_bag", "_law_known", "_law_terms_here"] (defScope s__law_shelf) := ⟨rfl, rfl, rfl, by decide +kernel, rfl, by decide +kernel, by decide +kernel⟩
theorem st__law_shelf (a0 a1 a2 : V) : start N__law_shelf [a0, a1, a2] = [some a0, some a1, some a2, none, none, none, none, none] := rfl
abbrev s__law_is_triple : Stmt := top 31
abbrev N__law_is_triple : List Str := ["_law_told"]
theorem sc__law_is_triple : FnScope N__law_is_triple ["_law_told"] (defScope s__law_is_triple) := ⟨rfl, rfl, rfl, by decide +kernel, rfl, by decide +kernel, by decide +kernel⟩
theorem st__law_is_triple (a0 : V) : start N__law_is_triple [a0] = [some a0] := rfl
abbrev s__law_signs_right : Stmt := top 32
abbrev N__law_signs_right : List Str := ["_law_told", "_law_due", "_law_sign"]
theorem sc__law_signs_right : FnScope N__law_signs_right ["_law_told", "_law_due"] (defScope s__law_signs_right) := ⟨rfl, rfl, rfl, by decide +kernel, rfl, by decide +kernel, by decide +kernel⟩
theorem st__law_signs_right (a0 a1 : V) : start N__law_signs_right [a0, a1] = [some a0, some a1, none] := rfl
abbrev s__law_demand_right : Stmt := top 33
abbrev N__law_demand_right : List Str := ["_law_bag", "_law_rule", "_law_terms_here", "_law_one", "_law_two", "_law_told", "_law_due", "_law_sign", "_law_age", "_law_away"]
theorem sc__law_demand_right : FnScope N__law_demand_right ["_law_bag", "_law_rule", "_law_terms_here", "_law_one", "_law_two"] (defScope s__law_demand_right) := ⟨rfl, rfl, rfl, by decide +kernel, rfl, by decide +kernel, by decide +kernel⟩
theorem st__law_demand_right (a0 a1 a2 a3 a4 : V) : start N__law_demand_right [a0, a1, a2, a3, a4] = [some a0, some a1, some a2, some a3, some a4, none, none, none, none, none] := rfl
abbrev s__law_signs : Stmt := top 34
abbrev N__law_signs : List Str := ["_law_terms_here", "_law_one", "_law_two", "_law_found", "_law_sign"]
theorem sc__law_signs : FnScope N__law_signs ["_law_terms_here", "_law_one", "_law_two"] (defScope s__law_signs) := ⟨rfl, rfl, rfl, by decide +kernel, rfl, by decide +kernel, by decide +kernel⟩
theorem st__law_signs (a0 a1 a2 : V) : start N__law_signs [a0, a1, a2] = [some a0, some a1, some a2, none, none] := rfl
abbrev s__law_triples_right : Stmt := top 35
abbrev N__law_triples_right : List Str := ["_law_told", "_law_terms_here", "_law_shelf_here", "_law_due", "_law_one", "_law_two", "_law_signs_here", "_law_at"]
theorem sc__law_triples_right : FnScope N__law_triples_right ["_law_told", "_law_terms_here", "_law_shelf_here"] (defScope s__law_triples_right) := ⟨rfl, rfl, rfl, by decide +kernel, rfl, by decide +kernel, by decide +kernel⟩
theorem st__law_triples_right (a0 a1 a2 : V) : start N__law_triples_right [a0, a1, a2] = [some a0, some a1, some a2, none, none, none, none, none] := rfl
abbrev s__law_asked_ages : Stmt := top 36
abbrev N__law_asked_ages : List Str := ["_law_triples", "_law_many", "_law_ages", "_law_turn", "_law_one", "_law_two", "_law_signs_here"]
theorem sc__law_asked_ages : FnScope N__law_asked_ages ["_law_triples", "_law_many"] (defScope s__law_asked_ages) := ⟨rfl, rfl, rfl, by decide +kernel, rfl, by decide +kernel, by decide +kernel⟩
theorem st__law_asked_ages (a0 a1 : V) : start N__law_asked_ages [a0, a1] = [some a0, some a1, none, none, none, none, none] := rfl
abbrev s__law_age_rows : Stmt := top 37
abbrev N__law_age_rows : List Str := ["_law_bag", "_law_triples", "_law_many", "_law_rows", "_law_turn", "_law_size", "_law_at"]
theorem sc__law_age_rows : FnScope N__law_age_rows ["_law_bag", "_law_triples", "_law_many"] (defScope s__law_age_rows) := ⟨rfl, rfl, rfl, by decide +kernel, rfl, by decide +kernel, by decide +kernel⟩
theorem st__law_age_rows (a0 a1 a2 : V) : start N__law_age_rows [a0, a1, a2] = [some a0, some a1, some a2, none, none, none, none] := rfl
abbrev s__law_ages_right : Stmt := top 38
abbrev N__law_ages_right : List Str := ["_law_told", "_law_terms_here", "_law_shelf_here", "_law_ages", "_law_fine", "_law_one", "_law_two", "_law_kept", "_law_signs_here", "_law_sign"]
theorem sc__law_ages_right : FnScope N__law_ages_right ["_law_told", "_law_terms_here", "_law_shelf_here", "_law_ages"] (defScope s__law_ages_right) := ⟨rfl, rfl, rfl, by decide +kernel, rfl, by decide +kernel, by decide +kernel⟩
theorem st__law_ages_right (a0 a1 a2 a3 : V) : start N__law_ages_right [a0, a1, a2, a3] = [some a0, some a1, some a2, some a3, none, none, none, none, none, none] := rfl
abbrev s__law_rule_right : Stmt := top 39
abbrev N__law_rule_right : List Str := ["_law_bag", "_law_terms_here", "_law_shelf_here", "_law_rule", "_law_one", "_law_two", "_law_handed", "_law_told", "_law_back", "_law_ages"]
theorem sc__law_rule_right : FnScope N__law_rule_right ["_law_bag", "_law_terms_here", "_law_shelf_here"] (defScope s__law_rule_right) := ⟨rfl, rfl, rfl, by decide +kernel, rfl, by decide +kernel, by decide +kernel⟩
theorem st__law_rule_right (a0 a1 a2 : V) : start N__law_rule_right [a0, a1, a2] = [some a0, some a1, some a2, none, none, none, none, none, none, none] := rfl
abbrev s_law : Stmt := top 40
abbrev N_law : List Str := ["_law_script", "_law_bag", "_law_known", "_law_terms_here", "_law_shelf_here", "_law_turned", "_law_term"]
theorem sc_law : FnScope N_law ["_law_script"] (defScope s_law) := ⟨rfl, rfl, rfl, by decide +kernel, rfl, by decide +kernel, by decide +kernel⟩
theorem st_law (a0 : V) : start N_law [a0] = [some a0, none, none, none, none, none, none] := rfl
/-! ### the plain law -/
/-- what a sequence of terms says of two rows -/
def side : List Pr → List Int → List Int → Int
  | [], _, _ => 0
  | (m, d) :: ts, a, b => if a.getD m.toNat 0 = b.getD m.toNat 0 then side ts a b else if a.getD m.toNat 0 > b.getD m.toNat 0 then d else -d
/-- the terms: their marks apart and below n, each up or down -/
structure Tms (n : Int) (ts : List Pr) : Prop where
  rng : ∀ t ∈ ts, 0 ≤ t.1 ∧ t.1 < n
  dir : ∀ t ∈ ts, t.2 = 1 ∨ t.2 = -1
  nd : (ts.map (·.1)).Nodup
theorem side_le {ts : List Pr} (h : ∀ t ∈ ts, t.2 = 1 ∨ t.2 = -1) (a b : List Int) : side ts a b = -1 ∨ side ts a b = 0 ∨ side ts a b = 1 := by
  induction ts with
  | nil => exact .inr (.inl rfl)
  | cons t ts ih =>
    obtain ⟨m, d⟩ := t
    have hd := h (m, d) List.mem_cons_self
    unfold side
    split
    · exact ih fun t ht => h t (List.mem_cons_of_mem _ ht)
    · dsimp only at hd
      split <;> omega
theorem getD_last {a : List Int} {x : Int} {i : Nat} : (a ++ [x]).getD i 0 = if i < a.length then a.getD i 0 else if i = a.length then x else 0 := by
  by_cases h : i < a.length
  · rw [if_pos h, List.getD_eq_getElem?_getD, List.getD_eq_getElem?_getD, List.getElem?_append_left h]
  · rw [if_neg h, List.getD_eq_getElem?_getD, List.getElem?_append_right (by omega)]
    by_cases e : i = a.length
    · subst e; simp
    · rw [if_neg e, List.getElem?_eq_none (by simp; omega)]; rfl
theorem side_last {ts : List Pr} {a b : List Int} (h : a.length = b.length) {x y x' y' : Int} (h1 : x = y ↔ x' = y') (h2 : x > y ↔ x' > y') : side ts (a ++ [x]) (b ++ [y]) = side ts (a ++ [x']) (b ++ [y']) := by
  induction ts with
  | nil => rfl
  | cons t ts ih =>
    obtain ⟨m, d⟩ := t
    simp only [side, getD_last, h, ih]
    by_cases hm : m.toNat < b.length
    · simp only [if_pos hm]
    · simp only [if_neg hm]
      by_cases e : m.toNat = b.length
      · simp only [if_pos e, h1, h2]
      · simp only [if_neg e]
abbrev sg3 : List Int := [-1, 0, 1]
/-- the signs of an age that a pair of rows allows -/
def dem (ts : List Pr) (a b : List Int) : List Int := sg3.filter fun s => decide (side ts (a ++ [s]) (b ++ [0]) ≤ 0)
theorem side_three {ts : List Pr} {a b : List Int} (hd : ∀ t ∈ ts, t.2 = 1 ∨ t.2 = -1) (h : a.length = b.length) :
    (side ts (a ++ [-1]) (b ++ [0]) = side ts (a ++ [0]) (b ++ [0]) ∧ side ts (a ++ [1]) (b ++ [0]) = side ts (a ++ [0]) (b ++ [0])) ∨ (side ts (a ++ [-1]) (b ++ [0]) = -1 ∧ side ts (a ++ [1]) (b ++ [0]) = 1) ∨ (side ts (a ++ [-1]) (b ++ [0]) = 1 ∧ side ts (a ++ [1]) (b ++ [0]) = -1) := by
  induction ts with
  | nil => exact .inl ⟨rfl, rfl⟩
  | cons t ts ih =>
    have ih := ih fun t ht => hd t (List.mem_cons_of_mem _ ht)
    obtain ⟨m, d⟩ := t
    have hdd : d = 1 ∨ d = -1 := hd (m, d) List.mem_cons_self
    by_cases hm : m.toNat < b.length
    · simp only [side, getD_last, h, if_pos hm]
      by_cases e : a.getD m.toNat 0 = b.getD m.toNat 0
      · simp only [if_pos e]; exact ih
      · simp only [if_neg e]; exact .inl ⟨trivial, trivial⟩
    · by_cases e : m.toNat = b.length
      · simp only [side, getD_last, h, if_neg hm, if_pos e]
        rw [if_neg (show ¬ (-1 : Int) = 0 by omega), if_neg (show ¬ (-1 : Int) > 0 by omega), if_neg (show ¬ (1 : Int) = 0 by omega), if_pos (show (1 : Int) > 0 by omega)]
        rcases hdd with rfl | rfl <;> omega
      · simp only [side, getD_last, h, if_neg hm, if_neg e]
        exact ih
abbrev six : List (List Int) := [[], [-1], [-1, 0], [0, 1], [1], [-1, 0, 1]]
theorem dem_six {ts : List Pr} {a b : List Int} (hd : ∀ t ∈ ts, t.2 = 1 ∨ t.2 = -1) (h : a.length = b.length) : dem ts a b ∈ six := by
  have h3 := side_three hd h
  unfold dem sg3
  simp only [List.filter]
  rcases h3 with ⟨e1, e2⟩ | ⟨e1, e2⟩ | ⟨e1, e2⟩
  · rw [e1, e2]
    by_cases z : side ts (a ++ [0]) (b ++ [0]) ≤ 0
    · rw [decide_eq_true z]; decide
    · rw [decide_eq_false z]; decide
  · rw [e1, e2]
    by_cases z : side ts (a ++ [0]) (b ++ [0]) ≤ 0
    · rw [decide_eq_true z]; decide
    · rw [decide_eq_false z]; decide
  · rw [e1, e2]
    by_cases z : side ts (a ++ [0]) (b ++ [0]) ≤ 0
    · rw [decide_eq_true z]; decide
    · rw [decide_eq_false z]; decide
abbrev sgn (x y : Int) : Int := (if decide (x > y) = true then 1 else 0) - (if decide (x < y) = true then 1 else 0)
theorem sgn_mem {ts : List Pr} {a b : List Int} (h : a.length = b.length) {x y : Int} : sgn x y ∈ dem ts a b ↔ side ts (a ++ [x]) (b ++ [y]) ≤ 0 := by
  have hs : sgn x y = -1 ∧ x < y ∨ sgn x y = 0 ∧ x = y ∨ sgn x y = 1 ∧ x > y := by
    unfold sgn
    by_cases h1 : x > y
    · rw [decide_eq_true h1, decide_eq_false (show ¬ x < y by omega)]; simp; omega
    · by_cases h2 : x < y
      · rw [decide_eq_false h1, decide_eq_true h2]; simp; omega
      · rw [decide_eq_false h1, decide_eq_false h2]; simp; omega
  have e : side ts (a ++ [x]) (b ++ [y]) = side ts (a ++ [sgn x y]) (b ++ [0]) := side_last h (by omega) (by omega)
  rw [e, dem, List.mem_filter, decide_eq_true_eq]
  refine ⟨fun z => z.2, fun z => ⟨?_, z⟩⟩
  rcases hs with ⟨z, _⟩ | ⟨z, _⟩ | ⟨z, _⟩ <;> rw [z] <;> decide
/-- the pairs of a shelf: the rows ahead of i, a part of row i -/
def PR1 (i : Nat) (js : List Nat) : List (Nat × Nat) := js.map fun j => (i, j)
def PL (n : Nat) (is : List Nat) : List (Nat × Nat) := is.flatMap fun i => PR1 i (List.range' (i + 1) (n - (i + 1)))
theorem range'_snoc (a n : Nat) : List.range' a (n + 1) = List.range' a n ++ [a + n] := by
  have := List.range'_concat (s := a) (n := n) (step := 1)
  simpa using this
theorem PL_next (n i : Nat) : PL n (List.range (i + 1)) = PL n (List.range i) ++ PR1 i (List.range' (i + 1) (n - (i + 1))) := by
  unfold PL
  rw [List.range_succ, List.flatMap_append]; simp
theorem PR1_next (i m : Nat) : PR1 i (List.range' (i + 1) (m + 1)) = PR1 i (List.range' (i + 1) m) ++ [(i, i + 1 + m)] := by
  unfold PR1
  rw [range'_snoc, List.map_append]; rfl
theorem mem_PL {n : Nat} {p : Nat × Nat} : p ∈ PL n (List.range n) → p.1 < n ∧ p.2 < n := by
  intro h
  unfold PL PR1 at h
  rw [List.mem_flatMap] at h
  obtain ⟨i, hi, h⟩ := h
  rw [List.mem_map] at h
  obtain ⟨j, hj, rfl⟩ := h
  rw [List.mem_range] at hi
  rw [List.mem_range'_1] at hj
  exact ⟨hi, by dsimp only; omega⟩
theorem PL_len (n i : Nat) : (PL n (List.range i)).length ≤ i * n := by
  induction i with
  | zero => simp [PL]
  | succ i ih =>
    rw [PL_next, List.length_append, Nat.add_mul]
    have : (PR1 i (List.range' (i + 1) (n - (i + 1)))).length = n - (i + 1) := by rw [PR1, List.length_map, List.length_range']
    omega
abbrev Tr := Int × Int × List Int
abbrev dm (ts : List Pr) (S : List (List Int)) (p : Nat × Nat) : List Int := dem ts (S.getD p.1 []) (S.getD p.2 [])
def demL (ts : List Pr) (S : List (List Int)) (L : List (Nat × Nat)) : List Tr := (L.filter fun p => !decide (dm ts S p = sg3)).map fun p => ((p.1 : Int), (p.2 : Int), dm ts S p)
theorem demL_app (ts : List Pr) (S : List (List Int)) (L M : List (Nat × Nat)) : demL ts S (L ++ M) = demL ts S L ++ demL ts S M := by
  unfold demL
  rw [List.filter_append, List.map_append]
theorem demL_one (ts : List Pr) (S : List (List Int)) (p : Nat × Nat) : demL ts S [p] = if (!decide (dm ts S p = sg3)) = true then [((p.1 : Int), (p.2 : Int), dm ts S p)] else [] := by
  unfold demL
  by_cases h : (!decide (dm ts S p = sg3)) = true
  · rw [if_pos h, List.filter_cons_of_pos (p := fun p => !decide (dm ts S p = sg3)) (a := p) h]; rfl
  · rw [if_neg h, List.filter_cons_of_neg (p := fun p => !decide (dm ts S p = sg3)) (a := p) h]; rfl
theorem demL_len (ts : List Pr) (S : List (List Int)) (L : List (Nat × Nat)) : (demL ts S L).length ≤ L.length := by
  unfold demL
  rw [List.length_map]
  exact List.length_filter_le _ _
/-- the whole demands of a shelf -/
abbrev dmS (ts : List Pr) (S : List (List Int)) : List Tr := demL ts S (PL S.length (List.range S.length))
abbrev ag (ns : List Int) (i : Nat) : Int := ns.getD i 0
abbrev fineP (ts : List Pr) (S : List (List Int)) (ns : List Int) (p : Nat × Nat) : Bool := decide (side ts (S.getD p.1 [] ++ [ag ns p.1]) (S.getD p.2 [] ++ [ag ns p.2]) ≤ 0)
abbrev keptP (ns : List Int) (t : Tr) : Bool := decide (sgn (ag ns t.1.toNat) (ag ns t.2.1.toNat) ∈ t.2.2)
theorem fine_kept {ts : List Pr} {S : List (List Int)} {n : Nat} {ns : List Int} (hS : ∀ r ∈ S, r.length = n) {L : List (Nat × Nat)} (hL : ∀ p ∈ L, p.1 < S.length ∧ p.2 < S.length) : L.all (fineP ts S ns) = (demL ts S L).all (keptP ns) := by
  induction L with
  | nil => rfl
  | cons p L ih =>
    have ih := ih fun q hq => hL q (List.mem_cons_of_mem _ hq)
    obtain ⟨h1, h2⟩ := hL p List.mem_cons_self
    have e : demL ts S (p :: L) = demL ts S [p] ++ demL ts S L := demL_app ts S [p] L
    rw [List.all_cons, ih, e, List.all_append]
    congr 1
    have hlen : (S.getD p.1 []).length = (S.getD p.2 []).length := by
      have a1 : S.getD p.1 [] ∈ S := by rw [List.getD_eq_getElem?_getD, List.getElem?_eq_getElem h1]; exact List.getElem_mem h1
      have a2 : S.getD p.2 [] ∈ S := by rw [List.getD_eq_getElem?_getD, List.getElem?_eq_getElem h2]; exact List.getElem_mem h2
      rw [hS _ a1, hS _ a2]
    have key : fineP ts S ns p = decide (sgn (ag ns p.1) (ag ns p.2) ∈ dm ts S p) := by
      unfold fineP
      exact decide_eq_decide.mpr (sgn_mem hlen).symm
    rw [key, demL_one]
    by_cases h : dm ts S p = sg3
    · rw [decide_eq_true h, if_neg (by decide), List.all_nil, decide_eq_true_eq, h]
      unfold sgn
      by_cases h1 : ag ns p.1 > ag ns p.2
      · rw [decide_eq_true h1, decide_eq_false (show ¬ ag ns p.1 < ag ns p.2 by omega)]; decide
      · by_cases h2 : ag ns p.1 < ag ns p.2
        · rw [decide_eq_false h1, decide_eq_true h2]; decide
        · rw [decide_eq_false h1, decide_eq_false h2]; decide
    · rw [decide_eq_false h, if_pos (by decide), List.all_cons, List.all_nil, Bool.and_true]
      rfl

local macro_rules | `(tactic| walk_at "mem") => `(tactic| first | exact List.mem_cons_self | (refine List.mem_cons_of_mem _ ?_; walk_at "mem"))
local macro_rules | `(tactic| walk_at "hp") => `(tactic| first | assumption | (refine' Mem.getL ?k1 ?k2; (case k1 => assumption); (case k2 => walk_at "mem")) | (refine' Mem.getF ?k1 ?k2; (case k1 => assumption); (case k2 => walk_at "mem")) | (refine' Mem.atB ?k1 ?k2; (case k1 => assumption); (case k2 => assumption)))
local macro_rules | `(tactic| walk_at "cond") => `(tactic| first | omega | assumption | exact mulR (by omega) (by omega) | exact mulL (by omega) (by omega) | exact divW (by omega) (by omega) | decide)
local macro_rules | `(tactic| walk_at "look") => `(tactic| first | assumption | with_unfolding_all rfl | exact atI_map (by omega) (by omega))
local macro_rules | `(tactic| walk_at "go1") => `(tactic| with_reducible first
  | refine k_seq ?_ | refine k_gName ?_ | refine k_asg ?_ | refine k_ret ?_ | refine k_ifS ?_ | refine k_drop ?_ | refine k_next ?_ | refine k_break ?_ | refine k_cont ?_ | refine k_retN ?_
  | (refine' k_var ?k1 ?_; (case k1 => with_unfolding_all rfl)) | refine k_c ?_ | refine k_op ?_ | refine k_un ?_ | refine k_test ?_ | refine k_B ?_ | refine k_bl ?_ | refine k_and ?_ | refine k_or ?_ | refine k_not ?_
  | refine k_andV ?_ | refine k_orV ?_ | refine k_notV ?_ | refine k_ifE ?_ | refine k_nil ?_ | refine k_cons ?_ | refine k_cb ?_ | refine k_callS ?_ | refine k_lst0 ?_ | refine k_tup0 ?_ | refine k_fld0 ?_ | refine k_sub0 ?_ | refine k_make0 ?_ | refine k_prop0 ?_ | refine k_sta0 ?_ | refine k_sta ?_ | refine k_bm ?_ | refine k_bm0 ?_ | refine k_chain ?_ | refine k_makeK0 ?_ | refine k_swapK ?_ | refine k_meth0 ?_ | refine k_ownN0 ?_ | refine k_ownO0 ?_ | refine k_sfld0 ?_ | refine k_jnil ?_ | refine k_jcons ?_ | refine k_fmt0 ?_ | refine k_sl0 ?_ | refine k_nopart ?_ | refine k_part ?_ | refine k_forR1 ?_ | refine k_forR2 ?_ | refine k_forL ?_ | refine k_forT ?_ | refine k_lcR1 ?_ | refine k_lcR2 ?_ | refine k_lcL ?_ | refine k_lcT ?_ | refine k_err0 ?_ | refine k_xf0 ?_ | refine k_errQ1 ?_ | refine k_errQ0 ?_ | refine k_errQ2 ?_ | refine k_errQ3 ?_
  | refine k_I0 ?_ | (refine k_I ?k1 ?_; (case k1 => walk_at "cond")) | refine k_U ?_ | refine k_eqI ?_ | refine k_neI ?_ | refine k_eqB ?_ | refine k_neB ?_ | refine k_eqS ?_ | refine k_neS ?_
  | refine k_int1 ?_ | refine k_abs1 ?_ | refine k_min2 ?_ | refine k_max2 ?_
  | (refine' k_lenM ?k1 ?_; (case k1 => walk_at "hp")) | (refine' k_lenL ?k1 ?_; (case k1 => walk_at "hp")) | (refine' k_lenT ?k1 ?_; (case k1 => walk_at "hp"))
  | (refine' k_lenS ?k1 ?_; (case k1 => assumption)) | (refine' k_ixS ?k1 ?k2 ?_; (case k1 => assumption); (case k2 => walk_at "look"))
  | (refine' k_ixL ?k1 ?k2 ?_; (case k1 => walk_at "hp"); (case k2 => walk_at "look")) | (refine' k_ixT ?k1 ?k2 ?_; (case k1 => walk_at "hp"); (case k2 => walk_at "look"))
  | (refine' k_ix4 ?k1 ?k2 ?k3 ?_; (case k1 => walk_at "hp"); (case k2 => omega); (case k3 => omega); intro n' hn')
  | (refine' k_ix3 ?k1 ?k2 ?k3 ?_; (case k1 => walk_at "hp"); (case k2 => omega); (case k3 => omega); intro n' hn')
  | (refine' k_ix2 ?k1 ?k2 ?k3 ?_; (case k1 => walk_at "hp"); (case k2 => omega); (case k3 => omega); intro n' hn')
  | (refine' k_fld ?k1 ?k2 ?k3 ?k4 ?_; (case k1 => walk_at "hp"); (case k2 => assumption); (case k3 => assumption); (case k4 => walk_at "fld"))
  | (refine' k_lst ?k1 ?k2 ?_; (case k1 => assumption); (case k2 => exact sz (by simp)); intro p' H' M')
  | (refine' k_tup ?k1 ?k2 ?_; (case k1 => assumption); (case k2 => exact sz (by simp)); intro p' H' M')
  | (refine' k_setF0 ?k1 ?k2 ?k3 ?_; (case k1 => assumption); (case k2 => simp); (case k3 => with_unfolding_all rfl); intro H' M'; try simp only [Int.reduceToNat, List.set_cons_succ, List.set_cons_zero] at M')
  | (refine' k_setL0 ?k1 ?k2 ?_; (case k1 => assumption); (case k2 => with_unfolding_all rfl); intro H' M'; try simp only [Int.reduceToNat, List.set_cons_succ, List.set_cons_zero] at M')
  | (refine' k_setL1 ?k1 ?k2 ?_; (case k1 => assumption); (case k2 => with_unfolding_all rfl); intro H' M'; try simp only [Int.reduceToNat, List.set_cons_succ, List.set_cons_zero] at M')
  | (refine' k_setL2 ?k1 ?k2 ?_; (case k1 => assumption); (case k2 => with_unfolding_all rfl); intro H' M'; try simp only [Int.reduceToNat, List.set_cons_succ, List.set_cons_zero] at M')
  | refine iteT ?_ | refine iteF ?_ | refine k_iteNE ?_ | refine k_iteNS ?_ | refine k_iteNT ?_ | refine k_iteNF ?_
  | (refine k_iteD ?_ ?_ <;> intro hc <;> first | (exfalso; omega) | skip)
  | (refine k_iteN ?_ ?_ <;> intro hc <;> first | (exfalso; omega) | skip)
  | (refine' k_ownN ?k1 ?_; (case k1 => walk_at "hp")) | (refine' k_ownO ?k1 ?k2 ?_; (case k1 => walk_at "hp"); (case k2 => walk_at "hp")) | (refine' k_ownEq ?k1 ?k2 ?_; (case k1 => walk_at "hp"); (case k2 => walk_at "hp"))
  | (refine' k_ownIn ?k1 ?_; (case k1 => walk_at "hp")) | (refine' k_ownU ?k1 ?_; (case k1 => walk_at "hp")) | (refine' k_ownStr ?k1 ?_; (case k1 => walk_at "hp"))
  | (refine' k_prop ?k1 ?_; (case k1 => walk_at "hp")) | (refine' k_ownNe ?k1 ?k2 ?_; (case k1 => walk_at "hp"); (case k2 => walk_at "hp")) | (refine' k_eqP ?k1 ?k2 ?_; (case k1 => walk_at "hp"); (case k2 => walk_at "hp")) | (refine' k_neP ?k1 ?k2 ?_; (case k1 => walk_at "hp"); (case k2 => walk_at "hp"))
  | (refine' k_isiO ?k1 ?k2 ?k3 ?k4 ?k5 ?k6 ?_; (case k1 => walk_at "hp"); (case k2 => assumption); (case k3 => assumption); (case k4 => assumption); (case k5 => assumption); (case k6 => assumption))
  | (refine' k_isiI ?k1 ?_; (case k1 => assumption))
  | (refine' k_jst ?k1 ?_; (case k1 => walk_at "size")) | (refine' k_fmtI ?k1 ?_; (case k1 => exact log2_64 (by omega) (by omega))) | (refine' k_strI ?k1 ?_; (case k1 => exact log2_64 (by omega) (by omega)))
  | (refine k_addS ?k1 ?_; (case k1 => walk_at "size")) | refine k_st ?_ | refine k_parti ?_
  | (refine' k_cat ?k1 ?k2 ?k3 ?k4 ?_; (case k1 => assumption); (case k2 => walk_at "hp"); (case k3 => walk_at "hp"); (case k4 => walk_at "size"); intro p' H' M')
  | (refine' k_slL ?k1 ?k2 ?_; (case k1 => assumption); (case k2 => first | assumption | exact SqL.of (by walk_at "hp")); intro p' H' M')
  | (refine k_rng1 ?k1 ?k2 ?_; (case k1 => omega); (case k2 => omega)) | (refine k_rng2 ?k1 ?k2 ?k3 ?k4 ?_; (case k1 => omega); (case k2 => omega); (case k3 => omega); (case k4 => omega))
  | (refine' k_lstAt ?k1 ?_; (case k1 => first | assumption | exact SqL.of (by walk_at "hp"))) | (refine' k_tupAt ?k1 ?_; (case k1 => first | assumption | exact SqT.of (by walk_at "hp")))
  | (refine' k_isXs ?k1 ?k2 ?_; (case k1 => assumption); (case k2 => walk_at "hp")) | (refine' k_isXo ?k1 ?k2 ?k3 ?_; (case k1 => assumption); (case k2 => walk_at "hp"); (case k3 => assumption)) | (refine' k_isXt ?k1 ?k2 ?k3 ?_; (case k1 => assumption); (case k2 => walk_at "hp"); (case k3 => assumption))
  | (refine' k_isX3 ?k1 ?k2 ?k3 ?k4 ?_; (case k1 => assumption); (case k2 => walk_at "hp"); (case k3 => walk_at "hp"); (case k4 => assumption)) | (refine' k_isX2 ?k1 ?k2 ?k3 ?k4 ?_; (case k1 => assumption); (case k2 => walk_at "hp"); (case k3 => walk_at "hp"); (case k4 => assumption))
  | (refine' k_tyL ?k1 ?_; (case k1 => walk_at "hp"))
  | (refine' k_appL0 ?k1 ?k2 ?_; (case k1 => assumption); (case k2 => walk_at "size"); intro H' M') | (refine' k_appL1 ?k1 ?k2 ?_; (case k1 => assumption); (case k2 => walk_at "size"); intro H' M') | (refine' k_appL2 ?k1 ?k2 ?_; (case k1 => assumption); (case k2 => walk_at "size"); intro H' M') | (refine' k_appL3 ?k1 ?k2 ?_; (case k1 => assumption); (case k2 => walk_at "size"); intro H' M')
  | (refine' k_revL0 ?k1 ?_; (case k1 => assumption); intro H' M') | (refine' k_revL1 ?k1 ?_; (case k1 => assumption); intro H' M')
  | (refine' k_isX0s ?k1 ?_; (case k1 => assumption)) | (refine' k_isX0o ?k1 ?k2 ?_; (case k1 => assumption); (case k2 => assumption)) | (refine' k_isX0t ?k1 ?k2 ?_; (case k1 => assumption); (case k2 => assumption)) | (refine' k_isX04 ?k1 ?k2 ?k3 ?_; (case k1 => assumption); (case k2 => walk_at "hp"); (case k3 => assumption))
  | (refine' k_isX4 ?k1 ?k2 ?k3 ?k4 ?_; (case k1 => assumption); (case k2 => walk_at "hp"); (case k3 => walk_at "hp"); (case k4 => assumption)) | (refine' k_ixT2 ?k1 ?k2 ?k3 ?_; (case k1 => walk_at "hp"); (case k2 => omega); (case k3 => omega); intro n' hn')
  | (refine k_iteNEq ?k1 ?_; (case k1 => (rw [Bool.eq_iff_iff]; first | (simp; done) | (simp; omega))))
  | (refine' k_xf ?k1 ?k2 ?_; (case k1 => walk_at "hp"); (case k2 => first | exact xd1 | exact xdH | exact xd2 (by decide +kernel)))
  | (refine' k_caught ?k1 ?_; (case k1 => assumption); intro a' ha')
  | refine k_asgT ?_ | refine k_gCons ?_ | refine k_gNil ?_ | refine k_par ?_ | refine k_two ?_ | refine k_isNn ?_ | refine k_isNi ?_ | refine k_notNn ?_ | refine k_notNi ?_ | refine k_isN ?_ | refine k_notN ?_
  | (refine' k_gTup ?k1 ?k2 ?_; (case k1 => walk_at "hp"); (case k2 => with_unfolding_all rfl))
  | (refine' k_isiT ?k1 ?k2 ?_; (case k1 => walk_at "hp"); (case k2 => assumption)) | (refine' k_isiL ?k1 ?k2 ?_; (case k1 => walk_at "hp"); (case k2 => assumption))
  | (refine' k_ixQ ?k1 ?k2 ?_; (case k1 => assumption); (case k2 => walk_at "look")) | (refine' k_lenQ ?k1 ?_; (case k1 => assumption))
  | (refine' k_xfB ?k1 ?k2 ?_; (case k1 => walk_at "hp"); (case k2 => first | exact xd1 | exact xdH | exact xd2 (by decide +kernel)))
  | (refine' k_all ?k1 ?_; (case k1 => walk_at "hp"))
  | (refine' k_tupleOf ?k1 ?k2 ?_; (case k1 => assumption); (case k2 => exact SqL.of (by walk_at "hp")); intro p' H' M')
  | (refine' k_listOf ?k1 ?k2 ?_; (case k1 => assumption); (case k2 => exact Or.inl (SqL.of (by walk_at "hp"))); intro p' H' M')
  | walk_at "use")
local macro_rules | `(tactic| walk_at "go") => `(tactic| repeat' (walk_at "go1"))

local macro_rules | `(tactic| walk_at "eq") => `(tactic| first | rfl | assumption | omega)
local macro_rules | `(tactic| walk_at "fld") => `(tactic| exact xdH)
local macro_rules | `(tactic| walk_at "size") => `(tactic| first | exact sz (by first | omega | (simp only [List.length_map, List.length_range, List.length_append, List.length_cons, List.length_nil, Int.reduceSub, Int.reduceToNat, Int.reduceNeg]; omega)) | (exact Nat.lt_of_le_of_lt (m := 50000) (by first | omega | (simp only [List.length_map, List.length_range, List.length_append, List.length_cons, List.length_nil]; omega)) (by decide)))
theorem g_val {X : Cx} {x : Str} {v : V} {pos : Pos} (h : ∃ u, X.mg x = some u ∧ RelV v u) (hg : Gl X x := by rfl) (hd : (x == ("__debug__" : Str)) = false := by decide) : PE X (.Name x pos) (tC v) := by
  obtain ⟨u, hm, r⟩ := h
  exact pe_glob hg hm r hd
structure Txt (prog : Program) (K : PySem.W.Frag) (mg : Str → Option Value) (C CR fR aS : Addr) : Prop where
  cl : Cls K C
  nT : NoAttr K C "terms"
  b_isinstance : mg "isinstance" = none
  b_int : mg "int" = none
  b_bool : mg "bool" = none
  b_len : mg "len" = none
  b_min : mg "min" = none
  b_max : mg "max" = none
  b_list : mg "list" = none
  b_tuple : mg "tuple" = none
  b_range : mg "range" = none
  b_enumerate : mg "enumerate" = none
  v_GREATEST_MARK : ∃ u, mg "GREATEST_MARK" = some u ∧ RelV (.int 3) u
  v_ALL_SIGNS : ∃ u, mg "ALL_SIGNS" = some u ∧ RelV (.ref aS) u
  sq : ∀ H, SqT K H aS (sg3.map V.int)
  g_Rule : mg "Rule" = some (.ref C)
  e_InvalidRule : PySem.ErrX.ErrTxt prog K mg "InvalidRule" CR fR ["at"]
  i1 : PySem.W.kitOne K (.type "int") (.type "int") = some true
  i2 : PySem.W.kitOne K (.type "int") (.type "bool") = some false
  i3 : PySem.W.kitOne K (.type "tuple") (.type "tuple") = some true
  i4 : PySem.W.kitOne K (.type "list") (.type "list") = some true
section
variable {P : Program} {w : World} {K : PySem.W.Frag} {mg : Str → Option Value} {base : Heap} {C CR fR aS : Addr}
def sp_isn : Sp := fun vs H Q _ => ∃ i : Int, vs = [.int i] ∧ Q (.bl true) H
theorem ok_isi {f : Addr} {fd : FuncData} (F : Fun K "is_integer" "is_integer" s_is_integer f fd) (T : Txt P K mg C CR fR aS)  :
    FnOk P w K mg base (L2.CX P w) (0 + 1) f fd ["value"] sp_isn := by
  refine okT F sc_is_integer (fun vs H Q E h => ?_) (fun cdv A outer s H vs Q E hr tk h => ?_)
  · obtain ⟨i, rfl, _⟩ := h
    rfl
  obtain ⟨i, rfl, k⟩ := h
  have f1 := T.i1; have f2 := T.i2; have f3 := T.i3; have f4 := T.i4; have f6 := T.cl; have f7 := T.nT
  refine ⟨_, (pss_one (ps_ret (pe_and (pe_callB call_isi (by rfl) T.b_isinstance (by decide +kernel) (pa_cons (pv 0) (pa_cons (g_ty (n := "int") T.b_int (by decide +kernel)) pa_nil))) (pe_one (pe_not (pe_callB call_isi (by rfl) T.b_isinstance (by decide +kernel) (pa_cons (pv 0) (pa_cons (g_ty (n := "bool") T.b_bool (by decide +kernel)) pa_nil)))))))), ?_⟩
  simp only [cxK, st_is_integer]
  walk_at "go"
  exact k
theorem ok_isn {f : Addr} {fd : FuncData} (F : Fun K "_law_integer" "_law_integer" s__law_integer f fd) (T : Txt P K mg C CR fR aS)  :
    FnOk P w K mg base (L2.CX P w) (0 + 1) f fd ["_law_told"] sp_isn := by
  refine okT F sc__law_integer (fun vs H Q E h => ?_) (fun cdv A outer s H vs Q E hr tk h => ?_)
  · obtain ⟨i, rfl, _⟩ := h
    rfl
  obtain ⟨i, rfl, k⟩ := h
  have f1 := T.i1; have f2 := T.i2; have f3 := T.i3; have f4 := T.i4; have f6 := T.cl; have f7 := T.nT
  refine ⟨_, (pss_one (ps_ret (pe_and (pe_callB call_isi (by rfl) T.b_isinstance (by decide +kernel) (pa_cons (pv 0) (pa_cons (g_ty (n := "int") T.b_int (by decide +kernel)) pa_nil))) (pe_one (pe_not (pe_callB call_isi (by rfl) T.b_isinstance (by decide +kernel) (pa_cons (pv 0) (pa_cons (g_ty (n := "bool") T.b_bool (by decide +kernel)) pa_nil)))))))), ?_⟩
  simp only [cxK, st__law_integer]
  walk_at "go"
  exact k
theorem use_isn {H : Hp} {Q : VK} {E : XK} {i : Int} (q : Q (.bl true) H) : sp_isn [.int i] H Q E := ⟨i, rfl, q⟩
/-- a bag: its kind, its number, its count -/
abbrev bagO (fl n c : Int) : HO := .lst [.int fl, .int n, .int c]
def sp_box (K : PySem.W.Frag) : Sp := fun vs H Q _ => ∃ (a : Addr) (ns : List Int) (pl : Int), vs = [.ref a, .int pl] ∧ SqL K H a (ns.map V.int) ∧ 0 ≤ pl ∧ pl ≤ 2 ∧ ∀ (bg : Addr) (fl n c : Int) H' l2, 0 ≤ c → c ≤ 100 → Mem H [] H' [] ((bg, bagO fl n c) :: l2) → Q (.ref bg) H'
theorem sqL_same {H H' : Hp} {a : Addr} {xs : List V} (h : SqL K H a xs) (s : Same H H') : SqL K H' a xs := h.elim (fun h => .inl (h.elim (fun h => .inl (s _ _ h)) fun ⟨o, h⟩ => .inr ⟨o, s _ _ h⟩)) .inr
theorem k_lenK {H : Hp} {Q : VK} {p : Addr} {ns : List Int} (h : SqL K H p (ns.map V.int)) (q : Q (.int ns.length) H) : rLenQ K [.ref p] H Q := ⟨p, _, rfl, .inl h, by rw [List.length_map]; exact q⟩
theorem k_ixK {H : Hp} {Q : VK} {p : Addr} {ns : List Int} {j : Int} (h : SqL K H p (ns.map V.int)) (h0 : 0 ≤ j) (h1 : j < ns.length) (q : Q (.int (ns.getD j.toNat 0)) H) : rIxL K (.ref p) (.int j) H Q := ⟨p, _, j, _, rfl, rfl, h, atI_map h0 h1, q⟩
theorem ok_box {f : Addr} {fd : FuncData} (F : Fun K "_law_box" "_law_box" s__law_box f fd) (T : Txt P K mg C CR fR aS)  :
    FnOk P w K mg base (L2.CX P w) (0 + 1) f fd ["_law_script", "_law_place"] (sp_box K) := by
  refine okT F sc__law_box (fun vs H Q E h => ?_) (fun cdv A outer s H vs Q E hr tk h => ?_)
  · obtain ⟨a, ns, pl, rfl, _⟩ := h
    rfl
  obtain ⟨a, ns, pl, rfl, hS, hp0, hp2, k⟩ := h
  have f1 := T.i1; have f2 := T.i2; have f3 := T.i3; have f4 := T.i4; have f6 := T.cl; have f7 := T.nT
  refine ⟨_, (pss_cons (ps_if (pt_cmpR (op_eqD hr.units) (pv 0) (pe_lst pa_nil) (nomark _)) (pss_one (ps_ret (pe_lst (pa_cons pe_int (pa_cons pe_int (pa_cons pe_int pa_nil)))))) pss_nil)
      (pss_cons (ps_if (pt_cmpR op_ge (pv 1) (pe_callB b_len (by rfl) T.b_len (by decide +kernel) (pa_cons (pv 0) pa_nil)) (nomark _)) (pss_one (ps_ret (pe_lst (pa_cons pe_int (pa_cons (pe_op op_add (pe_op op_mod (pe_callTy b_int (by rfl) T.b_int (by decide +kernel) (pa_cons (pe_ix ix_list (pv 0) pe_int (fun _ _ => rfl)) pa_nil)) pe_int) (pv 1)) (pa_cons (pe_op op_mulU pe_int (pv 1)) pa_nil)))))) pss_nil)
      (pss_cons (ps_if (pt_cmpR op_ge (pe_ix ix_list (pv 0) (pv 1) (fun _ _ => rfl)) (pe_powC (n := 1000000000000000000)) (nomark _)) (pss_one (ps_ret (pe_lst (pa_cons pe_int (pa_cons (pe_op op_sub (pe_ix ix_list (pv 0) (pv 1) (fun _ _ => rfl)) (pe_powC (n := 1000000000000000000))) (pa_cons pe_int pa_nil)))))) pss_nil)
      (pss_one (ps_ret (pe_lst (pa_cons pe_int (pa_cons (pe_op op_mod (pe_callTy b_int (by rfl) T.b_int (by decide +kernel) (pa_cons (pe_ix ix_list (pv 0) (pv 1) (fun _ _ => rfl)) pa_nil)) pe_int) (pa_cons (pe_op op_mulU pe_int (pv 1)) pa_nil))))))))), ?_⟩
  simp only [cxK, st__law_box]
  have M : Mem H [] H [] [] := mem_start (by simp []) (by simp) (by simp)
  walk_at "go"
  rename_i e0 H0 M0
  have hS' := sqL_same hS (Same.of_keep M0)
  refine k_eqNil hS' (M0.getL List.mem_cons_self) dp_ints (ints_shaped ns) ?_
  cases hn : ns with
  | nil =>
    simp only [List.map_nil, List.isEmpty_nil]
    walk_at "go"
    rename_i bg H1 M1
    exact k bg _ _ _ H1 _ (by omega) (by omega) M1
  | cons x xs =>
    simp only [List.map_cons, List.isEmpty_cons]
    have hlen : ns.length = xs.length + 1 := by rw [hn]; rfl
    walk_at "go"
    all_goals
      rename_i bg H1 M1
      exact k bg _ _ _ H1 _ (by omega) (by omega) M1
def sp_take : Sp := fun vs H Q _ => ∃ (bg : Addr) (fl n c size : Int), vs = [.ref bg, .int size] ∧ H bg = some (bagO fl n c) ∧ 0 ≤ c ∧ c < 2 ^ 40 ∧ 1 ≤ size ∧ size < 2 ^ 64 ∧
  ∀ (d n' c' : Int) H', 0 ≤ d → d < size → 0 ≤ c' → c' ≤ c + 1 → Keep [bg] H H' → H' bg = some (bagO fl n' c') → Q (.int d) H'
theorem ok_take {f : Addr} {fd : FuncData} (F : Fun K "_law_take" "_law_take" s__law_take f fd) (T : Txt P K mg C CR fR aS)  :
    FnOk P w K mg base (L2.CX P w) (0 + 1) f fd ["_law_bag", "_law_size"] sp_take := by
  refine okT F sc__law_take (fun vs H Q E h => ?_) (fun cdv A outer s H vs Q E hr tk h => ?_)
  · obtain ⟨bg, fl, n, c, size, rfl, _⟩ := h
    rfl
  obtain ⟨bg, fl, n, c, size, rfl, h1, hc0, hc1, hs1, hs2, k⟩ := h
  have f1 := T.i1; have f2 := T.i2; have f3 := T.i3; have f4 := T.i4; have f6 := T.cl; have f7 := T.nT
  refine ⟨_, (pss_cons (ps_if (pt_cmpR op_eq (pe_ix ix_list (pv 0) pe_int (fun _ _ => rfl)) pe_int (nomark _)) (pss_cons (ps_set (i := 2) sc__law_take.nd rfl (Or.inl rfl) (pe_op op_mod (pe_callTy b_int (by rfl) T.b_int (by decide +kernel) (pa_cons (pe_ix ix_list (pv 0) pe_int (fun _ _ => rfl)) pa_nil)) (pv 1)))
      (pss_cons (ps_asg (pe_op op_fdivW (pe_ix ix_list (pv 0) pe_int (fun _ _ => rfl)) (pv 1)) (pg_sub (pv 0) pe_int set_list))
      (pss_one (ps_ret (pv 2))))) pss_nil)
      (pss_cons (ps_asg (pe_op op_add (pe_ix ix_list (pv 0) pe_int (fun _ _ => rfl)) pe_int) (pg_sub (pv 0) pe_int set_list))
      (pss_cons (ps_set (i := 3) sc__law_take.nd rfl (Or.inl rfl) (pe_op op_add (pe_op op_add (pe_op op_add (pe_op op_mulU (pe_ix ix_list (pv 0) pe_int (fun _ _ => rfl)) pe_int) (pe_op op_mulU (pe_op op_mulU (pe_ix ix_list (pv 0) pe_int (fun _ _ => rfl)) (pe_ix ix_list (pv 0) pe_int (fun _ _ => rfl))) pe_int)) (pe_op op_mulU (pe_ix ix_list (pv 0) pe_int (fun _ _ => rfl)) pe_int)) pe_int))
      (pss_cons (ps_set (i := 3) sc__law_take.nd rfl (Or.inl rfl) (pe_op op_mod (pe_callTy b_int (by rfl) T.b_int (by decide +kernel) (pa_cons (pv 3) pa_nil)) pe_int))
      (pss_cons (ps_set (i := 3) sc__law_take.nd rfl (Or.inl rfl) (pe_op op_mod (pe_callTy b_int (by rfl) T.b_int (by decide +kernel) (pa_cons (pe_op op_add (pe_op op_mulU (pv 3) (pv 3)) (pe_op op_mulU (pe_ix ix_list (pv 0) pe_int (fun _ _ => rfl)) pe_int)) pa_nil)) pe_int))
      (pss_one (ps_ret (pe_op op_mod (pe_callTy b_int (by rfl) T.b_int (by decide +kernel) (pa_cons (pe_op op_fdivW (pv 3) pe_int) pa_nil)) (pv 1))))))))), ?_⟩
  simp only [cxK, st__law_take]
  have M : Mem H [bg] H [(bg, bagO fl n c)] [] := mem_start (by simp [h1]) (by simp) (by simp)
  walk_at "go"
  all_goals
    refine k _ _ _ _ (Int.emod_nonneg _ (by omega)) (Int.emod_lt_of_pos _ (by omega)) ?_ ?_ (Mem.keeps (by assumption)) (Mem.getF (by assumption) (by walk_at "mem")) <;> omega
theorem use_take {B H : Hp} {ms : List Addr} {f l : List (Addr × HO)} {Q : VK} {E : XK} {bg : Addr} {fl n c size : Int} (M : Mem B ms H ((bg, bagO fl n c) :: f) l) (hm : bg ∈ ms) (h0 : 0 ≤ c) (h1 : c < 2 ^ 40) (h2 : 1 ≤ size) (h3 : size < 2 ^ 64)
    (k : ∀ (d n' c' : Int) H', 0 ≤ d → d < size → 0 ≤ c' → c' ≤ c + 1 → Mem B ms H' ((bg, bagO fl n' c') :: f) l → Q (.int d) H') : sp_take [.ref bg, .int size] H Q E :=
  ⟨bg, fl, n, c, size, rfl, M.getF List.mem_cons_self, h0, h1, h2, h3, fun d n' c' H' a1 a2 a3 a4 kp hb => k d n' c' H' a1 a2 a3 a4 (M.call1 hm kp hb)⟩
theorem _root_.MyL.Mem.toF {B H : Hp} {ms : List Addr} {f l : List (Addr × HO)} {x : Addr × HO} (M : Mem B ms H f (x :: l)) : Mem B (x.1 :: ms) H (x :: f) l := by
  refine ⟨fun p hp => ?_, fun p hp => M.atL p (List.mem_cons_of_mem _ hp), ?_, fun a o h hm => M.keep a o h fun z => hm (List.mem_cons_of_mem _ z), fun m hm z => ?_, fun p hp => M.new p (List.mem_cons_of_mem _ hp)⟩
  · rcases List.mem_cons.mp hp with rfl | h
    · exact M.atL _ List.mem_cons_self
    · exact M.atF p h
  · have e := (List.perm_middle (a := x) (l₁ := l) (l₂ := f)).map (·.1)
    exact e.nodup_iff.mpr M.nd
  · rcases List.mem_cons.mp hm with rfl | h
    · rw [M.atL _ List.mem_cons_self] at z; cases z
    · exact M.tr m h z
theorem _root_.MyL.Mem.atB0 {B H : Hp} {f l : List (Addr × HO)} {a : Addr} {o : HO} (M : Mem B [] H f l) (h : B a = some o) : H a = some o := M.keep a o h (by simp)
/-- a def that takes from the bag: what it may answer, by the objects that it makes -/
def sp_bag (ar : Addr → List V → Hp → Prop) (R : List V → Hp → V → List (Addr × HO) → Prop) : Sp := fun vs H Q _ => ∃ (bg : Addr) (fl n c : Int) (as : List V), vs = .ref bg :: as ∧ ar bg as H ∧ H bg = some (bagO fl n c) ∧ 0 ≤ c ∧ c < 2 ^ 30 ∧
  ∀ (v : V) (l2 : List (Addr × HO)) (n' c' : Int) H', R as H v l2 → 0 ≤ c' → c' ≤ c + 100 → Mem H [bg] H' [(bg, bagO fl n' c')] l2 → Q v H'
theorem use_bag {ar : Addr → List V → Hp → Prop} {R : List V → Hp → V → List (Addr × HO) → Prop} {B H : Hp} {ms : List Addr} {f l : List (Addr × HO)} {Q : VK} {E : XK} {bg : Addr} {fl n c : Int} {as : List V} (M : Mem B ms H ((bg, bagO fl n c) :: f) l) (hm : bg ∈ ms) (h0 : 0 ≤ c) (h1 : c < 2 ^ 30) (ha : ar bg as H)
    (k : ∀ (v : V) (l2 : List (Addr × HO)) (n' c' : Int) H', R as H v l2 → 0 ≤ c' → c' ≤ c + 100 → Mem B ms H' ((bg, bagO fl n' c') :: f) (l2 ++ l) → Q v H') : sp_bag ar R (.ref bg :: as) H Q E :=
  ⟨bg, fl, n, c, as, rfl, ha, M.getF List.mem_cons_self, h0, h1, fun v l2 n' c' H' hr a3 a4 M2 => k v l2 n' c' H' hr a3 a4 (M.comp1 hm M2)⟩
local macro_rules | `(tactic| walk_at "use") => `(tactic| with_reducible first
  | refine use_isn ?_
  | (refine' use_take ?k1 ?k2 ?k3 ?k4 ?k5 ?k6 ?_; (case k1 => assumption); (case k2 => simp); (case k3 => omega); (case k4 => omega); (case k5 => omega); (case k6 => omega); intro d' n' c' H' a1' a2' a3' a4' M'))
abbrev ArInt (bg : Addr) (as : List V) (H : Hp) : Prop := ∃ i : Int, as = [.int i]
def RInt (as : List V) (H : Hp) (v : V) (l2 : List (Addr × HO)) : Prop := ∃ d : Int, v = .int d ∧ l2 = []
theorem ok_value {f : Addr} {fd : FuncData} (F : Fun K "_law_value" "_law_value" s__law_value f fd) (T : Txt P K mg C CR fR aS) (c__law_take : Cal P w K mg base 1 "_law_take" sp_take) :
    FnOk P w K mg base (L2.CX P w) (1 + 1) f fd ["_law_bag", "_law_plain"] (sp_bag ArInt RInt) := by
  refine okT F sc__law_value (fun vs H Q E h => ?_) (fun cdv A outer s H vs Q E hr tk h => ?_)
  · obtain ⟨bg, fl, n, c, as, rfl, ⟨pl, rfl⟩, _⟩ := h
    rfl
  obtain ⟨bg, fl, n, c, as, rfl, ⟨pl, rfl⟩, h1, hc0, hc1, k⟩ := h
  have f1 := T.i1; have f2 := T.i2; have f3 := T.i3; have f4 := T.i4; have f6 := T.cl; have f7 := T.nT
  refine ⟨_, (pss_cons (ps_set (i := 2) sc__law_value.nd rfl (Or.inl rfl) (c_call c__law_take tk hr (by decide) (pa_cons (pv 0) (pa_cons pe_int pa_nil))))
      (pss_cons (ps_if (pt_cmpR op_eq (pv 2) pe_int (nomark _)) (pss_cons (ps_set (i := 3) sc__law_value.nd rfl (Or.inl rfl) (pe_op op_add (pe_op op_mulU (c_call c__law_take tk hr (by decide) (pa_cons (pv 0) (pa_cons (pe_powC (n := 1000000000)) pa_nil))) (pe_powC (n := 1000000000))) (c_call c__law_take tk hr (by decide) (pa_cons (pv 0) (pa_cons (pe_powC (n := 1000000000)) pa_nil)))))
      (pss_one (ps_ret (pe_op op_mulU (pv 3) (pe_op op_sub pe_int (pe_op op_mulU pe_int (c_call c__law_take tk hr (by decide) (pa_cons (pv 0) (pa_cons pe_int pa_nil))))))))) pss_nil)
      (pss_cons (ps_if (pt_cmpR op_eq (pv 2) pe_int (nomark _)) (pss_one (ps_ret (pe_ix ix_list (pe_lst (pa_cons (pe_op op_sub (pe_powC (n := 1000000000000000000)) pe_int) (pa_cons (pe_op op_sub pe_int (pe_powC (n := 1000000000000000000))) (pa_cons (pe_op op_sub (pe_powC (n := 1000000000000000000)) pe_int) (pa_cons (pe_op op_sub pe_int (pe_powC (n := 1000000000000000000))) pa_nil))))) (c_call c__law_take tk hr (by decide) (pa_cons (pv 0) (pa_cons pe_int pa_nil))) (fun _ _ => rfl)))) pss_nil)
      (pss_one (ps_ret (pe_op op_add (pv 1) (c_call c__law_take tk hr (by decide) (pa_cons (pv 0) (pa_cons pe_int pa_nil))))))))), ?_⟩
  simp only [cxK, st__law_value]
  have M : Mem H [bg] H [(bg, bagO fl n c)] [] := mem_start (by simp [h1]) (by simp) (by simp)
  walk_at "go"
  all_goals
    refine k _ _ _ _ _ ⟨_, rfl, rfl⟩ ?_ ?_ (Mem.none (by assumption)) <;> omega
theorem use_value {B H : Hp} {ms : List Addr} {f l : List (Addr × HO)} {Q : VK} {E : XK} {bg : Addr} {fl n c i : Int} (M : Mem B ms H ((bg, bagO fl n c) :: f) l) (hm : bg ∈ ms) (h0 : 0 ≤ c) (h1 : c < 2 ^ 30)
    (k : ∀ (d n' c' : Int) H', 0 ≤ c' → c' ≤ c + 100 → Mem B ms H' ((bg, bagO fl n' c') :: f) l → Q (.int d) H') : sp_bag ArInt RInt [.ref bg, .int i] H Q E :=
  use_bag M hm h0 h1 ⟨i, rfl⟩ (by
    rintro v l2 n' c' H' ⟨d, rfl, rfl⟩ a3 a4 M'
    exact k d n' c' H' a3 a4 M')
end
end K35

set_option Elab.async false
set_option linter.all false
set_option maxRecDepth 100000
set_option maxHeartbeats 8000000
namespace K35
open PySem L2 MyL
local macro_rules | `(tactic| walk_at "mem") => `(tactic| first | exact List.mem_cons_self | (refine List.mem_cons_of_mem _ ?_; walk_at "mem"))
local macro_rules | `(tactic| walk_at "hp") => `(tactic| first | assumption | (refine' Mem.getL ?k1 ?k2; (case k1 => assumption); (case k2 => walk_at "mem")) | (refine' Mem.getF ?k1 ?k2; (case k1 => assumption); (case k2 => walk_at "mem")) | (refine' Mem.atB ?k1 ?k2; (case k1 => assumption); (case k2 => assumption)))
local macro_rules | `(tactic| walk_at "cond") => `(tactic| first | omega | assumption | exact mulR (by omega) (by omega) | exact mulL (by omega) (by omega) | exact divW (by omega) (by omega) | decide)
local macro_rules | `(tactic| walk_at "look") => `(tactic| first | assumption | with_unfolding_all rfl | exact atI_map (by omega) (by omega))
local macro_rules | `(tactic| walk_at "go1") => `(tactic| with_reducible first
  | refine k_seq ?_ | refine k_gName ?_ | refine k_asg ?_ | refine k_ret ?_ | refine k_ifS ?_ | refine k_drop ?_ | refine k_next ?_ | refine k_break ?_ | refine k_cont ?_ | refine k_retN ?_
  | (refine' k_var ?k1 ?_; (case k1 => with_unfolding_all rfl)) | refine k_c ?_ | refine k_op ?_ | refine k_un ?_ | refine k_test ?_ | refine k_B ?_ | refine k_bl ?_ | refine k_and ?_ | refine k_or ?_ | refine k_not ?_
  | refine k_andV ?_ | refine k_orV ?_ | refine k_notV ?_ | refine k_ifE ?_ | refine k_nil ?_ | refine k_cons ?_ | refine k_cb ?_ | refine k_callS ?_ | refine k_lst0 ?_ | refine k_tup0 ?_ | refine k_fld0 ?_ | refine k_sub0 ?_ | refine k_make0 ?_ | refine k_prop0 ?_ | refine k_sta0 ?_ | refine k_sta ?_ | refine k_bm ?_ | refine k_bm0 ?_ | refine k_chain ?_ | refine k_makeK0 ?_ | refine k_swapK ?_ | refine k_meth0 ?_ | refine k_ownN0 ?_ | refine k_ownO0 ?_ | refine k_sfld0 ?_ | refine k_jnil ?_ | refine k_jcons ?_ | refine k_fmt0 ?_ | refine k_sl0 ?_ | refine k_nopart ?_ | refine k_part ?_ | refine k_forR1 ?_ | refine k_forR2 ?_ | refine k_forL ?_ | refine k_forT ?_ | refine k_lcR1 ?_ | refine k_lcR2 ?_ | refine k_lcL ?_ | refine k_lcT ?_ | refine k_err0 ?_ | refine k_xf0 ?_ | refine k_errQ1 ?_ | refine k_errQ0 ?_ | refine k_errQ2 ?_ | refine k_errQ3 ?_
  | refine k_I0 ?_ | (refine k_I ?k1 ?_; (case k1 => walk_at "cond")) | refine k_U ?_ | refine k_eqI ?_ | refine k_neI ?_ | refine k_eqB ?_ | refine k_neB ?_ | refine k_eqS ?_ | refine k_neS ?_
  | refine k_int1 ?_ | refine k_abs1 ?_ | refine k_min2 ?_ | refine k_max2 ?_
  | (refine' k_lenM ?k1 ?_; (case k1 => walk_at "hp")) | (refine' k_lenL ?k1 ?_; (case k1 => walk_at "hp")) | (refine' k_lenT ?k1 ?_; (case k1 => walk_at "hp"))
  | (refine' k_lenS ?k1 ?_; (case k1 => assumption)) | (refine' k_ixS ?k1 ?k2 ?_; (case k1 => assumption); (case k2 => walk_at "look"))
  | (refine' k_ixL ?k1 ?k2 ?_; (case k1 => walk_at "hp"); (case k2 => walk_at "look")) | (refine' k_ixT ?k1 ?k2 ?_; (case k1 => walk_at "hp"); (case k2 => walk_at "look"))
  | (refine' k_ix4 ?k1 ?k2 ?k3 ?_; (case k1 => walk_at "hp"); (case k2 => omega); (case k3 => omega); intro n' hn')
  | (refine' k_ix3 ?k1 ?k2 ?k3 ?_; (case k1 => walk_at "hp"); (case k2 => omega); (case k3 => omega); intro n' hn')
  | (refine' k_ix2 ?k1 ?k2 ?k3 ?_; (case k1 => walk_at "hp"); (case k2 => omega); (case k3 => omega); intro n' hn')
  | (refine' k_fld ?k1 ?k2 ?k3 ?k4 ?_; (case k1 => walk_at "hp"); (case k2 => assumption); (case k3 => assumption); (case k4 => walk_at "fld"))
  | (refine' k_lst ?k1 ?k2 ?_; (case k1 => assumption); (case k2 => exact sz (by simp)); intro p' H' M')
  | (refine' k_tup ?k1 ?k2 ?_; (case k1 => assumption); (case k2 => exact sz (by simp)); intro p' H' M')
  | (refine' k_setF0 ?k1 ?k2 ?k3 ?_; (case k1 => assumption); (case k2 => simp); (case k3 => with_unfolding_all rfl); intro H' M'; try simp only [Int.reduceToNat, List.set_cons_succ, List.set_cons_zero] at M')
  | (refine' k_setL0 ?k1 ?k2 ?_; (case k1 => assumption); (case k2 => with_unfolding_all rfl); intro H' M'; try simp only [Int.reduceToNat, List.set_cons_succ, List.set_cons_zero] at M')
  | (refine' k_setL1 ?k1 ?k2 ?_; (case k1 => assumption); (case k2 => with_unfolding_all rfl); intro H' M'; try simp only [Int.reduceToNat, List.set_cons_succ, List.set_cons_zero] at M')
  | (refine' k_setL2 ?k1 ?k2 ?_; (case k1 => assumption); (case k2 => with_unfolding_all rfl); intro H' M'; try simp only [Int.reduceToNat, List.set_cons_succ, List.set_cons_zero] at M')
  | refine iteT ?_ | refine iteF ?_ | refine k_iteNE ?_ | refine k_iteNS ?_ | refine k_iteNT ?_ | refine k_iteNF ?_
  | (refine k_iteD ?_ ?_ <;> intro hc <;> first | (exfalso; omega) | skip)
  | (refine k_iteN ?_ ?_ <;> intro hc <;> first | (exfalso; omega) | skip)
  | (refine' k_ownN ?k1 ?_; (case k1 => walk_at "hp")) | (refine' k_ownO ?k1 ?k2 ?_; (case k1 => walk_at "hp"); (case k2 => walk_at "hp")) | (refine' k_ownEq ?k1 ?k2 ?_; (case k1 => walk_at "hp"); (case k2 => walk_at "hp"))
  | (refine' k_ownIn ?k1 ?_; (case k1 => walk_at "hp")) | (refine' k_ownU ?k1 ?_; (case k1 => walk_at "hp")) | (refine' k_ownStr ?k1 ?_; (case k1 => walk_at "hp"))
  | (refine' k_prop ?k1 ?_; (case k1 => walk_at "hp")) | (refine' k_ownNe ?k1 ?k2 ?_; (case k1 => walk_at "hp"); (case k2 => walk_at "hp")) | (refine' k_eqP ?k1 ?k2 ?_; (case k1 => walk_at "hp"); (case k2 => walk_at "hp")) | (refine' k_neP ?k1 ?k2 ?_; (case k1 => walk_at "hp"); (case k2 => walk_at "hp"))
  | (refine' k_isiO ?k1 ?k2 ?k3 ?k4 ?k5 ?k6 ?_; (case k1 => walk_at "hp"); (case k2 => assumption); (case k3 => assumption); (case k4 => assumption); (case k5 => assumption); (case k6 => assumption))
  | (refine' k_isiI ?k1 ?_; (case k1 => assumption))
  | (refine' k_jst ?k1 ?_; (case k1 => walk_at "size")) | (refine' k_fmtI ?k1 ?_; (case k1 => exact log2_64 (by omega) (by omega))) | (refine' k_strI ?k1 ?_; (case k1 => exact log2_64 (by omega) (by omega)))
  | (refine k_addS ?k1 ?_; (case k1 => walk_at "size")) | refine k_st ?_ | refine k_parti ?_
  | (refine' k_cat ?k1 ?k2 ?k3 ?k4 ?_; (case k1 => assumption); (case k2 => walk_at "hp"); (case k3 => walk_at "hp"); (case k4 => walk_at "size"); intro p' H' M')
  | (refine' k_slL ?k1 ?k2 ?_; (case k1 => assumption); (case k2 => first | assumption | exact SqL.of (by walk_at "hp")); intro p' H' M')
  | (refine k_rng1 ?k1 ?k2 ?_; (case k1 => omega); (case k2 => omega)) | (refine k_rng2 ?k1 ?k2 ?k3 ?k4 ?_; (case k1 => omega); (case k2 => omega); (case k3 => omega); (case k4 => omega))
  | (refine' k_lstAt ?k1 ?_; (case k1 => first | assumption | exact SqL.of (by walk_at "hp"))) | (refine' k_tupAt ?k1 ?_; (case k1 => first | assumption | exact SqT.of (by walk_at "hp")))
  | (refine' k_isXs ?k1 ?k2 ?_; (case k1 => assumption); (case k2 => walk_at "hp")) | (refine' k_isXo ?k1 ?k2 ?k3 ?_; (case k1 => assumption); (case k2 => walk_at "hp"); (case k3 => assumption)) | (refine' k_isXt ?k1 ?k2 ?k3 ?_; (case k1 => assumption); (case k2 => walk_at "hp"); (case k3 => assumption))
  | (refine' k_isX3 ?k1 ?k2 ?k3 ?k4 ?_; (case k1 => assumption); (case k2 => walk_at "hp"); (case k3 => walk_at "hp"); (case k4 => assumption)) | (refine' k_isX2 ?k1 ?k2 ?k3 ?k4 ?_; (case k1 => assumption); (case k2 => walk_at "hp"); (case k3 => walk_at "hp"); (case k4 => assumption))
  | (refine' k_tyL ?k1 ?_; (case k1 => walk_at "hp"))
  | (refine' k_appL0 ?k1 ?k2 ?_; (case k1 => assumption); (case k2 => walk_at "size"); intro H' M') | (refine' k_appL1 ?k1 ?k2 ?_; (case k1 => assumption); (case k2 => walk_at "size"); intro H' M') | (refine' k_appL2 ?k1 ?k2 ?_; (case k1 => assumption); (case k2 => walk_at "size"); intro H' M') | (refine' k_appL3 ?k1 ?k2 ?_; (case k1 => assumption); (case k2 => walk_at "size"); intro H' M')
  | (refine' k_revL0 ?k1 ?_; (case k1 => assumption); intro H' M') | (refine' k_revL1 ?k1 ?_; (case k1 => assumption); intro H' M')
  | (refine' k_isX0s ?k1 ?_; (case k1 => assumption)) | (refine' k_isX0o ?k1 ?k2 ?_; (case k1 => assumption); (case k2 => assumption)) | (refine' k_isX0t ?k1 ?k2 ?_; (case k1 => assumption); (case k2 => assumption)) | (refine' k_isX04 ?k1 ?k2 ?k3 ?_; (case k1 => assumption); (case k2 => walk_at "hp"); (case k3 => assumption))
  | (refine' k_isX4 ?k1 ?k2 ?k3 ?k4 ?_; (case k1 => assumption); (case k2 => walk_at "hp"); (case k3 => walk_at "hp"); (case k4 => assumption)) | (refine' k_ixT2 ?k1 ?k2 ?k3 ?_; (case k1 => walk_at "hp"); (case k2 => omega); (case k3 => omega); intro n' hn')
  | (refine k_iteNEq ?k1 ?_; (case k1 => (rw [Bool.eq_iff_iff]; first | (simp; done) | (simp; omega))))
  | (refine' k_xf ?k1 ?k2 ?_; (case k1 => walk_at "hp"); (case k2 => first | exact xd1 | exact xdH | exact xd2 (by decide +kernel)))
  | (refine' k_caught ?k1 ?_; (case k1 => assumption); intro a' ha')
  | refine k_asgT ?_ | refine k_gCons ?_ | refine k_gNil ?_ | refine k_par ?_ | refine k_two ?_ | refine k_isNn ?_ | refine k_isNi ?_ | refine k_notNn ?_ | refine k_notNi ?_ | refine k_isN ?_ | refine k_notN ?_
  | (refine' k_gTup ?k1 ?k2 ?_; (case k1 => walk_at "hp"); (case k2 => with_unfolding_all rfl))
  | (refine' k_isiT ?k1 ?k2 ?_; (case k1 => walk_at "hp"); (case k2 => assumption)) | (refine' k_isiL ?k1 ?k2 ?_; (case k1 => walk_at "hp"); (case k2 => assumption))
  | (refine' k_ixQ ?k1 ?k2 ?_; (case k1 => assumption); (case k2 => walk_at "look")) | (refine' k_lenQ ?k1 ?_; (case k1 => assumption))
  | (refine' k_xfB ?k1 ?k2 ?_; (case k1 => walk_at "hp"); (case k2 => first | exact xd1 | exact xdH | exact xd2 (by decide +kernel)))
  | (refine' k_all ?k1 ?_; (case k1 => walk_at "hp"))
  | (refine' k_tupleOf ?k1 ?k2 ?_; (case k1 => assumption); (case k2 => exact SqL.of (by walk_at "hp")); intro p' H' M')
  | (refine' k_listOf ?k1 ?k2 ?_; (case k1 => assumption); (case k2 => exact Or.inl (SqL.of (by walk_at "hp"))); intro p' H' M')
  | walk_at "use")
local macro_rules | `(tactic| walk_at "go") => `(tactic| repeat' (walk_at "go1"))

local macro_rules | `(tactic| walk_at "eq") => `(tactic| first | rfl | assumption | omega)
local macro_rules | `(tactic| walk_at "fld") => `(tactic| exact xdH)
local macro_rules | `(tactic| walk_at "size") => `(tactic| first | exact sz (by first | omega | (simp only [List.length_map, List.length_range, List.length_append, List.length_cons, List.length_nil, Int.reduceSub, Int.reduceToNat, Int.reduceNeg]; omega)) | (exact Nat.lt_of_le_of_lt (m := 50000) (by first | omega | (simp only [List.length_map, List.length_range, List.length_append, List.length_cons, List.length_nil]; omega)) (by decide)))
section
variable {P : Program} {w : World} {K : PySem.W.Frag} {mg : Str → Option Value} {base : Heap} {C CR fR aS : Addr}
theorem k_listRng {B H : Hp} {ms : List Addr} {f l : List (Addr × HO)} {Q : VK} {j : Int} {p : Addr} (M : Mem B ms H f ((p, .rng 0 j) :: l)) (h0 : 0 ≤ j) (h1 : j ≤ 1000) (hs : Builtin.Range.small 0 j 1 = true) (q : ∀ d H', Mem B ms H' f ((d, .lst (((List.range j.toNat).map fun (i : Nat) => (i : Int)).map V.int)) :: l) → Q (.ref d) H') : rListRng [.ref p] H Q := by
  refine ⟨p, 0, j, rfl, M.getL List.mem_cons_self, hs, by omega, fun d hd => ?_⟩
  have M2 := (M.alloc (o := .lst ((List.range (j - 0).toNat).map fun (i : Nat) => V.int (0 + i))) hd).front1.drop
  refine q d _ ?_
  rw [show ((List.range j.toNat).map fun (i : Nat) => (i : Int)).map V.int = (List.range (j - 0).toNat).map fun (i : Nat) => V.int (0 + i) by rw [List.map_map, Int.sub_zero]; simp only [Int.zero_add]; rfl]
  exact M2
theorem small_rng {j : Int} (h0 : 0 ≤ j) (h1 : j ≤ 1000) : Builtin.Range.small 0 j 1 = true := by
  have e : Builtin.Range.rangeSize 0 j 1 = j := by
    unfold Builtin.Range.rangeSize
    rw [if_pos (by decide)]
    split <;> omega
  unfold Builtin.Range.small
  rw [e]
  simp [Builtin.Range.rangeFitsLong]
  omega
theorem _root_.MyL.Mem.dropF {B H : Hp} {ms : List Addr} {f l : List (Addr × HO)} {x y : Addr × HO} (M : Mem B ms H (x :: y :: f) l) : Mem B ms H (x :: f) l := ⟨fun p hp => M.atF p (by rcases List.mem_cons.mp hp with rfl | h <;> simp [*]), M.atL, ((List.Sublist.append_left (List.Sublist.cons_cons x (List.sublist_cons_self y f)) l).map (·.1)).nodup M.nd, M.keep, M.tr, M.new⟩
theorem _root_.MyL.Mem.rot3 {B H : Hp} {ms : List Addr} {f l : List (Addr × HO)} {x y z : Addr × HO} (M : Mem B ms H f (x :: y :: z :: l)) : Mem B ms H f (y :: z :: x :: l) := M.perm ((List.Perm.swap y x _).trans (List.Perm.cons y (List.Perm.swap z x l)))
local macro_rules | `(tactic| walk_at "use") => `(tactic| with_reducible first
  | refine use_isn ?_
  | (refine' use_take ?k1 ?k2 ?k3 ?k4 ?k5 ?k6 ?_; (case k1 => assumption); (case k2 => simp); (case k3 => omega); (case k4 => omega); (case k5 => omega); (case k6 => omega); intro d' n' c' H' a1' a2' a3' a4' M'))
abbrev ArTm (bg : Addr) (as : List V) (H : Hp) : Prop := ∃ many marks : Int, as = [.int many, .int marks] ∧ 0 ≤ many ∧ many ≤ marks ∧ marks ≤ 4
def RTm (as : List V) (H : Hp) (v : V) (l2 : List (Addr × HO)) : Prop := ∃ (p : Addr) (xs : List V) (ts : List Pr) (zs : List (Addr × HO)), v = .ref p ∧ l2 = (p, .lst xs) :: zs ∧ PrL zs xs ts ∧ ts.length ≤ 4 ∧ ∀ many marks : Int, as = [.int many, .int marks] → Tms marks ts
theorem erase_map {α β : Type} {g : α → β} : ∀ (l : List α) (k : Nat), (l.map g).eraseIdx k = (l.eraseIdx k).map g
  | [], _ => rfl
  | _ :: _, 0 => rfl
  | x :: l, k + 1 => by rw [List.map_cons, List.eraseIdx_cons_succ, List.eraseIdx_cons_succ, List.map_cons, erase_map l k]
theorem nodup_erase {l : List Int} {k : Nat} {y : Int} (h : l.Nodup) (hy : l[k]? = some y) : (l.eraseIdx k).Nodup ∧ y ∉ l.eraseIdx k ∧ ∀ x ∈ l.eraseIdx k, x ∈ l := by
  refine ⟨h.sublist (List.eraseIdx_sublist l k), ?_, fun x hx => (List.eraseIdx_sublist l k).subset hx⟩
  intro hm
  obtain ⟨hk, e⟩ := List.getElem?_eq_some_iff.mp hy
  rw [List.mem_eraseIdx_iff_getElem] at hm
  obtain ⟨i, hi, hne, e2⟩ := hm
  have hp := List.pairwise_iff_getElem.mp h
  rcases Nat.lt_trichotomy i k with z | z | z
  · exact hp i k hi hk z (e2.trans e.symm)
  · exact hne z
  · exact hp k i hk hi z (e.trans e2.symm)
theorem ok_terms {f : Addr} {fd : FuncData} (F : Fun K "_law_terms" "_law_terms" s__law_terms f fd) (T : Txt P K mg C CR fR aS) (c__law_take : Cal P w K mg base 1 "_law_take" sp_take) :
    FnOk P w K mg base (L2.CX P w) (1 + 1) f fd ["_law_bag", "_law_many", "_law_marks"] (sp_bag ArTm RTm) := by
  refine okT F sc__law_terms (fun vs H Q E h => ?_) (fun cdv A outer s H vs Q E hr tk h => ?_)
  · obtain ⟨bg, fl, n, c, as, rfl, ⟨many, marks, rfl, _⟩, _⟩ := h
    rfl
  obtain ⟨bg, fl, n, c, as, rfl, ⟨many, marks, rfl, hm0, hm1, hm4⟩, h1, hc0, hc1, k⟩ := h
  have f1 := T.i1; have f2 := T.i2; have f3 := T.i3; have f4 := T.i4; have f6 := T.cl; have f7 := T.nT
  refine ⟨_, (pss_cons (ps_set (i := 3) sc__law_terms.nd rfl (Or.inl rfl) (pe_callTy (b_listRng rfl) (by rfl) T.b_list (by decide +kernel) (pa_cons (pe_callTy cr_range1 (by rfl) T.b_range (by decide +kernel) (pa_cons (pv 2) pa_nil)) pa_nil)))
      (pss_cons (ps_set (i := 4) sc__law_terms.nd rfl (Or.inl rfl) (pe_lst pa_nil))
      (pss_cons (ps_for (passes_of rfl) rfl (pi_range1 (by rfl) T.b_range (pa_cons (pv 1) pa_nil)) (pg_name (i := 5) sc__law_terms.nd rfl (Or.inl rfl)) (pss_cons (ps_set (i := 6) sc__law_terms.nd rfl (Or.inl rfl) (pe_bm PySem.F.plainAttrs_list PySem.F.slot_list_pop PySem.F.type_list_pop mt_popAt (pv 3) (pa_cons (pe_op op_mod (pe_callTy b_int (by rfl) T.b_int (by decide +kernel) (pa_cons (c_call c__law_take tk hr (by decide) (pa_cons (pv 0) (pa_cons (pv 2) pa_nil))) pa_nil)) (pe_callB b_len (by rfl) T.b_len (by decide +kernel) (pa_cons (pv 3) pa_nil))) pa_nil)))
      (pss_one (ps_expr (pe_bm PySem.F.plainAttrs_list PySem.F.slot_list_append PySem.F.type_list_append mt_append (pv 4) (pa_cons (pe_tup (pa_cons (pv 6) (pa_cons (pe_op op_sub pe_int (pe_op op_mulU pe_int (pe_op op_mod (pe_callTy b_int (by rfl) T.b_int (by decide +kernel) (pa_cons (pe_op op_add (pv 5) (c_call c__law_take tk hr (by decide) (pa_cons (pv 0) (pa_cons pe_int pa_nil)))) pa_nil)) pe_int))) pa_nil))) pa_nil))))))
      (pss_one (ps_ret (pv 4)))))), ?_⟩
  simp only [cxK, st__law_terms]
  have M : Mem H [bg] H [(bg, bagO fl n c)] [] := mem_start (by simp [h1]) (by simp) (by simp)
  walk_at "go"
  refine ⟨_, rfl, fun pr hpr => ?_⟩
  have M1 := M.alloc (o := .rng 0 marks) hpr
  walk_at "go"
  refine k_listRng M1 (by omega) (by omega) (small_rng (by omega) (by omega)) fun d H1 M2 => ?_
  walk_at "go"
  rename_i tp H2 M3
  refine rng_loop ⟨fun i σ' H' => ∃ (lv : List Int) (xs : List V) (ts : List Pr) (zs : List (Addr × HO)) (v5 v6 : Option V) (n' c' : Int), σ' = [some (.ref bg), some (.int many), some (.int marks), some (.ref d), some (.ref tp), v5, v6] ∧ (lv.length : Int) = marks - i ∧ lv.Nodup ∧ (∀ m ∈ lv, 0 ≤ m ∧ m < marks ∧ m ∉ ts.map (·.1)) ∧ Tms marks ts ∧ ts.length = i ∧ 0 ≤ c' ∧ c' ≤ c + 2 * i ∧
      Mem H [bg] H' [(bg, bagO fl n' c')] ((d, .lst (lv.map V.int)) :: (tp, .lst xs) :: zs) ∧ PrL zs xs ts, ?_, ?_, ?_⟩
  · refine ⟨_, [], [], [], _, _, _, _, rfl, ?_, ?_, ?_, ⟨(fun t h => nomatch h), (fun t h => nomatch h), List.Pairwise.nil⟩, rfl, hc0, by omega, M3.front1, PG.nil⟩
    · rw [List.length_map, List.length_range]; omega
    · rw [List.Nodup, List.pairwise_map]
      exact List.Pairwise.imp (fun h z => h (by omega)) (List.nodup_range (n := marks.toNat))
    · intro m hm
      obtain ⟨i, hi, rfl⟩ := List.mem_map.mp hm
      rw [List.mem_range] at hi
      exact ⟨by omega, by omega, by simp⟩
  · rintro i σ' H' hi ⟨lv, xs, ts, zs, v5, v6, n', c', rfl, hll, hnd, hlv, htm, htl, hc0', hc1', M', pz⟩
    have hxl := pz.1
    walk_at "go"
    rename_i d5 n5 c5 H5 a1 a2 a3 a4 M5
    have hq0 := Int.emod_nonneg d5 (show (lv.length : Int) ≠ 0 by omega)
    have hq1 := Int.emod_lt_of_pos d5 (show 0 < (lv.length : Int) by omega)
    have hk : (d5 % (lv.length : Int)).toNat < lv.length := by omega
    have hy := List.getElem?_eq_getElem hk
    obtain ⟨e1, e2, e3⟩ := nodup_erase hnd hy
    have hmm := hlv _ (List.getElem_mem hk)
    refine k_popAt M5 hq0 (by rw [List.length_map]; exact hq1) (by rw [List.length_map]; omega) (by rw [List.getElem?_map, hy]; rfl) fun H6 M6 => ?_
    rw [erase_map] at M6
    walk_at "go"
    rename_i d7 n7 c7 H7 b1 b2 b3 b4 M7 t8 H8 M8 H9 M9
    refine ⟨lv.eraseIdx (d5 % (lv.length : Int)).toNat, _, ts ++ [(lv[(d5 % (lv.length : Int)).toNat], _)], _, _, _, _, _, rfl, ?_, e1, ?_, ?_, ?_, ?_, ?_, M9.rot3, (pz.more fun z hz => List.mem_cons_of_mem _ hz).append (PG.one List.mem_cons_self)⟩
    · rw [List.length_eraseIdx_of_lt hk]; omega
    · intro m hm
      have h3 := hlv m (e3 m hm)
      refine ⟨h3.1, h3.2.1, ?_⟩
      rw [List.map_append, List.mem_append]
      rintro (z | z)
      · exact h3.2.2 z
      · simp at z
        rw [z] at hm
        exact e2 hm
    · refine ⟨fun t ht => ?_, fun t ht => ?_, ?_⟩
      · rcases List.mem_append.mp ht with z | z
        · exact htm.rng t z
        · rw [List.mem_singleton.mp z]; exact ⟨hmm.1, hmm.2.1⟩
      · rcases List.mem_append.mp ht with z | z
        · exact htm.dir t z
        · rw [List.mem_singleton.mp z]; dsimp only; omega
      · rw [List.map_append, List.nodup_append]
        refine ⟨htm.nd, by simp, fun x hx y hy2 e => ?_⟩
        simp at hy2
        rw [e, hy2] at hx
        exact hmm.2.2 hx
    · rw [List.length_append, htl]; rfl
    · omega
    · omega
  · rintro σ' H' ⟨lv, xs, ts, zs, v5, v6, n', c', rfl, hll, hnd, hlv, htm, htl, hc0', hc1', M', pz⟩
    walk_at "go"
    exact k _ _ _ _ _ ⟨tp, xs, ts, zs, rfl, rfl, pz, by omega, fun a b e => by cases e; exact htm⟩ hc0' (by omega) M'.drop
abbrev ArRo (bg : Addr) (as : List V) (H : Hp) : Prop := ∃ (a m : Int) (pl : Addr) (x y z : Int), as = [.int a, .int m, .ref pl] ∧ pl ≠ bg ∧ 0 ≤ a ∧ a ≤ 12 ∧ 0 ≤ m ∧ m ≤ 4 ∧ H pl = some (.lst [.int x, .int y, .int z])
def RRo (as : List V) (H : Hp) (v : V) (l2 : List (Addr × HO)) : Prop := ∃ (p : Addr) (r : List Int), v = .ref p ∧ l2 = [(p, rowO r)] ∧ ∀ (a m : Int) (pl : Addr), as = [.int a, .int m, .ref pl] → (r.length : Int) = m
theorem ok_roll {f : Addr} {fd : FuncData} (F : Fun K "_law_roll" "_law_roll" s__law_roll f fd) (T : Txt P K mg C CR fR aS) (c__law_take : Cal P w K mg base 1 "_law_take" sp_take) :
    FnOk P w K mg base (L2.CX P w) (1 + 1) f fd ["_law_bag", "_law_at", "_law_marks", "_law_pool"] (sp_bag ArRo RRo) := by
  refine okT F sc__law_roll (fun vs H Q E h => ?_) (fun cdv A outer s H vs Q E hr tk h => ?_)
  · obtain ⟨bg, fl, n, c, as, rfl, ⟨a, m, pl, x, y, z, rfl, _⟩, _⟩ := h
    rfl
  obtain ⟨bg, fl, n, c, as, rfl, ⟨a, m, pl, x, y, z, rfl, hne, ha0, ha1, hm0, hm4, hpl⟩, h1, hc0, hc1, k⟩ := h
  have f1 := T.i1; have f2 := T.i2; have f3 := T.i3; have f4 := T.i4; have f6 := T.cl; have f7 := T.nT
  refine ⟨_, (pss_cons (ps_set (i := 4) sc__law_roll.nd rfl (Or.inl rfl) (pe_lst pa_nil))
      (pss_cons (ps_for (passes_of rfl) rfl (pi_range1 (by rfl) T.b_range (pa_cons (pv 2) pa_nil)) (pg_name (i := 5) sc__law_roll.nd rfl (Or.inl rfl)) (pss_cons (ps_set (i := 6) sc__law_roll.nd rfl (Or.inl rfl) (pe_ix ix_list (pv 3) (pe_op op_mod (pe_callTy b_int (by rfl) T.b_int (by decide +kernel) (pa_cons (pe_op op_add (pe_op op_mulU (pe_op op_fdivW (pv 1) pe_int) (pe_op op_add (pv 5) pe_int)) (c_call c__law_take tk hr (by decide) (pa_cons (pv 0) (pa_cons pe_int pa_nil)))) pa_nil)) pe_int) (fun _ _ => rfl)))
      (pss_cons (ps_set (i := 7) sc__law_roll.nd rfl (Or.inl rfl) (pe_op op_add (pv 6) (pe_ix ix_list (pe_lst (pa_cons pe_int (pa_cons pe_int (pa_cons pe_int (pa_cons pe_int (pa_cons pe_negC pa_nil)))))) (c_call c__law_take tk hr (by decide) (pa_cons (pv 0) (pa_cons pe_int pa_nil))) (fun _ _ => rfl))))
      (pss_one (ps_expr (pe_bm PySem.F.plainAttrs_list PySem.F.slot_list_append PySem.F.type_list_append mt_append (pv 4) (pa_cons (pe_callB (b_max2 rfl) (by rfl) T.b_max (by decide +kernel) (pa_cons (pe_op op_sub pe_int (pe_powC (n := 1000000000000000000))) (pa_cons (pe_callB (b_min2 rfl) (by rfl) T.b_min (by decide +kernel) (pa_cons (pe_op op_sub (pe_powC (n := 1000000000000000000)) pe_int) (pa_cons (pv 7) pa_nil))) pa_nil))) pa_nil)))))))
      (pss_one (ps_ret (pe_callTy b_tupleOf (by rfl) T.b_tuple (by decide +kernel) (pa_cons (pv 4) pa_nil)))))), ?_⟩
  simp only [cxK, st__law_roll]
  have M : Mem H [bg] H [(bg, bagO fl n c)] [] := mem_start (by simp [h1]) (by simp) (by simp)
  have M : Mem H [bg] H [(bg, bagO fl n c), (pl, .lst [.int x, .int y, .int z])] [] := mem_start (by simp [h1, hpl]) (by simp [Ne.symm hne]) (by simp)
  walk_at "go"
  rename_i rw0 H0 M0
  refine rng_loop ⟨fun i σ' H' => ∃ (r : List Int) (l' : List (Addr × HO)) (v5 v6 v7 : Option V) (n' c' : Int), σ' = [some (.ref bg), some (.int a), some (.int m), some (.ref pl), some (.ref rw0), v5, v6, v7] ∧ r.length = i ∧ 0 ≤ c' ∧ c' ≤ c + 2 * i ∧
      Mem H [bg] H' [(bg, bagO fl n' c'), (pl, .lst [.int x, .int y, .int z])] ((rw0, .lst (r.map V.int)) :: l'), ?_, ?_, ?_⟩
  · exact ⟨[], [], _, _, _, _, _, rfl, rfl, hc0, by omega, M0⟩
  · rintro i σ' H' hi ⟨r, l', v5, v6, v7, n', c', rfl, hrl, hc0', hc1', M'⟩
    walk_at "go"
    all_goals
      rename_i M8
      refine' k_ixAll (R := fun _ => True) ?k1 ?k2 ?k3 ?k4 ?_
      case k1 => walk_at "hp"
      case k2 => omega
      case k3 => simp; omega
      case k4 =>
        intro v hv
        simp only [List.mem_cons, List.not_mem_nil, or_false] at hv
        rcases hv with rfl | rfl | rfl | rfl | rfl <;> exact ⟨_, rfl, trivial⟩
      intro nn _
      walk_at "go"
      rename_i M9
      refine ⟨r ++ [_], _, _, _, _, _, _, rfl, by rw [List.length_append, hrl]; rfl, ?_, ?_, by rw [List.map_append]; exact M9.front1⟩ <;> omega
  · rintro σ' H' ⟨r, l', v5, v6, v7, n', c', rfl, hrl, hc0', hc1', M'⟩
    walk_at "go"
    rename_i p9 H9 M9
    exact k _ _ _ _ _ ⟨p9, r, rfl, rfl, fun a' m' pl' e => by cases e; omega⟩ hc0' (by omega) M9.one.dropF
end
end K35

set_option Elab.async false
set_option linter.all false
set_option maxRecDepth 100000
set_option maxHeartbeats 8000000
namespace K35
open PySem L2 MyL
local macro_rules | `(tactic| walk_at "mem") => `(tactic| first | exact List.mem_cons_self | (refine List.mem_cons_of_mem _ ?_; walk_at "mem"))
local macro_rules | `(tactic| walk_at "hp") => `(tactic| first | assumption | (refine' Mem.getL ?k1 ?k2; (case k1 => assumption); (case k2 => walk_at "mem")) | (refine' Mem.getF ?k1 ?k2; (case k1 => assumption); (case k2 => walk_at "mem")) | (refine' Mem.atB ?k1 ?k2; (case k1 => assumption); (case k2 => assumption)))
local macro_rules | `(tactic| walk_at "cond") => `(tactic| first | omega | assumption | exact mulR (by omega) (by omega) | exact mulL (by omega) (by omega) | exact divW (by omega) (by omega) | decide)
local macro_rules | `(tactic| walk_at "look") => `(tactic| first | assumption | with_unfolding_all rfl | exact atI_map (by omega) (by omega))
local macro_rules | `(tactic| walk_at "go1") => `(tactic| with_reducible first
  | refine k_seq ?_ | refine k_gName ?_ | refine k_asg ?_ | refine k_ret ?_ | refine k_ifS ?_ | refine k_drop ?_ | refine k_next ?_ | refine k_break ?_ | refine k_cont ?_ | refine k_retN ?_
  | (refine' k_var ?k1 ?_; (case k1 => with_unfolding_all rfl)) | refine k_c ?_ | refine k_op ?_ | refine k_un ?_ | refine k_test ?_ | refine k_B ?_ | refine k_bl ?_ | refine k_and ?_ | refine k_or ?_ | refine k_not ?_
  | refine k_andV ?_ | refine k_orV ?_ | refine k_notV ?_ | refine k_ifE ?_ | refine k_nil ?_ | refine k_cons ?_ | refine k_cb ?_ | refine k_callS ?_ | refine k_lst0 ?_ | refine k_tup0 ?_ | refine k_fld0 ?_ | refine k_sub0 ?_ | refine k_make0 ?_ | refine k_prop0 ?_ | refine k_sta0 ?_ | refine k_sta ?_ | refine k_bm ?_ | refine k_bm0 ?_ | refine k_chain ?_ | refine k_makeK0 ?_ | refine k_swapK ?_ | refine k_meth0 ?_ | refine k_ownN0 ?_ | refine k_ownO0 ?_ | refine k_sfld0 ?_ | refine k_jnil ?_ | refine k_jcons ?_ | refine k_fmt0 ?_ | refine k_sl0 ?_ | refine k_nopart ?_ | refine k_part ?_ | refine k_forR1 ?_ | refine k_forR2 ?_ | refine k_forL ?_ | refine k_forT ?_ | refine k_lcR1 ?_ | refine k_lcR2 ?_ | refine k_lcL ?_ | refine k_lcT ?_ | refine k_err0 ?_ | refine k_xf0 ?_ | refine k_errQ1 ?_ | refine k_errQ0 ?_ | refine k_errQ2 ?_ | refine k_errQ3 ?_
  | refine k_I0 ?_ | (refine k_I ?k1 ?_; (case k1 => walk_at "cond")) | refine k_U ?_ | refine k_eqI ?_ | refine k_neI ?_ | refine k_eqB ?_ | refine k_neB ?_ | refine k_eqS ?_ | refine k_neS ?_
  | refine k_int1 ?_ | refine k_abs1 ?_ | refine k_min2 ?_ | refine k_max2 ?_
  | (refine' k_lenM ?k1 ?_; (case k1 => walk_at "hp")) | (refine' k_lenL ?k1 ?_; (case k1 => walk_at "hp")) | (refine' k_lenT ?k1 ?_; (case k1 => walk_at "hp"))
  | (refine' k_lenS ?k1 ?_; (case k1 => assumption)) | (refine' k_ixS ?k1 ?k2 ?_; (case k1 => assumption); (case k2 => walk_at "look"))
  | (refine' k_ixL ?k1 ?k2 ?_; (case k1 => walk_at "hp"); (case k2 => walk_at "look")) | (refine' k_ixT ?k1 ?k2 ?_; (case k1 => walk_at "hp"); (case k2 => walk_at "look"))
  | (refine' k_ix4 ?k1 ?k2 ?k3 ?_; (case k1 => walk_at "hp"); (case k2 => omega); (case k3 => omega); intro n' hn')
  | (refine' k_ix3 ?k1 ?k2 ?k3 ?_; (case k1 => walk_at "hp"); (case k2 => omega); (case k3 => omega); intro n' hn')
  | (refine' k_ix2 ?k1 ?k2 ?k3 ?_; (case k1 => walk_at "hp"); (case k2 => omega); (case k3 => omega); intro n' hn')
  | (refine' k_fld ?k1 ?k2 ?k3 ?k4 ?_; (case k1 => walk_at "hp"); (case k2 => assumption); (case k3 => assumption); (case k4 => walk_at "fld"))
  | (refine' k_lst ?k1 ?k2 ?_; (case k1 => assumption); (case k2 => exact sz (by simp)); intro p' H' M')
  | (refine' k_tup ?k1 ?k2 ?_; (case k1 => assumption); (case k2 => exact sz (by simp)); intro p' H' M')
  | (refine' k_setF0 ?k1 ?k2 ?k3 ?_; (case k1 => assumption); (case k2 => simp); (case k3 => with_unfolding_all rfl); intro H' M'; try simp only [Int.reduceToNat, List.set_cons_succ, List.set_cons_zero] at M')
  | (refine' k_setL0 ?k1 ?k2 ?_; (case k1 => assumption); (case k2 => with_unfolding_all rfl); intro H' M'; try simp only [Int.reduceToNat, List.set_cons_succ, List.set_cons_zero] at M')
  | (refine' k_setL1 ?k1 ?k2 ?_; (case k1 => assumption); (case k2 => with_unfolding_all rfl); intro H' M'; try simp only [Int.reduceToNat, List.set_cons_succ, List.set_cons_zero] at M')
  | (refine' k_setL2 ?k1 ?k2 ?_; (case k1 => assumption); (case k2 => with_unfolding_all rfl); intro H' M'; try simp only [Int.reduceToNat, List.set_cons_succ, List.set_cons_zero] at M')
  | refine iteT ?_ | refine iteF ?_ | refine k_iteNE ?_ | refine k_iteNS ?_ | refine k_iteNT ?_ | refine k_iteNF ?_
  | (refine k_iteD ?_ ?_ <;> intro hc <;> first | (exfalso; omega) | skip)
  | (refine k_iteN ?_ ?_ <;> intro hc <;> first | (exfalso; omega) | skip)
  | (refine' k_ownN ?k1 ?_; (case k1 => walk_at "hp")) | (refine' k_ownO ?k1 ?k2 ?_; (case k1 => walk_at "hp"); (case k2 => walk_at "hp")) | (refine' k_ownEq ?k1 ?k2 ?_; (case k1 => walk_at "hp"); (case k2 => walk_at "hp"))
  | (refine' k_ownIn ?k1 ?_; (case k1 => walk_at "hp")) | (refine' k_ownU ?k1 ?_; (case k1 => walk_at "hp")) | (refine' k_ownStr ?k1 ?_; (case k1 => walk_at "hp"))
  | (refine' k_prop ?k1 ?_; (case k1 => walk_at "hp")) | (refine' k_ownNe ?k1 ?k2 ?_; (case k1 => walk_at "hp"); (case k2 => walk_at "hp")) | (refine' k_eqP ?k1 ?k2 ?_; (case k1 => walk_at "hp"); (case k2 => walk_at "hp")) | (refine' k_neP ?k1 ?k2 ?_; (case k1 => walk_at "hp"); (case k2 => walk_at "hp"))
  | (refine' k_isiO ?k1 ?k2 ?k3 ?k4 ?k5 ?k6 ?_; (case k1 => walk_at "hp"); (case k2 => assumption); (case k3 => assumption); (case k4 => assumption); (case k5 => assumption); (case k6 => assumption))
  | (refine' k_isiI ?k1 ?_; (case k1 => assumption))
  | (refine' k_jst ?k1 ?_; (case k1 => walk_at "size")) | (refine' k_fmtI ?k1 ?_; (case k1 => exact log2_64 (by omega) (by omega))) | (refine' k_strI ?k1 ?_; (case k1 => exact log2_64 (by omega) (by omega)))
  | (refine k_addS ?k1 ?_; (case k1 => walk_at "size")) | refine k_st ?_ | refine k_parti ?_
  | (refine' k_cat ?k1 ?k2 ?k3 ?k4 ?_; (case k1 => assumption); (case k2 => walk_at "hp"); (case k3 => walk_at "hp"); (case k4 => walk_at "size"); intro p' H' M')
  | (refine' k_slL ?k1 ?k2 ?_; (case k1 => assumption); (case k2 => first | assumption | exact SqL.of (by walk_at "hp")); intro p' H' M')
  | (refine k_rng1 ?k1 ?k2 ?_; (case k1 => omega); (case k2 => omega)) | (refine k_rng2 ?k1 ?k2 ?k3 ?k4 ?_; (case k1 => omega); (case k2 => omega); (case k3 => omega); (case k4 => omega))
  | (refine' k_lstAt ?k1 ?_; (case k1 => first | assumption | exact SqL.of (by walk_at "hp"))) | (refine' k_tupAt ?k1 ?_; (case k1 => first | assumption | exact SqT.of (by walk_at "hp")))
  | (refine' k_isXs ?k1 ?k2 ?_; (case k1 => assumption); (case k2 => walk_at "hp")) | (refine' k_isXo ?k1 ?k2 ?k3 ?_; (case k1 => assumption); (case k2 => walk_at "hp"); (case k3 => assumption)) | (refine' k_isXt ?k1 ?k2 ?k3 ?_; (case k1 => assumption); (case k2 => walk_at "hp"); (case k3 => assumption))
  | (refine' k_isX3 ?k1 ?k2 ?k3 ?k4 ?_; (case k1 => assumption); (case k2 => walk_at "hp"); (case k3 => walk_at "hp"); (case k4 => assumption)) | (refine' k_isX2 ?k1 ?k2 ?k3 ?k4 ?_; (case k1 => assumption); (case k2 => walk_at "hp"); (case k3 => walk_at "hp"); (case k4 => assumption))
  | (refine' k_tyL ?k1 ?_; (case k1 => walk_at "hp"))
  | (refine' k_appL0 ?k1 ?k2 ?_; (case k1 => assumption); (case k2 => walk_at "size"); intro H' M') | (refine' k_appL1 ?k1 ?k2 ?_; (case k1 => assumption); (case k2 => walk_at "size"); intro H' M') | (refine' k_appL2 ?k1 ?k2 ?_; (case k1 => assumption); (case k2 => walk_at "size"); intro H' M') | (refine' k_appL3 ?k1 ?k2 ?_; (case k1 => assumption); (case k2 => walk_at "size"); intro H' M')
  | (refine' k_revL0 ?k1 ?_; (case k1 => assumption); intro H' M') | (refine' k_revL1 ?k1 ?_; (case k1 => assumption); intro H' M')
  | (refine' k_isX0s ?k1 ?_; (case k1 => assumption)) | (refine' k_isX0o ?k1 ?k2 ?_; (case k1 => assumption); (case k2 => assumption)) | (refine' k_isX0t ?k1 ?k2 ?_; (case k1 => assumption); (case k2 => assumption)) | (refine' k_isX04 ?k1 ?k2 ?k3 ?_; (case k1 => assumption); (case k2 => walk_at "hp"); (case k3 => assumption))
  | (refine' k_isX4 ?k1 ?k2 ?k3 ?k4 ?_; (case k1 => assumption); (case k2 => walk_at "hp"); (case k3 => walk_at "hp"); (case k4 => assumption)) | (refine' k_ixT2 ?k1 ?k2 ?k3 ?_; (case k1 => walk_at "hp"); (case k2 => omega); (case k3 => omega); intro n' hn')
  | (refine k_iteNEq ?k1 ?_; (case k1 => (rw [Bool.eq_iff_iff]; first | (simp; done) | (simp; omega))))
  | (refine' k_xf ?k1 ?k2 ?_; (case k1 => walk_at "hp"); (case k2 => first | exact xd1 | exact xdH | exact xd2 (by decide +kernel)))
  | (refine' k_caught ?k1 ?_; (case k1 => assumption); intro a' ha')
  | refine k_asgT ?_ | refine k_gCons ?_ | refine k_gNil ?_ | refine k_par ?_ | refine k_two ?_ | refine k_isNn ?_ | refine k_isNi ?_ | refine k_notNn ?_ | refine k_notNi ?_ | refine k_isN ?_ | refine k_notN ?_
  | (refine' k_gTup ?k1 ?k2 ?_; (case k1 => walk_at "hp"); (case k2 => with_unfolding_all rfl))
  | (refine' k_isiT ?k1 ?k2 ?_; (case k1 => walk_at "hp"); (case k2 => assumption)) | (refine' k_isiL ?k1 ?k2 ?_; (case k1 => walk_at "hp"); (case k2 => assumption))
  | (refine' k_ixQ ?k1 ?k2 ?_; (case k1 => assumption); (case k2 => walk_at "look")) | (refine' k_lenQ ?k1 ?_; (case k1 => assumption))
  | (refine' k_xfB ?k1 ?k2 ?_; (case k1 => walk_at "hp"); (case k2 => first | exact xd1 | exact xdH | exact xd2 (by decide +kernel)))
  | (refine' k_all ?k1 ?_; (case k1 => walk_at "hp"))
  | (refine' k_tupleOf ?k1 ?k2 ?_; (case k1 => assumption); (case k2 => exact SqL.of (by walk_at "hp")); intro p' H' M')
  | (refine' k_listOf ?k1 ?k2 ?_; (case k1 => assumption); (case k2 => exact Or.inl (SqL.of (by walk_at "hp"))); intro p' H' M')
  | walk_at "use")
local macro_rules | `(tactic| walk_at "go") => `(tactic| repeat' (walk_at "go1"))

local macro_rules | `(tactic| walk_at "eq") => `(tactic| first | rfl | assumption | omega)
local macro_rules | `(tactic| walk_at "fld") => `(tactic| exact xdH)
local macro_rules | `(tactic| walk_at "size") => `(tactic| first | exact sz (by first | omega | (simp only [List.length_map, List.length_range, List.length_append, List.length_cons, List.length_nil, Int.reduceSub, Int.reduceToNat, Int.reduceNeg]; omega)) | (exact Nat.lt_of_le_of_lt (m := 50000) (by first | omega | (simp only [List.length_map, List.length_range, List.length_append, List.length_cons, List.length_nil]; omega)) (by decide)))
section
variable {P : Program} {w : World} {K : PySem.W.Frag} {mg : Str → Option Value} {base : Heap} {C CR fR aS : Addr}
theorem side_step {ts : List Pr} {i : Nat} {t : Pr} {a b : List Int} (h : ts[i]? = some t) : side (ts.drop i) a b = if a.getD t.1.toNat 0 = b.getD t.1.toNat 0 then side (ts.drop (i + 1)) a b else if a.getD t.1.toNat 0 > b.getD t.1.toNat 0 then t.2 else -t.2 := by
  obtain ⟨hi, e⟩ := List.getElem?_eq_some_iff.mp h
  rw [List.drop_eq_getElem_cons hi, e]
  obtain ⟨m, d⟩ := t
  rfl
abbrev Fit (ts : List Pr) (a : List Int) : Prop := ∀ t ∈ ts, 0 ≤ t.1 ∧ t.1 < a.length
def sp_side : Sp := fun vs H Q _ => ∃ (t p q : Addr) (xs : List V) (ts : List Pr) (a b : List Int), vs = [.ref t, .ref p, .ref q] ∧ Sq H t xs ∧ Prs H xs ts ∧ H p = some (rowO a) ∧ H q = some (rowO b) ∧ Fit ts a ∧ Fit ts b ∧ Q (.int (side ts a b)) H
def sp_cmp : Sp := fun vs H Q _ => ∃ (t p q : Addr) (xs : List V) (ts : List Pr) (a b : List Int), vs = [.ref t, .ref p, .ref q] ∧ H t = some (.tup xs) ∧ Prs H xs ts ∧ H p = some (rowO a) ∧ H q = some (rowO b) ∧ Fit ts a ∧ Fit ts b ∧ (∀ t ∈ ts, t.2 = 1 ∨ t.2 = -1) ∧ Q (.int (side ts a b)) H
theorem ok_side {f : Addr} {fd : FuncData} (F : Fun K "_law_side" "_law_side" s__law_side f fd) (T : Txt P K mg C CR fR aS)  :
    FnOk P w K mg base (L2.CX P w) (0 + 1) f fd ["_law_terms_here", "_law_one", "_law_two"] sp_side := by
  refine okT F sc__law_side (fun vs H Q E h => ?_) (fun cdv A outer s H vs Q E hr tk h => ?_)
  · obtain ⟨t, p, q, xs, ts, a, b, rfl, _⟩ := h
    rfl
  obtain ⟨t, p, q, xs, ts, a, b, rfl, h1, p1, h2, h3, ha, hb, k⟩ := h
  have f1 := T.i1; have f2 := T.i2; have f3 := T.i3; have f4 := T.i4; have f6 := T.cl; have f7 := T.nT
  refine ⟨_, (pss_cons (ps_for (passes_of rfl) rfl (pi_seq (pv 0)) (pg_tup rfl (pgs_cons (pg_name (i := 3) sc__law_side.nd rfl (Or.inl rfl)) (pgs_cons (pg_name (i := 4) sc__law_side.nd rfl (Or.inl rfl)) pgs_nil))) (pss_one (ps_if (pt_cmpR op_ne (pe_ix ix_tup (pv 1) (pv 3) (fun _ _ => rfl)) (pe_ix ix_tup (pv 2) (pv 3) (fun _ _ => rfl)) (nomark _)) (pss_one (ps_ret (pe_ifExp (pt_cmpR op_gt (pe_ix ix_tup (pv 1) (pv 3) (fun _ _ => rfl)) (pe_ix ix_tup (pv 2) (pv 3) (fun _ _ => rfl)) (nomark _)) (pv 4) (pe_un un_neg (pv 4))))) pss_nil)))
      (pss_one (ps_ret pe_int))), ?_⟩
  simp only [cxK, st__law_side]
  walk_at "go"
  refine sq_loop (xs := xs) rfl h1 (fun i σ' H' => ∃ v3 v4 : Option V, σ' = [some (.ref t), some (.ref p), some (.ref q), v3, v4] ∧ H' = H ∧ side ts a b = side (ts.drop i) a b) ?_ ?_ ?_ ?_
  · exact ⟨_, _, rfl, rfl, rfl⟩
  · rintro i σ' H' _ ⟨_, _, _, rfl, _⟩
    exact Same.refl _
  · rintro i x σ' H' hx ⟨v3, v4, rfl, rfl, hs⟩
    obtain ⟨tm, pt, ht, rfl, hp⟩ := p1.get hx
    have hm := List.mem_of_getElem? ht
    obtain ⟨r1, r2⟩ := ha tm hm
    obtain ⟨r3, r4⟩ := hb tm hm
    rw [side_step ht] at hs
    walk_at "go"
    all_goals first
      | exact ⟨_, _, rfl, rfl, by rw [if_pos (by assumption)] at hs; exact hs⟩
      | skip
    · rename_i hc hg
      rw [if_neg hc, if_pos hg] at hs
      rw [hs] at k; exact k
    · rename_i hc hg
      rw [if_neg hc, if_neg hg] at hs
      rw [hs] at k; exact k
  · rintro σ' H' ⟨v3, v4, rfl, rfl, hs⟩
    rw [p1.1, List.drop_length] at hs
    rw [hs] at k
    walk_at "go"
    exact k
theorem ok_cmpby {f : Addr} {fd : FuncData} (F : Fun K "compare_by" "compare_by" s_compare_by f fd) (T : Txt P K mg C CR fR aS)  :
    FnOk P w K mg base (L2.CX P w) (0 + 1) f fd ["terms", "first", "second"] sp_cmp := by
  refine okT F sc_compare_by (fun vs H Q E h => ?_) (fun cdv A outer s H vs Q E hr tk h => ?_)
  · obtain ⟨t, p, q, xs, ts, a, b, rfl, _⟩ := h
    rfl
  obtain ⟨t, p, q, xs, ts, a, b, rfl, h1, p1, h2, h3, ha, hb, hd, k⟩ := h
  have f1 := T.i1; have f2 := T.i2; have f3 := T.i3; have f4 := T.i4; have f6 := T.cl; have f7 := T.nT
  refine ⟨_, (pss_cons (ps_for (passes_of rfl) rfl (pi_tup (pv 0)) (pg_tup rfl (pgs_cons (pg_name (i := 3) sc_compare_by.nd rfl (Or.inl rfl)) (pgs_cons (pg_name (i := 4) sc_compare_by.nd rfl (Or.inl rfl)) pgs_nil))) (pss_one (ps_if (pt_cmpR op_ne (pe_ix ix_tup (pv 1) (pv 3) (fun _ _ => rfl)) (pe_ix ix_tup (pv 2) (pv 3) (fun _ _ => rfl)) (nomark _)) (pss_cons (ps_if (pt_cmpR op_eq (pe_cmpR op_lt (pe_ix ix_tup (pv 1) (pv 3) (fun _ _ => rfl)) (pe_ix ix_tup (pv 2) (pv 3) (fun _ _ => rfl)) (nomark _)) (pe_cmpR op_eq (pv 4) pe_int (nomark _)) (nomark _)) (pss_one (ps_ret pe_negC)) pss_nil)
      (pss_one (ps_ret pe_int))) pss_nil)))
      (pss_one (ps_ret pe_int))), ?_⟩
  simp only [cxK, st_compare_by]
  walk_at "go"
  refine tup_loop (xs := xs) ⟨fun i σ' H' => ∃ v3 v4 : Option V, σ' = [some (.ref t), some (.ref p), some (.ref q), v3, v4] ∧ H' = H ∧ side ts a b = side (ts.drop i) a b, ?_, ?_, ?_, ?_⟩
  · exact ⟨_, _, rfl, rfl, rfl⟩
  · rintro i σ' H' _ ⟨_, _, _, rfl, _⟩
    exact SqT.of h1
  · rintro i x σ' H' hx ⟨v3, v4, rfl, rfl, hs⟩
    obtain ⟨tm, pt, ht, rfl, hp⟩ := p1.get hx
    have hm := List.mem_of_getElem? ht
    obtain ⟨r1, r2⟩ := ha tm hm
    obtain ⟨r3, r4⟩ := hb tm hm
    rw [side_step ht] at hs
    have hdd := hd tm hm
    walk_at "go"
    all_goals first
      | exact ⟨_, _, rfl, rfl, by rw [if_pos (by assumption)] at hs; exact hs⟩
      | skip
    all_goals
      rename_i hc
      rw [if_neg hc] at hs
      by_cases hlt : a.getD tm.1.toNat 0 < b.getD tm.1.toNat 0
      · rw [if_neg (show ¬ a.getD tm.1.toNat 0 > b.getD tm.1.toNat 0 by omega)] at hs
        rcases hdd with e | e
        · rw [decide_eq_true hlt, decide_eq_true e]
          rw [hs, e] at k
          walk_at "go"
          exact k
        · rw [decide_eq_true hlt, decide_eq_false (show ¬ tm.2 = 1 by omega)]
          rw [hs, e] at k
          walk_at "go"
          exact k
      · rw [if_pos (show a.getD tm.1.toNat 0 > b.getD tm.1.toNat 0 by omega)] at hs
        rcases hdd with e | e
        · rw [decide_eq_false hlt, decide_eq_true e]
          rw [hs, e] at k
          walk_at "go"
          exact k
        · rw [decide_eq_false hlt, decide_eq_false (show ¬ tm.2 = 1 by omega)]
          rw [hs, e] at k
          walk_at "go"
          exact k
  · rintro σ' H' ⟨v3, v4, rfl, rfl, hs⟩
    rw [p1.1, List.drop_length] at hs
    rw [hs] at k
    walk_at "go"
    exact k
theorem use_side {H : Hp} {Q : VK} {E : XK} {t p q : Addr} {xs : List V} {ts : List Pr} {a b : List Int} (h1 : Sq H t xs) (h2 : Prs H xs ts) (h3 : H p = some (rowO a)) (h4 : H q = some (rowO b)) (ha : Fit ts a) (hb : Fit ts b) (k : Q (.int (side ts a b)) H) : sp_side [.ref t, .ref p, .ref q] H Q E := ⟨t, p, q, xs, ts, a, b, rfl, h1, h2, h3, h4, ha, hb, k⟩
theorem use_cmpby {H : Hp} {Q : VK} {E : XK} {t p q : Addr} {xs : List V} {ts : List Pr} {a b : List Int} (h1 : H t = some (.tup xs)) (h2 : Prs H xs ts) (h3 : H p = some (rowO a)) (h4 : H q = some (rowO b)) (ha : Fit ts a) (hb : Fit ts b) (hd : ∀ t ∈ ts, t.2 = 1 ∨ t.2 = -1) (k : Q (.int (side ts a b)) H) : sp_cmp [.ref t, .ref p, .ref q] H Q E := ⟨t, p, q, xs, ts, a, b, rfl, h1, h2, h3, h4, ha, hb, hd, k⟩
local macro_rules | `(tactic| walk_at "use") => `(tactic| with_reducible first
  | refine use_isn ?_)
def sp_isterm : Sp := fun vs H Q _ => ∃ (p : Addr) (t : Pr), vs = [.ref p] ∧ H p = some (prO t) ∧ 0 ≤ t.1 ∧ t.1 ≤ 3 ∧ (t.2 = 1 ∨ t.2 = -1) ∧ ∀ H', Same H H' → Q (.bl true) H'
theorem ok_isterm {f : Addr} {fd : FuncData} (F : Fun K "is_term" "is_term" s_is_term f fd) (T : Txt P K mg C CR fR aS) (c_is_integer : Cal P w K mg base 1 "is_integer" sp_isn) :
    FnOk P w K mg base (L2.CX P w) (1 + 1) f fd ["term"] sp_isterm := by
  refine okT F sc_is_term (fun vs H Q E h => ?_) (fun cdv A outer s H vs Q E hr tk h => ?_)
  · obtain ⟨p, t, rfl, _⟩ := h
    rfl
  obtain ⟨p, t, rfl, h1, ht0, ht3, hd, k⟩ := h
  have f1 := T.i1; have f2 := T.i2; have f3 := T.i3; have f4 := T.i4; have f6 := T.cl; have f7 := T.nT
  refine ⟨_, (pss_cons (ps_if (PW.pt (pw_or (pt_not (pt_val (pe_callB call_isi (by rfl) T.b_isinstance (by decide +kernel) (pa_cons (pv 0) (pa_cons (g_ty (n := "tuple") T.b_tuple (by decide +kernel)) pa_nil))))) (pw_or1 (pt_cmpR op_ne (pe_callB b_len (by rfl) T.b_len (by decide +kernel) (pa_cons (pv 0) pa_nil)) pe_int (nomark _))))) (pss_one (ps_ret pe_bl)) pss_nil)
      (pss_cons (ps_asg (pv 0) (pg_tup rfl (pgs_cons (pg_name (i := 1) sc_is_term.nd rfl (Or.inl rfl)) (pgs_cons (pg_name (i := 2) sc_is_term.nd rfl (Or.inl rfl)) pgs_nil))))
      (pss_cons (ps_if (PW.pt (pw_or (pt_not (pt_val (c_call c_is_integer tk hr (by decide) (pa_cons (pv 1) pa_nil)))) (pw_or1 (pt_not (pt_val (c_call c_is_integer tk hr (by decide) (pa_cons (pv 2) pa_nil))))))) (pss_one (ps_ret pe_bl)) pss_nil)
      (pss_one (ps_ret (pe_and (pe_chain op_le op_le pe_int (pv 1) (g_val T.v_GREATEST_MARK)) (pe_one (pe_cmpR op_in_seq (pv 2) (pe_tup (pa_cons pe_int (pa_cons pe_negC pa_nil))) rfl)))))))), ?_⟩
  simp only [cxK, st_is_term]
  have M : Mem H [] H [] [] := mem_start (by simp []) (by simp) (by simp)
  walk_at "go"
  all_goals first
    | (rename_i hc; exact absurd rfl hc)
    | skip
  rename_i M9
  refine k_inI (ns := [1, -1]) (.inr (SqT.of (M9.getL List.mem_cons_self))) ?_
  rw [decide_eq_true (by rcases hd with e | e <;> rw [e] <;> simp)]
  exact k _ (Same.of_keep M9)
theorem use_isterm {B H : Hp} {ms : List Addr} {f l : List (Addr × HO)} {Q : VK} {E : XK} {p : Addr} {t : Pr} (M : Mem B ms H f l) (h : H p = some (prO t)) (h0 : 0 ≤ t.1) (h3 : t.1 ≤ 3) (hd : t.2 = 1 ∨ t.2 = -1) (k : ∀ H', Mem B ms H' f l → Q (.bl true) H') : sp_isterm [.ref p] H Q E := ⟨p, t, rfl, h, h0, h3, hd, fun H' s => k H' (M.same s)⟩
abbrev ruF (tp : Addr) : List (Str × V) := [("terms", .ref tp)]
def sp_rule (C : Addr) : Sp := fun vs H Q _ => ∃ (x dx t : Addr) (xs : List V) (ts : List Pr), vs = [.ref x, .ref t] ∧ H x = some (.ins C dx []) ∧ Sq H t xs ∧ Prs H xs ts ∧ Tms 4 ts ∧ xs.length ≤ 50000 ∧
  ∀ tp H', H' x = some (.ins C dx (ruF tp)) → (∀ b o, H b = some o → b ≠ x → H' b = some o) → H' tp = some (.tup xs) → ((H t = some (.tup xs) ∧ tp = t) ∨ H tp = none) → Q .non H'
theorem ok_rule {f : Addr} {fd : FuncData} (F : Fun K "__init__" "Rule.__init__" s_Rule_init f fd) (T : Txt P K mg C CR fR aS) (c_is_term : Cal P w K mg base 2 "is_term" sp_isterm) :
    FnOk P w K mg base (L2.CX P w) (2 + 1) f fd ["self", "terms"] (sp_rule C) := by
  refine okT F sc_Rule_init (fun vs H Q E h => ?_) (fun cdv A outer s H vs Q E hr tk h => ?_)
  · obtain ⟨x, dx, t, xs, ts, rfl, _⟩ := h
    rfl
  obtain ⟨x, dx, t, xs, ts, rfl, h1, hq, p1, htm, hl, k⟩ := h
  have f1 := T.i1; have f2 := T.i2; have f3 := T.i3; have f4 := T.i4; have f6 := T.cl; have f7 := T.nT
  refine ⟨_, (pss_cons (ps_set (i := 2) sc_Rule_init.nd rfl (Or.inl rfl) (pe_lst pa_nil))
      (pss_cons (ps_for (passes_of rfl) rfl (pi_enumQ (by rfl) T.b_enumerate (pa_cons (pv 1) pa_nil)) (pg_tup rfl (pgs_cons (pg_name (i := 3) sc_Rule_init.nd rfl (Or.inl rfl)) (pgs_cons (pg_name (i := 4) sc_Rule_init.nd rfl (Or.inl rfl)) pgs_nil))) (pss_cons (ps_if (PW.pt (pw_or (pt_not (pt_val (c_call c_is_term tk hr (by decide) (pa_cons (pv 4) pa_nil)))) (pw_or1 (pt_cmpR op_in_seq (pe_ix ix_tup (pv 4) pe_int (fun _ _ => rfl)) (pv 2) rfl)))) (pss_one (ps_raise rfl tk (pmk_err T.e_InvalidRule (by decide) hr (pa_cons (pv 3) pa_nil)))) pss_nil)
      (pss_one (ps_expr (pe_bm PySem.F.plainAttrs_list PySem.F.slot_list_append PySem.F.type_list_append mt_append (pv 2) (pa_cons (pe_ix ix_tup (pv 4) pe_int (fun _ _ => rfl)) pa_nil))))))
      (pss_one (ps_fld (pv 0) (pe_callTy b_tupleOf (by rfl) T.b_tuple (by decide +kernel) (pa_cons (pv 1) pa_nil)) rfl)))), ?_⟩
  simp only [cxK, st_Rule_init]
  have M : Mem H [] H [] [] := mem_start (by simp []) (by simp) (by simp)
  walk_at "go"
  rename_i mk H0 M0
  refine enumQ_loop (xs := xs) rfl (hq.same (Same.of_keep M0)) (fun i σ' H' => ∃ (l' : List (Addr × HO)) (v3 v4 : Option V), σ' = [some (.ref x), some (.ref t), some (.ref mk), v3, v4] ∧ Mem H [] H' [] ((mk, .lst (((ts.take i).map (·.1)).map V.int)) :: l')) ?_ ?_ ?_ ?_
  · exact ⟨[], _, _, rfl, M0⟩
  · rintro i σ' H' o _ ⟨_, _, _, _, M'⟩ ho
    rcases hq with z | z
    · rw [Same.of_keep M0 _ _ z] at ho
      rw [← ho]; exact M'.atB0 z
    · rw [Same.of_keep M0 _ _ z] at ho
      rw [← ho]; exact M'.atB0 z
  · rintro i v σ' H' T hi ⟨l', v3, v4, rfl, M'⟩ hT
    obtain ⟨tm, p, ht, rfl, hp⟩ := p1.get hi
    have M2 := M'.alloc (o := .tup [.int (i : Nat), .ref p]) hT
    have hm := List.mem_of_getElem? ht
    obtain ⟨r0, r1⟩ := htm.rng tm hm
    have hdd := htm.dir tm hm
    have hp2 := M2.atB0 hp
    have htl := (List.getElem?_eq_some_iff.mp hi).1
    have hxl := p1.1
    have hlk := List.length_take_le i ts
    walk_at "go"
    refine use_isterm M2 hp2 r0 (by omega) hdd fun H3 M3 => ?_
    have hp3 := M3.atB0 hp
    walk_at "go"
    refine k_inI (ns := (ts.take i).map (·.1)) (.inl (SqL.of (M3.getL (List.mem_cons_of_mem _ List.mem_cons_self)))) ?_
    have hni : ¬ tm.1 ∈ (ts.take i).map (·.1) := fun z => by
      have nd := htm.nd
      obtain ⟨hil, e⟩ := List.getElem?_eq_some_iff.mp ht
      rw [← List.take_append_drop i ts, List.map_append, List.nodup_append] at nd
      exact nd.2.2 _ z _ (List.mem_map.mpr ⟨tm, by rw [List.drop_eq_getElem_cons hil, e]; exact List.mem_cons_self, rfl⟩) rfl
    rw [decide_eq_false hni]
    walk_at "go"
    rename_i H4 M4
    have e : ((ts.take (i + 1)).map (·.1)).map V.int = ((ts.take i).map (·.1)).map V.int ++ [V.int tm.1] := by rw [List.take_add_one, ht]; simp
    refine ⟨(T, .tup [.int (i : Nat), .ref p]) :: l', _, _, rfl, ?_⟩
    rw [e]
    exact M4.front1
  · rintro σ' H' ⟨l', v3, v4, rfl, M'⟩
    have h1' := M'.atB0 h1
    have fin : ∀ tp H2 l2, Mem H [] H2 [] l2 → H2 tp = some (.tup xs) → ((H t = some (.tup xs) ∧ tp = t) ∨ H tp = none) → Q .non (upd H2 x (.ins C dx (ruF tp))) := fun tp H2 l2 M2 htp hor => by
      have hx2 := M2.atB0 h1
      have hne : tp ≠ x := fun e => by rw [e, hx2] at htp; cases htp
      refine k tp _ upd_same (fun b o hb hbx => ?_) (by rw [upd_ne hne]; exact htp) hor
      rw [upd_ne hbx]
      exact M2.atB0 hb
    rcases hq with z | z
    · have z' := M'.atB0 z
      walk_at "go"
      rename_i tp H2 M2
      exact ⟨x, C, dx, _, rfl, M2.atB0 h1, f6, f7, by decide, fin tp H2 _ M2 (M2.getL List.mem_cons_self) (.inr (M2.new _ List.mem_cons_self))⟩
    · have z' := M'.atB0 z
      walk_at "go"
      refine k_tupleOfT (SqT.of z') ?_
      walk_at "go"
      exact ⟨x, C, dx, _, rfl, h1', f6, f7, by decide, fin t H' _ M' z' (.inl ⟨z, rfl⟩)⟩
theorem mem_two {H H' : Hp} {p q : Addr} {o u : HO} (s : Same H H') (hp : H p = none) (hq : H q = none) (hne : p ≠ q) (hp' : H' p = some o) (hq' : H' q = some u) : Mem H [] H' [] [(p, o), (q, u)] :=
  ⟨(fun _ h => nomatch h), fun z hz => by
    simp only [List.mem_cons, List.not_mem_nil, or_false] at hz
    rcases hz with rfl | rfl <;> assumption, by simp [hne], fun a o h _ => s a o h, (fun _ h => nomatch h), fun z hz => by
    simp only [List.mem_cons, List.not_mem_nil, or_false] at hz
    rcases hz with rfl | rfl <;> assumption⟩
theorem use_ruleT {B H : Hp} {ms : List Addr} {f l : List (Addr × HO)} {Q : VK} {E : XK} {t : Addr} {xs : List V} {ts : List Pr} (M : Mem B ms H f l) (h : H t = some (.tup xs)) (p : Prs H xs ts) (ht : Tms 4 ts) (hl : xs.length ≤ 50000)
    (k : ∀ x dx tp H' l2, Mem B ms H' f ((x, .ins C dx (ruF tp)) :: (l2 ++ l)) → (tp = t ∨ (tp, .tup xs) ∈ l2) → Q (.ref x) H') : newO C (sp_rule C) [.ref t] H Q E := by
  intro x dx hx hdx hne
  have s1 : Same H (upd (upd H dx (.own x)) x (.ins C dx [])) := fun a o e => by
    rw [upd_ne (ne_of_none e hx), upd_ne (ne_of_none e hdx)]; exact e
  refine ⟨x, dx, t, xs, ts, rfl, upd_same, .inr (s1 _ _ h), p.same s1, ht, hl, fun tp H' hx' hk htp hor => ⟨rfl, ?_⟩⟩
  have s2 : Same H H' := fun a o e => hk a o (s1 _ _ e) (ne_of_none e hx)
  rcases hor with ⟨_, e⟩ | z
  · exact k x dx tp H' [] (M.sameNew s2 hx hx') (.inl e)
  · refine k x dx tp H' [(tp, .tup xs)] (M.comp0 (mem_two s2 hx (s1.free z) ?_ hx' htp)) (.inr List.mem_cons_self)
    rintro rfl
    rw [hx'] at htp; cases htp
/-- a list of the same rolls -/
def sp_laid : Sp := fun vs H Q _ => ∃ (t l : Addr) (xs ys : List V) (ts : List Pr) (S : List (List Int)), vs = [.ref t, .ref l] ∧ H t = some (.lst xs) ∧ Prs H xs ts ∧ H l = some (.lst ys) ∧ Rws H ys S ∧ S.length ≤ 19 ∧ (∀ r ∈ S, Fit ts r) ∧
  ∀ d zs S' H', Mem H [] H' [] [(d, .lst zs)] → Rws H zs S' → (∀ r ∈ S', r ∈ S) → S'.length = S.length → Q (.ref d) H'
theorem ok_laid {f : Addr} {fd : FuncData} (F : Fun K "_law_laid" "_law_laid" s__law_laid f fd) (T : Txt P K mg C CR fR aS) (c__law_side : Cal P w K mg base 1 "_law_side" sp_side) :
    FnOk P w K mg base (L2.CX P w) (1 + 1) f fd ["_law_terms_here", "_law_rolls"] sp_laid := by
  refine okT F sc__law_laid (fun vs H Q E h => ?_) (fun cdv A outer s H vs Q E hr tk h => ?_)
  · obtain ⟨t, l, xs, ys, ts, S, rfl, _⟩ := h
    rfl
  obtain ⟨t, l, xs, ys, ts, S, rfl, h1, p1, h2, p2, hS, hf, k⟩ := h
  have f1 := T.i1; have f2 := T.i2; have f3 := T.i3; have f4 := T.i4; have f6 := T.cl; have f7 := T.nT
  refine ⟨_, (pss_cons (ps_set (i := 2) sc__law_laid.nd rfl (Or.inl rfl) (pe_lst pa_nil))
      (pss_cons (ps_for (passes_of rfl) rfl (pi_list (pv 1)) (pg_name (i := 3) sc__law_laid.nd rfl (Or.inl rfl)) (pss_cons (ps_set (i := 4) sc__law_laid.nd rfl (Or.inl rfl) pe_int)
      (pss_cons (ps_for (passes_of rfl) rfl (pi_list (pv 2)) (pg_name (i := 5) sc__law_laid.nd rfl (Or.inl rfl)) (pss_one (ps_if (pt_cmpR op_le (c_call c__law_side tk hr (by decide) (pa_cons (pv 0) (pa_cons (pv 5) (pa_cons (pv 3) pa_nil)))) pe_int (nomark _)) (pss_one (ps_set (i := 4) sc__law_laid.nd rfl (Or.inl rfl) (pe_op op_add (pv 4) pe_int))) pss_nil)))
      (pss_one (ps_expr (pe_bm PySem.F.plainAttrs_list PySem.F.slot_list_insert PySem.F.type_list_insert mt_insert0 (pv 2) (pa_cons (pv 4) (pa_cons (pv 3) pa_nil))))))))
      (pss_one (ps_ret (pv 2))))), ?_⟩
  simp only [cxK, st__law_laid]
  have M : Mem H [] H [] [] := mem_start (by simp []) (by simp) (by simp)
  have hyl := p2.1
  walk_at "go"
  rename_i p0 H0 M0
  have h20 := M0.atB0 h2
  walk_at "go"
  refine lst_loop (xs := ys) ⟨fun i σ' H' => ∃ (zs : List V) (S' : List (List Int)) (v3 v4 v5 : Option V), σ' = [some (.ref t), some (.ref l), some (.ref p0), v3, v4, v5] ∧ Mem H [] H' [] [(p0, .lst zs)] ∧ Rws H zs S' ∧ (∀ r ∈ S', r ∈ S) ∧ S'.length = i, ?_, ?_, ?_, ?_⟩
  · exact ⟨[], [], _, _, _, rfl, M0, PX.nil, (fun r h => nomatch h), rfl⟩
  · rintro i σ' H' _ ⟨_, _, _, _, _, _, M', _⟩
    exact SqL.of (M'.atB0 h2)
  · rintro i x σ' H' hx ⟨zs, S', v3, v4, v5, rfl, M', pz, hsub, hl'⟩
    obtain ⟨b, pb, hb, rfl, hpb⟩ := p2.get hx
    have hil := (List.getElem?_eq_some_iff.mp hx).1
    have hzl := pz.1
    have hfb := hf b (List.mem_of_getElem? hb)
    have hpb' := M'.atB0 hpb
    walk_at "go"
    refine lst_loop (xs := zs) ⟨fun j σ' H2 => ∃ (n : Int) (v5 : Option V), σ' = [some (.ref t), some (.ref l), some (.ref p0), some (.ref pb), some (.int n), v5] ∧ H2 = H' ∧ 0 ≤ n ∧ n ≤ j, ?_, ?_, ?_, ?_⟩
    · exact ⟨_, _, rfl, rfl, by omega, by omega⟩
    · rintro j σ' H2 _ ⟨_, _, _, rfl, _⟩
      exact SqL.of (M'.getL List.mem_cons_self)
    · rintro j y σ' H2 hy ⟨n, v5, rfl, rfl, hn0, hn1⟩
      obtain ⟨a, pa, ha, rfl, hpa⟩ := pz.get hy
      have hfa := hf a (hsub a (List.mem_of_getElem? ha))
      walk_at "go"
      refine use_side (.inl (M'.atB0 h1)) (p1.same (Same.of_keep M')) (M'.atB0 hpa) hpb' hfa hfb ?_
      walk_at "go"
      · exact ⟨_, _, rfl, rfl, by omega, by omega⟩
      · exact ⟨_, _, rfl, rfl, by omega, by omega⟩
    · rintro σ' H2 ⟨n, v5, rfl, rfl, hn0, hn1⟩
      walk_at "go"
      refine k_insert M' (Nat.lt_of_le_of_lt (m := 50000) (by omega) (by decide)) hn0 (by omega) fun H3 M3 => ?_
      walk_at "go"
      refine ⟨_, S'.take n.toNat ++ [b] ++ S'.drop n.toNat, _, _, _, rfl, M3, ((pz.take _).append (PX.one hpb)).append (pz.drop _), fun r hr => ?_, ?_⟩
      · rcases List.mem_append.mp hr with h | h
        · rcases List.mem_append.mp h with h | h
          · exact hsub r (List.mem_of_mem_take h)
          · rw [List.mem_singleton.mp h]; exact List.mem_of_getElem? hb
        · exact hsub r (List.mem_of_mem_drop h)
      · simp only [List.length_append, List.length_take, List.length_drop, List.length_cons, List.length_nil]
        omega
  · rintro σ' H' ⟨zs, S', v3, v4, v5, rfl, M', pz, hsub, hl'⟩
    walk_at "go"
    exact k p0 zs S' H' M' pz hsub (by omega)
theorem use_laid {B H : Hp} {ms : List Addr} {f l : List (Addr × HO)} {Q : VK} {E : XK} {t a : Addr} {xs ys : List V} {ts : List Pr} {S : List (List Int)} (M : Mem B ms H f l) (h1 : H t = some (.lst xs)) (p1 : Prs H xs ts) (h2 : H a = some (.lst ys)) (p2 : Rws H ys S) (hs : S.length ≤ 19) (hf : ∀ r ∈ S, Fit ts r)
    (k : ∀ d zs S' H', Mem B ms H' f ((d, .lst zs) :: l) → Rws H zs S' → (∀ r ∈ S', r ∈ S) → S'.length = S.length → Q (.ref d) H') : sp_laid [.ref t, .ref a] H Q E :=
  ⟨t, a, xs, ys, ts, S, rfl, h1, p1, h2, p2, hs, hf, fun d zs S' H' M2 a1 a2 a3 => k d zs S' H' (M.comp0 M2) a1 a2 a3⟩
end
end K35

set_option Elab.async false
set_option linter.all false
set_option maxRecDepth 100000
set_option maxHeartbeats 8000000
namespace K35
open PySem L2 MyL
local macro_rules | `(tactic| walk_at "mem") => `(tactic| first | exact List.mem_cons_self | (refine List.mem_cons_of_mem _ ?_; walk_at "mem"))
local macro_rules | `(tactic| walk_at "hp") => `(tactic| first | assumption | (refine' Mem.getL ?k1 ?k2; (case k1 => assumption); (case k2 => walk_at "mem")) | (refine' Mem.getF ?k1 ?k2; (case k1 => assumption); (case k2 => walk_at "mem")) | (refine' Mem.atB ?k1 ?k2; (case k1 => assumption); (case k2 => assumption)))
local macro_rules | `(tactic| walk_at "cond") => `(tactic| first | omega | assumption | exact mulR (by omega) (by omega) | exact mulL (by omega) (by omega) | exact divW (by omega) (by omega) | decide)
local macro_rules | `(tactic| walk_at "look") => `(tactic| first | assumption | with_unfolding_all rfl | exact atI_map (by omega) (by omega))
local macro_rules | `(tactic| walk_at "go1") => `(tactic| with_reducible first
  | refine k_seq ?_ | refine k_gName ?_ | refine k_asg ?_ | refine k_ret ?_ | refine k_ifS ?_ | refine k_drop ?_ | refine k_next ?_ | refine k_break ?_ | refine k_cont ?_ | refine k_retN ?_
  | (refine' k_var ?k1 ?_; (case k1 => with_unfolding_all rfl)) | refine k_c ?_ | refine k_op ?_ | refine k_un ?_ | refine k_test ?_ | refine k_B ?_ | refine k_bl ?_ | refine k_and ?_ | refine k_or ?_ | refine k_not ?_
  | refine k_andV ?_ | refine k_orV ?_ | refine k_notV ?_ | refine k_ifE ?_ | refine k_nil ?_ | refine k_cons ?_ | refine k_cb ?_ | refine k_callS ?_ | refine k_lst0 ?_ | refine k_tup0 ?_ | refine k_fld0 ?_ | refine k_sub0 ?_ | refine k_make0 ?_ | refine k_prop0 ?_ | refine k_sta0 ?_ | refine k_sta ?_ | refine k_bm ?_ | refine k_bm0 ?_ | refine k_chain ?_ | refine k_makeK0 ?_ | refine k_swapK ?_ | refine k_meth0 ?_ | refine k_ownN0 ?_ | refine k_ownO0 ?_ | refine k_sfld0 ?_ | refine k_jnil ?_ | refine k_jcons ?_ | refine k_fmt0 ?_ | refine k_sl0 ?_ | refine k_nopart ?_ | refine k_part ?_ | refine k_forR1 ?_ | refine k_forR2 ?_ | refine k_forL ?_ | refine k_forT ?_ | refine k_lcR1 ?_ | refine k_lcR2 ?_ | refine k_lcL ?_ | refine k_lcT ?_ | refine k_err0 ?_ | refine k_xf0 ?_ | refine k_errQ1 ?_ | refine k_errQ0 ?_ | refine k_errQ2 ?_ | refine k_errQ3 ?_
  | refine k_I0 ?_ | (refine k_I ?k1 ?_; (case k1 => walk_at "cond")) | refine k_U ?_ | refine k_eqI ?_ | refine k_neI ?_ | refine k_eqB ?_ | refine k_neB ?_ | refine k_eqS ?_ | refine k_neS ?_
  | refine k_int1 ?_ | refine k_abs1 ?_ | refine k_min2 ?_ | refine k_max2 ?_
  | (refine' k_lenM ?k1 ?_; (case k1 => walk_at "hp")) | (refine' k_lenL ?k1 ?_; (case k1 => walk_at "hp")) | (refine' k_lenT ?k1 ?_; (case k1 => walk_at "hp"))
  | (refine' k_lenS ?k1 ?_; (case k1 => assumption)) | (refine' k_ixS ?k1 ?k2 ?_; (case k1 => assumption); (case k2 => walk_at "look"))
  | (refine' k_ixL ?k1 ?k2 ?_; (case k1 => walk_at "hp"); (case k2 => walk_at "look")) | (refine' k_ixT ?k1 ?k2 ?_; (case k1 => walk_at "hp"); (case k2 => walk_at "look"))
  | (refine' k_ix4 ?k1 ?k2 ?k3 ?_; (case k1 => walk_at "hp"); (case k2 => omega); (case k3 => omega); intro n' hn')
  | (refine' k_ix3 ?k1 ?k2 ?k3 ?_; (case k1 => walk_at "hp"); (case k2 => omega); (case k3 => omega); intro n' hn')
  | (refine' k_ix2 ?k1 ?k2 ?k3 ?_; (case k1 => walk_at "hp"); (case k2 => omega); (case k3 => omega); intro n' hn')
  | (refine' k_fld ?k1 ?k2 ?k3 ?k4 ?_; (case k1 => walk_at "hp"); (case k2 => assumption); (case k3 => assumption); (case k4 => walk_at "fld"))
  | (refine' k_lst ?k1 ?k2 ?_; (case k1 => assumption); (case k2 => exact sz (by simp)); intro p' H' M')
  | (refine' k_tup ?k1 ?k2 ?_; (case k1 => assumption); (case k2 => exact sz (by simp)); intro p' H' M')
  | (refine' k_setF0 ?k1 ?k2 ?k3 ?_; (case k1 => assumption); (case k2 => simp); (case k3 => with_unfolding_all rfl); intro H' M'; try simp only [Int.reduceToNat, List.set_cons_succ, List.set_cons_zero] at M')
  | (refine' k_setL0 ?k1 ?k2 ?_; (case k1 => assumption); (case k2 => with_unfolding_all rfl); intro H' M'; try simp only [Int.reduceToNat, List.set_cons_succ, List.set_cons_zero] at M')
  | (refine' k_setL1 ?k1 ?k2 ?_; (case k1 => assumption); (case k2 => with_unfolding_all rfl); intro H' M'; try simp only [Int.reduceToNat, List.set_cons_succ, List.set_cons_zero] at M')
  | (refine' k_setL2 ?k1 ?k2 ?_; (case k1 => assumption); (case k2 => with_unfolding_all rfl); intro H' M'; try simp only [Int.reduceToNat, List.set_cons_succ, List.set_cons_zero] at M')
  | refine iteT ?_ | refine iteF ?_ | refine k_iteNE ?_ | refine k_iteNS ?_ | refine k_iteNT ?_ | refine k_iteNF ?_
  | (refine k_iteD ?_ ?_ <;> intro hc <;> first | (exfalso; omega) | skip)
  | (refine k_iteN ?_ ?_ <;> intro hc <;> first | (exfalso; omega) | skip)
  | (refine' k_ownN ?k1 ?_; (case k1 => walk_at "hp")) | (refine' k_ownO ?k1 ?k2 ?_; (case k1 => walk_at "hp"); (case k2 => walk_at "hp")) | (refine' k_ownEq ?k1 ?k2 ?_; (case k1 => walk_at "hp"); (case k2 => walk_at "hp"))
  | (refine' k_ownIn ?k1 ?_; (case k1 => walk_at "hp")) | (refine' k_ownU ?k1 ?_; (case k1 => walk_at "hp")) | (refine' k_ownStr ?k1 ?_; (case k1 => walk_at "hp"))
  | (refine' k_prop ?k1 ?_; (case k1 => walk_at "hp")) | (refine' k_ownNe ?k1 ?k2 ?_; (case k1 => walk_at "hp"); (case k2 => walk_at "hp")) | (refine' k_eqP ?k1 ?k2 ?_; (case k1 => walk_at "hp"); (case k2 => walk_at "hp")) | (refine' k_neP ?k1 ?k2 ?_; (case k1 => walk_at "hp"); (case k2 => walk_at "hp"))
  | (refine' k_isiO ?k1 ?k2 ?k3 ?k4 ?k5 ?k6 ?_; (case k1 => walk_at "hp"); (case k2 => assumption); (case k3 => assumption); (case k4 => assumption); (case k5 => assumption); (case k6 => assumption))
  | (refine' k_isiI ?k1 ?_; (case k1 => assumption))
  | (refine' k_jst ?k1 ?_; (case k1 => walk_at "size")) | (refine' k_fmtI ?k1 ?_; (case k1 => exact log2_64 (by omega) (by omega))) | (refine' k_strI ?k1 ?_; (case k1 => exact log2_64 (by omega) (by omega)))
  | (refine k_addS ?k1 ?_; (case k1 => walk_at "size")) | refine k_st ?_ | refine k_parti ?_
  | (refine' k_cat ?k1 ?k2 ?k3 ?k4 ?_; (case k1 => assumption); (case k2 => walk_at "hp"); (case k3 => walk_at "hp"); (case k4 => walk_at "size"); intro p' H' M')
  | (refine' k_slL ?k1 ?k2 ?_; (case k1 => assumption); (case k2 => first | assumption | exact SqL.of (by walk_at "hp")); intro p' H' M')
  | (refine k_rng1 ?k1 ?k2 ?_; (case k1 => omega); (case k2 => omega)) | (refine k_rng2 ?k1 ?k2 ?k3 ?k4 ?_; (case k1 => omega); (case k2 => omega); (case k3 => omega); (case k4 => omega))
  | (refine' k_lstAt ?k1 ?_; (case k1 => first | assumption | exact SqL.of (by walk_at "hp"))) | (refine' k_tupAt ?k1 ?_; (case k1 => first | assumption | exact SqT.of (by walk_at "hp")))
  | (refine' k_isXs ?k1 ?k2 ?_; (case k1 => assumption); (case k2 => walk_at "hp")) | (refine' k_isXo ?k1 ?k2 ?k3 ?_; (case k1 => assumption); (case k2 => walk_at "hp"); (case k3 => assumption)) | (refine' k_isXt ?k1 ?k2 ?k3 ?_; (case k1 => assumption); (case k2 => walk_at "hp"); (case k3 => assumption))
  | (refine' k_isX3 ?k1 ?k2 ?k3 ?k4 ?_; (case k1 => assumption); (case k2 => walk_at "hp"); (case k3 => walk_at "hp"); (case k4 => assumption)) | (refine' k_isX2 ?k1 ?k2 ?k3 ?k4 ?_; (case k1 => assumption); (case k2 => walk_at "hp"); (case k3 => walk_at "hp"); (case k4 => assumption))
  | (refine' k_tyL ?k1 ?_; (case k1 => walk_at "hp"))
  | (refine' k_appL0 ?k1 ?k2 ?_; (case k1 => assumption); (case k2 => walk_at "size"); intro H' M') | (refine' k_appL1 ?k1 ?k2 ?_; (case k1 => assumption); (case k2 => walk_at "size"); intro H' M') | (refine' k_appL2 ?k1 ?k2 ?_; (case k1 => assumption); (case k2 => walk_at "size"); intro H' M') | (refine' k_appL3 ?k1 ?k2 ?_; (case k1 => assumption); (case k2 => walk_at "size"); intro H' M')
  | (refine' k_revL0 ?k1 ?_; (case k1 => assumption); intro H' M') | (refine' k_revL1 ?k1 ?_; (case k1 => assumption); intro H' M')
  | (refine' k_isX0s ?k1 ?_; (case k1 => assumption)) | (refine' k_isX0o ?k1 ?k2 ?_; (case k1 => assumption); (case k2 => assumption)) | (refine' k_isX0t ?k1 ?k2 ?_; (case k1 => assumption); (case k2 => assumption)) | (refine' k_isX04 ?k1 ?k2 ?k3 ?_; (case k1 => assumption); (case k2 => walk_at "hp"); (case k3 => assumption))
  | (refine' k_isX4 ?k1 ?k2 ?k3 ?k4 ?_; (case k1 => assumption); (case k2 => walk_at "hp"); (case k3 => walk_at "hp"); (case k4 => assumption)) | (refine' k_ixT2 ?k1 ?k2 ?k3 ?_; (case k1 => walk_at "hp"); (case k2 => omega); (case k3 => omega); intro n' hn')
  | (refine k_iteNEq ?k1 ?_; (case k1 => (rw [Bool.eq_iff_iff]; first | (simp; done) | (simp; omega))))
  | (refine' k_xf ?k1 ?k2 ?_; (case k1 => walk_at "hp"); (case k2 => first | exact xd1 | exact xdH | exact xd2 (by decide +kernel)))
  | (refine' k_caught ?k1 ?_; (case k1 => assumption); intro a' ha')
  | refine k_asgT ?_ | refine k_gCons ?_ | refine k_gNil ?_ | refine k_par ?_ | refine k_two ?_ | refine k_isNn ?_ | refine k_isNi ?_ | refine k_notNn ?_ | refine k_notNi ?_ | refine k_isN ?_ | refine k_notN ?_
  | (refine' k_gTup ?k1 ?k2 ?_; (case k1 => walk_at "hp"); (case k2 => with_unfolding_all rfl))
  | (refine' k_isiT ?k1 ?k2 ?_; (case k1 => walk_at "hp"); (case k2 => assumption)) | (refine' k_isiL ?k1 ?k2 ?_; (case k1 => walk_at "hp"); (case k2 => assumption))
  | (refine' k_ixQ ?k1 ?k2 ?_; (case k1 => assumption); (case k2 => walk_at "look")) | (refine' k_lenQ ?k1 ?_; (case k1 => assumption))
  | (refine' k_xfB ?k1 ?k2 ?_; (case k1 => walk_at "hp"); (case k2 => first | exact xd1 | exact xdH | exact xd2 (by decide +kernel)))
  | (refine' k_all ?k1 ?_; (case k1 => walk_at "hp"))
  | (refine' k_tupleOf ?k1 ?k2 ?_; (case k1 => assumption); (case k2 => exact SqL.of (by walk_at "hp")); intro p' H' M')
  | (refine' k_listOf ?k1 ?k2 ?_; (case k1 => assumption); (case k2 => exact Or.inl (SqL.of (by walk_at "hp"))); intro p' H' M')
  | walk_at "use")
local macro_rules | `(tactic| walk_at "go") => `(tactic| repeat' (walk_at "go1"))

local macro_rules | `(tactic| walk_at "eq") => `(tactic| first | rfl | assumption | omega)
local macro_rules | `(tactic| walk_at "fld") => `(tactic| exact xdH)
local macro_rules | `(tactic| walk_at "size") => `(tactic| first | exact sz (by first | omega | (simp only [List.length_map, List.length_range, List.length_append, List.length_cons, List.length_nil, Int.reduceSub, Int.reduceToNat, Int.reduceNeg]; omega)) | (exact Nat.lt_of_le_of_lt (m := 50000) (by first | omega | (simp only [List.length_map, List.length_range, List.length_append, List.length_cons, List.length_nil]; omega)) (by decide)))
section
variable {P : Program} {w : World} {K : PySem.W.Frag} {mg : Str → Option Value} {base : Heap} {C CR fR aS : Addr}
theorem Mem.front {B H : Hp} {ms : List Addr} {f l1 l2 : List (Addr × HO)} {z : Addr × HO} (M : Mem B ms H f (l1 ++ z :: l2)) : Mem B ms H f (z :: (l1 ++ l2)) := M.perm List.perm_middle
local macro_rules | `(tactic| walk_at "use") => `(tactic| with_reducible first
  | refine use_isn ?_)
abbrev FitN (ts : List Pr) (n : Nat) : Prop := ∀ t ∈ ts, 0 ≤ t.1 ∧ t.1 ≤ n
theorem FitN.fit {ts : List Pr} {n : Nat} (h : FitN ts n) {a : List Int} (ha : a.length = n) (x : Int) : Fit ts (a ++ [x]) := fun t ht => by
  have := h t ht
  rw [List.length_append, ha, List.length_singleton]
  omega
theorem filt_next {L : List Int} {P : Int → Bool} {i : Nat} {s : Int} (h : L[i]? = some s) : ((L.take (i + 1)).filter P).map V.int = ((L.take i).filter P).map V.int ++ if P s = true then [V.int s] else [] := by
  rw [List.take_add_one, h, Option.toList_some, List.filter_append, List.map_append]
  congr 1
  by_cases e : P s = true
  · rw [if_pos e, List.filter_cons_of_pos e]; rfl
  · rw [if_neg e, List.filter_cons_of_neg e]; rfl
theorem filt_len {L : List Int} {P : Int → Bool} {i : Nat} : (((L.take i).filter P).map V.int).length ≤ L.length := by
  rw [List.length_map]
  exact Nat.le_trans (List.length_filter_le _ _) (List.length_take_le' i L)
theorem row_snoc {a : List Int} {x : Int} : HO.tup (a.map V.int ++ [V.int x]) = rowO (a ++ [x]) := by rw [rowO, List.map_append]; rfl
abbrev demP (ts : List Pr) (a b : List Int) (s : Int) : Bool := decide (side ts (a ++ [s]) (b ++ [0]) ≤ 0)
def sp_dem (C : Addr) : Sp := fun vs H Q _ => ∃ (r dx t p q : Addr) (xs : List V) (ts : List Pr) (a b : List Int) (n : Nat), vs = [.ref r, .ref p, .ref q] ∧ H r = some (.ins C dx (ruF t)) ∧ H t = some (.tup xs) ∧ Prs H xs ts ∧ (∀ t ∈ ts, t.2 = 1 ∨ t.2 = -1) ∧ FitN ts n ∧ H p = some (rowO a) ∧ H q = some (rowO b) ∧ a.length = n ∧ b.length = n ∧ n ≤ 10 ∧
  ∀ d H' l2, Mem H [] H' [] ((d, rowO (dem ts a b)) :: l2) → Q (.ref d) H'
theorem ok_dem {f : Addr} {fd : FuncData} (F : Fun K "demand" "demand" s_demand f fd) (T : Txt P K mg C CR fR aS) (c_compare_by : Cal P w K mg base 1 "compare_by" sp_cmp) :
    FnOk P w K mg base (L2.CX P w) (1 + 1) f fd ["rule", "first", "second"] (sp_dem C) := by
  refine okT F sc_demand (fun vs H Q E h => ?_) (fun cdv A outer s H vs Q E hr tk h => ?_)
  · obtain ⟨r, dx, t, p, q, xs, ts, a, b, n, rfl, _⟩ := h
    rfl
  obtain ⟨r, dx, t, p, q, xs, ts, a, b, n, rfl, h0, h1, p1, hd, hfn, h2, h3, ha, hb, hn, k⟩ := h
  have f1 := T.i1; have f2 := T.i2; have f3 := T.i3; have f4 := T.i4; have f6 := T.cl; have f7 := T.nT
  refine ⟨_, (pss_cons (ps_set (i := 3) sc_demand.nd rfl (Or.inl rfl) (pe_op op_catA (pe_callTy b_tupleOf (by rfl) T.b_tuple (by decide +kernel) (pa_cons (pv 2) pa_nil)) (pe_tup (pa_cons pe_int pa_nil))))
      (pss_cons (ps_set (i := 4) sc_demand.nd rfl (Or.inl rfl) (pe_lst pa_nil))
      (pss_cons (ps_for (passes_of rfl) rfl (pi_tup (g_val T.v_ALL_SIGNS)) (pg_name (i := 5) sc_demand.nd rfl (Or.inl rfl)) (pss_one (ps_if (pt_cmpR op_ne (c_call c_compare_by tk hr (by decide) (pa_cons (pe_fld (pv 0) rfl) (pa_cons (pe_op op_catA (pe_callTy b_tupleOf (by rfl) T.b_tuple (by decide +kernel) (pa_cons (pv 1) pa_nil)) (pe_tup (pa_cons (pv 5) pa_nil))) (pa_cons (pv 3) pa_nil)))) pe_int (nomark _)) (pss_one (ps_expr (pe_bm PySem.F.plainAttrs_list PySem.F.slot_list_append PySem.F.type_list_append mt_append (pv 4) (pa_cons (pv 5) pa_nil)))) pss_nil)))
      (pss_one (ps_ret (pe_callTy b_tupleOf (by rfl) T.b_tuple (by decide +kernel) (pa_cons (pv 4) pa_nil))))))), ?_⟩
  simp only [cxK, st_demand]
  have M : Mem H [] H [] [] := mem_start (by simp []) (by simp) (by simp)
  walk_at "go"
  refine k_tupleOfT (SqT.of h3) ?_
  walk_at "go"
  rename_i z0 H1 M1
  refine k_catA M1 (SqT.of (M1.atB0 h3)) List.mem_cons_self (by simp) (Nat.le_of_lt (sz (by rw [List.length_map]; simp; omega))) fun o H2 l2 ho M2 => ?_
  rw [row_snoc] at ho
  walk_at "go"
  rename_i sg H3 M3
  refine ⟨aS, rfl, ⟨_, T.sq _⟩, ?_⟩
  refine tup_loop (xs := sg3.map V.int) ⟨fun i σ' H' => ∃ (v5 : Option V) (l' : List (Addr × HO)), σ' = [some (.ref r), some (.ref p), some (.ref q), some (.ref o), some (.ref sg), v5] ∧ (o, rowO (b ++ [0])) ∈ l' ∧ Mem H [] H' [] ((sg, .lst (((sg3.take i).filter (demP ts a b)).map V.int)) :: l'), ?_, ?_, ?_, ?_⟩
  · exact ⟨_, _, rfl, ho, M3⟩
  · intro i σ' H' _ _
    exact T.sq H'
  · rintro i x σ' H' hx ⟨v5, l', rfl, ho', M'⟩
    rw [List.getElem?_map] at hx
    obtain ⟨s, hs, rfl⟩ := Option.map_eq_some_iff.mp hx
    have hnx := filt_next (P := demP ts a b) hs
    have hlen : (((sg3.take i).filter (demP ts a b)).map V.int).length ≤ 3 := filt_len (L := sg3) (P := demP ts a b) (i := i)
    have h0' := M'.atB0 h0
    walk_at "go"
    refine k_tupleOfT (SqT.of (M'.atB0 h2)) ?_
    walk_at "go"
    rename_i z1 H4 M4
    refine k_catA M4 (SqT.of (M4.atB0 h2)) List.mem_cons_self (by simp) (Nat.le_of_lt (sz (by rw [List.length_map]; simp; omega))) fun o5 H5 l5 ho5 M5 => ?_
    rw [row_snoc] at ho5
    walk_at "go"
    have hsd := side_le hd (a ++ [s]) (b ++ [0])
    refine use_cmpby (M5.atB0 h1) (p1.same (Same.of_keep M5)) (M5.getL ho5) (M5.getL (List.mem_append_right _ (List.mem_cons_of_mem _ (List.mem_cons_of_mem _ ho')))) (hfn.fit ha s) (hfn.fit hb 0) hd ?_
    have M6 := Mem.front (l1 := l5 ++ [(z1, .tup [.int s])]) (z := (sg, .lst (((sg3.take i).filter (demP ts a b)).map V.int))) (l2 := l') (by rw [List.append_assoc]; exact M5)
    have hom : (o, rowO (b ++ [0])) ∈ l5 ++ [(z1, .tup [.int s])] ++ l' := List.mem_append_right _ ho'
    by_cases hP : side ts (a ++ [s]) (b ++ [0]) ≤ 0
    · have e : demP ts a b s = true := decide_eq_true hP
      walk_at "go"
      rename_i H7 M7
      exact ⟨_, _, rfl, hom, (congrArg (fun z => Mem H [] H7 [] ((sg, HO.lst z) :: _)) (by rw [hnx, if_pos e])).mpr M7⟩
    · have e : ¬ demP ts a b s = true := by rw [decide_eq_true_eq]; exact hP
      walk_at "go"
      exact ⟨_, _, rfl, hom, (congrArg (fun z => Mem H [] H5 [] ((sg, HO.lst z) :: _)) (by rw [hnx, if_neg e, List.append_nil])).mpr M6⟩
  · rintro σ' H' ⟨v5, l', rfl, ho', M'⟩
    walk_at "go"
    rename_i d9 H9 M9
    exact k d9 H9 _ M9
end
end K35

set_option Elab.async false
set_option linter.all false
set_option maxRecDepth 100000
set_option maxHeartbeats 8000000
namespace K35
open PySem L2 MyL
local macro_rules | `(tactic| walk_at "mem") => `(tactic| first | exact List.mem_cons_self | (refine List.mem_cons_of_mem _ ?_; walk_at "mem"))
local macro_rules | `(tactic| walk_at "hp") => `(tactic| first | assumption | (refine' Mem.getL ?k1 ?k2; (case k1 => assumption); (case k2 => walk_at "mem")) | (refine' Mem.getF ?k1 ?k2; (case k1 => assumption); (case k2 => walk_at "mem")) | (refine' Mem.atB ?k1 ?k2; (case k1 => assumption); (case k2 => assumption)))
local macro_rules | `(tactic| walk_at "cond") => `(tactic| first | omega | assumption | exact mulR (by omega) (by omega) | exact mulL (by omega) (by omega) | exact divW (by omega) (by omega) | decide)
local macro_rules | `(tactic| walk_at "look") => `(tactic| first | assumption | with_unfolding_all rfl | exact atI_map (by omega) (by omega))
local macro_rules | `(tactic| walk_at "go1") => `(tactic| with_reducible first
  | refine k_seq ?_ | refine k_gName ?_ | refine k_asg ?_ | refine k_ret ?_ | refine k_ifS ?_ | refine k_drop ?_ | refine k_next ?_ | refine k_break ?_ | refine k_cont ?_ | refine k_retN ?_
  | (refine' k_var ?k1 ?_; (case k1 => with_unfolding_all rfl)) | refine k_c ?_ | refine k_op ?_ | refine k_un ?_ | refine k_test ?_ | refine k_B ?_ | refine k_bl ?_ | refine k_and ?_ | refine k_or ?_ | refine k_not ?_
  | refine k_andV ?_ | refine k_orV ?_ | refine k_notV ?_ | refine k_ifE ?_ | refine k_nil ?_ | refine k_cons ?_ | refine k_cb ?_ | refine k_callS ?_ | refine k_lst0 ?_ | refine k_tup0 ?_ | refine k_fld0 ?_ | refine k_sub0 ?_ | refine k_make0 ?_ | refine k_prop0 ?_ | refine k_sta0 ?_ | refine k_sta ?_ | refine k_bm ?_ | refine k_bm0 ?_ | refine k_chain ?_ | refine k_makeK0 ?_ | refine k_swapK ?_ | refine k_meth0 ?_ | refine k_ownN0 ?_ | refine k_ownO0 ?_ | refine k_sfld0 ?_ | refine k_jnil ?_ | refine k_jcons ?_ | refine k_fmt0 ?_ | refine k_sl0 ?_ | refine k_nopart ?_ | refine k_part ?_ | refine k_forR1 ?_ | refine k_forR2 ?_ | refine k_forL ?_ | refine k_forT ?_ | refine k_lcR1 ?_ | refine k_lcR2 ?_ | refine k_lcL ?_ | refine k_lcT ?_ | refine k_err0 ?_ | refine k_xf0 ?_ | refine k_errQ1 ?_ | refine k_errQ0 ?_ | refine k_errQ2 ?_ | refine k_errQ3 ?_
  | refine k_I0 ?_ | (refine k_I ?k1 ?_; (case k1 => walk_at "cond")) | refine k_U ?_ | refine k_eqI ?_ | refine k_neI ?_ | refine k_eqB ?_ | refine k_neB ?_ | refine k_eqS ?_ | refine k_neS ?_
  | refine k_int1 ?_ | refine k_abs1 ?_ | refine k_min2 ?_ | refine k_max2 ?_
  | (refine' k_lenM ?k1 ?_; (case k1 => walk_at "hp")) | (refine' k_lenL ?k1 ?_; (case k1 => walk_at "hp")) | (refine' k_lenT ?k1 ?_; (case k1 => walk_at "hp"))
  | (refine' k_lenS ?k1 ?_; (case k1 => assumption)) | (refine' k_ixS ?k1 ?k2 ?_; (case k1 => assumption); (case k2 => walk_at "look"))
  | (refine' k_ixL ?k1 ?k2 ?_; (case k1 => walk_at "hp"); (case k2 => walk_at "look")) | (refine' k_ixT ?k1 ?k2 ?_; (case k1 => walk_at "hp"); (case k2 => walk_at "look"))
  | (refine' k_ix4 ?k1 ?k2 ?k3 ?_; (case k1 => walk_at "hp"); (case k2 => omega); (case k3 => omega); intro n' hn')
  | (refine' k_ix3 ?k1 ?k2 ?k3 ?_; (case k1 => walk_at "hp"); (case k2 => omega); (case k3 => omega); intro n' hn')
  | (refine' k_ix2 ?k1 ?k2 ?k3 ?_; (case k1 => walk_at "hp"); (case k2 => omega); (case k3 => omega); intro n' hn')
  | (refine' k_fld ?k1 ?k2 ?k3 ?k4 ?_; (case k1 => walk_at "hp"); (case k2 => assumption); (case k3 => assumption); (case k4 => walk_at "fld"))
  | (refine' k_lst ?k1 ?k2 ?_; (case k1 => assumption); (case k2 => exact sz (by simp)); intro p' H' M')
  | (refine' k_tup ?k1 ?k2 ?_; (case k1 => assumption); (case k2 => exact sz (by simp)); intro p' H' M')
  | (refine' k_setF0 ?k1 ?k2 ?k3 ?_; (case k1 => assumption); (case k2 => simp); (case k3 => with_unfolding_all rfl); intro H' M'; try simp only [Int.reduceToNat, List.set_cons_succ, List.set_cons_zero] at M')
  | (refine' k_setL0 ?k1 ?k2 ?_; (case k1 => assumption); (case k2 => with_unfolding_all rfl); intro H' M'; try simp only [Int.reduceToNat, List.set_cons_succ, List.set_cons_zero] at M')
  | (refine' k_setL1 ?k1 ?k2 ?_; (case k1 => assumption); (case k2 => with_unfolding_all rfl); intro H' M'; try simp only [Int.reduceToNat, List.set_cons_succ, List.set_cons_zero] at M')
  | (refine' k_setL2 ?k1 ?k2 ?_; (case k1 => assumption); (case k2 => with_unfolding_all rfl); intro H' M'; try simp only [Int.reduceToNat, List.set_cons_succ, List.set_cons_zero] at M')
  | refine iteT ?_ | refine iteF ?_ | refine k_iteNE ?_ | refine k_iteNS ?_ | refine k_iteNT ?_ | refine k_iteNF ?_
  | (refine k_iteD ?_ ?_ <;> intro hc <;> first | (exfalso; omega) | skip)
  | (refine k_iteN ?_ ?_ <;> intro hc <;> first | (exfalso; omega) | skip)
  | (refine' k_ownN ?k1 ?_; (case k1 => walk_at "hp")) | (refine' k_ownO ?k1 ?k2 ?_; (case k1 => walk_at "hp"); (case k2 => walk_at "hp")) | (refine' k_ownEq ?k1 ?k2 ?_; (case k1 => walk_at "hp"); (case k2 => walk_at "hp"))
  | (refine' k_ownIn ?k1 ?_; (case k1 => walk_at "hp")) | (refine' k_ownU ?k1 ?_; (case k1 => walk_at "hp")) | (refine' k_ownStr ?k1 ?_; (case k1 => walk_at "hp"))
  | (refine' k_prop ?k1 ?_; (case k1 => walk_at "hp")) | (refine' k_ownNe ?k1 ?k2 ?_; (case k1 => walk_at "hp"); (case k2 => walk_at "hp")) | (refine' k_eqP ?k1 ?k2 ?_; (case k1 => walk_at "hp"); (case k2 => walk_at "hp")) | (refine' k_neP ?k1 ?k2 ?_; (case k1 => walk_at "hp"); (case k2 => walk_at "hp"))
  | (refine' k_isiO ?k1 ?k2 ?k3 ?k4 ?k5 ?k6 ?_; (case k1 => walk_at "hp"); (case k2 => assumption); (case k3 => assumption); (case k4 => assumption); (case k5 => assumption); (case k6 => assumption))
  | (refine' k_isiI ?k1 ?_; (case k1 => assumption))
  | (refine' k_jst ?k1 ?_; (case k1 => walk_at "size")) | (refine' k_fmtI ?k1 ?_; (case k1 => exact log2_64 (by omega) (by omega))) | (refine' k_strI ?k1 ?_; (case k1 => exact log2_64 (by omega) (by omega)))
  | (refine k_addS ?k1 ?_; (case k1 => walk_at "size")) | refine k_st ?_ | refine k_parti ?_
  | (refine' k_cat ?k1 ?k2 ?k3 ?k4 ?_; (case k1 => assumption); (case k2 => walk_at "hp"); (case k3 => walk_at "hp"); (case k4 => walk_at "size"); intro p' H' M')
  | (refine' k_slL ?k1 ?k2 ?_; (case k1 => assumption); (case k2 => first | assumption | exact SqL.of (by walk_at "hp")); intro p' H' M')
  | (refine k_rng1 ?k1 ?k2 ?_; (case k1 => omega); (case k2 => omega)) | (refine k_rng2 ?k1 ?k2 ?k3 ?k4 ?_; (case k1 => omega); (case k2 => omega); (case k3 => omega); (case k4 => omega))
  | (refine' k_lstAt ?k1 ?_; (case k1 => first | assumption | exact SqL.of (by walk_at "hp"))) | (refine' k_tupAt ?k1 ?_; (case k1 => first | assumption | exact SqT.of (by walk_at "hp")))
  | (refine' k_isXs ?k1 ?k2 ?_; (case k1 => assumption); (case k2 => walk_at "hp")) | (refine' k_isXo ?k1 ?k2 ?k3 ?_; (case k1 => assumption); (case k2 => walk_at "hp"); (case k3 => assumption)) | (refine' k_isXt ?k1 ?k2 ?k3 ?_; (case k1 => assumption); (case k2 => walk_at "hp"); (case k3 => assumption))
  | (refine' k_isX3 ?k1 ?k2 ?k3 ?k4 ?_; (case k1 => assumption); (case k2 => walk_at "hp"); (case k3 => walk_at "hp"); (case k4 => assumption)) | (refine' k_isX2 ?k1 ?k2 ?k3 ?k4 ?_; (case k1 => assumption); (case k2 => walk_at "hp"); (case k3 => walk_at "hp"); (case k4 => assumption))
  | (refine' k_tyL ?k1 ?_; (case k1 => walk_at "hp"))
  | (refine' k_appL0 ?k1 ?k2 ?_; (case k1 => assumption); (case k2 => walk_at "size"); intro H' M') | (refine' k_appL1 ?k1 ?k2 ?_; (case k1 => assumption); (case k2 => walk_at "size"); intro H' M') | (refine' k_appL2 ?k1 ?k2 ?_; (case k1 => assumption); (case k2 => walk_at "size"); intro H' M') | (refine' k_appL3 ?k1 ?k2 ?_; (case k1 => assumption); (case k2 => walk_at "size"); intro H' M')
  | (refine' k_revL0 ?k1 ?_; (case k1 => assumption); intro H' M') | (refine' k_revL1 ?k1 ?_; (case k1 => assumption); intro H' M')
  | (refine' k_isX0s ?k1 ?_; (case k1 => assumption)) | (refine' k_isX0o ?k1 ?k2 ?_; (case k1 => assumption); (case k2 => assumption)) | (refine' k_isX0t ?k1 ?k2 ?_; (case k1 => assumption); (case k2 => assumption)) | (refine' k_isX04 ?k1 ?k2 ?k3 ?_; (case k1 => assumption); (case k2 => walk_at "hp"); (case k3 => assumption))
  | (refine' k_isX4 ?k1 ?k2 ?k3 ?k4 ?_; (case k1 => assumption); (case k2 => walk_at "hp"); (case k3 => walk_at "hp"); (case k4 => assumption)) | (refine' k_ixT2 ?k1 ?k2 ?k3 ?_; (case k1 => walk_at "hp"); (case k2 => omega); (case k3 => omega); intro n' hn')
  | (refine k_iteNEq ?k1 ?_; (case k1 => (rw [Bool.eq_iff_iff]; first | (simp; done) | (simp; omega))))
  | (refine' k_xf ?k1 ?k2 ?_; (case k1 => walk_at "hp"); (case k2 => first | exact xd1 | exact xdH | exact xd2 (by decide +kernel)))
  | (refine' k_caught ?k1 ?_; (case k1 => assumption); intro a' ha')
  | refine k_asgT ?_ | refine k_gCons ?_ | refine k_gNil ?_ | refine k_par ?_ | refine k_two ?_ | refine k_isNn ?_ | refine k_isNi ?_ | refine k_notNn ?_ | refine k_notNi ?_ | refine k_isN ?_ | refine k_notN ?_
  | (refine' k_gTup ?k1 ?k2 ?_; (case k1 => walk_at "hp"); (case k2 => with_unfolding_all rfl))
  | (refine' k_isiT ?k1 ?k2 ?_; (case k1 => walk_at "hp"); (case k2 => assumption)) | (refine' k_isiL ?k1 ?k2 ?_; (case k1 => walk_at "hp"); (case k2 => assumption))
  | (refine' k_ixQ ?k1 ?k2 ?_; (case k1 => assumption); (case k2 => walk_at "look")) | (refine' k_lenQ ?k1 ?_; (case k1 => assumption))
  | (refine' k_xfB ?k1 ?k2 ?_; (case k1 => walk_at "hp"); (case k2 => first | exact xd1 | exact xdH | exact xd2 (by decide +kernel)))
  | (refine' k_all ?k1 ?_; (case k1 => walk_at "hp"))
  | (refine' k_tupleOf ?k1 ?k2 ?_; (case k1 => assumption); (case k2 => exact SqL.of (by walk_at "hp")); intro p' H' M')
  | (refine' k_listOf ?k1 ?k2 ?_; (case k1 => assumption); (case k2 => exact Or.inl (SqL.of (by walk_at "hp"))); intro p' H' M')
  | walk_at "use")
local macro_rules | `(tactic| walk_at "go") => `(tactic| repeat' (walk_at "go1"))

local macro_rules | `(tactic| walk_at "eq") => `(tactic| first | rfl | assumption | omega)
local macro_rules | `(tactic| walk_at "fld") => `(tactic| exact xdH)
local macro_rules | `(tactic| walk_at "size") => `(tactic| first | exact sz (by first | omega | (simp only [List.length_map, List.length_range, List.length_append, List.length_cons, List.length_nil, Int.reduceSub, Int.reduceToNat, Int.reduceNeg]; omega)) | (exact Nat.lt_of_le_of_lt (m := 50000) (by first | omega | (simp only [List.length_map, List.length_range, List.length_append, List.length_cons, List.length_nil]; omega)) (by decide)))
section
variable {P : Program} {w : World} {K : PySem.W.Frag} {mg : Str → Option Value} {base : Heap} {C CR fR aS : Addr}
local macro_rules | `(tactic| walk_at "use") => `(tactic| with_reducible first
  | refine use_isn ?_)
theorem use_dem {B H : Hp} {ms : List Addr} {f l : List (Addr × HO)} {Q : VK} {E : XK} {r dx t p q : Addr} {xs : List V} {ts : List Pr} {a b : List Int} {n : Nat} (M : Mem B ms H f l) (h0 : H r = some (.ins C dx (ruF t))) (h1 : H t = some (.tup xs)) (p1 : Prs H xs ts) (hd : ∀ t ∈ ts, t.2 = 1 ∨ t.2 = -1) (hf : FitN ts n) (h2 : H p = some (rowO a)) (h3 : H q = some (rowO b)) (ha : a.length = n) (hb : b.length = n) (hn : n ≤ 10) (k : ∀ d H' l2, Mem B ms H' f ((d, rowO (dem ts a b)) :: (l2 ++ l)) → Q (.ref d) H') : sp_dem C [.ref r, .ref p, .ref q] H Q E :=
  ⟨r, dx, t, p, q, xs, ts, a, b, n, rfl, h0, h1, p1, hd, hf, h2, h3, ha, hb, hn, fun d H' l2 M2 => k d H' l2 (M.comp0 M2)⟩
def sp_signs : Sp := fun vs H Q _ => ∃ (t p q : Addr) (xs : List V) (ts : List Pr) (a b : List Int) (n : Nat), vs = [.ref t, .ref p, .ref q] ∧ H t = some (.tup xs) ∧ Prs H xs ts ∧ FitN ts n ∧ H p = some (rowO a) ∧ H q = some (rowO b) ∧ a.length = n ∧ b.length = n ∧ n ≤ 10 ∧
  ∀ d H' l2, Mem H [] H' [] ((d, rowO (dem ts a b)) :: l2) → Q (.ref d) H'
theorem ok_signs {f : Addr} {fd : FuncData} (F : Fun K "_law_signs" "_law_signs" s__law_signs f fd) (T : Txt P K mg C CR fR aS) (c__law_side : Cal P w K mg base 1 "_law_side" sp_side) :
    FnOk P w K mg base (L2.CX P w) (1 + 1) f fd ["_law_terms_here", "_law_one", "_law_two"] sp_signs := by
  refine okT F sc__law_signs (fun vs H Q E h => ?_) (fun cdv A outer s H vs Q E hr tk h => ?_)
  · obtain ⟨t, p, q, xs, ts, a, b, n, rfl, _⟩ := h
    rfl
  obtain ⟨t, p, q, xs, ts, a, b, n, rfl, h1, p1, hfn, h2, h3, ha, hb, hn, k⟩ := h
  have f1 := T.i1; have f2 := T.i2; have f3 := T.i3; have f4 := T.i4; have f6 := T.cl; have f7 := T.nT
  refine ⟨_, (pss_cons (ps_set (i := 3) sc__law_signs.nd rfl (Or.inl rfl) (pe_lst pa_nil))
      (pss_cons (ps_for (passes_of rfl) rfl (pi_list (pe_lst (pa_cons pe_negC (pa_cons pe_int (pa_cons pe_int pa_nil))))) (pg_name (i := 4) sc__law_signs.nd rfl (Or.inl rfl)) (pss_one (ps_if (pt_cmpR op_le (c_call c__law_side tk hr (by decide) (pa_cons (pv 0) (pa_cons (pe_op op_catA (pv 1) (pe_tup (pa_cons (pv 4) pa_nil))) (pa_cons (pe_op op_catA (pv 2) (pe_tup (pa_cons pe_int pa_nil))) pa_nil)))) pe_int (nomark _)) (pss_one (ps_expr (pe_bm PySem.F.plainAttrs_list PySem.F.slot_list_append PySem.F.type_list_append mt_append (pv 3) (pa_cons (pv 4) pa_nil)))) pss_nil)))
      (pss_one (ps_ret (pe_callTy b_tupleOf (by rfl) T.b_tuple (by decide +kernel) (pa_cons (pv 3) pa_nil)))))), ?_⟩
  simp only [cxK, st__law_signs]
  have M : Mem H [] H [] [] := mem_start (by simp []) (by simp) (by simp)
  walk_at "go"
  rename_i sg H2 M2 ls H3 M3
  refine lst_loop (xs := sg3.map V.int) ⟨fun i σ' H' => ∃ (v4 : Option V) (l' : List (Addr × HO)), σ' = [some (.ref t), some (.ref p), some (.ref q), some (.ref sg), v4] ∧ (ls, HO.lst (sg3.map V.int)) ∈ l' ∧ Mem H [] H' [] ((sg, .lst (((sg3.take i).filter (demP ts a b)).map V.int)) :: l'), ?_, ?_, ?_, ?_⟩
  · exact ⟨_, _, rfl, List.mem_cons_self, M3.front1⟩
  · rintro i σ' H' _ ⟨v4, l', rfl, hls, M'⟩
    exact SqL.of (M'.getL (List.mem_cons_of_mem _ hls))
  · rintro i x σ' H' hx ⟨v4, l', rfl, hls, M'⟩
    rw [List.getElem?_map] at hx
    obtain ⟨s, hs, rfl⟩ := Option.map_eq_some_iff.mp hx
    have hnx := filt_next (P := demP ts a b) hs
    have hlen : (((sg3.take i).filter (demP ts a b)).map V.int).length ≤ 3 := filt_len (L := sg3) (P := demP ts a b) (i := i)
    walk_at "go"
    rename_i z1 H4 M4
    refine k_catA M4 (SqT.of (M4.atB0 h2)) List.mem_cons_self (by simp) (Nat.le_of_lt (sz (by rw [List.length_map]; simp; omega))) fun o5 H5 l5 ho5 M5 => ?_
    rw [row_snoc] at ho5
    walk_at "go"
    rename_i z6 H6 M6
    refine k_catA M6 (SqT.of (M6.atB0 h3)) List.mem_cons_self (by simp) (Nat.le_of_lt (sz (by rw [List.length_map]; simp; omega))) fun o7 H7 l7 ho7 M7 => ?_
    rw [row_snoc] at ho7
    walk_at "go"
    refine use_side (.inr (M7.atB0 h1)) (p1.same (Same.of_keep M7)) (M7.getL (List.mem_append_right _ (List.mem_cons_of_mem _ ho5))) (M7.getL ho7) (hfn.fit ha s) (hfn.fit hb 0) ?_
    have M8 := Mem.front (l1 := l7 ++ (z6, .tup [.int 0]) :: (l5 ++ [(z1, .tup [.int s])])) (z := (sg, .lst (((sg3.take i).filter (demP ts a b)).map V.int))) (l2 := l') (by rw [List.append_assoc, List.cons_append, List.append_assoc]; exact M7)
    have hom : (ls, HO.lst (sg3.map V.int)) ∈ l7 ++ (z6, .tup [.int 0]) :: (l5 ++ [(z1, .tup [.int s])]) ++ l' := List.mem_append_right _ hls
    by_cases hP : side ts (a ++ [s]) (b ++ [0]) ≤ 0
    · have e : demP ts a b s = true := decide_eq_true hP
      walk_at "go"
      rename_i H9 M9
      exact ⟨_, _, rfl, hom, (congrArg (fun z => Mem H [] H9 [] ((sg, HO.lst z) :: _)) (by rw [hnx, if_pos e])).mpr M9⟩
    · have e : ¬ demP ts a b s = true := by rw [decide_eq_true_eq]; exact hP
      walk_at "go"
      exact ⟨_, _, rfl, hom, (congrArg (fun z => Mem H [] H7 [] ((sg, HO.lst z) :: _)) (by rw [hnx, if_neg e, List.append_nil])).mpr M8⟩
  · rintro σ' H' ⟨v5, l', rfl, hls, M'⟩
    walk_at "go"
    rename_i d9 H9 M9
    exact k d9 H9 _ M9
theorem use_signs {B H : Hp} {ms : List Addr} {f l : List (Addr × HO)} {Q : VK} {E : XK} {t p q : Addr} {xs : List V} {ts : List Pr} {a b : List Int} {n : Nat} (M : Mem B ms H f l) (h1 : H t = some (.tup xs)) (p1 : Prs H xs ts) (hf : FitN ts n) (h2 : H p = some (rowO a)) (h3 : H q = some (rowO b)) (ha : a.length = n) (hb : b.length = n) (hn : n ≤ 10) (k : ∀ d H' l2, Mem B ms H' f ((d, rowO (dem ts a b)) :: (l2 ++ l)) → Q (.ref d) H') : sp_signs [.ref t, .ref p, .ref q] H Q E :=
  ⟨t, p, q, xs, ts, a, b, n, rfl, h1, p1, hf, h2, h3, ha, hb, hn, fun d H' l2 M2 => k d H' l2 (M.comp0 M2)⟩
theorem getD_of {S : List (List Int)} {i : Nat} {a : List Int} (h : S[i]? = some a) : S.getD i [] = a := by rw [List.getD_eq_getElem?_getD, h]; rfl
/-- a shelf of rows of one length, terms for it and the age -/
structure Shf (ts : List Pr) (S : List (List Int)) (n : Nat) : Prop where
  dir : ∀ t ∈ ts, t.2 = 1 ∨ t.2 = -1
  fit : FitN ts n
  row : ∀ r ∈ S, r.length = n
  n10 : n ≤ 10
  len : S.length ≤ 20
def sp_sdem (C : Addr) : Sp := fun vs H Q _ => ∃ (r dx t l : Addr) (xs ys : List V) (ts : List Pr) (S : List (List Int)) (n : Nat), vs = [.ref r, .ref l] ∧ H r = some (.ins C dx (ruF t)) ∧ H t = some (.tup xs) ∧ Prs H xs ts ∧ Sq H l ys ∧ Rws H ys S ∧ Shf ts S n ∧ ∀ d zs H' l2, Mem H [] H' [] ((d, .lst zs) :: l2) → TrL l2 zs (dmS ts S) → Q (.ref d) H'
theorem dm_len (ts : List Pr) (S : List (List Int)) (i n : Nat) : (demL ts S (PL S.length (List.range i) ++ PR1 i (List.range' (i + 1) n))).length ≤ i * S.length + n := by
  have h1 := demL_len ts S (PL S.length (List.range i) ++ PR1 i (List.range' (i + 1) n))
  have h2 := PL_len S.length i
  have h3 : (PR1 i (List.range' (i + 1) n)).length = n := by rw [PR1, List.length_map, List.length_range']
  rw [List.length_append] at h1
  omega
theorem ok_sdem {f : Addr} {fd : FuncData} (F : Fun K "shelf_demands" "shelf_demands" s_shelf_demands f fd) (T : Txt P K mg C CR fR aS) (c_demand : Cal P w K mg base 2 "demand" (sp_dem C)) :
    FnOk P w K mg base (L2.CX P w) (2 + 1) f fd ["rule", "shelf"] (sp_sdem C) := by
  refine okT F sc_shelf_demands (fun vs H Q E h => ?_) (fun cdv A outer s H vs Q E hr tk h => ?_)
  · obtain ⟨r, dx, t, l, xs, ys, ts, S, n, rfl, _⟩ := h
    rfl
  obtain ⟨r, dx, t, l, xs, ys, ts, S, n, rfl, h0, h1, p1, hq, p2, hsf, k⟩ := h
  have f1 := T.i1; have f2 := T.i2; have f3 := T.i3; have f4 := T.i4; have f6 := T.cl; have f7 := T.nT
  refine ⟨_, (pss_cons (ps_set (i := 2) sc_shelf_demands.nd rfl (Or.inl rfl) (pe_lst pa_nil))
      (pss_cons (ps_for (passes_of rfl) rfl (pi_range1 (by rfl) T.b_range (pa_cons (pe_callB b_len (by rfl) T.b_len (by decide +kernel) (pa_cons (pv 1) pa_nil)) pa_nil)) (pg_name (i := 3) sc_shelf_demands.nd rfl (Or.inl rfl)) (pss_one (ps_for (passes_of rfl) rfl (pi_range2 (by rfl) T.b_range (pa_cons (pe_op op_add (pv 3) pe_int) (pa_cons (pe_callB b_len (by rfl) T.b_len (by decide +kernel) (pa_cons (pv 1) pa_nil)) pa_nil))) (pg_name (i := 4) sc_shelf_demands.nd rfl (Or.inl rfl)) (pss_cons (ps_set (i := 5) sc_shelf_demands.nd rfl (Or.inl rfl) (c_call c_demand tk hr (by decide) (pa_cons (pv 0) (pa_cons (pe_ix ix_seq (pv 1) (pv 3) (fun _ _ => rfl)) (pa_cons (pe_ix ix_seq (pv 1) (pv 4) (fun _ _ => rfl)) pa_nil)))))
      (pss_one (ps_if (pt_cmpR (op_neD hr.units) (pv 5) (g_val T.v_ALL_SIGNS) (nomark _)) (pss_one (ps_expr (pe_bm PySem.F.plainAttrs_list PySem.F.slot_list_append PySem.F.type_list_append mt_append (pv 2) (pa_cons (pe_tup (pa_cons (pv 3) (pa_cons (pv 4) (pa_cons (pv 5) pa_nil)))) pa_nil)))) pss_nil))))))
      (pss_one (ps_ret (pv 2))))), ?_⟩
  simp only [cxK, st_shelf_demands]
  have M : Mem H [] H [] [] := mem_start (by simp []) (by simp) (by simp)
  have hyl := p2.1
  have hS := hsf.len
  walk_at "go"
  rename_i p0 H0 M0
  have hq0 := hq.same (Same.of_keep M0)
  walk_at "go"
  refine rng_loop ⟨fun i σ' H' => ∃ (zs : List V) (l' : List (Addr × HO)) (v3 v4 v5 : Option V), σ' = [some (.ref r), some (.ref l), some (.ref p0), v3, v4, v5] ∧ Mem H [] H' [] ((p0, .lst zs) :: l') ∧ TrL l' zs (demL ts S (PL S.length (List.range i))), ?_, ?_, ?_⟩
  · exact ⟨[], [], _, _, _, rfl, M0, PX.nil⟩
  · rintro i σ' H' hi ⟨zs, l', v3, v4, v5, rfl, M', pz⟩
    have hil : i < ys.length := by simpa using hi
    obtain ⟨a, pa, ha, ea, hpa⟩ := p2.get (List.getElem?_eq_getElem hil)
    have hata : atI ys (0 + (i : Int)) = some (.ref pa) := by rw [← ea]; exact atI_nat0 (List.getElem?_eq_getElem hil)
    have hla := hsf.row a (List.mem_of_getElem? ha)
    have hmul : i * S.length ≤ 20 * 20 := Nat.mul_le_mul (by omega) (by omega)
    have hq' := hq.same (Same.of_keep M')
    walk_at "go"
    refine rng_loop ⟨fun n σ' H' => ∃ (zs : List V) (l' : List (Addr × HO)) (v4 v5 : Option V), σ' = [some (.ref r), some (.ref l), some (.ref p0), some (.int (0 + (i : Int))), v4, v5] ∧ Mem H [] H' [] ((p0, .lst zs) :: l') ∧ TrL l' zs (demL ts S (PL S.length (List.range i) ++ PR1 i (List.range' (i + 1) n))), ?_, ?_, ?_⟩
    · exact ⟨zs, l', _, _, rfl, M', by rw [show PR1 i (List.range' (i + 1) 0) = [] from rfl, List.append_nil]; exact pz⟩
    · rintro m σ' H' hm ⟨zs, l', v4, v5, rfl, M', pz⟩
      have hjl : i + 1 + m < ys.length := by omega
      obtain ⟨b, pb, hb, eb, hpb⟩ := p2.get (List.getElem?_eq_getElem hjl)
      have hatb : atI ys (0 + (i : Int) + 1 + (m : Int)) = some (.ref pb) := by
        rw [← eb, show 0 + (i : Int) + 1 + (m : Int) = ((i + 1 + m : Nat) : Int) by omega]
        exact MyL.atI_nat (List.getElem?_eq_getElem hjl)
      have hlb := hsf.row b (List.mem_of_getElem? hb)
      have hdl := dm_len ts S i m
      have hzl := pz.1
      have hnext : demL ts S (PL S.length (List.range i) ++ PR1 i (List.range' (i + 1) (m + 1))) = demL ts S (PL S.length (List.range i) ++ PR1 i (List.range' (i + 1) m)) ++ if (!decide (dem ts a b = sg3)) = true then [((i : Int), ((i + 1 + m : Nat) : Int), dem ts a b)] else [] := by
        have hdm : dm ts S (i, i + 1 + m) = dem ts a b := by
          show dem ts (S.getD i []) (S.getD (i + 1 + m) []) = _
          rw [getD_of ha, getD_of hb]
        rw [PR1_next, ← List.append_assoc, demL_app, demL_one, hdm]
      have etr : ∀ d : Addr, HO.tup [.int (0 + (i : Int)), .int (0 + (i : Int) + 1 + (m : Int)), .ref d] = trO ((i : Int), ((i + 1 + m : Nat) : Int), dem ts a b) d := fun d => by
        rw [trO, show 0 + (i : Int) + 1 + (m : Int) = ((i + 1 + m : Nat) : Int) by omega, Int.zero_add]
      have hq' := hq.same (Same.of_keep M')
      walk_at "go"
      refine use_dem M' (M'.atB0 h0) (M'.atB0 h1) (p1.same (Same.of_keep M')) hsf.dir hsf.fit (M'.atB0 hpa) (M'.atB0 hpb) hla hlb hsf.n10 fun d H5 l5 M5 => ?_
      walk_at "go"
      refine k_neRow (SqT.of (M5.getL List.mem_cons_self)) (T.sq _) ?_
      have M6 := Mem.front (l1 := (d, rowO (dem ts a b)) :: l5) (z := (p0, .lst zs)) (l2 := l') M5
      by_cases hE : dem ts a b = sg3
      · rw [decide_eq_true hE]
        walk_at "go"
        refine ⟨_, _, _, _, rfl, M6, ?_⟩
        rw [hnext, decide_eq_true hE, if_neg (by decide), List.append_nil]
        exact pz.more fun z hz => by simp [hz]
      · rw [decide_eq_false hE]
        walk_at "go"
        rename_i tr H7 M7 H8 M8
        refine ⟨_, _, _, _, rfl, M8.front1, ?_⟩
        rw [hnext, decide_eq_false hE, if_pos (by decide)]
        refine (pz.more fun z hz => by simp [hz]).append (PX.one ⟨d, ?_, ?_⟩)
        · rw [etr]; exact List.mem_cons_self
        · simp
    · rintro σ' H' ⟨zs, l', v4, v5, rfl, M', pz⟩
      walk_at "go"
      refine ⟨zs, l', _, _, _, rfl, M', ?_⟩
      rw [PL_next]
      rw [show ((ys.length : Int) - (0 + (i : Int) + 1)).toNat = S.length - (i + 1) by omega] at pz
      exact pz
  · rintro σ' H' ⟨zs, l', v3, v4, v5, rfl, M', pz⟩
    walk_at "go"
    refine k p0 zs H' l' M' ?_
    rw [show ((ys.length : Int)).toNat = S.length by omega] at pz
    exact pz
end
end K35

set_option Elab.async false
set_option linter.all false
set_option maxRecDepth 100000
set_option maxHeartbeats 8000000
namespace K35
open PySem L2 MyL
local macro_rules | `(tactic| walk_at "mem") => `(tactic| first | exact List.mem_cons_self | (refine List.mem_cons_of_mem _ ?_; walk_at "mem"))
local macro_rules | `(tactic| walk_at "hp") => `(tactic| first | assumption | (refine' Mem.getL ?k1 ?k2; (case k1 => assumption); (case k2 => walk_at "mem")) | (refine' Mem.getF ?k1 ?k2; (case k1 => assumption); (case k2 => walk_at "mem")) | (refine' Mem.atB ?k1 ?k2; (case k1 => assumption); (case k2 => assumption)))
local macro_rules | `(tactic| walk_at "cond") => `(tactic| first | omega | assumption | exact mulR (by omega) (by omega) | exact mulL (by omega) (by omega) | exact divW (by omega) (by omega) | decide)
local macro_rules | `(tactic| walk_at "look") => `(tactic| first | assumption | with_unfolding_all rfl | exact atI_map (by omega) (by omega))
local macro_rules | `(tactic| walk_at "go1") => `(tactic| with_reducible first
  | refine k_seq ?_ | refine k_gName ?_ | refine k_asg ?_ | refine k_ret ?_ | refine k_ifS ?_ | refine k_drop ?_ | refine k_next ?_ | refine k_break ?_ | refine k_cont ?_ | refine k_retN ?_
  | (refine' k_var ?k1 ?_; (case k1 => with_unfolding_all rfl)) | refine k_c ?_ | refine k_op ?_ | refine k_un ?_ | refine k_test ?_ | refine k_B ?_ | refine k_bl ?_ | refine k_and ?_ | refine k_or ?_ | refine k_not ?_
  | refine k_andV ?_ | refine k_orV ?_ | refine k_notV ?_ | refine k_ifE ?_ | refine k_nil ?_ | refine k_cons ?_ | refine k_cb ?_ | refine k_callS ?_ | refine k_lst0 ?_ | refine k_tup0 ?_ | refine k_fld0 ?_ | refine k_sub0 ?_ | refine k_make0 ?_ | refine k_prop0 ?_ | refine k_sta0 ?_ | refine k_sta ?_ | refine k_bm ?_ | refine k_bm0 ?_ | refine k_chain ?_ | refine k_makeK0 ?_ | refine k_swapK ?_ | refine k_meth0 ?_ | refine k_ownN0 ?_ | refine k_ownO0 ?_ | refine k_sfld0 ?_ | refine k_jnil ?_ | refine k_jcons ?_ | refine k_fmt0 ?_ | refine k_sl0 ?_ | refine k_nopart ?_ | refine k_part ?_ | refine k_forR1 ?_ | refine k_forR2 ?_ | refine k_forL ?_ | refine k_forT ?_ | refine k_lcR1 ?_ | refine k_lcR2 ?_ | refine k_lcL ?_ | refine k_lcT ?_ | refine k_err0 ?_ | refine k_xf0 ?_ | refine k_errQ1 ?_ | refine k_errQ0 ?_ | refine k_errQ2 ?_ | refine k_errQ3 ?_
  | refine k_I0 ?_ | (refine k_I ?k1 ?_; (case k1 => walk_at "cond")) | refine k_U ?_ | refine k_eqI ?_ | refine k_neI ?_ | refine k_eqB ?_ | refine k_neB ?_ | refine k_eqS ?_ | refine k_neS ?_
  | refine k_int1 ?_ | refine k_abs1 ?_ | refine k_min2 ?_ | refine k_max2 ?_
  | (refine' k_lenM ?k1 ?_; (case k1 => walk_at "hp")) | (refine' k_lenL ?k1 ?_; (case k1 => walk_at "hp")) | (refine' k_lenT ?k1 ?_; (case k1 => walk_at "hp"))
  | (refine' k_lenS ?k1 ?_; (case k1 => assumption)) | (refine' k_ixS ?k1 ?k2 ?_; (case k1 => assumption); (case k2 => walk_at "look"))
  | (refine' k_ixL ?k1 ?k2 ?_; (case k1 => walk_at "hp"); (case k2 => walk_at "look")) | (refine' k_ixT ?k1 ?k2 ?_; (case k1 => walk_at "hp"); (case k2 => walk_at "look"))
  | (refine' k_ix4 ?k1 ?k2 ?k3 ?_; (case k1 => walk_at "hp"); (case k2 => omega); (case k3 => omega); intro n' hn')
  | (refine' k_ix3 ?k1 ?k2 ?k3 ?_; (case k1 => walk_at "hp"); (case k2 => omega); (case k3 => omega); intro n' hn')
  | (refine' k_ix2 ?k1 ?k2 ?k3 ?_; (case k1 => walk_at "hp"); (case k2 => omega); (case k3 => omega); intro n' hn')
  | (refine' k_fld ?k1 ?k2 ?k3 ?k4 ?_; (case k1 => walk_at "hp"); (case k2 => assumption); (case k3 => assumption); (case k4 => walk_at "fld"))
  | (refine' k_lst ?k1 ?k2 ?_; (case k1 => assumption); (case k2 => exact sz (by simp)); intro p' H' M')
  | (refine' k_tup ?k1 ?k2 ?_; (case k1 => assumption); (case k2 => exact sz (by simp)); intro p' H' M')
  | (refine' k_setF0 ?k1 ?k2 ?k3 ?_; (case k1 => assumption); (case k2 => simp); (case k3 => with_unfolding_all rfl); intro H' M'; try simp only [Int.reduceToNat, List.set_cons_succ, List.set_cons_zero] at M')
  | (refine' k_setL0 ?k1 ?k2 ?_; (case k1 => assumption); (case k2 => with_unfolding_all rfl); intro H' M'; try simp only [Int.reduceToNat, List.set_cons_succ, List.set_cons_zero] at M')
  | (refine' k_setL1 ?k1 ?k2 ?_; (case k1 => assumption); (case k2 => with_unfolding_all rfl); intro H' M'; try simp only [Int.reduceToNat, List.set_cons_succ, List.set_cons_zero] at M')
  | (refine' k_setL2 ?k1 ?k2 ?_; (case k1 => assumption); (case k2 => with_unfolding_all rfl); intro H' M'; try simp only [Int.reduceToNat, List.set_cons_succ, List.set_cons_zero] at M')
  | refine iteT ?_ | refine iteF ?_ | refine k_iteNE ?_ | refine k_iteNS ?_ | refine k_iteNT ?_ | refine k_iteNF ?_
  | (refine k_iteD ?_ ?_ <;> intro hc <;> first | (exfalso; omega) | skip)
  | (refine k_iteN ?_ ?_ <;> intro hc <;> first | (exfalso; omega) | skip)
  | (refine' k_ownN ?k1 ?_; (case k1 => walk_at "hp")) | (refine' k_ownO ?k1 ?k2 ?_; (case k1 => walk_at "hp"); (case k2 => walk_at "hp")) | (refine' k_ownEq ?k1 ?k2 ?_; (case k1 => walk_at "hp"); (case k2 => walk_at "hp"))
  | (refine' k_ownIn ?k1 ?_; (case k1 => walk_at "hp")) | (refine' k_ownU ?k1 ?_; (case k1 => walk_at "hp")) | (refine' k_ownStr ?k1 ?_; (case k1 => walk_at "hp"))
  | (refine' k_prop ?k1 ?_; (case k1 => walk_at "hp")) | (refine' k_ownNe ?k1 ?k2 ?_; (case k1 => walk_at "hp"); (case k2 => walk_at "hp")) | (refine' k_eqP ?k1 ?k2 ?_; (case k1 => walk_at "hp"); (case k2 => walk_at "hp")) | (refine' k_neP ?k1 ?k2 ?_; (case k1 => walk_at "hp"); (case k2 => walk_at "hp"))
  | (refine' k_isiO ?k1 ?k2 ?k3 ?k4 ?k5 ?k6 ?_; (case k1 => walk_at "hp"); (case k2 => assumption); (case k3 => assumption); (case k4 => assumption); (case k5 => assumption); (case k6 => assumption))
  | (refine' k_isiI ?k1 ?_; (case k1 => assumption))
  | (refine' k_jst ?k1 ?_; (case k1 => walk_at "size")) | (refine' k_fmtI ?k1 ?_; (case k1 => exact log2_64 (by omega) (by omega))) | (refine' k_strI ?k1 ?_; (case k1 => exact log2_64 (by omega) (by omega)))
  | (refine k_addS ?k1 ?_; (case k1 => walk_at "size")) | refine k_st ?_ | refine k_parti ?_
  | (refine' k_cat ?k1 ?k2 ?k3 ?k4 ?_; (case k1 => assumption); (case k2 => walk_at "hp"); (case k3 => walk_at "hp"); (case k4 => walk_at "size"); intro p' H' M')
  | (refine' k_slL ?k1 ?k2 ?_; (case k1 => assumption); (case k2 => first | assumption | exact SqL.of (by walk_at "hp")); intro p' H' M')
  | (refine k_rng1 ?k1 ?k2 ?_; (case k1 => omega); (case k2 => omega)) | (refine k_rng2 ?k1 ?k2 ?k3 ?k4 ?_; (case k1 => omega); (case k2 => omega); (case k3 => omega); (case k4 => omega))
  | (refine' k_lstAt ?k1 ?_; (case k1 => first | assumption | exact SqL.of (by walk_at "hp"))) | (refine' k_tupAt ?k1 ?_; (case k1 => first | assumption | exact SqT.of (by walk_at "hp")))
  | (refine' k_isXs ?k1 ?k2 ?_; (case k1 => assumption); (case k2 => walk_at "hp")) | (refine' k_isXo ?k1 ?k2 ?k3 ?_; (case k1 => assumption); (case k2 => walk_at "hp"); (case k3 => assumption)) | (refine' k_isXt ?k1 ?k2 ?k3 ?_; (case k1 => assumption); (case k2 => walk_at "hp"); (case k3 => assumption))
  | (refine' k_isX3 ?k1 ?k2 ?k3 ?k4 ?_; (case k1 => assumption); (case k2 => walk_at "hp"); (case k3 => walk_at "hp"); (case k4 => assumption)) | (refine' k_isX2 ?k1 ?k2 ?k3 ?k4 ?_; (case k1 => assumption); (case k2 => walk_at "hp"); (case k3 => walk_at "hp"); (case k4 => assumption))
  | (refine' k_tyL ?k1 ?_; (case k1 => walk_at "hp"))
  | (refine' k_appL0 ?k1 ?k2 ?_; (case k1 => assumption); (case k2 => walk_at "size"); intro H' M') | (refine' k_appL1 ?k1 ?k2 ?_; (case k1 => assumption); (case k2 => walk_at "size"); intro H' M') | (refine' k_appL2 ?k1 ?k2 ?_; (case k1 => assumption); (case k2 => walk_at "size"); intro H' M') | (refine' k_appL3 ?k1 ?k2 ?_; (case k1 => assumption); (case k2 => walk_at "size"); intro H' M')
  | (refine' k_revL0 ?k1 ?_; (case k1 => assumption); intro H' M') | (refine' k_revL1 ?k1 ?_; (case k1 => assumption); intro H' M')
  | (refine' k_isX0s ?k1 ?_; (case k1 => assumption)) | (refine' k_isX0o ?k1 ?k2 ?_; (case k1 => assumption); (case k2 => assumption)) | (refine' k_isX0t ?k1 ?k2 ?_; (case k1 => assumption); (case k2 => assumption)) | (refine' k_isX04 ?k1 ?k2 ?k3 ?_; (case k1 => assumption); (case k2 => walk_at "hp"); (case k3 => assumption))
  | (refine' k_isX4 ?k1 ?k2 ?k3 ?k4 ?_; (case k1 => assumption); (case k2 => walk_at "hp"); (case k3 => walk_at "hp"); (case k4 => assumption)) | (refine' k_ixT2 ?k1 ?k2 ?k3 ?_; (case k1 => walk_at "hp"); (case k2 => omega); (case k3 => omega); intro n' hn')
  | (refine k_iteNEq ?k1 ?_; (case k1 => (rw [Bool.eq_iff_iff]; first | (simp; done) | (simp; omega))))
  | (refine' k_xf ?k1 ?k2 ?_; (case k1 => walk_at "hp"); (case k2 => first | exact xd1 | exact xdH | exact xd2 (by decide +kernel)))
  | (refine' k_caught ?k1 ?_; (case k1 => assumption); intro a' ha')
  | refine k_asgT ?_ | refine k_gCons ?_ | refine k_gNil ?_ | refine k_par ?_ | refine k_two ?_ | refine k_isNn ?_ | refine k_isNi ?_ | refine k_notNn ?_ | refine k_notNi ?_ | refine k_isN ?_ | refine k_notN ?_
  | (refine' k_gTup ?k1 ?k2 ?_; (case k1 => walk_at "hp"); (case k2 => with_unfolding_all rfl))
  | (refine' k_isiT ?k1 ?k2 ?_; (case k1 => walk_at "hp"); (case k2 => assumption)) | (refine' k_isiL ?k1 ?k2 ?_; (case k1 => walk_at "hp"); (case k2 => assumption))
  | (refine' k_ixQ ?k1 ?k2 ?_; (case k1 => assumption); (case k2 => walk_at "look")) | (refine' k_lenQ ?k1 ?_; (case k1 => assumption))
  | (refine' k_xfB ?k1 ?k2 ?_; (case k1 => walk_at "hp"); (case k2 => first | exact xd1 | exact xdH | exact xd2 (by decide +kernel)))
  | (refine' k_all ?k1 ?_; (case k1 => walk_at "hp"))
  | (refine' k_tupleOf ?k1 ?k2 ?_; (case k1 => assumption); (case k2 => exact SqL.of (by walk_at "hp")); intro p' H' M')
  | (refine' k_listOf ?k1 ?k2 ?_; (case k1 => assumption); (case k2 => exact Or.inl (SqL.of (by walk_at "hp"))); intro p' H' M')
  | walk_at "use")
local macro_rules | `(tactic| walk_at "go") => `(tactic| repeat' (walk_at "go1"))

local macro_rules | `(tactic| walk_at "eq") => `(tactic| first | rfl | assumption | omega)
local macro_rules | `(tactic| walk_at "fld") => `(tactic| exact xdH)
local macro_rules | `(tactic| walk_at "size") => `(tactic| first | exact sz (by first | omega | (simp only [List.length_map, List.length_range, List.length_append, List.length_cons, List.length_nil, Int.reduceSub, Int.reduceToNat, Int.reduceNeg]; omega)) | (exact Nat.lt_of_le_of_lt (m := 50000) (by first | omega | (simp only [List.length_map, List.length_range, List.length_append, List.length_cons, List.length_nil]; omega)) (by decide)))
section
variable {P : Program} {w : World} {K : PySem.W.Frag} {mg : Str → Option Value} {base : Heap} {C CR fR aS : Addr}
local macro_rules | `(tactic| walk_at "use") => `(tactic| with_reducible first
  | refine use_isn ?_)
def sp_istr : Sp := fun vs H Q _ => ∃ (p q : Addr) (t : Tr3), vs = [.ref p] ∧ H p = some (trO t q) ∧ H q = some (rowO t.2.2) ∧ Q (.bl true) H
theorem ok_istr {f : Addr} {fd : FuncData} (F : Fun K "_law_is_triple" "_law_is_triple" s__law_is_triple f fd) (T : Txt P K mg C CR fR aS) (c__law_integer : Cal P w K mg base 1 "_law_integer" sp_isn) :
    FnOk P w K mg base (L2.CX P w) (1 + 1) f fd ["_law_told"] sp_istr := by
  refine okT F sc__law_is_triple (fun vs H Q E h => ?_) (fun cdv A outer s H vs Q E hr tk h => ?_)
  · obtain ⟨p, q, t, rfl, _⟩ := h
    rfl
  obtain ⟨p, q, t, rfl, h1, h2, k⟩ := h
  have f1 := T.i1; have f2 := T.i2; have f3 := T.i3; have f4 := T.i4; have f6 := T.cl; have f7 := T.nT
  refine ⟨_, (pss_cons (ps_if (PW.pt (pw_or (pt_not (pt_val (pe_callB call_isi (by rfl) T.b_isinstance (by decide +kernel) (pa_cons (pv 0) (pa_cons (g_ty (n := "tuple") T.b_tuple (by decide +kernel)) pa_nil))))) (pw_or (pt_cmpR op_ne (pe_callB b_len (by rfl) T.b_len (by decide +kernel) (pa_cons (pv 0) pa_nil)) pe_int (nomark _)) (pw_or1 (pt_not (pt_val (pe_callB call_isi (by rfl) T.b_isinstance (by decide +kernel) (pa_cons (pe_ix ix_tup (pv 0) pe_int (fun _ _ => rfl)) (pa_cons (g_ty (n := "tuple") T.b_tuple (by decide +kernel)) pa_nil))))))))) (pss_one (ps_ret pe_bl)) pss_nil)
      (pss_one (ps_ret (pe_and (c_call c__law_integer tk hr (by decide) (pa_cons (pe_ix ix_tup (pv 0) pe_int (fun _ _ => rfl)) pa_nil)) (pe_one (c_call c__law_integer tk hr (by decide) (pa_cons (pe_ix ix_tup (pv 0) pe_int (fun _ _ => rfl)) pa_nil))))))), ?_⟩
  simp only [cxK, st__law_is_triple]
  walk_at "go"
  all_goals first
    | (rename_i hc; exact absurd rfl hc)
    | exact k
def sp_sgr : Sp := fun vs H Q _ => ∃ (p q : Addr) (r : List Int), vs = [.ref p, .ref q] ∧ H p = some (rowO r) ∧ H q = some (rowO r) ∧ r ∈ six ∧ ∀ H', Same H H' → Q (.bl true) H'
theorem ok_sgr {f : Addr} {fd : FuncData} (F : Fun K "_law_signs_right" "_law_signs_right" s__law_signs_right f fd) (T : Txt P K mg C CR fR aS) (c__law_integer : Cal P w K mg base 1 "_law_integer" sp_isn) :
    FnOk P w K mg base (L2.CX P w) (1 + 1) f fd ["_law_told", "_law_due"] sp_sgr := by
  refine okT F sc__law_signs_right (fun vs H Q E h => ?_) (fun cdv A outer s H vs Q E hr tk h => ?_)
  · obtain ⟨p, q, r, rfl, _⟩ := h
    rfl
  obtain ⟨p, q, r, rfl, h1, h2, h6, k⟩ := h
  have f1 := T.i1; have f2 := T.i2; have f3 := T.i3; have f4 := T.i4; have f6 := T.cl; have f7 := T.nT
  refine ⟨_, (pss_cons (ps_if (PW.pt (pw_or (pt_not (pt_val (pe_callB call_isi (by rfl) T.b_isinstance (by decide +kernel) (pa_cons (pv 0) (pa_cons (g_ty (n := "tuple") T.b_tuple (by decide +kernel)) pa_nil))))) (pw_or1 (pt_cmpR (op_neD hr.units) (pv 0) (pv 1) (nomark _))))) (pss_one (ps_ret pe_bl)) pss_nil)
      (pss_cons (ps_for (passes_of rfl) rfl (pi_tup (pv 0)) (pg_name (i := 2) sc__law_signs_right.nd rfl (Or.inl rfl)) (pss_one (ps_if (pt_not (pt_val (c_call c__law_integer tk hr (by decide) (pa_cons (pv 2) pa_nil)))) (pss_one (ps_ret pe_bl)) pss_nil)))
      (pss_one (ps_ret (pe_cmpR (op_inD (units65 hr)) (pv 0) (pe_lst (pa_cons (pe_tup pa_nil) (pa_cons (pe_tup (pa_cons pe_negC pa_nil)) (pa_cons (pe_tup (pa_cons pe_negC (pa_cons pe_int pa_nil))) (pa_cons (pe_tup (pa_cons pe_int (pa_cons pe_int pa_nil))) (pa_cons (pe_tup (pa_cons pe_int pa_nil)) (pa_cons (pe_tup (pa_cons pe_negC (pa_cons pe_int (pa_cons pe_int pa_nil)))) pa_nil))))))) rfl))))), ?_⟩
  simp only [cxK, st__law_signs_right]
  have M : Mem H [] H [] [] := mem_start (by simp []) (by simp) (by simp)
  walk_at "go"
  refine k_neRow (SqT.of h1) (SqT.of h2) ?_
  rw [decide_eq_true rfl]
  walk_at "go"
  refine tup_loop (xs := r.map V.int) ⟨fun i σ' H' => ∃ (v2 : Option V), σ' = [some (.ref p), some (.ref q), v2] ∧ H' = H, ?_, ?_, ?_, ?_⟩
  · exact ⟨_, rfl, rfl⟩
  · rintro i σ' H' _ ⟨v2, rfl, rfl⟩
    exact SqT.of h1
  · rintro i x σ' H' hx ⟨v2, rfl, rfl⟩
    rw [List.getElem?_map] at hx
    obtain ⟨s, hs, rfl⟩ := Option.map_eq_some_iff.mp hx
    walk_at "go"
    exact ⟨_, rfl, rfl⟩
  · rintro σ' H' ⟨v2, rfl, rfl⟩
    walk_at "go"
    rename_i a1 _ N1 a2 _ N2 a3 _ N3 a4 _ N4 a5 _ N5 a6 _ N6 b7 H7 M7
    refine k_inRows (r := r) (rows := six) (SqT.of (M7.atB0 h1)) (M7.getL List.mem_cons_self) (PX.cons (M7.getL (by simp)) (PX.cons (M7.getL (by simp)) (PX.cons (M7.getL (by simp)) (PX.cons (M7.getL (by simp)) (PX.cons (M7.getL (by simp)) (PX.cons (M7.getL (by simp)) PX.nil)))))) ?_
    rw [decide_eq_true h6]
    exact k _ (Same.of_keep M7)
theorem use_sgr {B H : Hp} {ms : List Addr} {f l : List (Addr × HO)} {Q : VK} {E : XK} {p q : Addr} {r : List Int} (M : Mem B ms H f l) (h1 : H p = some (rowO r)) (h2 : H q = some (rowO r)) (h6 : r ∈ six) (k : ∀ H', Mem B ms H' f l → Q (.bl true) H') : sp_sgr [.ref p, .ref q] H Q E := ⟨p, q, r, rfl, h1, h2, h6, fun H' s => k H' (M.same s)⟩
theorem demL_six {ts : List Pr} {S : List (List Int)} {n : Nat} (h : Shf ts S n) {t : Tr3} (ht : t ∈ dmS ts S) : t.2.2 ∈ six := by
  unfold dmS demL at ht
  obtain ⟨p, hp, rfl⟩ := List.mem_map.mp ht
  obtain ⟨h1, h2⟩ := mem_PL (List.mem_filter.mp hp).1
  have a1 : S.getD p.1 [] ∈ S := by rw [List.getD_eq_getElem?_getD, List.getElem?_eq_getElem h1]; exact List.getElem_mem h1
  have a2 : S.getD p.2 [] ∈ S := by rw [List.getD_eq_getElem?_getD, List.getElem?_eq_getElem h2]; exact List.getElem_mem h2
  exact dem_six h.dir (by rw [h.row _ a1, h.row _ a2])
def sp_trr : Sp := fun vs H Q _ => ∃ (w t l : Addr) (ws xs ys : List V) (ts : List Pr) (S : List (List Int)) (n : Nat), vs = [.ref w, .ref t, .ref l] ∧ H w = some (.lst ws) ∧ Trs H ws (dmS ts S) ∧ H t = some (.tup xs) ∧ Prs H xs ts ∧ H l = some (.lst ys) ∧ Rws H ys S ∧ Shf ts S n ∧ ∀ H', Same H H' → Q (.bl true) H'
theorem ok_trr {f : Addr} {fd : FuncData} (F : Fun K "_law_triples_right" "_law_triples_right" s__law_triples_right f fd) (T : Txt P K mg C CR fR aS) (c__law_signs : Cal P w K mg base 2 "_law_signs" sp_signs) (c__law_is_triple : Cal P w K mg base 2 "_law_is_triple" sp_istr) (c__law_signs_right : Cal P w K mg base 2 "_law_signs_right" sp_sgr) :
    FnOk P w K mg base (L2.CX P w) (2 + 1) f fd ["_law_told", "_law_terms_here", "_law_shelf_here"] sp_trr := by
  refine okT F sc__law_triples_right (fun vs H Q E h => ?_) (fun cdv A outer s H vs Q E hr tk h => ?_)
  · obtain ⟨w, t, l, ws, xs, ys, ts, S, n, rfl, _⟩ := h
    rfl
  obtain ⟨w, t, l, ws, xs, ys, ts, S, n, rfl, hw, pw, h1, p1, h3, p2, hsf, k⟩ := h
  have f1 := T.i1; have f2 := T.i2; have f3 := T.i3; have f4 := T.i4; have f6 := T.cl; have f7 := T.nT
  refine ⟨_, (pss_cons (ps_set (i := 3) sc__law_triples_right.nd rfl (Or.inl rfl) (pe_lst pa_nil))
      (pss_cons (ps_for (passes_of rfl) rfl (pi_range1 (by rfl) T.b_range (pa_cons (pe_callB b_len (by rfl) T.b_len (by decide +kernel) (pa_cons (pv 2) pa_nil)) pa_nil)) (pg_name (i := 4) sc__law_triples_right.nd rfl (Or.inl rfl)) (pss_one (ps_for (passes_of rfl) rfl (pi_range2 (by rfl) T.b_range (pa_cons (pe_op op_add (pv 4) pe_int) (pa_cons (pe_callB b_len (by rfl) T.b_len (by decide +kernel) (pa_cons (pv 2) pa_nil)) pa_nil))) (pg_name (i := 5) sc__law_triples_right.nd rfl (Or.inl rfl)) (pss_cons (ps_set (i := 6) sc__law_triples_right.nd rfl (Or.inl rfl) (c_call c__law_signs tk hr (by decide) (pa_cons (pv 1) (pa_cons (pe_ix ix_list (pv 2) (pv 4) (fun _ _ => rfl)) (pa_cons (pe_ix ix_list (pv 2) (pv 5) (fun _ _ => rfl)) pa_nil)))))
      (pss_one (ps_if (pt_cmpR (op_neD hr.units) (pv 6) (pe_tup (pa_cons pe_negC (pa_cons pe_int (pa_cons pe_int pa_nil)))) (nomark _)) (pss_one (ps_expr (pe_bm PySem.F.plainAttrs_list PySem.F.slot_list_append PySem.F.type_list_append mt_append (pv 3) (pa_cons (pe_tup (pa_cons (pv 4) (pa_cons (pv 5) (pa_cons (pv 6) pa_nil)))) pa_nil)))) pss_nil))))))
      (pss_cons (ps_if (PW.pt (pw_or (pt_not (pt_val (pe_callB call_isi (by rfl) T.b_isinstance (by decide +kernel) (pa_cons (pv 0) (pa_cons (g_ty (n := "list") T.b_list (by decide +kernel)) pa_nil))))) (pw_or1 (pt_cmpR op_ne (pe_callB b_len (by rfl) T.b_len (by decide +kernel) (pa_cons (pv 0) pa_nil)) (pe_callB b_len (by rfl) T.b_len (by decide +kernel) (pa_cons (pv 3) pa_nil)) (nomark _))))) (pss_one (ps_ret pe_bl)) pss_nil)
      (pss_cons (ps_for (passes_of rfl) rfl (pi_range1 (by rfl) T.b_range (pa_cons (pe_callB b_len (by rfl) T.b_len (by decide +kernel) (pa_cons (pv 3) pa_nil)) pa_nil)) (pg_name (i := 7) sc__law_triples_right.nd rfl (Or.inl rfl)) (pss_cons (ps_if (PW.pt (pw_or (pt_not (pt_val (c_call c__law_is_triple tk hr (by decide) (pa_cons (pe_ix ix_list (pv 0) (pv 7) (fun _ _ => rfl)) pa_nil)))) (pw_or1 (pt_cmpR (op_neD hr.units) (pe_ix ix_list (pv 0) (pv 7) (fun _ _ => rfl)) (pe_ix ix_list (pv 3) (pv 7) (fun _ _ => rfl)) (nomark _))))) (pss_one (ps_ret pe_bl)) pss_nil)
      (pss_one (ps_if (pt_not (pt_val (c_call c__law_signs_right tk hr (by decide) (pa_cons (pe_ix ix_tup (pe_ix ix_list (pv 0) (pv 7) (fun _ _ => rfl)) pe_int (fun _ _ => rfl)) (pa_cons (pe_ix ix_tup (pe_ix ix_list (pv 3) (pv 7) (fun _ _ => rfl)) pe_int (fun _ _ => rfl)) pa_nil))))) (pss_one (ps_ret pe_bl)) pss_nil))))
      (pss_one (ps_ret pe_bl)))))), ?_⟩
  simp only [cxK, st__law_triples_right]
  have M : Mem H [] H [] [] := mem_start (by simp []) (by simp) (by simp)
  have hyl := p2.1
  have hS := hsf.len
  walk_at "go"
  rename_i p0 H0 M0
  have h30 := M0.atB0 h3
  walk_at "go"
  refine rng_loop ⟨fun i σ' H' => ∃ (zs : List V) (l' : List (Addr × HO)) (v3 v4 v5 : Option V), σ' = [some (.ref w), some (.ref t), some (.ref l), some (.ref p0), v3, v4, v5, none] ∧ Mem H [] H' [] ((p0, .lst zs) :: l') ∧ TrL l' zs (demL ts S (PL S.length (List.range i))), ?_, ?_, ?_⟩
  · exact ⟨[], [], _, _, _, rfl, M0, PX.nil⟩
  · rintro i σ' H' hi ⟨zs, l', v3, v4, v5, rfl, M', pz⟩
    have hil : i < ys.length := by simpa using hi
    obtain ⟨a, pa, ha, ea, hpa⟩ := p2.get (List.getElem?_eq_getElem hil)
    have hata : atI ys (0 + (i : Int)) = some (.ref pa) := by rw [← ea]; exact atI_nat0 (List.getElem?_eq_getElem hil)
    have hla := hsf.row a (List.mem_of_getElem? ha)
    have hmul : i * S.length ≤ 20 * 20 := Nat.mul_le_mul (by omega) (by omega)
    have h3' := M'.atB0 h3
    walk_at "go"
    refine rng_loop ⟨fun n σ' H' => ∃ (zs : List V) (l' : List (Addr × HO)) (v4 v5 : Option V), σ' = [some (.ref w), some (.ref t), some (.ref l), some (.ref p0), some (.int (0 + (i : Int))), v4, v5, none] ∧ Mem H [] H' [] ((p0, .lst zs) :: l') ∧ TrL l' zs (demL ts S (PL S.length (List.range i) ++ PR1 i (List.range' (i + 1) n))), ?_, ?_, ?_⟩
    · exact ⟨zs, l', _, _, rfl, M', by rw [show PR1 i (List.range' (i + 1) 0) = [] from rfl, List.append_nil]; exact pz⟩
    · rintro m σ' H' hm ⟨zs, l', v4, v5, rfl, M', pz⟩
      have hjl : i + 1 + m < ys.length := by omega
      obtain ⟨b, pb, hb, eb, hpb⟩ := p2.get (List.getElem?_eq_getElem hjl)
      have hatb : atI ys (0 + (i : Int) + 1 + (m : Int)) = some (.ref pb) := by
        rw [← eb, show 0 + (i : Int) + 1 + (m : Int) = ((i + 1 + m : Nat) : Int) by omega]
        exact MyL.atI_nat (List.getElem?_eq_getElem hjl)
      have hlb := hsf.row b (List.mem_of_getElem? hb)
      have hdl := dm_len ts S i m
      have hzl := pz.1
      have hnext : demL ts S (PL S.length (List.range i) ++ PR1 i (List.range' (i + 1) (m + 1))) = demL ts S (PL S.length (List.range i) ++ PR1 i (List.range' (i + 1) m)) ++ if (!decide (dem ts a b = sg3)) = true then [((i : Int), ((i + 1 + m : Nat) : Int), dem ts a b)] else [] := by
        have hdm : dm ts S (i, i + 1 + m) = dem ts a b := by
          show dem ts (S.getD i []) (S.getD (i + 1 + m) []) = _
          rw [getD_of ha, getD_of hb]
        rw [PR1_next, ← List.append_assoc, demL_app, demL_one, hdm]
      have etr : ∀ d : Addr, HO.tup [.int (0 + (i : Int)), .int (0 + (i : Int) + 1 + (m : Int)), .ref d] = trO ((i : Int), ((i + 1 + m : Nat) : Int), dem ts a b) d := fun d => by
        rw [trO, show 0 + (i : Int) + 1 + (m : Int) = ((i + 1 + m : Nat) : Int) by omega, Int.zero_add]
      have h3' := M'.atB0 h3
      walk_at "go"
      refine use_signs M' (M'.atB0 h1) (p1.same (Same.of_keep M')) hsf.fit (M'.atB0 hpa) (M'.atB0 hpb) hla hlb hsf.n10 fun d H5 l5 M5 => ?_
      walk_at "go"
      rename_i sgl H9 M9
      refine k_neRow (s := sg3) (SqT.of (M9.getL (List.mem_cons_of_mem _ List.mem_cons_self))) (SqT.of (M9.getL List.mem_cons_self)) ?_
      have M6 := Mem.front (l1 := (sgl, .tup [.int (-1), .int 0, .int 1]) :: (d, rowO (dem ts a b)) :: l5) (z := (p0, .lst zs)) (l2 := l') M9
      by_cases hE : dem ts a b = sg3
      · rw [decide_eq_true hE]
        walk_at "go"
        refine ⟨_, _, _, _, rfl, M6, ?_⟩
        rw [hnext, decide_eq_true hE, if_neg (by decide), List.append_nil]
        exact pz.more fun z hz => by simp [hz]
      · rw [decide_eq_false hE]
        walk_at "go"
        rename_i tr H7 M7 H8 M8
        refine ⟨_, _, _, _, rfl, M8.front1, ?_⟩
        rw [hnext, decide_eq_false hE, if_pos (by decide)]
        refine (pz.more fun z hz => by simp [hz]).append (PX.one ⟨d, ?_, ?_⟩)
        · rw [etr]; exact List.mem_cons_self
        · simp
    · rintro σ' H' ⟨zs, l', v4, v5, rfl, M', pz⟩
      walk_at "go"
      refine ⟨zs, l', _, _, _, rfl, M', ?_⟩
      rw [PL_next]
      rw [show ((ys.length : Int) - (0 + (i : Int) + 1)).toNat = S.length - (i + 1) by omega] at pz
      exact pz
  · rintro σ' H' ⟨zs, l', v3, v4, v5, rfl, M', pz⟩
    rw [show ((ys.length : Int)).toNat = S.length by omega] at pz
    have hzl := pz.1
    have hwl := pw.1
    have hwz : ws.length = zs.length := hwl.trans hzl.symm
    have hdl := demL_len ts S (PL S.length (List.range S.length))
    have hpl := PL_len S.length S.length
    have hmul : S.length * S.length ≤ 20 * 20 := Nat.mul_le_mul (by omega) (by omega)
    have hw' := M'.atB0 hw
    walk_at "go"
    refine rng_loop ⟨fun i σ' H2 => ∃ (v7 : Option V), σ' = [some (.ref w), some (.ref t), some (.ref l), some (.ref p0), v3, v4, v5, v7] ∧ Mem H [] H2 [] ((p0, .lst zs) :: l'), ?_, ?_, ?_⟩
    · exact ⟨_, rfl, M'⟩
    · rintro i σ' H2 hi ⟨v7, rfl, M2⟩
      have hil : i < zs.length := by simpa using hi
      have hiw : i < ws.length := by omega
      obtain ⟨tr, pd, htr, epd, qd, hpd, hqd⟩ := pz.get (List.getElem?_eq_getElem hil)
      obtain ⟨tr', pt, htr', ept, qt, hpt, hqt⟩ := pw.get (List.getElem?_eq_getElem hiw)
      rw [htr] at htr'
      cases htr'
      have hatd : atI zs (0 + (i : Int)) = some (.ref pd) := by rw [← epd]; exact atI_nat0 (List.getElem?_eq_getElem hil)
      have hatt : atI ws (0 + (i : Int)) = some (.ref pt) := by rw [← ept]; exact atI_nat0 (List.getElem?_eq_getElem hiw)
      have hw2 := M2.atB0 hw
      have g1 := M2.atB0 hpt
      have g2 := M2.atB0 hqt
      have g3 : H2 pd = some (trO tr qd) := M2.getL (List.mem_cons_of_mem _ hpd)
      have g4 : H2 qd = some (rowO tr.2.2) := M2.getL (List.mem_cons_of_mem _ hqd)
      walk_at "go"
      refine ⟨pt, qt, tr, rfl, g1, g2, ?_⟩
      walk_at "go"
      refine k_neTr g1 g2 g3 g4 ?_
      walk_at "go"
      refine use_sgr M2 g2 g4 (demL_six hsf (List.mem_of_getElem? htr)) fun H3 M3 => ?_
      walk_at "go"
      exact ⟨_, rfl, M3⟩
    · rintro σ' H2 ⟨v7, rfl, M2⟩
      walk_at "go"
      exact k _ (Same.of_keep M2)
end
end K35

set_option Elab.async false
set_option linter.all false
set_option maxRecDepth 100000
set_option maxHeartbeats 8000000
namespace K35
open PySem L2 MyL
local macro_rules | `(tactic| walk_at "mem") => `(tactic| first | exact List.mem_cons_self | (refine List.mem_cons_of_mem _ ?_; walk_at "mem"))
local macro_rules | `(tactic| walk_at "hp") => `(tactic| first | assumption | (refine' Mem.getL ?k1 ?k2; (case k1 => assumption); (case k2 => walk_at "mem")) | (refine' Mem.getF ?k1 ?k2; (case k1 => assumption); (case k2 => walk_at "mem")) | (refine' Mem.atB ?k1 ?k2; (case k1 => assumption); (case k2 => assumption)))
local macro_rules | `(tactic| walk_at "cond") => `(tactic| first | omega | assumption | exact mulR (by omega) (by omega) | exact mulL (by omega) (by omega) | exact divW (by omega) (by omega) | decide)
local macro_rules | `(tactic| walk_at "look") => `(tactic| first | assumption | with_unfolding_all rfl | exact atI_map (by omega) (by omega))
local macro_rules | `(tactic| walk_at "go1") => `(tactic| with_reducible first
  | refine k_seq ?_ | refine k_gName ?_ | refine k_asg ?_ | refine k_ret ?_ | refine k_ifS ?_ | refine k_drop ?_ | refine k_next ?_ | refine k_break ?_ | refine k_cont ?_ | refine k_retN ?_
  | (refine' k_var ?k1 ?_; (case k1 => with_unfolding_all rfl)) | refine k_c ?_ | refine k_op ?_ | refine k_un ?_ | refine k_test ?_ | refine k_B ?_ | refine k_bl ?_ | refine k_and ?_ | refine k_or ?_ | refine k_not ?_
  | refine k_andV ?_ | refine k_orV ?_ | refine k_notV ?_ | refine k_ifE ?_ | refine k_nil ?_ | refine k_cons ?_ | refine k_cb ?_ | refine k_callS ?_ | refine k_lst0 ?_ | refine k_tup0 ?_ | refine k_fld0 ?_ | refine k_sub0 ?_ | refine k_make0 ?_ | refine k_prop0 ?_ | refine k_sta0 ?_ | refine k_sta ?_ | refine k_bm ?_ | refine k_bm0 ?_ | refine k_chain ?_ | refine k_makeK0 ?_ | refine k_swapK ?_ | refine k_meth0 ?_ | refine k_ownN0 ?_ | refine k_ownO0 ?_ | refine k_sfld0 ?_ | refine k_jnil ?_ | refine k_jcons ?_ | refine k_fmt0 ?_ | refine k_sl0 ?_ | refine k_nopart ?_ | refine k_part ?_ | refine k_forR1 ?_ | refine k_forR2 ?_ | refine k_forL ?_ | refine k_forT ?_ | refine k_lcR1 ?_ | refine k_lcR2 ?_ | refine k_lcL ?_ | refine k_lcT ?_ | refine k_err0 ?_ | refine k_xf0 ?_ | refine k_errQ1 ?_ | refine k_errQ0 ?_ | refine k_errQ2 ?_ | refine k_errQ3 ?_
  | refine k_I0 ?_ | (refine k_I ?k1 ?_; (case k1 => walk_at "cond")) | refine k_U ?_ | refine k_eqI ?_ | refine k_neI ?_ | refine k_eqB ?_ | refine k_neB ?_ | refine k_eqS ?_ | refine k_neS ?_
  | refine k_int1 ?_ | refine k_abs1 ?_ | refine k_min2 ?_ | refine k_max2 ?_
  | (refine' k_lenM ?k1 ?_; (case k1 => walk_at "hp")) | (refine' k_lenL ?k1 ?_; (case k1 => walk_at "hp")) | (refine' k_lenT ?k1 ?_; (case k1 => walk_at "hp"))
  | (refine' k_lenS ?k1 ?_; (case k1 => assumption)) | (refine' k_ixS ?k1 ?k2 ?_; (case k1 => assumption); (case k2 => walk_at "look"))
  | (refine' k_ixL ?k1 ?k2 ?_; (case k1 => walk_at "hp"); (case k2 => walk_at "look")) | (refine' k_ixT ?k1 ?k2 ?_; (case k1 => walk_at "hp"); (case k2 => walk_at "look"))
  | (refine' k_ix4 ?k1 ?k2 ?k3 ?_; (case k1 => walk_at "hp"); (case k2 => omega); (case k3 => omega); intro n' hn')
  | (refine' k_ix3 ?k1 ?k2 ?k3 ?_; (case k1 => walk_at "hp"); (case k2 => omega); (case k3 => omega); intro n' hn')
  | (refine' k_ix2 ?k1 ?k2 ?k3 ?_; (case k1 => walk_at "hp"); (case k2 => omega); (case k3 => omega); intro n' hn')
  | (refine' k_fld ?k1 ?k2 ?k3 ?k4 ?_; (case k1 => walk_at "hp"); (case k2 => assumption); (case k3 => assumption); (case k4 => walk_at "fld"))
  | (refine' k_lst ?k1 ?k2 ?_; (case k1 => assumption); (case k2 => exact sz (by simp)); intro p' H' M')
  | (refine' k_tup ?k1 ?k2 ?_; (case k1 => assumption); (case k2 => exact sz (by simp)); intro p' H' M')
  | (refine' k_setF0 ?k1 ?k2 ?k3 ?_; (case k1 => assumption); (case k2 => simp); (case k3 => with_unfolding_all rfl); intro H' M'; try simp only [Int.reduceToNat, List.set_cons_succ, List.set_cons_zero] at M')
  | (refine' k_setL0 ?k1 ?k2 ?_; (case k1 => assumption); (case k2 => with_unfolding_all rfl); intro H' M'; try simp only [Int.reduceToNat, List.set_cons_succ, List.set_cons_zero] at M')
  | (refine' k_setL1 ?k1 ?k2 ?_; (case k1 => assumption); (case k2 => with_unfolding_all rfl); intro H' M'; try simp only [Int.reduceToNat, List.set_cons_succ, List.set_cons_zero] at M')
  | (refine' k_setL2 ?k1 ?k2 ?_; (case k1 => assumption); (case k2 => with_unfolding_all rfl); intro H' M'; try simp only [Int.reduceToNat, List.set_cons_succ, List.set_cons_zero] at M')
  | refine iteT ?_ | refine iteF ?_ | refine k_iteNE ?_ | refine k_iteNS ?_ | refine k_iteNT ?_ | refine k_iteNF ?_
  | (refine k_iteD ?_ ?_ <;> intro hc <;> first | (exfalso; omega) | skip)
  | (refine k_iteN ?_ ?_ <;> intro hc <;> first | (exfalso; omega) | skip)
  | (refine' k_ownN ?k1 ?_; (case k1 => walk_at "hp")) | (refine' k_ownO ?k1 ?k2 ?_; (case k1 => walk_at "hp"); (case k2 => walk_at "hp")) | (refine' k_ownEq ?k1 ?k2 ?_; (case k1 => walk_at "hp"); (case k2 => walk_at "hp"))
  | (refine' k_ownIn ?k1 ?_; (case k1 => walk_at "hp")) | (refine' k_ownU ?k1 ?_; (case k1 => walk_at "hp")) | (refine' k_ownStr ?k1 ?_; (case k1 => walk_at "hp"))
  | (refine' k_prop ?k1 ?_; (case k1 => walk_at "hp")) | (refine' k_ownNe ?k1 ?k2 ?_; (case k1 => walk_at "hp"); (case k2 => walk_at "hp")) | (refine' k_eqP ?k1 ?k2 ?_; (case k1 => walk_at "hp"); (case k2 => walk_at "hp")) | (refine' k_neP ?k1 ?k2 ?_; (case k1 => walk_at "hp"); (case k2 => walk_at "hp"))
  | (refine' k_isiO ?k1 ?k2 ?k3 ?k4 ?k5 ?k6 ?_; (case k1 => walk_at "hp"); (case k2 => assumption); (case k3 => assumption); (case k4 => assumption); (case k5 => assumption); (case k6 => assumption))
  | (refine' k_isiI ?k1 ?_; (case k1 => assumption))
  | (refine' k_jst ?k1 ?_; (case k1 => walk_at "size")) | (refine' k_fmtI ?k1 ?_; (case k1 => exact log2_64 (by omega) (by omega))) | (refine' k_strI ?k1 ?_; (case k1 => exact log2_64 (by omega) (by omega)))
  | (refine k_addS ?k1 ?_; (case k1 => walk_at "size")) | refine k_st ?_ | refine k_parti ?_
  | (refine' k_cat ?k1 ?k2 ?k3 ?k4 ?_; (case k1 => assumption); (case k2 => walk_at "hp"); (case k3 => walk_at "hp"); (case k4 => walk_at "size"); intro p' H' M')
  | (refine' k_slL ?k1 ?k2 ?_; (case k1 => assumption); (case k2 => first | assumption | exact SqL.of (by walk_at "hp")); intro p' H' M')
  | (refine k_rng1 ?k1 ?k2 ?_; (case k1 => omega); (case k2 => omega)) | (refine k_rng2 ?k1 ?k2 ?k3 ?k4 ?_; (case k1 => omega); (case k2 => omega); (case k3 => omega); (case k4 => omega))
  | (refine' k_lstAt ?k1 ?_; (case k1 => first | assumption | exact SqL.of (by walk_at "hp"))) | (refine' k_tupAt ?k1 ?_; (case k1 => first | assumption | exact SqT.of (by walk_at "hp")))
  | (refine' k_isXs ?k1 ?k2 ?_; (case k1 => assumption); (case k2 => walk_at "hp")) | (refine' k_isXo ?k1 ?k2 ?k3 ?_; (case k1 => assumption); (case k2 => walk_at "hp"); (case k3 => assumption)) | (refine' k_isXt ?k1 ?k2 ?k3 ?_; (case k1 => assumption); (case k2 => walk_at "hp"); (case k3 => assumption))
  | (refine' k_isX3 ?k1 ?k2 ?k3 ?k4 ?_; (case k1 => assumption); (case k2 => walk_at "hp"); (case k3 => walk_at "hp"); (case k4 => assumption)) | (refine' k_isX2 ?k1 ?k2 ?k3 ?k4 ?_; (case k1 => assumption); (case k2 => walk_at "hp"); (case k3 => walk_at "hp"); (case k4 => assumption))
  | (refine' k_tyL ?k1 ?_; (case k1 => walk_at "hp"))
  | (refine' k_appL0 ?k1 ?k2 ?_; (case k1 => assumption); (case k2 => walk_at "size"); intro H' M') | (refine' k_appL1 ?k1 ?k2 ?_; (case k1 => assumption); (case k2 => walk_at "size"); intro H' M') | (refine' k_appL2 ?k1 ?k2 ?_; (case k1 => assumption); (case k2 => walk_at "size"); intro H' M') | (refine' k_appL3 ?k1 ?k2 ?_; (case k1 => assumption); (case k2 => walk_at "size"); intro H' M')
  | (refine' k_revL0 ?k1 ?_; (case k1 => assumption); intro H' M') | (refine' k_revL1 ?k1 ?_; (case k1 => assumption); intro H' M')
  | (refine' k_isX0s ?k1 ?_; (case k1 => assumption)) | (refine' k_isX0o ?k1 ?k2 ?_; (case k1 => assumption); (case k2 => assumption)) | (refine' k_isX0t ?k1 ?k2 ?_; (case k1 => assumption); (case k2 => assumption)) | (refine' k_isX04 ?k1 ?k2 ?k3 ?_; (case k1 => assumption); (case k2 => walk_at "hp"); (case k3 => assumption))
  | (refine' k_isX4 ?k1 ?k2 ?k3 ?k4 ?_; (case k1 => assumption); (case k2 => walk_at "hp"); (case k3 => walk_at "hp"); (case k4 => assumption)) | (refine' k_ixT2 ?k1 ?k2 ?k3 ?_; (case k1 => walk_at "hp"); (case k2 => omega); (case k3 => omega); intro n' hn')
  | (refine k_iteNEq ?k1 ?_; (case k1 => (rw [Bool.eq_iff_iff]; first | (simp; done) | (simp; omega))))
  | (refine' k_xf ?k1 ?k2 ?_; (case k1 => walk_at "hp"); (case k2 => first | exact xd1 | exact xdH | exact xd2 (by decide +kernel)))
  | (refine' k_caught ?k1 ?_; (case k1 => assumption); intro a' ha')
  | refine k_asgT ?_ | refine k_gCons ?_ | refine k_gNil ?_ | refine k_par ?_ | refine k_two ?_ | refine k_isNn ?_ | refine k_isNi ?_ | refine k_notNn ?_ | refine k_notNi ?_ | refine k_isN ?_ | refine k_notN ?_
  | (refine' k_gTup ?k1 ?k2 ?_; (case k1 => walk_at "hp"); (case k2 => with_unfolding_all rfl))
  | (refine' k_isiT ?k1 ?k2 ?_; (case k1 => walk_at "hp"); (case k2 => assumption)) | (refine' k_isiL ?k1 ?k2 ?_; (case k1 => walk_at "hp"); (case k2 => assumption))
  | (refine' k_ixQ ?k1 ?k2 ?_; (case k1 => assumption); (case k2 => walk_at "look")) | (refine' k_lenQ ?k1 ?_; (case k1 => assumption))
  | (refine' k_xfB ?k1 ?k2 ?_; (case k1 => walk_at "hp"); (case k2 => first | exact xd1 | exact xdH | exact xd2 (by decide +kernel)))
  | (refine' k_all ?k1 ?_; (case k1 => walk_at "hp"))
  | (refine' k_tupleOf ?k1 ?k2 ?_; (case k1 => assumption); (case k2 => exact SqL.of (by walk_at "hp")); intro p' H' M')
  | (refine' k_listOf ?k1 ?k2 ?_; (case k1 => assumption); (case k2 => exact Or.inl (SqL.of (by walk_at "hp"))); intro p' H' M')
  | walk_at "use")
local macro_rules | `(tactic| walk_at "go") => `(tactic| repeat' (walk_at "go1"))

local macro_rules | `(tactic| walk_at "eq") => `(tactic| first | rfl | assumption | omega)
local macro_rules | `(tactic| walk_at "fld") => `(tactic| exact xdH)
local macro_rules | `(tactic| walk_at "size") => `(tactic| first | exact sz (by first | omega | (simp only [List.length_map, List.length_range, List.length_append, List.length_cons, List.length_nil, Int.reduceSub, Int.reduceToNat, Int.reduceNeg]; omega)) | (exact Nat.lt_of_le_of_lt (m := 50000) (by first | omega | (simp only [List.length_map, List.length_range, List.length_append, List.length_cons, List.length_nil]; omega)) (by decide)))
section
variable {P : Program} {w : World} {K : PySem.W.Frag} {mg : Str → Option Value} {base : Heap} {C CR fR aS : Addr}
local macro_rules | `(tactic| walk_at "use") => `(tactic| with_reducible first
  | refine use_isn ?_
  | (refine' use_take ?k1 ?k2 ?k3 ?k4 ?k5 ?k6 ?_; (case k1 => assumption); (case k2 => simp); (case k3 => omega); (case k4 => omega); (case k5 => omega); (case k6 => omega); intro d' n' c' H' a1' a2' a3' a4' M'))
theorem side_age {ts : List Pr} {a b : List Int} (h : a.length = b.length) {s : Int} (hs : s = -1 ∨ s = 0 ∨ s = 1) {age away : Int} (hw : 1 ≤ away) : side ts (a ++ [age + s * away]) (b ++ [age]) = side ts (a ++ [s]) (b ++ [0]) := by
  rcases hs with rfl | rfl | rfl
  · exact side_last h (by omega) (by omega)
  · exact side_last h (by omega) (by omega)
  · exact side_last h (by omega) (by omega)
theorem _root_.MyL.Mem.atX {B H : Hp} {bg a : Addr} {o u : HO} {f l : List (Addr × HO)} (M : Mem B [bg] H f l) (hb : B bg = some u) (h : B a = some o) (hne : o ≠ u) : H a = some o := M.keep a o h (fun z => by
  rw [List.mem_singleton.mp z, hb] at h
  cases h
  exact hne rfl)
abbrev ArDr (C : Addr) (bg : Addr) (as : List V) (H : Hp) : Prop := ∃ (r dx t0 t p q : Addr) (xs0 xs : List V) (ts : List Pr) (a b : List Int) (n : Nat), as = [.ref r, .ref t, .ref p, .ref q] ∧ H r = some (.ins C dx (ruF t0)) ∧ H t0 = some (.tup xs0) ∧ Prs H xs0 ts ∧ (∀ t ∈ ts, t.2 = 1 ∨ t.2 = -1) ∧ FitN ts n ∧ H t = some (.tup xs) ∧ Prs H xs ts ∧ H p = some (rowO a) ∧ H q = some (rowO b) ∧ a.length = n ∧ b.length = n ∧ n ≤ 10
def RTrue (as : List V) (H : Hp) (v : V) (l2 : List (Addr × HO)) : Prop := v = .bl true ∧ l2 = []
theorem ok_dright {f : Addr} {fd : FuncData} (F : Fun K "_law_demand_right" "_law_demand_right" s__law_demand_right f fd) (T : Txt P K mg C CR fR aS) (c_demand : Cal P w K mg base 2 "demand" (sp_dem C)) (c__law_take : Cal P w K mg base 1 "_law_take" sp_take) (c__law_side : Cal P w K mg base 1 "_law_side" sp_side) (c__law_signs_right : Cal P w K mg base 2 "_law_signs_right" sp_sgr) :
    FnOk P w K mg base (L2.CX P w) (2 + 1) f fd ["_law_bag", "_law_rule", "_law_terms_here", "_law_one", "_law_two"] (sp_bag (ArDr C) RTrue) := by
  refine okT F sc__law_demand_right (fun vs H Q E h => ?_) (fun cdv A outer s H vs Q E hr tk h => ?_)
  · obtain ⟨bg, fl, n, c, as, rfl, ⟨r, dx, t0, t, p, q, xs0, xs, ts, a, b, m, rfl, _⟩, _⟩ := h
    rfl
  obtain ⟨bg, fl, n, c, as, rfl, ⟨r, dx, t0, t, p, q, xs0, xs, ts, a, b, m, rfl, h0, h00, p00, hd, hfn, h1, p1, h2, h3, ha, hb, hm⟩, hbg, hc0, hc1, k⟩ := h
  have f1 := T.i1; have f2 := T.i2; have f3 := T.i3; have f4 := T.i4; have f6 := T.cl; have f7 := T.nT
  refine ⟨_, (pss_cons (ps_set (i := 5) sc__law_demand_right.nd rfl (Or.inl rfl) (c_call c_demand tk hr (by decide) (pa_cons (pv 1) (pa_cons (pv 3) (pa_cons (pv 4) pa_nil)))))
      (pss_cons (ps_set (i := 6) sc__law_demand_right.nd rfl (Or.inl rfl) (pe_lst pa_nil))
      (pss_cons (ps_for (passes_of rfl) rfl (pi_list (pe_lst (pa_cons pe_negC (pa_cons pe_int (pa_cons pe_int pa_nil))))) (pg_name (i := 7) sc__law_demand_right.nd rfl (Or.inl rfl)) (pss_cons (ps_set (i := 8) sc__law_demand_right.nd rfl (Or.inl rfl) (pe_op op_sub (c_call c__law_take tk hr (by decide) (pa_cons (pv 0) (pa_cons pe_int pa_nil))) pe_int))
      (pss_cons (ps_if (pt_cmpR op_eq (c_call c__law_take tk hr (by decide) (pa_cons (pv 0) (pa_cons pe_int pa_nil))) pe_int (nomark _)) (pss_one (ps_set (i := 8) sc__law_demand_right.nd rfl (Or.inl rfl) (pe_op op_sub (pe_op op_mulU (c_call c__law_take tk hr (by decide) (pa_cons (pv 0) (pa_cons (pe_powC (n := 1000000000)) pa_nil))) (pe_powC (n := 100000000))) (pe_op op_mulU pe_int (pe_powC (n := 10000000000000000)))))) pss_nil)
      (pss_cons (ps_set (i := 9) sc__law_demand_right.nd rfl (Or.inl rfl) (pe_op op_add pe_int (c_call c__law_take tk hr (by decide) (pa_cons (pv 0) (pa_cons pe_int pa_nil)))))
      (pss_cons (ps_if (pt_cmpR op_eq (c_call c__law_take tk hr (by decide) (pa_cons (pv 0) (pa_cons pe_int pa_nil))) pe_int (nomark _)) (pss_one (ps_set (i := 9) sc__law_demand_right.nd rfl (Or.inl rfl) (pe_powC (n := 100000000000000000)))) pss_nil)
      (pss_one (ps_if (pt_cmpR op_le (c_call c__law_side tk hr (by decide) (pa_cons (pv 2) (pa_cons (pe_op op_catA (pv 3) (pe_tup (pa_cons (pe_op op_add (pv 8) (pe_op op_mulU (pv 7) (pv 9))) pa_nil))) (pa_cons (pe_op op_catA (pv 4) (pe_tup (pa_cons (pv 8) pa_nil))) pa_nil)))) pe_int (nomark _)) (pss_one (ps_expr (pe_bm PySem.F.plainAttrs_list PySem.F.slot_list_append PySem.F.type_list_append mt_append (pv 6) (pa_cons (pv 7) pa_nil)))) pss_nil)))))))
      (pss_one (ps_ret (c_call c__law_signs_right tk hr (by decide) (pa_cons (pv 5) (pa_cons (pe_callTy b_tupleOf (by rfl) T.b_tuple (by decide +kernel) (pa_cons (pv 6) pa_nil)) pa_nil)))))))), ?_⟩
  simp only [cxK, st__law_demand_right]
  have M : Mem H [bg] H [(bg, bagO fl n c)] [] := mem_start (by simp [hbg]) (by simp) (by simp)
  walk_at "go"
  refine use_dem M h0 h00 p00 hd hfn h2 h3 ha hb hm fun d H1 l1 M1 => ?_
  walk_at "go"
  rename_i du H2 M2 ls H3 M3
  refine lst_loop (xs := sg3.map V.int) ⟨fun i σ' H' => ∃ (v7 v8 v9 : Option V) (n' c' : Int) (l' : List (Addr × HO)), σ' = [some (.ref bg), some (.ref r), some (.ref t), some (.ref p), some (.ref q), some (.ref d), some (.ref du), v7, v8, v9] ∧ (ls, HO.lst (sg3.map V.int)) ∈ l' ∧ (d, rowO (dem ts a b)) ∈ l' ∧ 0 ≤ c' ∧ c' ≤ c + 5 * i ∧ i ≤ 3 ∧ Mem H [bg] H' [(bg, bagO fl n' c')] ((du, .lst (((sg3.take i).filter (demP ts a b)).map V.int)) :: l'), ?_, ?_, ?_, ?_⟩
  · exact ⟨_, _, _, _, _, _, rfl, List.mem_cons_self, List.mem_cons_of_mem _ List.mem_cons_self, hc0, by omega, by omega, M3.front1⟩
  · rintro i σ' H' _ ⟨v7, v8, v9, n', c', l', rfl, hls, hdm, hc0', hc1', hi3, M'⟩
    exact SqL.of (M'.getL (List.mem_cons_of_mem _ hls))
  · rintro i x σ' H' hx ⟨v7, v8, v9, n', c', l', rfl, hls, hdm, hc0', hc1', hi3, M'⟩
    rw [List.getElem?_map] at hx
    obtain ⟨s, hs, rfl⟩ := Option.map_eq_some_iff.mp hx
    have hil : i < 3 := (List.getElem?_eq_some_iff.mp hs).1
    have hs3 : s = -1 ∨ s = 0 ∨ s = 1 := by
      have := List.mem_of_getElem? hs
      simpa [sg3] using this
    have hnx := filt_next (P := demP ts a b) hs
    have hlen : (((sg3.take i).filter (demP ts a b)).map V.int).length ≤ 3 := filt_len (L := sg3) (P := demP ts a b) (i := i)
    walk_at "go"
    all_goals
      rename_i z1 H4 M4
      refine k_catA M4 (SqT.of (M4.atX hbg h2 (by simp))) List.mem_cons_self (by simp) (Nat.le_of_lt (sz (by rw [List.length_map]; simp; omega))) fun o5 H5 l5 ho5 M5 => ?_
      rw [row_snoc] at ho5
      walk_at "go"
      rename_i z6 H6 M6
      refine k_catA M6 (SqT.of (M6.atX hbg h3 (by simp))) List.mem_cons_self (by simp) (Nat.le_of_lt (sz (by rw [List.length_map]; simp; omega))) fun o7 H7 l7 ho7 M7 => ?_
      rw [row_snoc] at ho7
      walk_at "go"
      refine use_side (.inr (M7.atX hbg h1 (by simp))) (p1.mono fun p s e => M7.atX hbg e (by simp)) (M7.getL (List.mem_append_right _ (List.mem_cons_of_mem _ ho5))) (M7.getL ho7) (hfn.fit ha _) (hfn.fit hb _) ?_
      rw [side_age (by omega) hs3 (by omega)]
      have M8 := Mem.front (l1 := l7 ++ (z6, _) :: (l5 ++ [(z1, _)])) (z := (du, .lst (((sg3.take i).filter (demP ts a b)).map V.int))) (l2 := l') (by rw [List.append_assoc, List.cons_append, List.append_assoc]; exact M7)
      by_cases hP : side ts (a ++ [s]) (b ++ [0]) ≤ 0
      · have e : demP ts a b s = true := decide_eq_true hP
        walk_at "go"
        rename_i H9 M9
        exact ⟨_, _, _, _, _, _, rfl, List.mem_append_right _ hls, List.mem_append_right _ hdm, by omega, by omega, by omega, (congrArg (fun z => Mem H [bg] H9 [(bg, bagO fl _ _)] ((du, HO.lst z) :: _)) (by rw [hnx, if_pos e])).mpr M9⟩
      · have e : ¬ demP ts a b s = true := by rw [decide_eq_true_eq]; exact hP
        walk_at "go"
        exact ⟨_, _, _, _, _, _, rfl, List.mem_append_right _ hls, List.mem_append_right _ hdm, by omega, by omega, by omega, (congrArg (fun z => Mem H [bg] H7 [(bg, bagO fl _ _)] ((du, HO.lst z) :: _)) (by rw [hnx, if_neg e, List.append_nil])).mpr M8⟩
  · rintro σ' H' ⟨v7, v8, v9, n', c', l', rfl, hls, hdm, hc0', hc1', hi3, M'⟩
    walk_at "go"
    rename_i d9 H9 M9
    refine use_sgr M9 (M9.getL (List.mem_cons_of_mem _ (List.mem_cons_of_mem _ hdm))) (M9.getL List.mem_cons_self) (dem_six hd (by omega)) fun H10 M10 => ?_
    exact k _ _ _ _ _ ⟨rfl, rfl⟩ hc0' (by omega) (Mem.none M10)
end
end K35

set_option Elab.async false
set_option linter.all false
set_option maxRecDepth 100000
set_option maxHeartbeats 8000000
namespace K35
open PySem L2 MyL
local macro_rules | `(tactic| walk_at "mem") => `(tactic| first | exact List.mem_cons_self | (refine List.mem_cons_of_mem _ ?_; walk_at "mem"))
local macro_rules | `(tactic| walk_at "hp") => `(tactic| first | assumption | (refine' Mem.getL ?k1 ?k2; (case k1 => assumption); (case k2 => walk_at "mem")) | (refine' Mem.getF ?k1 ?k2; (case k1 => assumption); (case k2 => walk_at "mem")) | (refine' Mem.atB ?k1 ?k2; (case k1 => assumption); (case k2 => assumption)))
local macro_rules | `(tactic| walk_at "cond") => `(tactic| first | omega | assumption | exact mulR (by omega) (by omega) | exact mulL (by omega) (by omega) | exact divW (by omega) (by omega) | decide)
local macro_rules | `(tactic| walk_at "look") => `(tactic| first | assumption | with_unfolding_all rfl | exact atI_map (by omega) (by omega))
local macro_rules | `(tactic| walk_at "go1") => `(tactic| with_reducible first
  | refine k_seq ?_ | refine k_gName ?_ | refine k_asg ?_ | refine k_ret ?_ | refine k_ifS ?_ | refine k_drop ?_ | refine k_next ?_ | refine k_break ?_ | refine k_cont ?_ | refine k_retN ?_
  | (refine' k_var ?k1 ?_; (case k1 => with_unfolding_all rfl)) | refine k_c ?_ | refine k_op ?_ | refine k_un ?_ | refine k_test ?_ | refine k_B ?_ | refine k_bl ?_ | refine k_and ?_ | refine k_or ?_ | refine k_not ?_
  | refine k_andV ?_ | refine k_orV ?_ | refine k_notV ?_ | refine k_ifE ?_ | refine k_nil ?_ | refine k_cons ?_ | refine k_cb ?_ | refine k_callS ?_ | refine k_lst0 ?_ | refine k_tup0 ?_ | refine k_fld0 ?_ | refine k_sub0 ?_ | refine k_make0 ?_ | refine k_prop0 ?_ | refine k_sta0 ?_ | refine k_sta ?_ | refine k_bm ?_ | refine k_bm0 ?_ | refine k_chain ?_ | refine k_makeK0 ?_ | refine k_swapK ?_ | refine k_meth0 ?_ | refine k_ownN0 ?_ | refine k_ownO0 ?_ | refine k_sfld0 ?_ | refine k_jnil ?_ | refine k_jcons ?_ | refine k_fmt0 ?_ | refine k_sl0 ?_ | refine k_nopart ?_ | refine k_part ?_ | refine k_forR1 ?_ | refine k_forR2 ?_ | refine k_forL ?_ | refine k_forT ?_ | refine k_lcR1 ?_ | refine k_lcR2 ?_ | refine k_lcL ?_ | refine k_lcT ?_ | refine k_err0 ?_ | refine k_xf0 ?_ | refine k_errQ1 ?_ | refine k_errQ0 ?_ | refine k_errQ2 ?_ | refine k_errQ3 ?_
  | refine k_I0 ?_ | (refine k_I ?k1 ?_; (case k1 => walk_at "cond")) | refine k_U ?_ | refine k_eqI ?_ | refine k_neI ?_ | refine k_eqB ?_ | refine k_neB ?_ | refine k_eqS ?_ | refine k_neS ?_
  | refine k_int1 ?_ | refine k_abs1 ?_ | refine k_min2 ?_ | refine k_max2 ?_
  | (refine' k_lenM ?k1 ?_; (case k1 => walk_at "hp")) | (refine' k_lenL ?k1 ?_; (case k1 => walk_at "hp")) | (refine' k_lenT ?k1 ?_; (case k1 => walk_at "hp"))
  | (refine' k_lenS ?k1 ?_; (case k1 => assumption)) | (refine' k_ixS ?k1 ?k2 ?_; (case k1 => assumption); (case k2 => walk_at "look"))
  | (refine' k_ixL ?k1 ?k2 ?_; (case k1 => walk_at "hp"); (case k2 => walk_at "look")) | (refine' k_ixT ?k1 ?k2 ?_; (case k1 => walk_at "hp"); (case k2 => walk_at "look"))
  | (refine' k_ix4 ?k1 ?k2 ?k3 ?_; (case k1 => walk_at "hp"); (case k2 => omega); (case k3 => omega); intro n' hn')
  | (refine' k_ix3 ?k1 ?k2 ?k3 ?_; (case k1 => walk_at "hp"); (case k2 => omega); (case k3 => omega); intro n' hn')
  | (refine' k_ix2 ?k1 ?k2 ?k3 ?_; (case k1 => walk_at "hp"); (case k2 => omega); (case k3 => omega); intro n' hn')
  | (refine' k_fld ?k1 ?k2 ?k3 ?k4 ?_; (case k1 => walk_at "hp"); (case k2 => assumption); (case k3 => assumption); (case k4 => walk_at "fld"))
  | (refine' k_lst ?k1 ?k2 ?_; (case k1 => assumption); (case k2 => exact sz (by simp)); intro p' H' M')
  | (refine' k_tup ?k1 ?k2 ?_; (case k1 => assumption); (case k2 => exact sz (by simp)); intro p' H' M')
  | (refine' k_setF0 ?k1 ?k2 ?k3 ?_; (case k1 => assumption); (case k2 => simp); (case k3 => with_unfolding_all rfl); intro H' M'; try simp only [Int.reduceToNat, List.set_cons_succ, List.set_cons_zero] at M')
  | (refine' k_setL0 ?k1 ?k2 ?_; (case k1 => assumption); (case k2 => with_unfolding_all rfl); intro H' M'; try simp only [Int.reduceToNat, List.set_cons_succ, List.set_cons_zero] at M')
  | (refine' k_setL1 ?k1 ?k2 ?_; (case k1 => assumption); (case k2 => with_unfolding_all rfl); intro H' M'; try simp only [Int.reduceToNat, List.set_cons_succ, List.set_cons_zero] at M')
  | (refine' k_setL2 ?k1 ?k2 ?_; (case k1 => assumption); (case k2 => with_unfolding_all rfl); intro H' M'; try simp only [Int.reduceToNat, List.set_cons_succ, List.set_cons_zero] at M')
  | refine iteT ?_ | refine iteF ?_ | refine k_iteNE ?_ | refine k_iteNS ?_ | refine k_iteNT ?_ | refine k_iteNF ?_
  | (refine k_iteD ?_ ?_ <;> intro hc <;> first | (exfalso; omega) | skip)
  | (refine k_iteN ?_ ?_ <;> intro hc <;> first | (exfalso; omega) | skip)
  | (refine' k_ownN ?k1 ?_; (case k1 => walk_at "hp")) | (refine' k_ownO ?k1 ?k2 ?_; (case k1 => walk_at "hp"); (case k2 => walk_at "hp")) | (refine' k_ownEq ?k1 ?k2 ?_; (case k1 => walk_at "hp"); (case k2 => walk_at "hp"))
  | (refine' k_ownIn ?k1 ?_; (case k1 => walk_at "hp")) | (refine' k_ownU ?k1 ?_; (case k1 => walk_at "hp")) | (refine' k_ownStr ?k1 ?_; (case k1 => walk_at "hp"))
  | (refine' k_prop ?k1 ?_; (case k1 => walk_at "hp")) | (refine' k_ownNe ?k1 ?k2 ?_; (case k1 => walk_at "hp"); (case k2 => walk_at "hp")) | (refine' k_eqP ?k1 ?k2 ?_; (case k1 => walk_at "hp"); (case k2 => walk_at "hp")) | (refine' k_neP ?k1 ?k2 ?_; (case k1 => walk_at "hp"); (case k2 => walk_at "hp"))
  | (refine' k_isiO ?k1 ?k2 ?k3 ?k4 ?k5 ?k6 ?_; (case k1 => walk_at "hp"); (case k2 => assumption); (case k3 => assumption); (case k4 => assumption); (case k5 => assumption); (case k6 => assumption))
  | (refine' k_isiI ?k1 ?_; (case k1 => assumption))
  | (refine' k_jst ?k1 ?_; (case k1 => walk_at "size")) | (refine' k_fmtI ?k1 ?_; (case k1 => exact log2_64 (by omega) (by omega))) | (refine' k_strI ?k1 ?_; (case k1 => exact log2_64 (by omega) (by omega)))
  | (refine k_addS ?k1 ?_; (case k1 => walk_at "size")) | refine k_st ?_ | refine k_parti ?_
  | (refine' k_cat ?k1 ?k2 ?k3 ?k4 ?_; (case k1 => assumption); (case k2 => walk_at "hp"); (case k3 => walk_at "hp"); (case k4 => walk_at "size"); intro p' H' M')
  | (refine' k_slL ?k1 ?k2 ?_; (case k1 => assumption); (case k2 => first | assumption | exact SqL.of (by walk_at "hp")); intro p' H' M')
  | (refine k_rng1 ?k1 ?k2 ?_; (case k1 => omega); (case k2 => omega)) | (refine k_rng2 ?k1 ?k2 ?k3 ?k4 ?_; (case k1 => omega); (case k2 => omega); (case k3 => omega); (case k4 => omega))
  | (refine' k_lstAt ?k1 ?_; (case k1 => first | assumption | exact SqL.of (by walk_at "hp"))) | (refine' k_tupAt ?k1 ?_; (case k1 => first | assumption | exact SqT.of (by walk_at "hp")))
  | (refine' k_isXs ?k1 ?k2 ?_; (case k1 => assumption); (case k2 => walk_at "hp")) | (refine' k_isXo ?k1 ?k2 ?k3 ?_; (case k1 => assumption); (case k2 => walk_at "hp"); (case k3 => assumption)) | (refine' k_isXt ?k1 ?k2 ?k3 ?_; (case k1 => assumption); (case k2 => walk_at "hp"); (case k3 => assumption))
  | (refine' k_isX3 ?k1 ?k2 ?k3 ?k4 ?_; (case k1 => assumption); (case k2 => walk_at "hp"); (case k3 => walk_at "hp"); (case k4 => assumption)) | (refine' k_isX2 ?k1 ?k2 ?k3 ?k4 ?_; (case k1 => assumption); (case k2 => walk_at "hp"); (case k3 => walk_at "hp"); (case k4 => assumption))
  | (refine' k_tyL ?k1 ?_; (case k1 => walk_at "hp"))
  | (refine' k_appL0 ?k1 ?k2 ?_; (case k1 => assumption); (case k2 => walk_at "size"); intro H' M') | (refine' k_appL1 ?k1 ?k2 ?_; (case k1 => assumption); (case k2 => walk_at "size"); intro H' M') | (refine' k_appL2 ?k1 ?k2 ?_; (case k1 => assumption); (case k2 => walk_at "size"); intro H' M') | (refine' k_appL3 ?k1 ?k2 ?_; (case k1 => assumption); (case k2 => walk_at "size"); intro H' M')
  | (refine' k_revL0 ?k1 ?_; (case k1 => assumption); intro H' M') | (refine' k_revL1 ?k1 ?_; (case k1 => assumption); intro H' M')
  | (refine' k_isX0s ?k1 ?_; (case k1 => assumption)) | (refine' k_isX0o ?k1 ?k2 ?_; (case k1 => assumption); (case k2 => assumption)) | (refine' k_isX0t ?k1 ?k2 ?_; (case k1 => assumption); (case k2 => assumption)) | (refine' k_isX04 ?k1 ?k2 ?k3 ?_; (case k1 => assumption); (case k2 => walk_at "hp"); (case k3 => assumption))
  | (refine' k_isX4 ?k1 ?k2 ?k3 ?k4 ?_; (case k1 => assumption); (case k2 => walk_at "hp"); (case k3 => walk_at "hp"); (case k4 => assumption)) | (refine' k_ixT2 ?k1 ?k2 ?k3 ?_; (case k1 => walk_at "hp"); (case k2 => omega); (case k3 => omega); intro n' hn')
  | (refine k_iteNEq ?k1 ?_; (case k1 => (rw [Bool.eq_iff_iff]; first | (simp; done) | (simp; omega))))
  | (refine' k_xf ?k1 ?k2 ?_; (case k1 => walk_at "hp"); (case k2 => first | exact xd1 | exact xdH | exact xd2 (by decide +kernel)))
  | (refine' k_caught ?k1 ?_; (case k1 => assumption); intro a' ha')
  | refine k_asgT ?_ | refine k_gCons ?_ | refine k_gNil ?_ | refine k_par ?_ | refine k_two ?_ | refine k_isNn ?_ | refine k_isNi ?_ | refine k_notNn ?_ | refine k_notNi ?_ | refine k_isN ?_ | refine k_notN ?_
  | (refine' k_gTup ?k1 ?k2 ?_; (case k1 => walk_at "hp"); (case k2 => with_unfolding_all rfl))
  | (refine' k_isiT ?k1 ?k2 ?_; (case k1 => walk_at "hp"); (case k2 => assumption)) | (refine' k_isiL ?k1 ?k2 ?_; (case k1 => walk_at "hp"); (case k2 => assumption))
  | (refine' k_ixQ ?k1 ?k2 ?_; (case k1 => assumption); (case k2 => walk_at "look")) | (refine' k_lenQ ?k1 ?_; (case k1 => assumption))
  | (refine' k_xfB ?k1 ?k2 ?_; (case k1 => walk_at "hp"); (case k2 => first | exact xd1 | exact xdH | exact xd2 (by decide +kernel)))
  | (refine' k_all ?k1 ?_; (case k1 => walk_at "hp"))
  | (refine' k_tupleOf ?k1 ?k2 ?_; (case k1 => assumption); (case k2 => exact SqL.of (by walk_at "hp")); intro p' H' M')
  | (refine' k_listOf ?k1 ?k2 ?_; (case k1 => assumption); (case k2 => exact Or.inl (SqL.of (by walk_at "hp"))); intro p' H' M')
  | walk_at "use")
local macro_rules | `(tactic| walk_at "go") => `(tactic| repeat' (walk_at "go1"))

local macro_rules | `(tactic| walk_at "eq") => `(tactic| first | rfl | assumption | omega)
local macro_rules | `(tactic| walk_at "fld") => `(tactic| exact xdH)
local macro_rules | `(tactic| walk_at "size") => `(tactic| first | exact sz (by first | omega | (simp only [List.length_map, List.length_range, List.length_append, List.length_cons, List.length_nil, Int.reduceSub, Int.reduceToNat, Int.reduceNeg]; omega)) | (exact Nat.lt_of_le_of_lt (m := 50000) (by first | omega | (simp only [List.length_map, List.length_range, List.length_append, List.length_cons, List.length_nil]; omega)) (by decide)))
section
variable {P : Program} {w : World} {K : PySem.W.Frag} {mg : Str → Option Value} {base : Heap} {C CR fR aS : Addr}
local macro_rules | `(tactic| walk_at "use") => `(tactic| with_reducible first
  | refine use_isn ?_
  | refine k_intB ?_
  | (refine' use_take ?k1 ?k2 ?k3 ?k4 ?k5 ?k6 ?_; (case k1 => assumption); (case k2 => simp); (case k3 => omega); (case k4 => omega); (case k5 => omega); (case k6 => omega); intro d' n' c' H' a1' a2' a3' a4' M'))
theorem k_notinI {H : Hp} {Q : VK} {p : Addr} {n : Int} {ns : List Int} (h : SqL K H p (ns.map V.int) ∨ SqT K H p (ns.map V.int)) (q : Q (.bl (!decide (n ∈ ns))) H) : rIn K true (.int n) (.ref p) H Q :=
  ⟨p, _, rfl, h, rfl, flat_ints, by show Q (.bl (!inV (.int n) (ns.map V.int))) H; rw [inV_ints]; exact q⟩
def sp_ask : Sp := fun vs H Q _ => ∃ (w : Addr) (many : Int) (ws : List V) (trs : List Tr3), vs = [.ref w, .int many] ∧ H w = some (.lst ws) ∧ Trs H ws trs ∧ (∀ t ∈ trs, 0 ≤ t.1 ∧ t.1 < many ∧ 0 ≤ t.2.1 ∧ t.2.1 < many) ∧ ws.length ≤ 400 ∧ 0 ≤ many ∧ many ≤ 20 ∧
  ∀ d (ns : List Int) H' l2, ns.length = many.toNat → Mem H [] H' [] ((d, .lst (ns.map V.int)) :: l2) → Q (.ref d) H'
theorem ok_ask {f : Addr} {fd : FuncData} (F : Fun K "_law_asked_ages" "_law_asked_ages" s__law_asked_ages f fd) (T : Txt P K mg C CR fR aS)  :
    FnOk P w K mg base (L2.CX P w) (0 + 1) f fd ["_law_triples", "_law_many"] sp_ask := by
  refine okT F sc__law_asked_ages (fun vs H Q E h => ?_) (fun cdv A outer s H vs Q E hr tk h => ?_)
  · obtain ⟨w, many, ws, trs, rfl, _⟩ := h
    rfl
  obtain ⟨w, many, ws, trs, rfl, hw, pw, hrg, hwl, hm0, hm1, k⟩ := h
  have f1 := T.i1; have f2 := T.i2; have f3 := T.i3; have f4 := T.i4; have f6 := T.cl; have f7 := T.nT
  refine ⟨_, (pss_cons (ps_set (i := 2) sc__law_asked_ages.nd rfl (Or.inl rfl) (pe_op op_rep (pe_lst (pa_cons pe_int pa_nil)) (pv 1)))
      (pss_cons (ps_for (passes_of rfl) rfl (pi_range1 (by rfl) T.b_range (pa_cons (pv 1) pa_nil)) (pg_name (i := 3) sc__law_asked_ages.nd rfl (Or.inl rfl)) (pss_one (ps_for (passes_of rfl) rfl (pi_list (pv 0)) (pg_tup rfl (pgs_cons (pg_name (i := 4) sc__law_asked_ages.nd rfl (Or.inl rfl)) (pgs_cons (pg_name (i := 5) sc__law_asked_ages.nd rfl (Or.inl rfl)) (pgs_cons (pg_name (i := 6) sc__law_asked_ages.nd rfl (Or.inl rfl)) pgs_nil)))) (pss_cons (ps_if (pt_cmpR (op_inD (units65 hr)) (pv 6) (pe_lst (pa_cons (pe_tup (pa_cons pe_negC pa_nil)) (pa_cons (pe_tup (pa_cons pe_negC (pa_cons pe_int pa_nil))) pa_nil))) rfl) (pss_one (ps_asg (pe_callB (b_max2 rfl) (by rfl) T.b_max (by decide +kernel) (pa_cons (pe_ix ix_list (pv 2) (pv 5) (fun _ _ => rfl)) (pa_cons (pe_op op_add (pe_op op_sub (pe_op op_sub (pe_ix ix_list (pv 2) (pv 4) (fun _ _ => rfl)) (pe_ix ix_tup (pv 6) pe_int (fun _ _ => rfl))) (pe_callB b_len (by rfl) T.b_len (by decide +kernel) (pa_cons (pv 6) pa_nil))) pe_int) pa_nil))) (pg_sub (pv 2) (pv 5) set_list))) pss_nil)
      (pss_one (ps_if (pt_cmpR (op_inD (units65 hr)) (pv 6) (pe_lst (pa_cons (pe_tup (pa_cons pe_int pa_nil)) (pa_cons (pe_tup (pa_cons pe_int (pa_cons pe_int pa_nil))) pa_nil))) rfl) (pss_one (ps_asg (pe_callB (b_max2 rfl) (by rfl) T.b_max (by decide +kernel) (pa_cons (pe_ix ix_list (pv 2) (pv 4) (fun _ _ => rfl)) (pa_cons (pe_op op_add (pe_ix ix_list (pv 2) (pv 5) (fun _ _ => rfl)) (pe_ix ix_tup (pv 6) pe_int (fun _ _ => rfl))) pa_nil))) (pg_sub (pv 2) (pv 4) set_list))) pss_nil))))))
      (pss_one (ps_ret (pv 2))))), ?_⟩
  simp only [cxK, st__law_asked_ages]
  have M : Mem H [] H [] [] := mem_start (by simp []) (by simp) (by simp)
  walk_at "go"
  rename_i z0 H0 M0
  refine k_rep M0 (M0.getL List.mem_cons_self) hm0 (by omega) fun p0 H1 M1 => ?_
  walk_at "go"
  refine rng_loop ⟨fun i σ' H' => ∃ (ns : List Int) (l' : List (Addr × HO)) (v3 v4 v5 v6 : Option V), σ' = [some (.ref w), some (.int many), some (.ref p0), v3, v4, v5, v6] ∧ ns.length = many.toNat ∧ Mem H [] H' [] ((p0, .lst (ns.map V.int)) :: l'), ?_, ?_, ?_⟩
  · exact ⟨_, _, _, _, _, _, rfl, by rw [List.length_replicate], M1⟩
  · rintro i σ' H' hi ⟨ns, l', v3, v4, v5, v6, rfl, hnl, M'⟩
    have hw' := M'.atB0 hw
    walk_at "go"
    refine lst_loop (xs := ws) ⟨fun j σ' H' => ∃ (ns : List Int) (l' : List (Addr × HO)) (v4 v5 v6 : Option V), σ' = [some (.ref w), some (.int many), some (.ref p0), some (.int (0 + (i : Int))), v4, v5, v6] ∧ ns.length = many.toNat ∧ Mem H [] H' [] ((p0, .lst (ns.map V.int)) :: l'), ?_, ?_, ?_, ?_⟩
    · exact ⟨_, _, _, _, _, rfl, hnl, M'⟩
    · rintro j σ' H' _ ⟨ns, l', v4, v5, v6, rfl, hnl, M'⟩
      exact SqL.of (M'.atB0 hw)
    · rintro j x σ' H' hx ⟨ns, l', v4, v5, v6, rfl, hnl, M'⟩
      obtain ⟨tr, pt, htr, rfl, qt, hpt, hqt⟩ := pw.get hx
      obtain ⟨r1, r2, r3, r4⟩ := hrg tr (List.mem_of_getElem? htr)
      have hpt' := M'.atB0 hpt
      have hqt' := M'.atB0 hqt
      walk_at "go"
      rename_i x1 _ N1 x2 _ N2 bA HA MA
      refine k_inRows (r := tr.2.2) (rows := [[-1], [-1, 0]]) (SqT.of (MA.atB0 hqt)) (MA.getL List.mem_cons_self) (PX.cons (MA.getL (by simp)) (PX.cons (MA.getL (by simp)) PX.nil)) ?_
      have gA := MA.atB0 hqt
      have FA := Mem.front (l1 := [(bA, _), (x2, _), (x1, _)]) (z := (p0, .lst (ns.map V.int))) (l2 := l') MA
      by_cases h1 : tr.2.2 ∈ [[-1], [-1, 0]]
      · rw [decide_eq_true h1]
        have hps : 0 < tr.2.2.length := by
          simp only [List.mem_cons, List.not_mem_nil, or_false] at h1
          rcases h1 with e | e <;> rw [e] <;> decide
        walk_at "go"
        all_goals
          refine k_setI FA (by omega) (by rw [List.length_map]; omega) fun HC MC => ?_
          rw [← List.map_set] at MC
          have gC := MC.atB0 hqt
          walk_at "go"
          rename_i y1 _ N3 y2 _ N4 bB HB MB
          refine k_inRows (r := tr.2.2) (rows := [[1], [0, 1]]) (SqT.of (MB.atB0 hqt)) (MB.getL List.mem_cons_self) (PX.cons (MB.getL (by simp)) (PX.cons (MB.getL (by simp)) PX.nil)) ?_
          have h2 : ¬ tr.2.2 ∈ [[1], [0, 1]] := by
            simp only [List.mem_cons, List.not_mem_nil, or_false] at h1
            rcases h1 with e | e <;> rw [e] <;> decide
          rw [decide_eq_false h2]
          walk_at "go"
          exact ⟨_, _, _, _, _, rfl, (List.length_set).trans hnl, Mem.front (l1 := [(bB, _), (y2, _), (y1, _)]) MB⟩
      · rw [decide_eq_false h1]
        walk_at "go"
        rename_i y1 _ N3 y2 _ N4 bB HB MB
        refine k_inRows (r := tr.2.2) (rows := [[1], [0, 1]]) (SqT.of (MB.atB0 hqt)) (MB.getL List.mem_cons_self) (PX.cons (MB.getL (by simp)) (PX.cons (MB.getL (by simp)) PX.nil)) ?_
        have gB := MB.atB0 hqt
        have FB := Mem.front (l1 := [(bB, _), (y2, _), (y1, _)]) MB
        by_cases h2 : tr.2.2 ∈ [[1], [0, 1]]
        · rw [decide_eq_true h2]
          have hps : 0 < tr.2.2.length := by
            simp only [List.mem_cons, List.not_mem_nil, or_false] at h2
            rcases h2 with e | e <;> rw [e] <;> decide
          walk_at "go"
          all_goals
            refine k_setI FB (by omega) (by rw [List.length_map]; omega) fun HC MC => ?_
            rw [← List.map_set] at MC
            exact ⟨_, _, _, _, _, rfl, (List.length_set).trans hnl, MC⟩
        · rw [decide_eq_false h2]
          walk_at "go"
          exact ⟨_, _, _, _, _, rfl, hnl, FB⟩
    · rintro σ' H' ⟨ns, l', v4, v5, v6, rfl, hnl, M'⟩
      walk_at "go"
      exact ⟨_, _, _, _, _, _, rfl, hnl, M'⟩
  · rintro σ' H' ⟨ns, l', v3, v4, v5, v6, rfl, hnl, M'⟩
    walk_at "go"
    exact k p0 ns H' l' hnl M'
end
end K35

set_option Elab.async false
set_option linter.all false
set_option maxRecDepth 100000
set_option maxHeartbeats 8000000
namespace K35
open PySem L2 MyL
local macro_rules | `(tactic| walk_at "mem") => `(tactic| first | exact List.mem_cons_self | (refine List.mem_cons_of_mem _ ?_; walk_at "mem"))
local macro_rules | `(tactic| walk_at "hp") => `(tactic| first | assumption | (refine' Mem.getL ?k1 ?k2; (case k1 => assumption); (case k2 => walk_at "mem")) | (refine' Mem.getF ?k1 ?k2; (case k1 => assumption); (case k2 => walk_at "mem")) | (refine' Mem.atB ?k1 ?k2; (case k1 => assumption); (case k2 => assumption)))
local macro_rules | `(tactic| walk_at "cond") => `(tactic| first | omega | assumption | exact mulR (by omega) (by omega) | exact mulL (by omega) (by omega) | exact divW (by omega) (by omega) | decide)
local macro_rules | `(tactic| walk_at "look") => `(tactic| first | assumption | with_unfolding_all rfl | exact atI_map (by omega) (by omega))
local macro_rules | `(tactic| walk_at "go1") => `(tactic| with_reducible first
  | refine k_seq ?_ | refine k_gName ?_ | refine k_asg ?_ | refine k_ret ?_ | refine k_ifS ?_ | refine k_drop ?_ | refine k_next ?_ | refine k_break ?_ | refine k_cont ?_ | refine k_retN ?_
  | (refine' k_var ?k1 ?_; (case k1 => with_unfolding_all rfl)) | refine k_c ?_ | refine k_op ?_ | refine k_un ?_ | refine k_test ?_ | refine k_B ?_ | refine k_bl ?_ | refine k_and ?_ | refine k_or ?_ | refine k_not ?_
  | refine k_andV ?_ | refine k_orV ?_ | refine k_notV ?_ | refine k_ifE ?_ | refine k_nil ?_ | refine k_cons ?_ | refine k_cb ?_ | refine k_callS ?_ | refine k_lst0 ?_ | refine k_tup0 ?_ | refine k_fld0 ?_ | refine k_sub0 ?_ | refine k_make0 ?_ | refine k_prop0 ?_ | refine k_sta0 ?_ | refine k_sta ?_ | refine k_bm ?_ | refine k_bm0 ?_ | refine k_chain ?_ | refine k_makeK0 ?_ | refine k_swapK ?_ | refine k_meth0 ?_ | refine k_ownN0 ?_ | refine k_ownO0 ?_ | refine k_sfld0 ?_ | refine k_jnil ?_ | refine k_jcons ?_ | refine k_fmt0 ?_ | refine k_sl0 ?_ | refine k_nopart ?_ | refine k_part ?_ | refine k_forR1 ?_ | refine k_forR2 ?_ | refine k_forL ?_ | refine k_forT ?_ | refine k_lcR1 ?_ | refine k_lcR2 ?_ | refine k_lcL ?_ | refine k_lcT ?_ | refine k_err0 ?_ | refine k_xf0 ?_ | refine k_errQ1 ?_ | refine k_errQ0 ?_ | refine k_errQ2 ?_ | refine k_errQ3 ?_
  | refine k_I0 ?_ | (refine k_I ?k1 ?_; (case k1 => walk_at "cond")) | refine k_U ?_ | refine k_eqI ?_ | refine k_neI ?_ | refine k_eqB ?_ | refine k_neB ?_ | refine k_eqS ?_ | refine k_neS ?_
  | refine k_int1 ?_ | refine k_abs1 ?_ | refine k_min2 ?_ | refine k_max2 ?_
  | (refine' k_lenM ?k1 ?_; (case k1 => walk_at "hp")) | (refine' k_lenL ?k1 ?_; (case k1 => walk_at "hp")) | (refine' k_lenT ?k1 ?_; (case k1 => walk_at "hp"))
  | (refine' k_lenS ?k1 ?_; (case k1 => assumption)) | (refine' k_ixS ?k1 ?k2 ?_; (case k1 => assumption); (case k2 => walk_at "look"))
  | (refine' k_ixL ?k1 ?k2 ?_; (case k1 => walk_at "hp"); (case k2 => walk_at "look")) | (refine' k_ixT ?k1 ?k2 ?_; (case k1 => walk_at "hp"); (case k2 => walk_at "look"))
  | (refine' k_ix4 ?k1 ?k2 ?k3 ?_; (case k1 => walk_at "hp"); (case k2 => omega); (case k3 => omega); intro n' hn')
  | (refine' k_ix3 ?k1 ?k2 ?k3 ?_; (case k1 => walk_at "hp"); (case k2 => omega); (case k3 => omega); intro n' hn')
  | (refine' k_ix2 ?k1 ?k2 ?k3 ?_; (case k1 => walk_at "hp"); (case k2 => omega); (case k3 => omega); intro n' hn')
  | (refine' k_fld ?k1 ?k2 ?k3 ?k4 ?_; (case k1 => walk_at "hp"); (case k2 => assumption); (case k3 => assumption); (case k4 => walk_at "fld"))
  | (refine' k_lst ?k1 ?k2 ?_; (case k1 => assumption); (case k2 => exact sz (by simp)); intro p' H' M')
  | (refine' k_tup ?k1 ?k2 ?_; (case k1 => assumption); (case k2 => exact sz (by simp)); intro p' H' M')
  | (refine' k_setF0 ?k1 ?k2 ?k3 ?_; (case k1 => assumption); (case k2 => simp); (case k3 => with_unfolding_all rfl); intro H' M'; try simp only [Int.reduceToNat, List.set_cons_succ, List.set_cons_zero] at M')
  | (refine' k_setL0 ?k1 ?k2 ?_; (case k1 => assumption); (case k2 => with_unfolding_all rfl); intro H' M'; try simp only [Int.reduceToNat, List.set_cons_succ, List.set_cons_zero] at M')
  | (refine' k_setL1 ?k1 ?k2 ?_; (case k1 => assumption); (case k2 => with_unfolding_all rfl); intro H' M'; try simp only [Int.reduceToNat, List.set_cons_succ, List.set_cons_zero] at M')
  | (refine' k_setL2 ?k1 ?k2 ?_; (case k1 => assumption); (case k2 => with_unfolding_all rfl); intro H' M'; try simp only [Int.reduceToNat, List.set_cons_succ, List.set_cons_zero] at M')
  | refine iteT ?_ | refine iteF ?_ | refine k_iteNE ?_ | refine k_iteNS ?_ | refine k_iteNT ?_ | refine k_iteNF ?_
  | (refine k_iteD ?_ ?_ <;> intro hc <;> first | (exfalso; omega) | skip)
  | (refine k_iteN ?_ ?_ <;> intro hc <;> first | (exfalso; omega) | skip)
  | (refine' k_ownN ?k1 ?_; (case k1 => walk_at "hp")) | (refine' k_ownO ?k1 ?k2 ?_; (case k1 => walk_at "hp"); (case k2 => walk_at "hp")) | (refine' k_ownEq ?k1 ?k2 ?_; (case k1 => walk_at "hp"); (case k2 => walk_at "hp"))
  | (refine' k_ownIn ?k1 ?_; (case k1 => walk_at "hp")) | (refine' k_ownU ?k1 ?_; (case k1 => walk_at "hp")) | (refine' k_ownStr ?k1 ?_; (case k1 => walk_at "hp"))
  | (refine' k_prop ?k1 ?_; (case k1 => walk_at "hp")) | (refine' k_ownNe ?k1 ?k2 ?_; (case k1 => walk_at "hp"); (case k2 => walk_at "hp")) | (refine' k_eqP ?k1 ?k2 ?_; (case k1 => walk_at "hp"); (case k2 => walk_at "hp")) | (refine' k_neP ?k1 ?k2 ?_; (case k1 => walk_at "hp"); (case k2 => walk_at "hp"))
  | (refine' k_isiO ?k1 ?k2 ?k3 ?k4 ?k5 ?k6 ?_; (case k1 => walk_at "hp"); (case k2 => assumption); (case k3 => assumption); (case k4 => assumption); (case k5 => assumption); (case k6 => assumption))
  | (refine' k_isiI ?k1 ?_; (case k1 => assumption))
  | (refine' k_jst ?k1 ?_; (case k1 => walk_at "size")) | (refine' k_fmtI ?k1 ?_; (case k1 => exact log2_64 (by omega) (by omega))) | (refine' k_strI ?k1 ?_; (case k1 => exact log2_64 (by omega) (by omega)))
  | (refine k_addS ?k1 ?_; (case k1 => walk_at "size")) | refine k_st ?_ | refine k_parti ?_
  | (refine' k_cat ?k1 ?k2 ?k3 ?k4 ?_; (case k1 => assumption); (case k2 => walk_at "hp"); (case k3 => walk_at "hp"); (case k4 => walk_at "size"); intro p' H' M')
  | (refine' k_slL ?k1 ?k2 ?_; (case k1 => assumption); (case k2 => first | assumption | exact SqL.of (by walk_at "hp")); intro p' H' M')
  | (refine k_rng1 ?k1 ?k2 ?_; (case k1 => omega); (case k2 => omega)) | (refine k_rng2 ?k1 ?k2 ?k3 ?k4 ?_; (case k1 => omega); (case k2 => omega); (case k3 => omega); (case k4 => omega))
  | (refine' k_lstAt ?k1 ?_; (case k1 => first | assumption | exact SqL.of (by walk_at "hp"))) | (refine' k_tupAt ?k1 ?_; (case k1 => first | assumption | exact SqT.of (by walk_at "hp")))
  | (refine' k_isXs ?k1 ?k2 ?_; (case k1 => assumption); (case k2 => walk_at "hp")) | (refine' k_isXo ?k1 ?k2 ?k3 ?_; (case k1 => assumption); (case k2 => walk_at "hp"); (case k3 => assumption)) | (refine' k_isXt ?k1 ?k2 ?k3 ?_; (case k1 => assumption); (case k2 => walk_at "hp"); (case k3 => assumption))
  | (refine' k_isX3 ?k1 ?k2 ?k3 ?k4 ?_; (case k1 => assumption); (case k2 => walk_at "hp"); (case k3 => walk_at "hp"); (case k4 => assumption)) | (refine' k_isX2 ?k1 ?k2 ?k3 ?k4 ?_; (case k1 => assumption); (case k2 => walk_at "hp"); (case k3 => walk_at "hp"); (case k4 => assumption))
  | (refine' k_tyL ?k1 ?_; (case k1 => walk_at "hp"))
  | (refine' k_appL0 ?k1 ?k2 ?_; (case k1 => assumption); (case k2 => walk_at "size"); intro H' M') | (refine' k_appL1 ?k1 ?k2 ?_; (case k1 => assumption); (case k2 => walk_at "size"); intro H' M') | (refine' k_appL2 ?k1 ?k2 ?_; (case k1 => assumption); (case k2 => walk_at "size"); intro H' M') | (refine' k_appL3 ?k1 ?k2 ?_; (case k1 => assumption); (case k2 => walk_at "size"); intro H' M')
  | (refine' k_revL0 ?k1 ?_; (case k1 => assumption); intro H' M') | (refine' k_revL1 ?k1 ?_; (case k1 => assumption); intro H' M')
  | (refine' k_isX0s ?k1 ?_; (case k1 => assumption)) | (refine' k_isX0o ?k1 ?k2 ?_; (case k1 => assumption); (case k2 => assumption)) | (refine' k_isX0t ?k1 ?k2 ?_; (case k1 => assumption); (case k2 => assumption)) | (refine' k_isX04 ?k1 ?k2 ?k3 ?_; (case k1 => assumption); (case k2 => walk_at "hp"); (case k3 => assumption))
  | (refine' k_isX4 ?k1 ?k2 ?k3 ?k4 ?_; (case k1 => assumption); (case k2 => walk_at "hp"); (case k3 => walk_at "hp"); (case k4 => assumption)) | (refine' k_ixT2 ?k1 ?k2 ?k3 ?_; (case k1 => walk_at "hp"); (case k2 => omega); (case k3 => omega); intro n' hn')
  | (refine k_iteNEq ?k1 ?_; (case k1 => (rw [Bool.eq_iff_iff]; first | (simp; done) | (simp; omega))))
  | (refine' k_xf ?k1 ?k2 ?_; (case k1 => walk_at "hp"); (case k2 => first | exact xd1 | exact xdH | exact xd2 (by decide +kernel)))
  | (refine' k_caught ?k1 ?_; (case k1 => assumption); intro a' ha')
  | refine k_asgT ?_ | refine k_gCons ?_ | refine k_gNil ?_ | refine k_par ?_ | refine k_two ?_ | refine k_isNn ?_ | refine k_isNi ?_ | refine k_notNn ?_ | refine k_notNi ?_ | refine k_isN ?_ | refine k_notN ?_
  | (refine' k_gTup ?k1 ?k2 ?_; (case k1 => walk_at "hp"); (case k2 => with_unfolding_all rfl))
  | (refine' k_isiT ?k1 ?k2 ?_; (case k1 => walk_at "hp"); (case k2 => assumption)) | (refine' k_isiL ?k1 ?k2 ?_; (case k1 => walk_at "hp"); (case k2 => assumption))
  | (refine' k_ixQ ?k1 ?k2 ?_; (case k1 => assumption); (case k2 => walk_at "look")) | (refine' k_lenQ ?k1 ?_; (case k1 => assumption))
  | (refine' k_xfB ?k1 ?k2 ?_; (case k1 => walk_at "hp"); (case k2 => first | exact xd1 | exact xdH | exact xd2 (by decide +kernel)))
  | (refine' k_all ?k1 ?_; (case k1 => walk_at "hp"))
  | (refine' k_tupleOf ?k1 ?k2 ?_; (case k1 => assumption); (case k2 => exact SqL.of (by walk_at "hp")); intro p' H' M')
  | (refine' k_listOf ?k1 ?k2 ?_; (case k1 => assumption); (case k2 => exact Or.inl (SqL.of (by walk_at "hp"))); intro p' H' M')
  | walk_at "use")
local macro_rules | `(tactic| walk_at "go") => `(tactic| repeat' (walk_at "go1"))

local macro_rules | `(tactic| walk_at "eq") => `(tactic| first | rfl | assumption | omega)
local macro_rules | `(tactic| walk_at "fld") => `(tactic| exact xdH)
local macro_rules | `(tactic| walk_at "size") => `(tactic| first | exact sz (by first | omega | (simp only [List.length_map, List.length_range, List.length_append, List.length_cons, List.length_nil, Int.reduceSub, Int.reduceToNat, Int.reduceNeg]; omega)) | (exact Nat.lt_of_le_of_lt (m := 50000) (by first | omega | (simp only [List.length_map, List.length_range, List.length_append, List.length_cons, List.length_nil]; omega)) (by decide)))
section
variable {P : Program} {w : World} {K : PySem.W.Frag} {mg : Str → Option Value} {base : Heap} {C CR fR aS : Addr}
local macro_rules | `(tactic| walk_at "use") => `(tactic| with_reducible first
  | refine use_isn ?_
  | refine k_intB ?_
  | (refine' use_take ?k1 ?k2 ?k3 ?k4 ?k5 ?k6 ?_; (case k1 => assumption); (case k2 => simp); (case k3 => omega); (case k4 => omega); (case k5 => omega); (case k6 => omega); intro d' n' c' H' a1' a2' a3' a4' M'))
section
variable {σ : L2.St} {H : Hp} {Q : VK} {te : TE} {B : Hp} {ms : List Addr} {f l : List (Addr × HO)} {vs : List Nat} {bg : Addr} {fl n0 c0 : Int}
theorem lcR_bagI {lo : Int} {n j : Nat} (e : Int) (M : Mem B ms H ((bg, bagO fl n0 c0) :: f) l) (hc0 : 0 ≤ c0) (hn : n ≤ 50000) (hw : ∀ x, wipe ((wipe σ vs).set j (some x)) vs = wipe σ vs)
    (he : ∀ (i : Nat) n' c' H' D acc (R : VK), i < n → 0 ≤ c' → c' ≤ c0 + e * i → Mem B ms H' ((bg, bagO fl n' c') :: f) ((D, .lst acc) :: l) → (∀ d n2 c2 H4, 0 ≤ c2 → c2 ≤ c' + e → Mem B ms H4 ((bg, bagO fl n2 c2) :: f) ((D, .lst acc) :: l) → R (.int d) H4) → te ((wipe σ vs).set j (some (.int (lo + i)))) H' R)
    (k : ∀ (D : Addr) (ns : List Int) n' c' H', ns.length = n → 0 ≤ c' → c' ≤ c0 + e * n → Mem B ms H' ((bg, bagO fl n' c') :: f) ((D, .lst (ns.map V.int)) :: l) → Q (.ref D) H') : tLc (iJ (Itr lo n)) (gName j) tYes te vs σ H Q := by
  refine lc_rng fun D hD => ⟨fun i H' => ∃ (ns : List Int) (n' c' : Int), ns.length = i ∧ 0 ≤ c' ∧ c' ≤ c0 + e * i ∧ Mem B ms H' ((bg, bagO fl n' c') :: f) ((D, .lst (ns.map V.int)) :: l), ⟨[], n0, c0, rfl, hc0, by simp, M.alloc hD⟩, ?_, ?_⟩
  · rintro i H' hi ⟨ns, n', c', hl, h0, h1, M'⟩
    refine ⟨hw _, ?_⟩
    refine iteT (B := ∃ (ns : List Int) (n' c' : Int), ns.length = i + 1 ∧ 0 ≤ c' ∧ c' ≤ c0 + e * ((i + 1 : Nat) : Int) ∧ Mem B ms H' ((bg, bagO fl n' c') :: f) ((D, .lst (ns.map V.int)) :: l)) (he i n' c' H' D _ _ hi h0 h1 M' fun d n2 c2 H4 a1 a2 M4 => ⟨_, M4.getL List.mem_cons_self, ?_, ?_⟩)
    · rw [List.length_map, hl]; exact Nat.lt_of_lt_of_le hi (Nat.le_trans hn (by decide))
    · have ee : e * ((i + 1 : Nat) : Int) = e * (i : Int) + e := by rw [show ((i + 1 : Nat) : Int) = (i : Int) + 1 from rfl, Int.mul_add, Int.mul_one]
      refine ⟨ns ++ [d], n2, c2, by rw [List.length_append, hl]; rfl, a1, by omega, ?_⟩
      rw [List.map_append]
      exact Mem.setL (l1 := []) M4
  · rintro H' ⟨ns, n', c', hl, h0, h1, M'⟩
    exact k D ns n' c' H' hl h0 h1 M'
end
theorem use_ask {B H : Hp} {ms : List Addr} {f l : List (Addr × HO)} {Q : VK} {E : XK} {w : Addr} {many : Int} {ws : List V} {trs : List Tr3} (M : Mem B ms H f l) (h1 : H w = some (.lst ws)) (h2 : Trs H ws trs) (h3 : ∀ t ∈ trs, 0 ≤ t.1 ∧ t.1 < many ∧ 0 ≤ t.2.1 ∧ t.2.1 < many) (h4 : ws.length ≤ 400) (h5 : 0 ≤ many) (h6 : many ≤ 20)
    (k : ∀ d (ns : List Int) H' l2, ns.length = many.toNat → Mem B ms H' f ((d, .lst (ns.map V.int)) :: (l2 ++ l)) → Q (.ref d) H') : sp_ask [.ref w, .int many] H Q E :=
  ⟨w, many, ws, trs, rfl, h1, h2, h3, h4, h5, h6, fun d ns H' l2 e M2 => k d ns H' l2 e (M.comp0 M2)⟩
abbrev Ags (H : Hp) : List V → List (List Int) → Prop := PX fun p r => H p = some (.lst (r.map V.int))
abbrev AgL (l : List (Addr × HO)) : List V → List (List Int) → Prop := PX fun p r => (p, HO.lst (r.map V.int)) ∈ l
abbrev ArAr (bg : Addr) (as : List V) (H : Hp) : Prop := ∃ (w : Addr) (many : Int) (ws : List V) (trs : List Tr3), as = [.ref w, .int many] ∧ w ≠ bg ∧ H w = some (.lst ws) ∧ Trs H ws trs ∧ (∀ t ∈ trs, 0 ≤ t.1 ∧ t.1 < many ∧ 0 ≤ t.2.1 ∧ t.2.1 < many) ∧ ws.length ≤ 400 ∧ 0 ≤ many ∧ many ≤ 20
def RAr (as : List V) (H : Hp) (v : V) (l2 : List (Addr × HO)) : Prop := ∃ (p : Addr) (xs : List V) (rs : List (List Int)), v = .ref p ∧ (p, HO.lst xs) ∈ l2 ∧ AgL l2 xs rs ∧ ∀ (w : Addr) (many : Int), as = [.ref w, .int many] → ∀ r ∈ rs, r.length = many.toNat
theorem ok_arows {f : Addr} {fd : FuncData} (F : Fun K "_law_age_rows" "_law_age_rows" s__law_age_rows f fd) (T : Txt P K mg C CR fR aS) (c__law_asked_ages : Cal P w K mg base 1 "_law_asked_ages" sp_ask) (c__law_take : Cal P w K mg base 1 "_law_take" sp_take) :
    FnOk P w K mg base (L2.CX P w) (1 + 1) f fd ["_law_bag", "_law_triples", "_law_many"] (sp_bag ArAr RAr) := by
  refine okT F sc__law_age_rows (fun vs H Q E h => ?_) (fun cdv A outer s H vs Q E hr tk h => ?_)
  · obtain ⟨bg, fl, n, c, as, rfl, ⟨w, many, ws, trs, rfl, _⟩, _⟩ := h
    rfl
  obtain ⟨bg, fl, n, c, as, rfl, ⟨w, many, ws, trs, rfl, hne, hw, pw, hrg, hwl, hm0, hm1⟩, hbg, hc0, hc1, k⟩ := h
  have f1 := T.i1; have f2 := T.i2; have f3 := T.i3; have f4 := T.i4; have f6 := T.cl; have f7 := T.nT
  refine ⟨_, (pss_cons (ps_set (i := 3) sc__law_age_rows.nd rfl (Or.inl rfl) (pe_lst (pa_cons (pe_op op_rep (pe_lst (pa_cons pe_int pa_nil)) (pv 2)) (pa_cons (pe_callTy (b_listRng rfl) (by rfl) T.b_list (by decide +kernel) (pa_cons (pe_callTy cr_range1 (by rfl) T.b_range (by decide +kernel) (pa_cons (pv 2) pa_nil)) pa_nil)) (pa_cons (pe_lc (own := [("_law_at", 6)]) (g := gName 6) (tt := tYes) rfl sc__law_age_rows.nd (pi_range1 (by rfl) T.b_range (pa_cons (pv 2) pa_nil)) (blkOk_by (own := [("_law_at", 6)]) (N := N__law_age_rows) (sc := defScope s__law_age_rows) (by decide +kernel)) (fun _ _ _ _ _ => pg_name (i := 6) sc__law_age_rows.nd rfl (Or.inl rfl)) (fun _ _ _ _ _ => pts_nil) (fun _ _ _ _ _ => (pe_op op_sub (pv 2) (pv 6)))) pa_nil)))))
      (pss_cons (ps_expr (pe_bm PySem.F.plainAttrs_list PySem.F.slot_list_append PySem.F.type_list_append mt_append (pv 3) (pa_cons (c_call c__law_asked_ages tk hr (by decide) (pa_cons (pv 1) (pa_cons (pv 2) pa_nil))) pa_nil)))
      (pss_cons (ps_for (passes_of rfl) rfl (pi_range1 (by rfl) T.b_range (pa_cons pe_int pa_nil)) (pg_name (i := 4) sc__law_age_rows.nd rfl (Or.inl rfl)) (pss_cons (ps_set (i := 5) sc__law_age_rows.nd rfl (Or.inr rfl) (pe_ix ix_list (pe_lst (pa_cons pe_int (pa_cons pe_int (pa_cons (pe_powC (n := 1000000000)) pa_nil)))) (pv 4) (fun _ _ => rfl)))
      (pss_one (ps_expr (pe_bm PySem.F.plainAttrs_list PySem.F.slot_list_append PySem.F.type_list_append mt_append (pv 3) (pa_cons (pe_lc (own := [("_law_at", 6)]) (g := gName 6) (tt := tYes) rfl sc__law_age_rows.nd (pi_range1 (by rfl) T.b_range (pa_cons (pv 2) pa_nil)) (blkOk_by (own := [("_law_at", 6)]) (N := N__law_age_rows) (sc := defScope s__law_age_rows) (by decide +kernel)) (fun _ _ _ _ _ => pg_name (i := 6) sc__law_age_rows.nd rfl (Or.inl rfl)) (fun _ _ _ _ _ => pts_nil) (fun _ _ _ _ _ => (c_call c__law_take takes0 hr (by decide) (pa_cons (pv 0) (pa_cons (pv 5) pa_nil))))) pa_nil))))))
      (pss_one (ps_ret (pv 3)))))), ?_⟩
  simp only [cxK, st__law_age_rows]
  have M : Mem H [bg] H [(bg, bagO fl n c)] [] := mem_start (by simp [hbg]) (by simp) (by simp)
  walk_at "go"
  rename_i z0 H0 M0
  refine k_rep M0 (M0.getL List.mem_cons_self) hm0 (by omega) fun a1 H1 M1 => ?_
  walk_at "go"
  refine ⟨_, rfl, fun pr hpr => ?_⟩
  have M2 := M1.alloc (o := .rng 0 many) hpr
  walk_at "go"
  refine k_listRng M2 (by omega) (by omega) (small_rng (by omega) (by omega)) fun a2 H3 M3 => ?_
  walk_at "go"
  refine lcR_pure M3 (fun (i : Nat) => V.int (many - (0 + (i : Int)))) (by omega) (fun x => rfl) ?_ ?_
  · intro i H' D R hi M' kR
    walk_at "go"
    exact kR _ M'
  intro a3 H4 M4
  have e3 : (List.range many.toNat).map (fun (i : Nat) => V.int (many - (0 + (i : Int)))) = ((List.range many.toNat).map fun (i : Nat) => many - (0 + (i : Int))).map V.int := by rw [List.map_map]; rfl
  rw [e3] at M4
  walk_at "go"
  rename_i rw0 H5 M5
  refine use_ask M5 (M5.keep _ _ hw (by simpa using hne)) (pw.mono fun p t ⟨q, e1, e2⟩ => ⟨q, M5.atX hbg e1 (by simp), M5.atX hbg e2 (by simp)⟩) hrg hwl hm0 hm1 fun a4 ns4 H6 l6 hn4 M6 => ?_
  have M7 := Mem.front (l1 := (a4, .lst (ns4.map V.int)) :: l6) (z := (rw0, _)) M6
  walk_at "go"
  rename_i H8 M8
  refine rng_loop ⟨fun i σ' H' => ∃ (xs : List V) (rs : List (List Int)) (l' : List (Addr × HO)) (v4 v5 : Option V) (n' c' : Int), σ' = [some (.ref bg), some (.ref w), some (.int many), some (.ref rw0), v4, v5, none] ∧ (∀ r ∈ rs, r.length = many.toNat) ∧ AgL l' xs rs ∧ rs.length = 4 + i ∧ 0 ≤ c' ∧ c' ≤ c + 20 * i ∧ i ≤ 3 ∧ Mem H [bg] H' [(bg, bagO fl n' c')] ((rw0, .lst xs) :: l'), ?_, ?_, ?_⟩
  · refine ⟨_, [List.replicate many.toNat 3, (List.range many.toNat).map fun (i : Nat) => (i : Int), (List.range many.toNat).map fun (i : Nat) => many - (0 + (i : Int)), ns4], _, _, _, _, _, rfl, ?_, PX.cons (by simp) (PX.cons (by simp) (PX.cons (by simp) (PX.cons (by simp) PX.nil))), rfl, hc0, by omega, by omega, M8⟩
    intro r hr
    simp only [List.mem_cons, List.not_mem_nil, or_false] at hr
    rcases hr with rfl | rfl | rfl | rfl
    · rw [List.length_replicate]
    · rw [List.length_map, List.length_range]
    · rw [List.length_map, List.length_range]
    · exact hn4
  · rintro i σ' H' hi ⟨xs, rs, l', v4, v5, n', c', rfl, hrs, pz, hrl, hc0', hc1', hi3, M'⟩
    have hxl := pz.1
    have hi2 : i < 3 := hi
    walk_at "go"
    rename_i z5 H9 M9 size hs3
    have hsz : 1 ≤ size ∧ size ≤ 1000000000 := by omega
    refine lcR_bagI 1 M9 hc0' (by omega) (fun x => rfl) ?_ ?_
    · intro u n2 c2 H2 D acc R hu h0 h1 M2 kR
      walk_at "go"
      rename_i d3 n3 c3 H3 b1 b2 b3 b4 M3
      exact kR _ _ _ _ b3 (by omega) M3
    intro D ns n2 c2 H10 hnl h0 h1 M10
    have M11 := Mem.front (l1 := [(D, .lst (ns.map V.int)), (z5, _)]) (z := (rw0, .lst xs)) M10
    walk_at "go"
    rename_i H12 M12
    refine ⟨_, rs ++ [ns], _, _, _, _, _, rfl, ?_, (pz.mono fun p r e => List.mem_append_right _ e).append (PX.one (by simp)), by rw [List.length_append, hrl]; rfl, h0, by omega, by omega, M12⟩
    intro r hr
    rcases List.mem_append.mp hr with z | z
    · exact hrs r z
    · rw [List.mem_singleton.mp z]; exact hnl
  · rintro σ' H' ⟨xs, rs, l', v4, v5, n', c', rfl, hrs, pz, hrl, hc0', hc1', hi3, M'⟩
    walk_at "go"
    exact k _ _ _ _ _ ⟨rw0, xs, rs, rfl, List.mem_cons_self, pz.mono fun p r e => List.mem_cons_of_mem _ e, fun w' m' e => by cases e; exact hrs⟩ hc0' (by omega) M'
end
end K35

set_option Elab.async false
set_option linter.all false
set_option maxRecDepth 100000
set_option maxHeartbeats 8000000
namespace K35
open PySem L2 MyL
local macro_rules | `(tactic| walk_at "mem") => `(tactic| first | exact List.mem_cons_self | (refine List.mem_cons_of_mem _ ?_; walk_at "mem"))
local macro_rules | `(tactic| walk_at "hp") => `(tactic| first | assumption | (refine' Mem.getL ?k1 ?k2; (case k1 => assumption); (case k2 => walk_at "mem")) | (refine' Mem.getF ?k1 ?k2; (case k1 => assumption); (case k2 => walk_at "mem")) | (refine' Mem.atB ?k1 ?k2; (case k1 => assumption); (case k2 => assumption)))
local macro_rules | `(tactic| walk_at "cond") => `(tactic| first | omega | assumption | exact mulR (by omega) (by omega) | exact mulL (by omega) (by omega) | exact divW (by omega) (by omega) | decide)
local macro_rules | `(tactic| walk_at "look") => `(tactic| first | assumption | with_unfolding_all rfl | exact atI_map (by omega) (by omega))
local macro_rules | `(tactic| walk_at "go1") => `(tactic| with_reducible first
  | refine k_seq ?_ | refine k_gName ?_ | refine k_asg ?_ | refine k_ret ?_ | refine k_ifS ?_ | refine k_drop ?_ | refine k_next ?_ | refine k_break ?_ | refine k_cont ?_ | refine k_retN ?_
  | (refine' k_var ?k1 ?_; (case k1 => with_unfolding_all rfl)) | refine k_c ?_ | refine k_op ?_ | refine k_un ?_ | refine k_test ?_ | refine k_B ?_ | refine k_bl ?_ | refine k_and ?_ | refine k_or ?_ | refine k_not ?_
  | refine k_andV ?_ | refine k_orV ?_ | refine k_notV ?_ | refine k_ifE ?_ | refine k_nil ?_ | refine k_cons ?_ | refine k_cb ?_ | refine k_callS ?_ | refine k_lst0 ?_ | refine k_tup0 ?_ | refine k_fld0 ?_ | refine k_sub0 ?_ | refine k_make0 ?_ | refine k_prop0 ?_ | refine k_sta0 ?_ | refine k_sta ?_ | refine k_bm ?_ | refine k_bm0 ?_ | refine k_chain ?_ | refine k_makeK0 ?_ | refine k_swapK ?_ | refine k_meth0 ?_ | refine k_ownN0 ?_ | refine k_ownO0 ?_ | refine k_sfld0 ?_ | refine k_jnil ?_ | refine k_jcons ?_ | refine k_fmt0 ?_ | refine k_sl0 ?_ | refine k_nopart ?_ | refine k_part ?_ | refine k_forR1 ?_ | refine k_forR2 ?_ | refine k_forL ?_ | refine k_forT ?_ | refine k_lcR1 ?_ | refine k_lcR2 ?_ | refine k_lcL ?_ | refine k_lcT ?_ | refine k_err0 ?_ | refine k_xf0 ?_ | refine k_errQ1 ?_ | refine k_errQ0 ?_ | refine k_errQ2 ?_ | refine k_errQ3 ?_
  | refine k_I0 ?_ | (refine k_I ?k1 ?_; (case k1 => walk_at "cond")) | refine k_U ?_ | refine k_eqI ?_ | refine k_neI ?_ | refine k_eqB ?_ | refine k_neB ?_ | refine k_eqS ?_ | refine k_neS ?_
  | refine k_int1 ?_ | refine k_abs1 ?_ | refine k_min2 ?_ | refine k_max2 ?_
  | (refine' k_lenM ?k1 ?_; (case k1 => walk_at "hp")) | (refine' k_lenL ?k1 ?_; (case k1 => walk_at "hp")) | (refine' k_lenT ?k1 ?_; (case k1 => walk_at "hp"))
  | (refine' k_lenS ?k1 ?_; (case k1 => assumption)) | (refine' k_ixS ?k1 ?k2 ?_; (case k1 => assumption); (case k2 => walk_at "look"))
  | (refine' k_ixL ?k1 ?k2 ?_; (case k1 => walk_at "hp"); (case k2 => walk_at "look")) | (refine' k_ixT ?k1 ?k2 ?_; (case k1 => walk_at "hp"); (case k2 => walk_at "look"))
  | (refine' k_ix4 ?k1 ?k2 ?k3 ?_; (case k1 => walk_at "hp"); (case k2 => omega); (case k3 => omega); intro n' hn')
  | (refine' k_ix3 ?k1 ?k2 ?k3 ?_; (case k1 => walk_at "hp"); (case k2 => omega); (case k3 => omega); intro n' hn')
  | (refine' k_ix2 ?k1 ?k2 ?k3 ?_; (case k1 => walk_at "hp"); (case k2 => omega); (case k3 => omega); intro n' hn')
  | (refine' k_fld ?k1 ?k2 ?k3 ?k4 ?_; (case k1 => walk_at "hp"); (case k2 => assumption); (case k3 => assumption); (case k4 => walk_at "fld"))
  | (refine' k_lst ?k1 ?k2 ?_; (case k1 => assumption); (case k2 => exact sz (by simp)); intro p' H' M')
  | (refine' k_tup ?k1 ?k2 ?_; (case k1 => assumption); (case k2 => exact sz (by simp)); intro p' H' M')
  | (refine' k_setF0 ?k1 ?k2 ?k3 ?_; (case k1 => assumption); (case k2 => simp); (case k3 => with_unfolding_all rfl); intro H' M'; try simp only [Int.reduceToNat, List.set_cons_succ, List.set_cons_zero] at M')
  | (refine' k_setL0 ?k1 ?k2 ?_; (case k1 => assumption); (case k2 => with_unfolding_all rfl); intro H' M'; try simp only [Int.reduceToNat, List.set_cons_succ, List.set_cons_zero] at M')
  | (refine' k_setL1 ?k1 ?k2 ?_; (case k1 => assumption); (case k2 => with_unfolding_all rfl); intro H' M'; try simp only [Int.reduceToNat, List.set_cons_succ, List.set_cons_zero] at M')
  | (refine' k_setL2 ?k1 ?k2 ?_; (case k1 => assumption); (case k2 => with_unfolding_all rfl); intro H' M'; try simp only [Int.reduceToNat, List.set_cons_succ, List.set_cons_zero] at M')
  | refine iteT ?_ | refine iteF ?_ | refine k_iteNE ?_ | refine k_iteNS ?_ | refine k_iteNT ?_ | refine k_iteNF ?_
  | (refine k_iteD ?_ ?_ <;> intro hc <;> first | (exfalso; omega) | skip)
  | (refine k_iteN ?_ ?_ <;> intro hc <;> first | (exfalso; omega) | skip)
  | (refine' k_ownN ?k1 ?_; (case k1 => walk_at "hp")) | (refine' k_ownO ?k1 ?k2 ?_; (case k1 => walk_at "hp"); (case k2 => walk_at "hp")) | (refine' k_ownEq ?k1 ?k2 ?_; (case k1 => walk_at "hp"); (case k2 => walk_at "hp"))
  | (refine' k_ownIn ?k1 ?_; (case k1 => walk_at "hp")) | (refine' k_ownU ?k1 ?_; (case k1 => walk_at "hp")) | (refine' k_ownStr ?k1 ?_; (case k1 => walk_at "hp"))
  | (refine' k_prop ?k1 ?_; (case k1 => walk_at "hp")) | (refine' k_ownNe ?k1 ?k2 ?_; (case k1 => walk_at "hp"); (case k2 => walk_at "hp")) | (refine' k_eqP ?k1 ?k2 ?_; (case k1 => walk_at "hp"); (case k2 => walk_at "hp")) | (refine' k_neP ?k1 ?k2 ?_; (case k1 => walk_at "hp"); (case k2 => walk_at "hp"))
  | (refine' k_isiO ?k1 ?k2 ?k3 ?k4 ?k5 ?k6 ?_; (case k1 => walk_at "hp"); (case k2 => assumption); (case k3 => assumption); (case k4 => assumption); (case k5 => assumption); (case k6 => assumption))
  | (refine' k_isiI ?k1 ?_; (case k1 => assumption))
  | (refine' k_jst ?k1 ?_; (case k1 => walk_at "size")) | (refine' k_fmtI ?k1 ?_; (case k1 => exact log2_64 (by omega) (by omega))) | (refine' k_strI ?k1 ?_; (case k1 => exact log2_64 (by omega) (by omega)))
  | (refine k_addS ?k1 ?_; (case k1 => walk_at "size")) | refine k_st ?_ | refine k_parti ?_
  | (refine' k_cat ?k1 ?k2 ?k3 ?k4 ?_; (case k1 => assumption); (case k2 => walk_at "hp"); (case k3 => walk_at "hp"); (case k4 => walk_at "size"); intro p' H' M')
  | (refine' k_slL ?k1 ?k2 ?_; (case k1 => assumption); (case k2 => first | assumption | exact SqL.of (by walk_at "hp")); intro p' H' M')
  | (refine k_rng1 ?k1 ?k2 ?_; (case k1 => omega); (case k2 => omega)) | (refine k_rng2 ?k1 ?k2 ?k3 ?k4 ?_; (case k1 => omega); (case k2 => omega); (case k3 => omega); (case k4 => omega))
  | (refine' k_lstAt ?k1 ?_; (case k1 => first | assumption | exact SqL.of (by walk_at "hp"))) | (refine' k_tupAt ?k1 ?_; (case k1 => first | assumption | exact SqT.of (by walk_at "hp")))
  | (refine' k_isXs ?k1 ?k2 ?_; (case k1 => assumption); (case k2 => walk_at "hp")) | (refine' k_isXo ?k1 ?k2 ?k3 ?_; (case k1 => assumption); (case k2 => walk_at "hp"); (case k3 => assumption)) | (refine' k_isXt ?k1 ?k2 ?k3 ?_; (case k1 => assumption); (case k2 => walk_at "hp"); (case k3 => assumption))
  | (refine' k_isX3 ?k1 ?k2 ?k3 ?k4 ?_; (case k1 => assumption); (case k2 => walk_at "hp"); (case k3 => walk_at "hp"); (case k4 => assumption)) | (refine' k_isX2 ?k1 ?k2 ?k3 ?k4 ?_; (case k1 => assumption); (case k2 => walk_at "hp"); (case k3 => walk_at "hp"); (case k4 => assumption))
  | (refine' k_tyL ?k1 ?_; (case k1 => walk_at "hp"))
  | (refine' k_appL0 ?k1 ?k2 ?_; (case k1 => assumption); (case k2 => walk_at "size"); intro H' M') | (refine' k_appL1 ?k1 ?k2 ?_; (case k1 => assumption); (case k2 => walk_at "size"); intro H' M') | (refine' k_appL2 ?k1 ?k2 ?_; (case k1 => assumption); (case k2 => walk_at "size"); intro H' M') | (refine' k_appL3 ?k1 ?k2 ?_; (case k1 => assumption); (case k2 => walk_at "size"); intro H' M')
  | (refine' k_revL0 ?k1 ?_; (case k1 => assumption); intro H' M') | (refine' k_revL1 ?k1 ?_; (case k1 => assumption); intro H' M')
  | (refine' k_isX0s ?k1 ?_; (case k1 => assumption)) | (refine' k_isX0o ?k1 ?k2 ?_; (case k1 => assumption); (case k2 => assumption)) | (refine' k_isX0t ?k1 ?k2 ?_; (case k1 => assumption); (case k2 => assumption)) | (refine' k_isX04 ?k1 ?k2 ?k3 ?_; (case k1 => assumption); (case k2 => walk_at "hp"); (case k3 => assumption))
  | (refine' k_isX4 ?k1 ?k2 ?k3 ?k4 ?_; (case k1 => assumption); (case k2 => walk_at "hp"); (case k3 => walk_at "hp"); (case k4 => assumption)) | (refine' k_ixT2 ?k1 ?k2 ?k3 ?_; (case k1 => walk_at "hp"); (case k2 => omega); (case k3 => omega); intro n' hn')
  | (refine k_iteNEq ?k1 ?_; (case k1 => (rw [Bool.eq_iff_iff]; first | (simp; done) | (simp; omega))))
  | (refine' k_xf ?k1 ?k2 ?_; (case k1 => walk_at "hp"); (case k2 => first | exact xd1 | exact xdH | exact xd2 (by decide +kernel)))
  | (refine' k_caught ?k1 ?_; (case k1 => assumption); intro a' ha')
  | refine k_asgT ?_ | refine k_gCons ?_ | refine k_gNil ?_ | refine k_par ?_ | refine k_two ?_ | refine k_isNn ?_ | refine k_isNi ?_ | refine k_notNn ?_ | refine k_notNi ?_ | refine k_isN ?_ | refine k_notN ?_
  | (refine' k_gTup ?k1 ?k2 ?_; (case k1 => walk_at "hp"); (case k2 => with_unfolding_all rfl))
  | (refine' k_isiT ?k1 ?k2 ?_; (case k1 => walk_at "hp"); (case k2 => assumption)) | (refine' k_isiL ?k1 ?k2 ?_; (case k1 => walk_at "hp"); (case k2 => assumption))
  | (refine' k_ixQ ?k1 ?k2 ?_; (case k1 => assumption); (case k2 => walk_at "look")) | (refine' k_lenQ ?k1 ?_; (case k1 => assumption))
  | (refine' k_xfB ?k1 ?k2 ?_; (case k1 => walk_at "hp"); (case k2 => first | exact xd1 | exact xdH | exact xd2 (by decide +kernel)))
  | (refine' k_all ?k1 ?_; (case k1 => walk_at "hp"))
  | (refine' k_tupleOf ?k1 ?k2 ?_; (case k1 => assumption); (case k2 => exact SqL.of (by walk_at "hp")); intro p' H' M')
  | (refine' k_listOf ?k1 ?k2 ?_; (case k1 => assumption); (case k2 => exact Or.inl (SqL.of (by walk_at "hp"))); intro p' H' M')
  | walk_at "use")
local macro_rules | `(tactic| walk_at "go") => `(tactic| repeat' (walk_at "go1"))

local macro_rules | `(tactic| walk_at "eq") => `(tactic| first | rfl | assumption | omega)
local macro_rules | `(tactic| walk_at "fld") => `(tactic| exact xdH)
local macro_rules | `(tactic| walk_at "size") => `(tactic| first | exact sz (by first | omega | (simp only [List.length_map, List.length_range, List.length_append, List.length_cons, List.length_nil, Int.reduceSub, Int.reduceToNat, Int.reduceNeg]; omega)) | (exact Nat.lt_of_le_of_lt (m := 50000) (by first | omega | (simp only [List.length_map, List.length_range, List.length_append, List.length_cons, List.length_nil]; omega)) (by decide)))
section
variable {P : Program} {w : World} {K : PySem.W.Frag} {mg : Str → Option Value} {base : Heap} {C CR fR aS : Addr}
local macro_rules | `(tactic| walk_at "use") => `(tactic| with_reducible first
  | refine use_isn ?_
  | refine k_intB ?_
  | (refine' use_take ?k1 ?k2 ?k3 ?k4 ?k5 ?k6 ?_; (case k1 => assumption); (case k2 => simp); (case k3 => omega); (case k4 => omega); (case k5 => omega); (case k6 => omega); intro d' n' c' H' a1' a2' a3' a4' M'))
def sp_agr : Sp := fun vs H Q _ => ∃ (w t l g : Addr) (ws xs ys : List V) (ts : List Pr) (S : List (List Int)) (n : Nat) (ns : List Int), vs = [.ref w, .ref t, .ref l, .ref g] ∧ H w = some (.lst ws) ∧ Trs H ws (dmS ts S) ∧ H t = some (.tup xs) ∧ Prs H xs ts ∧ H l = some (.lst ys) ∧ Rws H ys S ∧ Shf ts S n ∧ H g = some (.lst (ns.map V.int)) ∧ ns.length = S.length ∧ ∀ H', Same H H' → Q (.bl true) H'
theorem dmS_rng {ts : List Pr} {S : List (List Int)} {t : Tr3} (ht : t ∈ dmS ts S) : 0 ≤ t.1 ∧ t.1 < S.length ∧ 0 ≤ t.2.1 ∧ t.2.1 < S.length := by
  unfold dmS demL at ht
  obtain ⟨p, hp, rfl⟩ := List.mem_map.mp ht
  obtain ⟨h1, h2⟩ := mem_PL (List.mem_filter.mp hp).1
  dsimp only
  omega
theorem all_snoc {α : Type} {L : List α} {P : α → Bool} {x : α} : (L ++ [x]).all P = (L.all P && P x) := by rw [List.all_append, List.all_cons, List.all_nil, Bool.and_true]
theorem ok_agr {f : Addr} {fd : FuncData} (F : Fun K "_law_ages_right" "_law_ages_right" s__law_ages_right f fd) (T : Txt P K mg C CR fR aS) (c__law_side : Cal P w K mg base 1 "_law_side" sp_side) :
    FnOk P w K mg base (L2.CX P w) (1 + 1) f fd ["_law_told", "_law_terms_here", "_law_shelf_here", "_law_ages"] sp_agr := by
  refine okT F sc__law_ages_right (fun vs H Q E h => ?_) (fun cdv A outer s H vs Q E hr tk h => ?_)
  · obtain ⟨w, t, l, g, ws, xs, ys, ts, S, n, ns, rfl, _⟩ := h
    rfl
  obtain ⟨w, t, l, g, ws, xs, ys, ts, S, n, ns, rfl, hw, pw, h1, p1, h3, p2, hsf, hg, hnl, k⟩ := h
  have f1 := T.i1; have f2 := T.i2; have f3 := T.i3; have f4 := T.i4; have f6 := T.cl; have f7 := T.nT
  refine ⟨_, (pss_cons (ps_set (i := 4) sc__law_ages_right.nd rfl (Or.inl rfl) pe_bl)
      (pss_cons (ps_for (passes_of rfl) rfl (pi_range1 (by rfl) T.b_range (pa_cons (pe_callB b_len (by rfl) T.b_len (by decide +kernel) (pa_cons (pv 2) pa_nil)) pa_nil)) (pg_name (i := 5) sc__law_ages_right.nd rfl (Or.inl rfl)) (pss_one (ps_for (passes_of rfl) rfl (pi_range2 (by rfl) T.b_range (pa_cons (pe_op op_add (pv 5) pe_int) (pa_cons (pe_callB b_len (by rfl) T.b_len (by decide +kernel) (pa_cons (pv 2) pa_nil)) pa_nil))) (pg_name (i := 6) sc__law_ages_right.nd rfl (Or.inl rfl)) (pss_one (ps_if (pt_cmpR op_gt (c_call c__law_side tk hr (by decide) (pa_cons (pv 1) (pa_cons (pe_op op_catA (pe_ix ix_list (pv 2) (pv 5) (fun _ _ => rfl)) (pe_tup (pa_cons (pe_ix ix_list (pv 3) (pv 5) (fun _ _ => rfl)) pa_nil))) (pa_cons (pe_op op_catA (pe_ix ix_list (pv 2) (pv 6) (fun _ _ => rfl)) (pe_tup (pa_cons (pe_ix ix_list (pv 3) (pv 6) (fun _ _ => rfl)) pa_nil))) pa_nil)))) pe_int (nomark _)) (pss_one (ps_set (i := 4) sc__law_ages_right.nd rfl (Or.inl rfl) pe_bl)) pss_nil)))))
      (pss_cons (ps_set (i := 7) sc__law_ages_right.nd rfl (Or.inl rfl) pe_bl)
      (pss_cons (ps_for (passes_of rfl) rfl (pi_list (pv 0)) (pg_tup rfl (pgs_cons (pg_name (i := 5) sc__law_ages_right.nd rfl (Or.inl rfl)) (pgs_cons (pg_name (i := 6) sc__law_ages_right.nd rfl (Or.inl rfl)) (pgs_cons (pg_name (i := 8) sc__law_ages_right.nd rfl (Or.inl rfl)) pgs_nil)))) (pss_cons (ps_set (i := 9) sc__law_ages_right.nd rfl (Or.inl rfl) (pe_op op_sub (pe_callTy b_intB (by rfl) T.b_int (by decide +kernel) (pa_cons (pe_cmpR op_gt (pe_ix ix_list (pv 3) (pv 5) (fun _ _ => rfl)) (pe_ix ix_list (pv 3) (pv 6) (fun _ _ => rfl)) (nomark _)) pa_nil)) (pe_callTy b_intB (by rfl) T.b_int (by decide +kernel) (pa_cons (pe_cmpR op_lt (pe_ix ix_list (pv 3) (pv 5) (fun _ _ => rfl)) (pe_ix ix_list (pv 3) (pv 6) (fun _ _ => rfl)) (nomark _)) pa_nil))))
      (pss_one (ps_if (pt_cmpR op_notIn_seq (pv 9) (pv 8) rfl) (pss_one (ps_set (i := 7) sc__law_ages_right.nd rfl (Or.inl rfl) pe_bl)) pss_nil))))
      (pss_one (ps_ret (pe_cmpR op_eq (pv 4) (pv 7) (nomark _)))))))), ?_⟩
  simp only [cxK, st__law_ages_right]
  have M : Mem H [] H [] [] := mem_start (by simp []) (by simp) (by simp)
  have hyl := p2.1
  have hS := hsf.len
  have hn10 := hsf.n10
  walk_at "go"
  refine rng_loop ⟨fun i σ' H' => ∃ (l' : List (Addr × HO)) (v5 v6 : Option V), σ' = [some (.ref w), some (.ref t), some (.ref l), some (.ref g), some (.bl ((PL S.length (List.range i)).all (fineP ts S ns))), v5, v6, none, none, none] ∧ Mem H [] H' [] l', ?_, ?_, ?_⟩
  · exact ⟨[], _, _, rfl, M⟩
  · rintro i σ' H' hi ⟨l', v5, v6, rfl, M'⟩
    have hil : i < ys.length := by simpa using hi
    obtain ⟨a, pa, ha, ea, hpa⟩ := p2.get (List.getElem?_eq_getElem hil)
    have hata : atI ys (0 + (i : Int)) = some (.ref pa) := by rw [← ea]; exact atI_nat0 (List.getElem?_eq_getElem hil)
    have hga : atI (ns.map V.int) (0 + (i : Int)) = some (.int (ag ns i)) := by
      rw [atI_map (by omega) (by omega), show (0 + (i : Int)).toNat = i by omega]
    have hla := hsf.row a (List.mem_of_getElem? ha)
    have h3' := M'.atB0 h3
    walk_at "go"
    refine rng_loop ⟨fun m σ' H' => ∃ (l' : List (Addr × HO)) (v6 : Option V), σ' = [some (.ref w), some (.ref t), some (.ref l), some (.ref g), some (.bl ((PL S.length (List.range i) ++ PR1 i (List.range' (i + 1) m)).all (fineP ts S ns))), some (.int (0 + (i : Int))), v6, none, none, none] ∧ Mem H [] H' [] l', ?_, ?_, ?_⟩
    · exact ⟨l', _, by rw [show PR1 i (List.range' (i + 1) 0) = [] from rfl, List.append_nil]; rfl, M'⟩
    · rintro m σ' H' hm ⟨l', v6, rfl, M'⟩
      have hjl : i + 1 + m < ys.length := by omega
      obtain ⟨b, pb, hb, eb, hpb⟩ := p2.get (List.getElem?_eq_getElem hjl)
      have hatb : atI ys (0 + (i : Int) + 1 + (m : Int)) = some (.ref pb) := by
        rw [← eb, show 0 + (i : Int) + 1 + (m : Int) = ((i + 1 + m : Nat) : Int) by omega]
        exact MyL.atI_nat (List.getElem?_eq_getElem hjl)
      have hgb : atI (ns.map V.int) (0 + (i : Int) + 1 + (m : Int)) = some (.int (ag ns (i + 1 + m))) := by
        rw [atI_map (by omega) (by omega), show (0 + (i : Int) + 1 + (m : Int)).toNat = i + 1 + m by omega]
      have hlb := hsf.row b (List.mem_of_getElem? hb)
      have h3' := M'.atB0 h3
      have hg' := M'.atB0 hg
      have hnext : (PL S.length (List.range i) ++ PR1 i (List.range' (i + 1) (m + 1))).all (fineP ts S ns) = ((PL S.length (List.range i) ++ PR1 i (List.range' (i + 1) m)).all (fineP ts S ns) && decide (side ts (a ++ [ag ns i]) (b ++ [ag ns (i + 1 + m)]) ≤ 0)) := by
        rw [PR1_next, ← List.append_assoc, all_snoc]
        dsimp only [fineP]
        rw [getD_of ha, getD_of hb]
      walk_at "go"
      rename_i z1 H4 M4
      refine k_catA M4 (SqT.of (M4.atB0 hpa)) List.mem_cons_self (by simp) (Nat.le_of_lt (sz (by rw [List.length_map]; simp; omega))) fun o5 H5 l5 ho5 M5 => ?_
      rw [row_snoc] at ho5
      have h35 := M5.atB0 h3
      have hg5 := M5.atB0 hg
      walk_at "go"
      rename_i z6 H6 M6
      refine k_catA M6 (SqT.of (M6.atB0 hpb)) List.mem_cons_self (by simp) (Nat.le_of_lt (sz (by rw [List.length_map]; simp; omega))) fun o7 H7 l7 ho7 M7 => ?_
      rw [row_snoc] at ho7
      walk_at "go"
      refine use_side (.inr (M7.atB0 h1)) (p1.same (Same.of_keep M7)) (M7.getL (List.mem_append_right _ (List.mem_cons_of_mem _ ho5))) (M7.getL ho7) (hsf.fit.fit hla _) (hsf.fit.fit hlb _) ?_
      by_cases hP : side ts (a ++ [ag ns i]) (b ++ [ag ns (i + 1 + m)]) ≤ 0
      · walk_at "go"
        refine ⟨_, some (.int (0 + (i : Int) + 1 + (m : Int))), ?_, M7⟩
        rw [hnext, decide_eq_true hP, Bool.and_true]
        rfl
      · walk_at "go"
        refine ⟨_, some (.int (0 + (i : Int) + 1 + (m : Int))), ?_, M7⟩
        rw [hnext, decide_eq_false hP, Bool.and_false]
        rfl
    · rintro σ' H' ⟨l', v6, rfl, M'⟩
      walk_at "go"
      refine ⟨l', some (.int (0 + (i : Int))), v6, ?_, M'⟩
      rw [PL_next, show ((ys.length : Int) - (0 + (i : Int) + 1)).toNat = S.length - (i + 1) by omega]
  · rintro σ' H' ⟨l', v5, v6, rfl, M'⟩
    rw [show ((ys.length : Int)).toNat = S.length by omega, fine_kept hsf.row fun p hp => mem_PL hp]
    have hw' := M'.atB0 hw
    have hg' := M'.atB0 hg
    walk_at "go"
    refine lst_loop (xs := ws) ⟨fun j σ' H2 => ∃ (v5 v6 v8 v9 : Option V), σ' = [some (.ref w), some (.ref t), some (.ref l), some (.ref g), some (.bl ((dmS ts S).all (keptP ns))), v5, v6, some (.bl (((dmS ts S).take j).all (keptP ns))), v8, v9] ∧ H2 = H', ?_, ?_, ?_, ?_⟩
    · exact ⟨_, _, _, _, rfl, rfl⟩
    · rintro j σ' H2 _ ⟨_, _, _, _, _, rfl⟩
      exact SqL.of hw'
    · rintro j x σ' H2 hx ⟨v5, v6, v8, v9, rfl, rfl⟩
      obtain ⟨tr, pt, htr, rfl, qt, hpt, hqt⟩ := pw.get hx
      obtain ⟨r1, r2, r3, r4⟩ := dmS_rng (List.mem_of_getElem? htr)
      have hpt' := M'.atB0 hpt
      have hqt' := M'.atB0 hqt
      have g1 : atI (ns.map V.int) tr.1 = some (.int (ag ns tr.1.toNat)) := atI_map (by omega) (by omega)
      have g2 : atI (ns.map V.int) tr.2.1 = some (.int (ag ns tr.2.1.toNat)) := atI_map (by omega) (by omega)
      have hnext : ((dmS ts S).take (j + 1)).all (keptP ns) = (((dmS ts S).take j).all (keptP ns) && keptP ns tr) := by
        rw [List.take_add_one, htr, Option.toList_some, all_snoc]
      walk_at "go"
      refine k_notinI (ns := tr.2.2) (.inr (SqT.of hqt')) ?_
      by_cases hk : sgn (ag ns tr.1.toNat) (ag ns tr.2.1.toNat) ∈ tr.2.2
      · rw [decide_eq_true hk]
        walk_at "go"
        refine ⟨some (.int tr.1), some (.int tr.2.1), some (.ref qt), some (.int (sgn (ag ns tr.1.toNat) (ag ns tr.2.1.toNat))), ?_, rfl⟩
        rw [hnext, show keptP ns tr = true from decide_eq_true hk, Bool.and_true]
        rfl
      · rw [decide_eq_false hk]
        walk_at "go"
        refine ⟨some (.int tr.1), some (.int tr.2.1), some (.ref qt), some (.int (sgn (ag ns tr.1.toNat) (ag ns tr.2.1.toNat))), ?_, rfl⟩
        rw [hnext, show keptP ns tr = false from decide_eq_false hk, Bool.and_false]
        rfl
    · rintro σ' H2 ⟨v5, v6, v8, v9, rfl, rfl⟩
      rw [pw.1, List.take_length]
      walk_at "go"
      rw [beq_self_eq_true]
      exact k _ (Same.of_keep M')
end
end K35

set_option Elab.async false
set_option linter.all false
set_option maxRecDepth 100000
set_option maxHeartbeats 8000000
namespace K35
open PySem L2 MyL
local macro_rules | `(tactic| walk_at "mem") => `(tactic| first | exact List.mem_cons_self | (refine List.mem_cons_of_mem _ ?_; walk_at "mem"))
local macro_rules | `(tactic| walk_at "hp") => `(tactic| first | assumption | (refine' Mem.getL ?k1 ?k2; (case k1 => assumption); (case k2 => walk_at "mem")) | (refine' Mem.getF ?k1 ?k2; (case k1 => assumption); (case k2 => walk_at "mem")) | (refine' Mem.atB ?k1 ?k2; (case k1 => assumption); (case k2 => assumption)))
local macro_rules | `(tactic| walk_at "cond") => `(tactic| first | omega | assumption | exact mulR (by omega) (by omega) | exact mulL (by omega) (by omega) | exact divW (by omega) (by omega) | decide)
local macro_rules | `(tactic| walk_at "look") => `(tactic| first | assumption | with_unfolding_all rfl | exact atI_map (by omega) (by omega))
local macro_rules | `(tactic| walk_at "go1") => `(tactic| with_reducible first
  | refine k_seq ?_ | refine k_gName ?_ | refine k_asg ?_ | refine k_ret ?_ | refine k_ifS ?_ | refine k_drop ?_ | refine k_next ?_ | refine k_break ?_ | refine k_cont ?_ | refine k_retN ?_
  | (refine' k_var ?k1 ?_; (case k1 => with_unfolding_all rfl)) | refine k_c ?_ | refine k_op ?_ | refine k_un ?_ | refine k_test ?_ | refine k_B ?_ | refine k_bl ?_ | refine k_and ?_ | refine k_or ?_ | refine k_not ?_
  | refine k_andV ?_ | refine k_orV ?_ | refine k_notV ?_ | refine k_ifE ?_ | refine k_nil ?_ | refine k_cons ?_ | refine k_cb ?_ | refine k_callS ?_ | refine k_lst0 ?_ | refine k_tup0 ?_ | refine k_fld0 ?_ | refine k_sub0 ?_ | refine k_make0 ?_ | refine k_prop0 ?_ | refine k_sta0 ?_ | refine k_sta ?_ | refine k_bm ?_ | refine k_bm0 ?_ | refine k_chain ?_ | refine k_makeK0 ?_ | refine k_swapK ?_ | refine k_meth0 ?_ | refine k_ownN0 ?_ | refine k_ownO0 ?_ | refine k_sfld0 ?_ | refine k_jnil ?_ | refine k_jcons ?_ | refine k_fmt0 ?_ | refine k_sl0 ?_ | refine k_nopart ?_ | refine k_part ?_ | refine k_forR1 ?_ | refine k_forR2 ?_ | refine k_forL ?_ | refine k_forT ?_ | refine k_lcR1 ?_ | refine k_lcR2 ?_ | refine k_lcL ?_ | refine k_lcT ?_ | refine k_err0 ?_ | refine k_xf0 ?_ | refine k_errQ1 ?_ | refine k_errQ0 ?_ | refine k_errQ2 ?_ | refine k_errQ3 ?_
  | refine k_I0 ?_ | (refine k_I ?k1 ?_; (case k1 => walk_at "cond")) | refine k_U ?_ | refine k_eqI ?_ | refine k_neI ?_ | refine k_eqB ?_ | refine k_neB ?_ | refine k_eqS ?_ | refine k_neS ?_
  | refine k_int1 ?_ | refine k_abs1 ?_ | refine k_min2 ?_ | refine k_max2 ?_
  | (refine' k_lenM ?k1 ?_; (case k1 => walk_at "hp")) | (refine' k_lenL ?k1 ?_; (case k1 => walk_at "hp")) | (refine' k_lenT ?k1 ?_; (case k1 => walk_at "hp"))
  | (refine' k_lenS ?k1 ?_; (case k1 => assumption)) | (refine' k_ixS ?k1 ?k2 ?_; (case k1 => assumption); (case k2 => walk_at "look"))
  | (refine' k_ixL ?k1 ?k2 ?_; (case k1 => walk_at "hp"); (case k2 => walk_at "look")) | (refine' k_ixT ?k1 ?k2 ?_; (case k1 => walk_at "hp"); (case k2 => walk_at "look"))
  | (refine' k_ix4 ?k1 ?k2 ?k3 ?_; (case k1 => walk_at "hp"); (case k2 => omega); (case k3 => omega); intro n' hn')
  | (refine' k_ix3 ?k1 ?k2 ?k3 ?_; (case k1 => walk_at "hp"); (case k2 => omega); (case k3 => omega); intro n' hn')
  | (refine' k_ix2 ?k1 ?k2 ?k3 ?_; (case k1 => walk_at "hp"); (case k2 => omega); (case k3 => omega); intro n' hn')
  | (refine' k_fld ?k1 ?k2 ?k3 ?k4 ?_; (case k1 => walk_at "hp"); (case k2 => assumption); (case k3 => assumption); (case k4 => walk_at "fld"))
  | (refine' k_lst ?k1 ?k2 ?_; (case k1 => assumption); (case k2 => exact sz (by simp)); intro p' H' M')
  | (refine' k_tup ?k1 ?k2 ?_; (case k1 => assumption); (case k2 => exact sz (by simp)); intro p' H' M')
  | (refine' k_setF0 ?k1 ?k2 ?k3 ?_; (case k1 => assumption); (case k2 => simp); (case k3 => with_unfolding_all rfl); intro H' M'; try simp only [Int.reduceToNat, List.set_cons_succ, List.set_cons_zero] at M')
  | (refine' k_setL0 ?k1 ?k2 ?_; (case k1 => assumption); (case k2 => with_unfolding_all rfl); intro H' M'; try simp only [Int.reduceToNat, List.set_cons_succ, List.set_cons_zero] at M')
  | (refine' k_setL1 ?k1 ?k2 ?_; (case k1 => assumption); (case k2 => with_unfolding_all rfl); intro H' M'; try simp only [Int.reduceToNat, List.set_cons_succ, List.set_cons_zero] at M')
  | (refine' k_setL2 ?k1 ?k2 ?_; (case k1 => assumption); (case k2 => with_unfolding_all rfl); intro H' M'; try simp only [Int.reduceToNat, List.set_cons_succ, List.set_cons_zero] at M')
  | refine iteT ?_ | refine iteF ?_ | refine k_iteNE ?_ | refine k_iteNS ?_ | refine k_iteNT ?_ | refine k_iteNF ?_
  | (refine k_iteD ?_ ?_ <;> intro hc <;> first | (exfalso; omega) | skip)
  | (refine k_iteN ?_ ?_ <;> intro hc <;> first | (exfalso; omega) | skip)
  | (refine' k_ownN ?k1 ?_; (case k1 => walk_at "hp")) | (refine' k_ownO ?k1 ?k2 ?_; (case k1 => walk_at "hp"); (case k2 => walk_at "hp")) | (refine' k_ownEq ?k1 ?k2 ?_; (case k1 => walk_at "hp"); (case k2 => walk_at "hp"))
  | (refine' k_ownIn ?k1 ?_; (case k1 => walk_at "hp")) | (refine' k_ownU ?k1 ?_; (case k1 => walk_at "hp")) | (refine' k_ownStr ?k1 ?_; (case k1 => walk_at "hp"))
  | (refine' k_prop ?k1 ?_; (case k1 => walk_at "hp")) | (refine' k_ownNe ?k1 ?k2 ?_; (case k1 => walk_at "hp"); (case k2 => walk_at "hp")) | (refine' k_eqP ?k1 ?k2 ?_; (case k1 => walk_at "hp"); (case k2 => walk_at "hp")) | (refine' k_neP ?k1 ?k2 ?_; (case k1 => walk_at "hp"); (case k2 => walk_at "hp"))
  | (refine' k_isiO ?k1 ?k2 ?k3 ?k4 ?k5 ?k6 ?_; (case k1 => walk_at "hp"); (case k2 => assumption); (case k3 => assumption); (case k4 => assumption); (case k5 => assumption); (case k6 => assumption))
  | (refine' k_isiI ?k1 ?_; (case k1 => assumption))
  | (refine' k_jst ?k1 ?_; (case k1 => walk_at "size")) | (refine' k_fmtI ?k1 ?_; (case k1 => exact log2_64 (by omega) (by omega))) | (refine' k_strI ?k1 ?_; (case k1 => exact log2_64 (by omega) (by omega)))
  | (refine k_addS ?k1 ?_; (case k1 => walk_at "size")) | refine k_st ?_ | refine k_parti ?_
  | (refine' k_cat ?k1 ?k2 ?k3 ?k4 ?_; (case k1 => assumption); (case k2 => walk_at "hp"); (case k3 => walk_at "hp"); (case k4 => walk_at "size"); intro p' H' M')
  | (refine' k_slL ?k1 ?k2 ?_; (case k1 => assumption); (case k2 => first | assumption | exact SqL.of (by walk_at "hp")); intro p' H' M')
  | (refine k_rng1 ?k1 ?k2 ?_; (case k1 => omega); (case k2 => omega)) | (refine k_rng2 ?k1 ?k2 ?k3 ?k4 ?_; (case k1 => omega); (case k2 => omega); (case k3 => omega); (case k4 => omega))
  | (refine' k_lstAt ?k1 ?_; (case k1 => first | assumption | exact SqL.of (by walk_at "hp"))) | (refine' k_tupAt ?k1 ?_; (case k1 => first | assumption | exact SqT.of (by walk_at "hp")))
  | (refine' k_isXs ?k1 ?k2 ?_; (case k1 => assumption); (case k2 => walk_at "hp")) | (refine' k_isXo ?k1 ?k2 ?k3 ?_; (case k1 => assumption); (case k2 => walk_at "hp"); (case k3 => assumption)) | (refine' k_isXt ?k1 ?k2 ?k3 ?_; (case k1 => assumption); (case k2 => walk_at "hp"); (case k3 => assumption))
  | (refine' k_isX3 ?k1 ?k2 ?k3 ?k4 ?_; (case k1 => assumption); (case k2 => walk_at "hp"); (case k3 => walk_at "hp"); (case k4 => assumption)) | (refine' k_isX2 ?k1 ?k2 ?k3 ?k4 ?_; (case k1 => assumption); (case k2 => walk_at "hp"); (case k3 => walk_at "hp"); (case k4 => assumption))
  | (refine' k_tyL ?k1 ?_; (case k1 => walk_at "hp"))
  | (refine' k_appL0 ?k1 ?k2 ?_; (case k1 => assumption); (case k2 => walk_at "size"); intro H' M') | (refine' k_appL1 ?k1 ?k2 ?_; (case k1 => assumption); (case k2 => walk_at "size"); intro H' M') | (refine' k_appL2 ?k1 ?k2 ?_; (case k1 => assumption); (case k2 => walk_at "size"); intro H' M') | (refine' k_appL3 ?k1 ?k2 ?_; (case k1 => assumption); (case k2 => walk_at "size"); intro H' M')
  | (refine' k_revL0 ?k1 ?_; (case k1 => assumption); intro H' M') | (refine' k_revL1 ?k1 ?_; (case k1 => assumption); intro H' M')
  | (refine' k_isX0s ?k1 ?_; (case k1 => assumption)) | (refine' k_isX0o ?k1 ?k2 ?_; (case k1 => assumption); (case k2 => assumption)) | (refine' k_isX0t ?k1 ?k2 ?_; (case k1 => assumption); (case k2 => assumption)) | (refine' k_isX04 ?k1 ?k2 ?k3 ?_; (case k1 => assumption); (case k2 => walk_at "hp"); (case k3 => assumption))
  | (refine' k_isX4 ?k1 ?k2 ?k3 ?k4 ?_; (case k1 => assumption); (case k2 => walk_at "hp"); (case k3 => walk_at "hp"); (case k4 => assumption)) | (refine' k_ixT2 ?k1 ?k2 ?k3 ?_; (case k1 => walk_at "hp"); (case k2 => omega); (case k3 => omega); intro n' hn')
  | (refine k_iteNEq ?k1 ?_; (case k1 => (rw [Bool.eq_iff_iff]; first | (simp; done) | (simp; omega))))
  | (refine' k_xf ?k1 ?k2 ?_; (case k1 => walk_at "hp"); (case k2 => first | exact xd1 | exact xdH | exact xd2 (by decide +kernel)))
  | (refine' k_caught ?k1 ?_; (case k1 => assumption); intro a' ha')
  | refine k_asgT ?_ | refine k_gCons ?_ | refine k_gNil ?_ | refine k_par ?_ | refine k_two ?_ | refine k_isNn ?_ | refine k_isNi ?_ | refine k_notNn ?_ | refine k_notNi ?_ | refine k_isN ?_ | refine k_notN ?_
  | (refine' k_gTup ?k1 ?k2 ?_; (case k1 => walk_at "hp"); (case k2 => with_unfolding_all rfl))
  | (refine' k_isiT ?k1 ?k2 ?_; (case k1 => walk_at "hp"); (case k2 => assumption)) | (refine' k_isiL ?k1 ?k2 ?_; (case k1 => walk_at "hp"); (case k2 => assumption))
  | (refine' k_ixQ ?k1 ?k2 ?_; (case k1 => assumption); (case k2 => walk_at "look")) | (refine' k_lenQ ?k1 ?_; (case k1 => assumption))
  | (refine' k_xfB ?k1 ?k2 ?_; (case k1 => walk_at "hp"); (case k2 => first | exact xd1 | exact xdH | exact xd2 (by decide +kernel)))
  | (refine' k_all ?k1 ?_; (case k1 => walk_at "hp"))
  | (refine' k_tupleOf ?k1 ?k2 ?_; (case k1 => assumption); (case k2 => exact SqL.of (by walk_at "hp")); intro p' H' M')
  | (refine' k_listOf ?k1 ?k2 ?_; (case k1 => assumption); (case k2 => exact Or.inl (SqL.of (by walk_at "hp"))); intro p' H' M')
  | walk_at "use")
local macro_rules | `(tactic| walk_at "go") => `(tactic| repeat' (walk_at "go1"))

local macro_rules | `(tactic| walk_at "eq") => `(tactic| first | rfl | assumption | omega)
local macro_rules | `(tactic| walk_at "fld") => `(tactic| exact xdH)
local macro_rules | `(tactic| walk_at "size") => `(tactic| first | exact sz (by first | omega | (simp only [List.length_map, List.length_range, List.length_append, List.length_cons, List.length_nil, Int.reduceSub, Int.reduceToNat, Int.reduceNeg]; omega)) | (exact Nat.lt_of_le_of_lt (m := 50000) (by first | omega | (simp only [List.length_map, List.length_range, List.length_append, List.length_cons, List.length_nil]; omega)) (by decide)))
section
variable {P : Program} {w : World} {K : PySem.W.Frag} {mg : Str → Option Value} {base : Heap} {C CR fR aS : Addr}
local macro_rules | `(tactic| walk_at "use") => `(tactic| with_reducible first
  | refine use_isn ?_
  | (refine' use_take ?k1 ?k2 ?k3 ?k4 ?k5 ?k6 ?_; (case k1 => assumption); (case k2 => simp); (case k3 => omega); (case k4 => omega); (case k5 => omega); (case k6 => omega); intro d' n' c' H' a1' a2' a3' a4' M'))
theorem use_sdem {B H : Hp} {ms : List Addr} {f l0 : List (Addr × HO)} {Q : VK} {E : XK} {r dx t l : Addr} {xs ys : List V} {ts : List Pr} {S : List (List Int)} {n : Nat} (M : Mem B ms H f l0) (h0 : H r = some (.ins C dx (ruF t))) (h1 : H t = some (.tup xs)) (p1 : Prs H xs ts) (hq : Sq H l ys) (p2 : Rws H ys S) (hs : Shf ts S n) (k : ∀ d zs H' l2, Mem B ms H' f ((d, .lst zs) :: (l2 ++ l0)) → TrL l2 zs (dmS ts S) → Q (.ref d) H') : sp_sdem C [.ref r, .ref l] H Q E :=
  ⟨r, dx, t, l, xs, ys, ts, S, n, rfl, h0, h1, p1, hq, p2, hs, fun d zs H' l2 M2 hz => k d zs H' l2 (M.comp0 M2) hz⟩
theorem use_trr {B H : Hp} {ms : List Addr} {f l0 : List (Addr × HO)} {Q : VK} {E : XK} {w t l : Addr} {ws xs ys : List V} {ts : List Pr} {S : List (List Int)} {n : Nat} (M : Mem B ms H f l0) (hw : H w = some (.lst ws)) (pw : Trs H ws (dmS ts S)) (h1 : H t = some (.tup xs)) (p1 : Prs H xs ts) (h2 : H l = some (.lst ys)) (p2 : Rws H ys S) (hs : Shf ts S n) (k : ∀ H', Mem B ms H' f l0 → Q (.bl true) H') : sp_trr [.ref w, .ref t, .ref l] H Q E :=
  ⟨w, t, l, ws, xs, ys, ts, S, n, rfl, hw, pw, h1, p1, h2, p2, hs, fun H' s => k H' (M.same s)⟩
theorem use_agr {B H : Hp} {ms : List Addr} {f l0 : List (Addr × HO)} {Q : VK} {E : XK} {w t l g : Addr} {ws xs ys : List V} {ts : List Pr} {S : List (List Int)} {n : Nat} {ns : List Int} (M : Mem B ms H f l0) (hw : H w = some (.lst ws)) (pw : Trs H ws (dmS ts S)) (h1 : H t = some (.tup xs)) (p1 : Prs H xs ts) (h2 : H l = some (.lst ys)) (p2 : Rws H ys S) (hs : Shf ts S n) (hg : H g = some (.lst (ns.map V.int))) (hn : ns.length = S.length) (k : ∀ H', Mem B ms H' f l0 → Q (.bl true) H') : sp_agr [.ref w, .ref t, .ref l, .ref g] H Q E :=
  ⟨w, t, l, g, ws, xs, ys, ts, S, n, ns, rfl, hw, pw, h1, p1, h2, p2, hs, hg, hn, fun H' s => k H' (M.same s)⟩
theorem k_revSl {H : Hp} {σ : L2.St} {Q : VK} {te : TE} (h : te σ H fun x H1 => ∃ a xs, x = .ref a ∧ SqL K H1 a xs ∧ ∀ p, H1 p = none → Q (.ref p) (upd H1 p (.lst xs.reverse))) : tRevL K te σ H Q := h
theorem Shf.rev {ts : List Pr} {S : List (List Int)} {n : Nat} (h : Shf ts S n) : Shf ts S.reverse n := ⟨h.dir, h.fit, fun r hr => h.row r (List.mem_reverse.mp hr), h.n10, by rw [List.length_reverse]; exact h.len⟩
def sp_rr : Sp := fun vs H Q _ => ∃ (bg t l : Addr) (fl n c : Int) (xs ys : List V) (ts : List Pr) (S : List (List Int)) (m : Nat), vs = [.ref bg, .ref t, .ref l] ∧ H bg = some (bagO fl n c) ∧ 0 ≤ c ∧ c ≤ 1000000 ∧ l ≠ bg ∧ H t = some (.tup xs) ∧ Prs H xs ts ∧ Tms 4 ts ∧ ts.length ≤ 4 ∧ H l = some (.lst ys) ∧ Rws H ys S ∧ Shf ts S m ∧
  ∀ n' c' H' l2, 0 ≤ c' → c' ≤ c + 100000 → Mem H [bg] H' [(bg, bagO fl n' c')] l2 → Q (.bl true) H'
theorem ok_rr {f : Addr} {fd : FuncData} (F : Fun K "_law_rule_right" "_law_rule_right" s__law_rule_right f fd) (T : Txt P K mg C CR fR aS) (c_Rule : Mak P w K mg base 3 "Rule" C (sp_rule C)) (c__law_demand_right : Cal P w K mg base 3 "_law_demand_right" (sp_bag (ArDr C) RTrue)) (c_shelf_demands : Cal P w K mg base 3 "shelf_demands" (sp_sdem C)) (c__law_triples_right : Cal P w K mg base 3 "_law_triples_right" sp_trr) (c__law_age_rows : Cal P w K mg base 2 "_law_age_rows" (sp_bag ArAr RAr)) (c__law_ages_right : Cal P w K mg base 2 "_law_ages_right" sp_agr) :
    FnOk P w K mg base (L2.CX P w) (4 + 1) f fd ["_law_bag", "_law_terms_here", "_law_shelf_here"] sp_rr := by
  refine okT F sc__law_rule_right (fun vs H Q E h => ?_) (fun cdv A outer s H vs Q E hr tk h => ?_)
  · obtain ⟨bg, t, l, fl, n, c, xs, ys, ts, S, m, rfl, _⟩ := h
    rfl
  obtain ⟨bg, t, l, fl, n, c, xs, ys, ts, S, m, rfl, hbg, hc0, hc1, hne, h1, p1, htm, htl, h3, p2, hsf, k⟩ := h
  have f1 := T.i1; have f2 := T.i2; have f3 := T.i3; have f4 := T.i4; have f6 := T.cl; have f7 := T.nT
  refine ⟨_, (pss_cons (ps_set (i := 3) sc__law_rule_right.nd rfl (Or.inl rfl) (c_make c_Rule tk hr (by decide) (pa_cons (pv 1) pa_nil)))
      (pss_cons (ps_for (passes_of rfl) rfl (pi_list (pv 2)) (pg_name (i := 4) sc__law_rule_right.nd rfl (Or.inl rfl)) (pss_one (ps_for (passes_of rfl) rfl (pi_list (pv 2)) (pg_name (i := 5) sc__law_rule_right.nd rfl (Or.inl rfl)) (pss_one (ps_if (pt_not (pt_val (c_call c__law_demand_right tk hr (by decide) (pa_cons (pv 0) (pa_cons (pv 3) (pa_cons (pv 1) (pa_cons (pv 4) (pa_cons (pv 5) pa_nil)))))))) (pss_one (ps_ret pe_bl)) pss_nil)))))
      (pss_cons (ps_for (passes_of rfl) rfl (pi_list (pe_lst (pa_cons (pe_callTy b_listOf (by rfl) T.b_list (by decide +kernel) (pa_cons (pv 2) pa_nil)) (pa_cons (pe_callTy b_tupleOf (by rfl) T.b_tuple (by decide +kernel) (pa_cons (pv 2) pa_nil)) pa_nil)))) (pg_name (i := 6) sc__law_rule_right.nd rfl (Or.inl rfl)) (pss_cons (ps_set (i := 7) sc__law_rule_right.nd rfl (Or.inl rfl) (c_call c_shelf_demands tk hr (by decide) (pa_cons (pv 3) (pa_cons (pv 6) pa_nil))))
      (pss_cons (ps_if (PW.pt (pw_or (pt_not (pt_val (c_call c__law_triples_right tk hr (by decide) (pa_cons (pv 7) (pa_cons (pv 1) (pa_cons (pv 2) pa_nil)))))) (pw_or1 (pt_cmpR (op_neD hr.units) (pe_callTy b_listOf (by rfl) T.b_list (by decide +kernel) (pa_cons (pv 6) pa_nil)) (pv 2) (nomark _))))) (pss_one (ps_ret pe_bl)) pss_nil)
      (pss_one (ps_expr (pe_bm PySem.F.plainAttrs_list PySem.F.slot_list_append PySem.F.type_list_append mt_append (pv 7) (pa_cons (pe_tup (pa_cons pe_int (pa_cons pe_int (pa_cons (pe_tup pa_nil) pa_nil)))) pa_nil)))))))
      (pss_cons (ps_set (i := 8) sc__law_rule_right.nd rfl (Or.inl rfl) (pe_revL (pv 2)))
      (pss_cons (ps_if (pt_not (pt_val (c_call c__law_triples_right tk hr (by decide) (pa_cons (c_call c_shelf_demands tk hr (by decide) (pa_cons (pv 3) (pa_cons (pv 8) pa_nil))) (pa_cons (pv 1) (pa_cons (pv 8) pa_nil)))))) (pss_one (ps_ret pe_bl)) pss_nil)
      (pss_cons (ps_set (i := 7) sc__law_rule_right.nd rfl (Or.inl rfl) (c_call c_shelf_demands tk hr (by decide) (pa_cons (pv 3) (pa_cons (pe_callTy b_listOf (by rfl) T.b_list (by decide +kernel) (pa_cons (pv 2) pa_nil)) pa_nil))))
      (pss_cons (ps_if (pt_not (pt_val (c_call c__law_triples_right tk hr (by decide) (pa_cons (pv 7) (pa_cons (pv 1) (pa_cons (pv 2) pa_nil)))))) (pss_one (ps_ret pe_bl)) pss_nil)
      (pss_cons (ps_for (passes_of rfl) rfl (pi_list (c_call c__law_age_rows tk hr (by decide) (pa_cons (pv 0) (pa_cons (pv 7) (pa_cons (pe_callB b_len (by rfl) T.b_len (by decide +kernel) (pa_cons (pv 2) pa_nil)) pa_nil))))) (pg_name (i := 9) sc__law_rule_right.nd rfl (Or.inl rfl)) (pss_one (ps_if (pt_not (pt_val (c_call c__law_ages_right tk hr (by decide) (pa_cons (pv 7) (pa_cons (pv 1) (pa_cons (pv 2) (pa_cons (pv 9) pa_nil))))))) (pss_one (ps_ret pe_bl)) pss_nil)))
      (pss_one (ps_ret (pe_cmpR (op_eqD hr.units) (pe_fld (pv 3) rfl) (pv 1) (nomark _)))))))))))), ?_⟩
  simp only [cxK, st__law_rule_right]
  have M : Mem H [bg] H [(bg, bagO fl n c)] [] := mem_start (by simp [hbg]) (by simp) (by simp)
  have hyl := p2.1
  have hS := hsf.len
  have hxl := p1.1
  walk_at "go"
  refine use_ruleT M h1 p1 htm (by omega) fun x dx tp H1 l1 M1 htp => ?_
  have s1 : ∀ a o, H a = some o → o ≠ bagO fl n c → H1 a = some o := fun a o e z => M1.atX hbg e z
  have hb1 : H1 bg = some (bagO fl n c) := M1.getF List.mem_cons_self
  have hx1 : H1 x = some (.ins C dx (ruF tp)) := M1.getL List.mem_cons_self
  have ht1 := s1 _ _ h1 (by simp)
  have htp1 : H1 tp = some (.tup xs) := by
    rcases htp with rfl | z
    · exact ht1
    · exact M1.getL (by simp [z])
  have pt1 : Prs H1 xs ts := p1.mono fun p s e => s1 _ _ e (by simp)
  have hl1 : H1 l = some (.lst ys) := M1.keep _ _ h3 (by simpa using hne)
  have pl1 : Rws H1 ys S := p2.mono fun p s e => s1 _ _ e (by simp)
  have nxb : bg ≠ x := fun e => by rw [← e, hb1] at hx1; cases hx1
  have nxl : l ≠ x := fun e => by rw [← e, hl1] at hx1; cases hx1
  have N : Mem H1 [bg] H1 [(bg, bagO fl n c), (l, .lst ys), (x, .ins C dx (ruF tp))] [] := mem_start (by simp [hb1, hl1, hx1]) (by simp [hne, Ne.symm hne, nxb, nxl]) (by simp)
  have fin : ∀ n' c' H' l2, 0 ≤ c' → c' ≤ c + 100000 → Mem H1 [bg] H' [(bg, bagO fl n' c')] l2 → Q (.bl true) H' := fun n' c' H' l2 a1 a2 M2 => k n' c' H' _ a1 a2 (M1.comp1 (by simp) M2)
  clear M k
  have cv : ∀ {H' l' n' c'}, Mem H1 [bg] H' [(bg, bagO fl n' c'), (l, .lst ys), (x, .ins C dx (ruF tp))] l' → H' l = some (.lst ys) ∧ H' t = some (.tup xs) ∧ Prs H' xs ts ∧ Rws H' ys S ∧ H' x = some (.ins C dx (ruF tp)) ∧ H' tp = some (.tup xs) := fun M' => ⟨M'.keep _ _ hl1 (by simpa using hne), M'.atX hb1 ht1 (by simp), pt1.mono fun p s e => M'.atX hb1 e (by simp), pl1.mono fun p s e => M'.atX hb1 e (by simp), M'.atX hb1 hx1 (by simp), M'.atX hb1 htp1 (by simp)⟩
  walk_at "go"
  refine lst_loop (xs := ys) ⟨fun i σ' H' => ∃ (l' : List (Addr × HO)) (v4 v5 : Option V) (n' c' : Int), σ' = [some (.ref bg), some (.ref t), some (.ref l), some (.ref x), v4, v5, none, none, none, none] ∧ 0 ≤ c' ∧ c' ≤ c + 2000 * i ∧ Mem H1 [bg] H' [(bg, bagO fl n' c'), (l, .lst ys), (x, .ins C dx (ruF tp))] l', ?_, ?_, ?_, ?_⟩
  · exact ⟨[], _, _, _, _, rfl, hc0, by omega, N⟩
  · rintro i σ' H' _ ⟨l', v4, v5, n', c', rfl, _, _, M'⟩
    exact SqL.of (cv M').1
  · rintro i v σ' H' hv ⟨l', v4, v5, n', c', rfl, b0, b1, M'⟩
    obtain ⟨a, pa, ha, rfl, hpa⟩ := pl1.get hv
    have hil := (List.getElem?_eq_some_iff.mp ha).1
    have hl' := (cv M').1
    walk_at "go"
    refine lst_loop (xs := ys) ⟨fun j σ' H' => ∃ (l' : List (Addr × HO)) (v5 : Option V) (n' c' : Int), σ' = [some (.ref bg), some (.ref t), some (.ref l), some (.ref x), some (.ref pa), v5, none, none, none, none] ∧ 0 ≤ c' ∧ c' ≤ c + 2000 * i + 100 * j ∧ Mem H1 [bg] H' [(bg, bagO fl n' c'), (l, .lst ys), (x, .ins C dx (ruF tp))] l', ?_, ?_, ?_, ?_⟩
    · exact ⟨_, _, _, _, rfl, b0, by omega, M'⟩
    · rintro j σ' H' _ ⟨l', v5, n', c', rfl, _, _, M'⟩
      exact SqL.of (cv M').1
    · rintro j v σ' H' hv ⟨l', v5, n', c', rfl, b0, b1, M'⟩
      obtain ⟨b, pb, hb, rfl, hpb⟩ := pl1.get hv
      have hjl := (List.getElem?_eq_some_iff.mp hb).1
      obtain ⟨q1, q2, q3, q4, q5, q6⟩ := cv M'
      walk_at "go"
      refine use_bag M' (by simp) b0 (by omega) ⟨x, dx, tp, t, pa, pb, xs, xs, ts, a, b, m, rfl, q5, q6, q3, hsf.dir, hsf.fit, q2, q3, M'.atX hb1 hpa (by simp), M'.atX hb1 hpb (by simp), hsf.row a (List.mem_of_getElem? ha), hsf.row b (List.mem_of_getElem? hb), hsf.n10⟩ ?_
      rintro v l2 n2 c2 H2 ⟨rfl, rfl⟩ e0 e1 M2
      walk_at "go"
      exact ⟨_, _, _, _, rfl, e0, by omega, M2⟩
    · rintro σ' H' ⟨l', v5, n', c', rfl, b0, b1, M'⟩
      walk_at "go"
      exact ⟨_, _, _, _, _, rfl, b0, by omega, M'⟩
  rintro σ' H2 ⟨l2, v4, v5, n2, c2, rfl, b0, b1, M2⟩
  walk_at "go"
  rename_i la Ha Ma ta Hb Mb p0 H3 M3
  refine lst_loop (xs := [.ref la, .ref ta]) ⟨fun i σ' H' => ∃ (l' : List (Addr × HO)) (v6 v7 : Option V), σ' = [some (.ref bg), some (.ref t), some (.ref l), some (.ref x), v4, v5, v6, v7, none, none] ∧ (p0, HO.lst [.ref la, .ref ta]) ∈ l' ∧ (la, HO.lst ys) ∈ l' ∧ (ta, HO.tup ys) ∈ l' ∧ Mem H1 [bg] H' [(bg, bagO fl n2 c2), (l, .lst ys), (x, .ins C dx (ruF tp))] l', ?_, ?_, ?_, ?_⟩
  · exact ⟨_, _, _, rfl, by simp, by simp, by simp, M3⟩
  · rintro i σ' H' _ ⟨l', v6, v7, rfl, z1, z2, z3, M'⟩
    exact SqL.of (M'.getL z1)
  · rintro i v σ' H' hv ⟨l', v6, v7, rfl, z1, z2, z3, M'⟩
    obtain ⟨q1, q2, q3, q4, q5, q6⟩ := cv M'
    have hsq : ∃ h, v = .ref h ∧ ((h, HO.lst ys) ∈ l' ∨ (h, HO.tup ys) ∈ l') := by
      have hm := List.mem_of_getElem? hv
      simp only [List.mem_cons, List.not_mem_nil, or_false] at hm
      rcases hm with rfl | rfl
      · exact ⟨la, rfl, .inl z2⟩
      · exact ⟨ta, rfl, .inr z3⟩
    obtain ⟨h, rfl, hq⟩ := hsq
    walk_at "go"
    refine use_sdem M' q5 q6 q3 (hq.imp (fun e => M'.getL e) (fun e => M'.getL e)) q4 hsf fun d zs H4 l4 M4 hz => ?_
    obtain ⟨r1, r2, r3, r4, r5, r6⟩ := cv M4
    walk_at "go"
    refine use_trr M4 (M4.getL List.mem_cons_self) (TrL.trs M4 (hz.more fun z hz => by simp [hz])) r2 r3 r1 r4 hsf fun H5 M5 => ?_
    obtain ⟨w1, w2, w3, w4, w5, w6⟩ := cv M5
    walk_at "go"
    refine k_listOf (xs := ys) M5 (hq.imp (fun e => SqL.of (M5.getL (by simp [e]))) (fun e => SqT.of (M5.getL (by simp [e])))) fun p6 H6 M6 => ?_
    walk_at "go"
    refine k_neRws (M6.getL List.mem_cons_self) (cv M6).1 (cv M6).2.2.2.1 (cv M6).2.2.2.1 ?_
    have hzl : zs.length = (demL ts S (PL S.length (List.range S.length))).length := hz.1
    have hdl := dm_len ts S S.length 0
    have hmul : S.length * S.length ≤ 20 * 20 := Nat.mul_le_mul (by omega) (by omega)
    rw [show PR1 S.length (List.range' (S.length + 1) 0) = [] from rfl, List.append_nil] at hdl
    walk_at "go"
    rename_i H7 M7
    exact ⟨_, _, _, rfl, by simp [z1], by simp [z2], by simp [z3], M7⟩
  · rintro σ' H' ⟨l', v6, v7, rfl, z1, z2, z3, M'⟩
    obtain ⟨q1, q2, q3, q4, q5, q6⟩ := cv M'
    walk_at "go"
    refine k_revSl ?_
    walk_at "go"
    refine ⟨l, ys, rfl, SqL.of q1, fun p7 hp7 => ?_⟩
    have M7 := M'.alloc (o := .lst ys.reverse) hp7
    walk_at "go"
    refine use_sdem M7 (cv M7).2.2.2.2.1 (cv M7).2.2.2.2.2 (cv M7).2.2.1 (.inl (M7.getL List.mem_cons_self)) (cv M7).2.2.2.1.reverse hsf.rev fun d zs H8 l8 M8 hz => ?_
    walk_at "go"
    refine use_trr M8 (M8.getL List.mem_cons_self) (TrL.trs M8 (hz.more fun z hz => by simp [hz])) (cv M8).2.1 (cv M8).2.2.1 (M8.getL (by simp)) (cv M8).2.2.2.1.reverse hsf.rev fun H9 M9 => ?_
    walk_at "go"
    rename_i p10 H10 M10
    refine use_sdem M10 (cv M10).2.2.2.2.1 (cv M10).2.2.2.2.2 (cv M10).2.2.1 (.inl (M10.getL List.mem_cons_self)) (cv M10).2.2.2.1 hsf fun e1 ez H11 l11 M11 he => ?_
    walk_at "go"
    refine use_trr M11 (M11.getL List.mem_cons_self) (TrL.trs M11 (he.more fun z hz => by simp [hz])) (cv M11).2.1 (cv M11).2.2.1 (cv M11).1 (cv M11).2.2.2.1 hsf fun H12 M12 => ?_
    walk_at "go"
    have hel : ez.length = (demL ts S (PL S.length (List.range S.length))).length := he.1
    have hdl := dm_len ts S S.length 0
    have hmul : S.length * S.length ≤ 20 * 20 := Nat.mul_le_mul (by omega) (by omega)
    rw [show PR1 S.length (List.range' (S.length + 1) 0) = [] from rfl, List.append_nil] at hdl
    have hneb : e1 ≠ bg := fun z => by
      have a1 := M12.getL (a := e1) List.mem_cons_self
      have a2 := M12.getF (a := bg) List.mem_cons_self
      have nd := M12.nd
      rw [z] at nd
      simp at nd
    refine use_bag M12 (by simp) b0 (by omega) ⟨e1, _, ez, dmS ts S, rfl, hneb, M12.getL List.mem_cons_self, TrL.trs M12 (he.more fun z hz => by simp [hz]), fun t ht => ?_, by omega, by omega, by omega⟩ ?_
    · have := dmS_rng ht
      omega
    rintro v l13 n3 c3 H13 ⟨p13, gxs, rs, rfl, hp13, ga, hga⟩ e0 e1' M13
    have hrl := hga _ _ rfl
    walk_at "go"
    refine k_lstAt (SqL.of (M13.getL (List.mem_append_left _ hp13))) ?_
    refine lst_loop (xs := gxs) ⟨fun i σ' H' => ∃ (v9 : Option V), σ' = [some (.ref bg), some (.ref t), some (.ref l), some (.ref x), v4, v5, v6, some (.ref e1), some (.ref p7), v9] ∧ Mem H1 [bg] H' [(bg, bagO fl n3 c3), (l, .lst ys), (x, .ins C dx (ruF tp))] (l13 ++ (e1, HO.lst ez) :: (l11 ++ (p10, HO.lst ys) :: (d, HO.lst zs) :: (l8 ++ (p7, HO.lst ys.reverse) :: l'))), ?_, ?_, ?_, ?_⟩
    · exact ⟨_, rfl, M13⟩
    · rintro i σ' H' _ ⟨v9, rfl, M'⟩
      exact SqL.of (M'.getL (List.mem_append_left _ hp13))
    · rintro i v σ' H' hv ⟨v9, rfl, M'⟩
      obtain ⟨ns, pg, hg, rfl, hpg⟩ := ga.get hv
      have hnl := hrl ns (List.mem_of_getElem? hg)
      walk_at "go"
      refine use_agr M' (M'.getL (by simp)) (TrL.trs M' (he.more fun z hz => by simp [hz])) (cv M').2.1 (cv M').2.2.1 (cv M').1 (cv M').2.2.2.1 hsf (M'.getL (List.mem_append_left _ hpg)) (by omega) fun H2 M2 => ?_
      walk_at "go"
      exact ⟨_, rfl, M2⟩
    · rintro σ' H' ⟨v9, rfl, M'⟩
      walk_at "go"
      refine k_eqPrsT (cv M').2.2.2.2.2 (cv M').2.1 (cv M').2.2.1 (cv M').2.2.1 ?_
      exact fin _ _ _ _ e0 (by omega) M'.dropF.dropF
end
end K35

set_option Elab.async false
set_option linter.all false
set_option maxRecDepth 100000
set_option maxHeartbeats 8000000
namespace K35
open PySem L2 MyL
local macro_rules | `(tactic| walk_at "mem") => `(tactic| first | exact List.mem_cons_self | (refine List.mem_cons_of_mem _ ?_; walk_at "mem"))
local macro_rules | `(tactic| walk_at "hp") => `(tactic| first | assumption | (refine' Mem.getL ?k1 ?k2; (case k1 => assumption); (case k2 => walk_at "mem")) | (refine' Mem.getF ?k1 ?k2; (case k1 => assumption); (case k2 => walk_at "mem")) | (refine' Mem.atB ?k1 ?k2; (case k1 => assumption); (case k2 => assumption)) | (refine' Mem.atX ?k1 ?k2 ?k3 ?k4; (case k1 => assumption); (case k3 => assumption); (case k2 => assumption); (case k4 => simp)) | fail)
local macro_rules | `(tactic| walk_at "cond") => `(tactic| first | omega | assumption | exact mulR (by omega) (by omega) | exact mulL (by omega) (by omega) | exact divW (by omega) (by omega) | decide)
local macro_rules | `(tactic| walk_at "look") => `(tactic| first | assumption | with_unfolding_all rfl | exact atI_map (by omega) (by omega))
local macro_rules | `(tactic| walk_at "go1") => `(tactic| with_reducible first
  | refine k_seq ?_ | refine k_gName ?_ | refine k_asg ?_ | refine k_ret ?_ | refine k_ifS ?_ | refine k_drop ?_ | refine k_next ?_ | refine k_break ?_ | refine k_cont ?_ | refine k_retN ?_
  | (refine' k_var ?k1 ?_; (case k1 => with_unfolding_all rfl)) | refine k_c ?_ | refine k_op ?_ | refine k_un ?_ | refine k_test ?_ | refine k_B ?_ | refine k_bl ?_ | refine k_and ?_ | refine k_or ?_ | refine k_not ?_
  | refine k_andV ?_ | refine k_orV ?_ | refine k_notV ?_ | refine k_ifE ?_ | refine k_nil ?_ | refine k_cons ?_ | refine k_cb ?_ | refine k_callS ?_ | refine k_lst0 ?_ | refine k_tup0 ?_ | refine k_fld0 ?_ | refine k_sub0 ?_ | refine k_make0 ?_ | refine k_prop0 ?_ | refine k_sta0 ?_ | refine k_sta ?_ | refine k_bm ?_ | refine k_bm0 ?_ | refine k_chain ?_ | refine k_makeK0 ?_ | refine k_swapK ?_ | refine k_meth0 ?_ | refine k_ownN0 ?_ | refine k_ownO0 ?_ | refine k_sfld0 ?_ | refine k_jnil ?_ | refine k_jcons ?_ | refine k_fmt0 ?_ | refine k_sl0 ?_ | refine k_nopart ?_ | refine k_part ?_ | refine k_forR1 ?_ | refine k_forR2 ?_ | refine k_forL ?_ | refine k_forT ?_ | refine k_lcR1 ?_ | refine k_lcR2 ?_ | refine k_lcL ?_ | refine k_lcT ?_ | refine k_err0 ?_ | refine k_xf0 ?_ | refine k_errQ1 ?_ | refine k_errQ0 ?_ | refine k_errQ2 ?_ | refine k_errQ3 ?_
  | refine k_I0 ?_ | (refine k_I ?k1 ?_; (case k1 => walk_at "cond")) | refine k_U ?_ | refine k_eqI ?_ | refine k_neI ?_ | refine k_eqB ?_ | refine k_neB ?_ | refine k_eqS ?_ | refine k_neS ?_
  | refine k_int1 ?_ | refine k_abs1 ?_ | refine k_min2 ?_ | refine k_max2 ?_
  | (refine' k_lenM ?k1 ?_; (case k1 => walk_at "hp")) | (refine' k_lenL ?k1 ?_; (case k1 => walk_at "hp")) | (refine' k_lenT ?k1 ?_; (case k1 => walk_at "hp"))
  | (refine' k_lenS ?k1 ?_; (case k1 => assumption)) | (refine' k_ixS ?k1 ?k2 ?_; (case k1 => assumption); (case k2 => walk_at "look"))
  | (refine' k_ixL ?k1 ?k2 ?_; (case k1 => walk_at "hp"); (case k2 => walk_at "look")) | (refine' k_ixT ?k1 ?k2 ?_; (case k1 => walk_at "hp"); (case k2 => walk_at "look"))
  | (refine' k_ix4 ?k1 ?k2 ?k3 ?_; (case k1 => walk_at "hp"); (case k2 => omega); (case k3 => omega); intro n' hn')
  | (refine' k_ix3 ?k1 ?k2 ?k3 ?_; (case k1 => walk_at "hp"); (case k2 => omega); (case k3 => omega); intro n' hn')
  | (refine' k_ix2 ?k1 ?k2 ?k3 ?_; (case k1 => walk_at "hp"); (case k2 => omega); (case k3 => omega); intro n' hn')
  | (refine' k_fld ?k1 ?k2 ?k3 ?k4 ?_; (case k1 => walk_at "hp"); (case k2 => assumption); (case k3 => assumption); (case k4 => walk_at "fld"))
  | (refine' k_lst ?k1 ?k2 ?_; (case k1 => assumption); (case k2 => exact sz (by simp)); intro p' H' M')
  | (refine' k_tup ?k1 ?k2 ?_; (case k1 => assumption); (case k2 => exact sz (by simp)); intro p' H' M')
  | (refine' k_setF0 ?k1 ?k2 ?k3 ?_; (case k1 => assumption); (case k2 => simp); (case k3 => with_unfolding_all rfl); intro H' M'; try simp only [Int.reduceToNat, List.set_cons_succ, List.set_cons_zero] at M')
  | (refine' k_setL0 ?k1 ?k2 ?_; (case k1 => assumption); (case k2 => with_unfolding_all rfl); intro H' M'; try simp only [Int.reduceToNat, List.set_cons_succ, List.set_cons_zero] at M')
  | (refine' k_setL1 ?k1 ?k2 ?_; (case k1 => assumption); (case k2 => with_unfolding_all rfl); intro H' M'; try simp only [Int.reduceToNat, List.set_cons_succ, List.set_cons_zero] at M')
  | (refine' k_setL2 ?k1 ?k2 ?_; (case k1 => assumption); (case k2 => with_unfolding_all rfl); intro H' M'; try simp only [Int.reduceToNat, List.set_cons_succ, List.set_cons_zero] at M')
  | refine iteT ?_ | refine iteF ?_ | refine k_iteNE ?_ | refine k_iteNS ?_ | refine k_iteNT ?_ | refine k_iteNF ?_
  | (refine k_iteD ?_ ?_ <;> intro hc <;> first | (exfalso; omega) | skip)
  | (refine k_iteN ?_ ?_ <;> intro hc <;> first | (exfalso; omega) | skip)
  | (refine' k_ownN ?k1 ?_; (case k1 => walk_at "hp")) | (refine' k_ownO ?k1 ?k2 ?_; (case k1 => walk_at "hp"); (case k2 => walk_at "hp")) | (refine' k_ownEq ?k1 ?k2 ?_; (case k1 => walk_at "hp"); (case k2 => walk_at "hp"))
  | (refine' k_ownIn ?k1 ?_; (case k1 => walk_at "hp")) | (refine' k_ownU ?k1 ?_; (case k1 => walk_at "hp")) | (refine' k_ownStr ?k1 ?_; (case k1 => walk_at "hp"))
  | (refine' k_prop ?k1 ?_; (case k1 => walk_at "hp")) | (refine' k_ownNe ?k1 ?k2 ?_; (case k1 => walk_at "hp"); (case k2 => walk_at "hp")) | (refine' k_eqP ?k1 ?k2 ?_; (case k1 => walk_at "hp"); (case k2 => walk_at "hp")) | (refine' k_neP ?k1 ?k2 ?_; (case k1 => walk_at "hp"); (case k2 => walk_at "hp"))
  | (refine' k_isiO ?k1 ?k2 ?k3 ?k4 ?k5 ?k6 ?_; (case k1 => walk_at "hp"); (case k2 => assumption); (case k3 => assumption); (case k4 => assumption); (case k5 => assumption); (case k6 => assumption))
  | (refine' k_isiI ?k1 ?_; (case k1 => assumption))
  | (refine' k_jst ?k1 ?_; (case k1 => walk_at "size")) | (refine' k_fmtI ?k1 ?_; (case k1 => exact log2_64 (by omega) (by omega))) | (refine' k_strI ?k1 ?_; (case k1 => exact log2_64 (by omega) (by omega)))
  | (refine k_addS ?k1 ?_; (case k1 => walk_at "size")) | refine k_st ?_ | refine k_parti ?_
  | (refine' k_cat ?k1 ?k2 ?k3 ?k4 ?_; (case k1 => assumption); (case k2 => walk_at "hp"); (case k3 => walk_at "hp"); (case k4 => walk_at "size"); intro p' H' M')
  | (refine' k_slL ?k1 ?k2 ?_; (case k1 => assumption); (case k2 => first | assumption | exact SqL.of (by walk_at "hp")); intro p' H' M')
  | (refine k_rng1 ?k1 ?k2 ?_; (case k1 => omega); (case k2 => omega)) | (refine k_rng2 ?k1 ?k2 ?k3 ?k4 ?_; (case k1 => omega); (case k2 => omega); (case k3 => omega); (case k4 => omega))
  | (refine' k_lstAt ?k1 ?_; (case k1 => first | assumption | exact SqL.of (by walk_at "hp"))) | (refine' k_tupAt ?k1 ?_; (case k1 => first | assumption | exact SqT.of (by walk_at "hp")))
  | (refine' k_isXs ?k1 ?k2 ?_; (case k1 => assumption); (case k2 => walk_at "hp")) | (refine' k_isXo ?k1 ?k2 ?k3 ?_; (case k1 => assumption); (case k2 => walk_at "hp"); (case k3 => assumption)) | (refine' k_isXt ?k1 ?k2 ?k3 ?_; (case k1 => assumption); (case k2 => walk_at "hp"); (case k3 => assumption))
  | (refine' k_isX3 ?k1 ?k2 ?k3 ?k4 ?_; (case k1 => assumption); (case k2 => walk_at "hp"); (case k3 => walk_at "hp"); (case k4 => assumption)) | (refine' k_isX2 ?k1 ?k2 ?k3 ?k4 ?_; (case k1 => assumption); (case k2 => walk_at "hp"); (case k3 => walk_at "hp"); (case k4 => assumption))
  | (refine' k_tyL ?k1 ?_; (case k1 => walk_at "hp"))
  | (refine' k_appL0 ?k1 ?k2 ?_; (case k1 => assumption); (case k2 => walk_at "size"); intro H' M') | (refine' k_appL1 ?k1 ?k2 ?_; (case k1 => assumption); (case k2 => walk_at "size"); intro H' M') | (refine' k_appL2 ?k1 ?k2 ?_; (case k1 => assumption); (case k2 => walk_at "size"); intro H' M') | (refine' k_appL3 ?k1 ?k2 ?_; (case k1 => assumption); (case k2 => walk_at "size"); intro H' M')
  | (refine' k_revL0 ?k1 ?_; (case k1 => assumption); intro H' M') | (refine' k_revL1 ?k1 ?_; (case k1 => assumption); intro H' M')
  | (refine' k_isX0s ?k1 ?_; (case k1 => assumption)) | (refine' k_isX0o ?k1 ?k2 ?_; (case k1 => assumption); (case k2 => assumption)) | (refine' k_isX0t ?k1 ?k2 ?_; (case k1 => assumption); (case k2 => assumption)) | (refine' k_isX04 ?k1 ?k2 ?k3 ?_; (case k1 => assumption); (case k2 => walk_at "hp"); (case k3 => assumption))
  | (refine' k_isX4 ?k1 ?k2 ?k3 ?k4 ?_; (case k1 => assumption); (case k2 => walk_at "hp"); (case k3 => walk_at "hp"); (case k4 => assumption)) | (refine' k_ixT2 ?k1 ?k2 ?k3 ?_; (case k1 => walk_at "hp"); (case k2 => omega); (case k3 => omega); intro n' hn')
  | (refine k_iteNEq ?k1 ?_; (case k1 => (rw [Bool.eq_iff_iff]; first | (simp; done) | (simp; omega))))
  | (refine' k_xf ?k1 ?k2 ?_; (case k1 => walk_at "hp"); (case k2 => first | exact xd1 | exact xdH | exact xd2 (by decide +kernel)))
  | (refine' k_caught ?k1 ?_; (case k1 => assumption); intro a' ha')
  | refine k_asgT ?_ | refine k_gCons ?_ | refine k_gNil ?_ | refine k_par ?_ | refine k_two ?_ | refine k_isNn ?_ | refine k_isNi ?_ | refine k_notNn ?_ | refine k_notNi ?_ | refine k_isN ?_ | refine k_notN ?_
  | (refine' k_gTup ?k1 ?k2 ?_; (case k1 => walk_at "hp"); (case k2 => with_unfolding_all rfl))
  | (refine' k_isiT ?k1 ?k2 ?_; (case k1 => walk_at "hp"); (case k2 => assumption)) | (refine' k_isiL ?k1 ?k2 ?_; (case k1 => walk_at "hp"); (case k2 => assumption))
  | (refine' k_ixQ ?k1 ?k2 ?_; (case k1 => assumption); (case k2 => walk_at "look")) | (refine' k_lenQ ?k1 ?_; (case k1 => assumption))
  | (refine' k_xfB ?k1 ?k2 ?_; (case k1 => walk_at "hp"); (case k2 => first | exact xd1 | exact xdH | exact xd2 (by decide +kernel)))
  | (refine' k_all ?k1 ?_; (case k1 => walk_at "hp"))
  | (refine' k_tupleOf ?k1 ?k2 ?_; (case k1 => assumption); (case k2 => exact SqL.of (by walk_at "hp")); intro p' H' M')
  | (refine' k_listOf ?k1 ?k2 ?_; (case k1 => assumption); (case k2 => exact Or.inl (SqL.of (by walk_at "hp"))); intro p' H' M')
  | walk_at "use")
local macro_rules | `(tactic| walk_at "go") => `(tactic| repeat' (walk_at "go1"))

local macro_rules | `(tactic| walk_at "eq") => `(tactic| first | rfl | assumption | omega)
local macro_rules | `(tactic| walk_at "fld") => `(tactic| exact xdH)
local macro_rules | `(tactic| walk_at "size") => `(tactic| first | exact sz (by first | omega | (simp only [List.length_map, List.length_range, List.length_append, List.length_cons, List.length_nil, Int.reduceSub, Int.reduceToNat, Int.reduceNeg]; omega)) | (exact Nat.lt_of_le_of_lt (m := 50000) (by first | omega | (simp only [List.length_map, List.length_range, List.length_append, List.length_cons, List.length_nil]; omega)) (by decide)))
section
variable {P : Program} {w : World} {K : PySem.W.Frag} {mg : Str → Option Value} {base : Heap} {C CR fR aS : Addr}
local macro_rules | `(tactic| walk_at "use") => `(tactic| with_reducible first
  | refine use_isn ?_
  | (refine' use_take ?k1 ?k2 ?k3 ?k4 ?k5 ?k6 ?_; (case k1 => assumption); (case k2 => simp); (case k3 => omega); (case k4 => omega); (case k5 => omega); (case k6 => omega); intro d' n' c' H' a1' a2' a3' a4' M'))
section
variable {σ : L2.St} {H : Hp} {Q : VK} {te : TE} {B : Hp} {ms : List Addr} {f l : List (Addr × HO)} {vs : List Nat} {bg : Addr} {fl n0 c0 : Int}
theorem lcR_bagR {lo : Int} {n j : Nat} {m : Int} (M : Mem B ms H ((bg, bagO fl n0 c0) :: f) l) (hc0 : 0 ≤ c0) (hn : n ≤ 50000) (hw : ∀ x, wipe ((wipe σ vs).set j (some x)) vs = wipe σ vs)
    (he : ∀ (i : Nat) n' c' H' l' (R : VK), i < n → 0 ≤ c' → c' ≤ c0 + 100 * i → Mem B ms H' ((bg, bagO fl n' c') :: f) l' → (∀ z ∈ l, z ∈ l') → (∀ d r n2 c2 H4, 0 ≤ c2 → c2 ≤ c' + 100 → (r.length : Int) = m → Mem B ms H4 ((bg, bagO fl n2 c2) :: f) ((d, rowO r) :: l') → R (.ref d) H4) → te ((wipe σ vs).set j (some (.int (lo + i)))) H' R)
    (k : ∀ (D : Addr) (xs : List V) (rs : List (List Int)) (zs : List (Addr × HO)) n' c' H', rs.length = n → (∀ r ∈ rs, (r.length : Int) = m) → RwL zs xs rs → 0 ≤ c' → c' ≤ c0 + 100 * n → Mem B ms H' ((bg, bagO fl n' c') :: f) ((D, .lst xs) :: (zs ++ l)) → Q (.ref D) H') : tLc (iJ (Itr lo n)) (gName j) tYes te vs σ H Q := by
  refine lc_rng fun D hD => ⟨fun i H' => ∃ (xs : List V) (rs : List (List Int)) (zs : List (Addr × HO)) (n' c' : Int), rs.length = i ∧ (∀ r ∈ rs, (r.length : Int) = m) ∧ RwL zs xs rs ∧ 0 ≤ c' ∧ c' ≤ c0 + 100 * i ∧ Mem B ms H' ((bg, bagO fl n' c') :: f) ((D, .lst xs) :: (zs ++ l)), ⟨[], [], [], n0, c0, rfl, (fun r h => nomatch h), PX.nil, hc0, by omega, M.alloc hD⟩, ?_, ?_⟩
  · rintro i H' hi ⟨xs, rs, zs, n', c', hl, hr, pz, h0, h1, M'⟩
    have hxl := pz.1
    refine ⟨hw _, ?_⟩
    refine iteT (B := ∃ (xs : List V) (rs : List (List Int)) (zs : List (Addr × HO)) (n' c' : Int), rs.length = i + 1 ∧ (∀ r ∈ rs, (r.length : Int) = m) ∧ RwL zs xs rs ∧ 0 ≤ c' ∧ c' ≤ c0 + 100 * ((i + 1 : Nat) : Int) ∧ Mem B ms H' ((bg, bagO fl n' c') :: f) ((D, .lst xs) :: (zs ++ l))) (he i n' c' H' _ _ hi h0 h1 M' (fun z hz => List.mem_cons_of_mem _ (List.mem_append_right _ hz)) fun d r n2 c2 H4 a1 a2 a3 M4 => ⟨_, M4.getL (List.mem_cons_of_mem _ List.mem_cons_self), ?_, ?_⟩)
    · exact Nat.lt_of_lt_of_le (show xs.length < n by omega) (Nat.le_trans hn (by decide))
    · refine ⟨xs ++ [.ref d], rs ++ [r], (d, rowO r) :: zs, n2, c2, by rw [List.length_append, hl]; rfl, fun q hq => ?_, (pz.more fun z hz => List.mem_cons_of_mem _ hz).append (PX.one (R := fun p r' => (p, rowO r') ∈ (d, rowO r) :: zs) List.mem_cons_self), a1, by omega, ?_⟩
      · rcases List.mem_append.mp hq with z | z
        · exact hr q z
        · rw [List.mem_singleton.mp z]; exact a3
      · exact (Mem.setL (l1 := [(d, rowO r)]) M4).front1
  · rintro H' ⟨xs, rs, zs, n', c', hl, hr, pz, h0, h1, M'⟩
    exact k D xs rs zs n' c' H' hl hr pz h0 h1 M'
end
theorem three_of {ns : List Int} (h : ns.length = 3) : ∃ x y z, ns = [x, y, z] := by
  match ns, h with
  | [x, y, z], _ => exact ⟨x, y, z, rfl⟩
theorem use_roll {B H : Hp} {ms : List Addr} {f l : List (Addr × HO)} {Q : VK} {E : XK} {bg pl : Addr} {fl n c a m x y z : Int} (M : Mem B ms H ((bg, bagO fl n c) :: f) l) (hm : bg ∈ ms) (h0 : 0 ≤ c) (h1 : c < 2 ^ 30) (ha0 : 0 ≤ a) (ha1 : a ≤ 12) (hm0 : 0 ≤ m) (hm1 : m ≤ 4) (hp : (pl, HO.lst [.int x, .int y, .int z]) ∈ l)
    (k : ∀ (d : Addr) (r : List Int) (n' c' : Int) H', (r.length : Int) = m → 0 ≤ c' → c' ≤ c + 100 → Mem B ms H' ((bg, bagO fl n' c') :: f) ((d, rowO r) :: l) → Q (.ref d) H') : sp_bag ArRo RRo [.ref bg, .int a, .int m, .ref pl] H Q E :=
  use_bag M hm h0 h1 ⟨a, m, pl, x, y, z, rfl, (by
    rintro rfl
    have nd := M.nd
    rw [List.map_append, List.nodup_append] at nd
    exact nd.2.2 _ (List.mem_map.mpr ⟨_, hp, rfl⟩) _ (List.mem_map.mpr ⟨_, List.mem_cons_self, rfl⟩) rfl), ha0, ha1, hm0, hm1, M.getL hp⟩ (by
    rintro v l2 n' c' H' ⟨d, r, rfl, rfl, hr⟩ a3 a4 M'
    exact k d r n' c' H' (hr _ _ _ rfl) a3 a4 M')
/-- the terms told, but the one of the age -/
abbrev noAge (kn : Int) (ts : List Pr) : List Pr := ts.filter fun t => !decide (t.1 = kn)
def sp_shelf : Sp := fun vs H Q _ => ∃ (bg t : Addr) (fl n c kn : Int) (xs : List V) (ts : List Pr), vs = [.ref bg, .int kn, .ref t] ∧ H bg = some (bagO fl n c) ∧ 0 ≤ c ∧ c ≤ 1000 ∧ 0 ≤ kn ∧ kn ≤ 2 ∧ H t = some (.tup xs) ∧ Prs H xs ts ∧ (∀ t ∈ ts, 0 ≤ t.1 ∧ t.1 ≤ kn) ∧ ts.length ≤ 4 ∧
  ∀ (d : Addr) zs S n' c' H' l2, Mem H [bg] H' [(bg, bagO fl n' c')] ((d, .lst zs) :: l2) → Rws H' zs S → (∀ r ∈ S, (r.length : Int) = kn) → S.length ≤ 9 → Q (.ref d) H'
theorem ok_shelf {f : Addr} {fd : FuncData} (F : Fun K "_law_shelf" "_law_shelf" s__law_shelf f fd) (T : Txt P K mg C CR fR aS) (c__law_take : Cal P w K mg base 1 "_law_take" sp_take) (c__law_value : Cal P w K mg base 2 "_law_value" (sp_bag ArInt RInt)) (c__law_roll : Cal P w K mg base 2 "_law_roll" (sp_bag ArRo RRo)) (c__law_laid : Cal P w K mg base 2 "_law_laid" sp_laid) :
    FnOk P w K mg base (L2.CX P w) (2 + 1) f fd ["_law_bag", "_law_known", "_law_terms_here"] sp_shelf := by
  refine okT F sc__law_shelf (fun vs H Q E h => ?_) (fun cdv A outer s H vs Q E hr tk h => ?_)
  · obtain ⟨bg, t, fl, n, c, kn, xs, ts, rfl, _⟩ := h
    rfl
  obtain ⟨bg, t, fl, n, c, kn, xs, ts, rfl, hbg, hc0, hc1, hk0, hk2, h1, p1, hrg, htl, k⟩ := h
  have f1 := T.i1; have f2 := T.i2; have f3 := T.i3; have f4 := T.i4; have f6 := T.cl; have f7 := T.nT
  refine ⟨_, (pss_cons (ps_set (i := 3) sc__law_shelf.nd rfl (Or.inr rfl) (pe_lc (own := [("_law_at", 6)]) (g := gName 6) (tt := tYes) rfl sc__law_shelf.nd (pi_range1 (by rfl) T.b_range (pa_cons pe_int pa_nil)) (blkOk_by (own := [("_law_at", 6)]) (N := N__law_shelf) (sc := defScope s__law_shelf) (by decide +kernel)) (fun _ _ _ _ _ => pg_name (i := 6) sc__law_shelf.nd rfl (Or.inl rfl)) (fun _ _ _ _ _ => pts_nil) (fun _ _ _ _ _ => (c_call c__law_value takes0 hr (by decide) (pa_cons (pv 0) (pa_cons (pe_op op_sub (pv 6) pe_int) pa_nil))))))
      (pss_cons (ps_set (i := 4) sc__law_shelf.nd rfl (Or.inl rfl) (pe_ix ix_list (pe_lst (pa_cons pe_int (pa_cons pe_int (pa_cons pe_int (pa_cons pe_int (pa_cons pe_int (pa_cons pe_int (pa_cons pe_int (pa_cons pe_int (pa_cons pe_int pa_nil)))))))))) (c_call c__law_take tk hr (by decide) (pa_cons (pv 0) (pa_cons pe_int pa_nil))) (fun _ _ => rfl)))
      (pss_cons (ps_setLc (i := 5) (own := [("_law_at", 6)]) (g := gName 6) (tt := tYes) rfl sc__law_shelf.nd rfl rfl (sw_true rfl rfl rfl (by decide +kernel)) (pi_range1 (by rfl) T.b_range (pa_cons (pv 4) pa_nil)) (blkOk_by (own := [("_law_at", 6)]) (N := N__law_shelf) (sc := defScope s__law_shelf) (by decide +kernel)) (fun _ _ _ _ _ => pg_name (i := 6) sc__law_shelf.nd rfl (Or.inl rfl)) (fun _ _ _ _ _ => pts_nil) (fun _ _ _ _ _ => (c_call c__law_roll takes0 hr (by decide) (pa_cons (pv 0) (pa_cons (pv 6) (pa_cons (pv 1) (pa_cons (pv 3) pa_nil)))))))
      (pss_cons (ps_if (pt_cmpR op_eq (c_call c__law_take tk hr (by decide) (pa_cons (pv 0) (pa_cons pe_int pa_nil))) pe_int (nomark _)) (pss_one (ps_ret (pv 5))) pss_nil)
      (pss_one (ps_ret (c_call c__law_laid tk hr (by decide) (pa_cons (pe_lc (own := [("_law_term", 7)]) (g := gName 7) rfl sc__law_shelf.nd (pi_tup (pv 2)) (blkOk_by (own := [("_law_term", 7)]) (N := N__law_shelf) (sc := defScope s__law_shelf) (by decide +kernel)) (fun _ _ _ _ _ => pg_name (i := 7) sc__law_shelf.nd rfl (Or.inl rfl)) (fun _ _ _ _ _ => pts_one (pt_cmpR op_ne (pe_ix (ix_tup : IxR _ (rIxT K)) (pv 7) pe_int (fun _ _ => rfl)) (pv 1) (nomark _))) (fun _ _ _ _ _ => (pv 7))) (pa_cons (pv 5) pa_nil))))))))), ?_⟩
  simp only [cxK, st__law_shelf]
  have M : Mem H [bg] H [(bg, bagO fl n c)] [] := mem_start (by simp [hbg]) (by simp) (by simp)
  have hxl := p1.1
  walk_at "go"
  refine lcR_bagI 100 M hc0 (by decide) (fun x => rfl) ?_ ?_
  · intro i n' c' H' D acc R hi h0 h1 M' kR
    walk_at "go"
    exact use_value M' (by simp) h0 (by omega) fun d n2 c2 H4 a1 a2 M4 => kR d n2 c2 H4 a1 a2 M4
  intro pl pns n8 c8 H8 hl8 a81 a82 M8
  obtain ⟨x, y, z, rfl⟩ := three_of hl8
  walk_at "go"
  rename_i p9 H9 M9 d10 n10 c10 H10 a101 a102 a103 a104 M10
  refine k_ixAll (R := fun n => 0 ≤ n ∧ n ≤ 9) (M10.getL List.mem_cons_self) a101 (by simp; omega) (by
    intro v hv
    simp only [List.mem_cons, List.not_mem_nil, or_false] at hv
    rcases hv with rfl | rfl | rfl | rfl | rfl | rfl | rfl | rfl | rfl <;> exact ⟨_, rfl, by omega, by omega⟩) fun many hmn => ?_
  walk_at "go"
  refine lcR_bagR (m := kn) M10 a103 (by omega) (fun x => rfl) ?_ ?_
  · intro i n' c' H' l' R hi h0 h1 M' hsub kR
    walk_at "go"
    refine use_roll M' (by simp) h0 (by omega) (by omega) (by omega) hk0 (by omega) (hsub (pl, .lst [.int x, .int y, .int z]) (by simp)) fun d r n2 c2 H4 a1 a2 a3 M4 => kR d r n2 c2 H4 a2 a3 a1 M4
  intro rl rxs rrs rzs n11 c11 H11 hrl hrr prz a111 a112 M11
  walk_at "go"
  · rename_i d12 n12 c12 H12 a121 a122 a123 a124 M12 hc
    exact k rl rxs rrs _ _ _ _ M12 (RwL.rws M12 (prz.more fun z hz => by simp [hz])) hrr (by omega)
  · rename_i d12 n12 c12 H12 a121 a122 a123 a124 M12 hc
    refine lc_tupW (xs := xs) fun D hD => ⟨fun i H' => ∃ zs : List V, Prs H zs (noAge kn (ts.take i)) ∧ Mem H [bg] H' [(bg, bagO fl n12 c12)] ((D, .lst zs) :: ((rl, .lst rxs) :: (rzs ++ (p9, HO.lst [.int 3, .int 0, .int 1, .int 2, .int 4, .int 5, .int 3, .int 4, .int 9]) :: [(pl, HO.lst ([x, y, z].map V.int))]))), ⟨[], PG.nil, M12.alloc hD⟩, ?_, ?_, ?_⟩
    · rintro i H' _ ⟨zs, pz, M'⟩
      exact SqT.of (M'.atX hbg h1 (by simp))
    · rintro i v H' hv ⟨zs, pz, M'⟩
      obtain ⟨s, p, hs, rfl, hp⟩ := p1.get hv
      have hp' := M'.atX hbg hp (by simp)
      have hil := (List.getElem?_eq_some_iff.mp hs).1
      have htk : ts.take (i + 1) = ts.take i ++ [s] := by rw [List.take_add_one, hs]; rfl
      have hzl : zs.length = ((ts.take i).filter fun t : Pr => !decide (t.1 = kn)).length := pz.1
      have hfl := List.length_filter_le (fun t : Pr => !decide (t.1 = kn)) (ts.take i)
      have htl2 := List.length_take_le i ts
      refine ⟨rfl, ?_⟩
      walk_at "go"
      · rename_i hc2
        refine ⟨_, M'.getL List.mem_cons_self, sz (by omega), zs ++ [.ref p], ?_, Mem.setL (l1 := []) M'⟩
        rw [htk, noAge, List.filter_append, List.filter_cons_of_pos (by simpa using hc2), List.filter_nil]
        exact pz.append (PG.one hp)
      · rename_i hc2
        refine ⟨zs, ?_, M'⟩
        rw [htk, noAge, List.filter_append, List.filter_cons_of_neg (by simpa using hc2), List.filter_nil, List.append_nil]
        exact pz
    · rintro H' ⟨zs, pz, M'⟩
      rw [hxl, List.take_length] at pz
      have pz' : Prs H' zs (noAge kn ts) := pz.mono fun p s e => M'.atX hbg e (by simp)
      have hR' := RwL.rws M' (prz.more fun z hz => by simp [hz])
      walk_at "go"
      refine ⟨_, rl, zs, rxs, noAge kn ts, rrs, rfl, M'.getL List.mem_cons_self, pz', M'.getL (by simp), hR', by omega, fun r hr s hs => ?_, fun d lz lS H13 M2 plz hls hll => ?_⟩
      · have h2 := List.mem_filter.mp hs
        have h3 := hrg s h2.1
        have h4 := hrr r hr
        have h5 : s.1 ≠ kn := by simpa using h2.2
        omega
      · exact k d lz lS _ _ _ _ (M'.comp0 M2) (plz.same (Same.of_keep M2)) (fun r hr => hrr r (hls r hr)) (by omega)
end
end K35

set_option Elab.async false
set_option linter.all false
set_option maxRecDepth 100000
set_option maxHeartbeats 8000000
namespace K35
open PySem L2 MyL
local macro_rules | `(tactic| walk_at "mem") => `(tactic| first | exact List.mem_cons_self | (refine List.mem_cons_of_mem _ ?_; walk_at "mem"))
local macro_rules | `(tactic| walk_at "hp") => `(tactic| first | assumption | (refine' Mem.getL ?k1 ?k2; (case k1 => assumption); (case k2 => walk_at "mem")) | (refine' Mem.getF ?k1 ?k2; (case k1 => assumption); (case k2 => walk_at "mem")) | (refine' Mem.atB ?k1 ?k2; (case k1 => assumption); (case k2 => assumption)) | (refine' Mem.atX ?k1 ?k2 ?k3 ?k4; (case k1 => assumption); (case k3 => assumption); (case k2 => assumption); (case k4 => simp)) | fail)
local macro_rules | `(tactic| walk_at "cond") => `(tactic| first | omega | assumption | exact mulR (by omega) (by omega) | exact mulL (by omega) (by omega) | exact divW (by omega) (by omega) | decide)
local macro_rules | `(tactic| walk_at "look") => `(tactic| first | assumption | with_unfolding_all rfl | exact atI_map (by omega) (by omega))
local macro_rules | `(tactic| walk_at "go1") => `(tactic| with_reducible first
  | refine k_seq ?_ | refine k_gName ?_ | refine k_asg ?_ | refine k_ret ?_ | refine k_ifS ?_ | refine k_drop ?_ | refine k_next ?_ | refine k_break ?_ | refine k_cont ?_ | refine k_retN ?_
  | (refine' k_var ?k1 ?_; (case k1 => with_unfolding_all rfl)) | refine k_c ?_ | refine k_op ?_ | refine k_un ?_ | refine k_test ?_ | refine k_B ?_ | refine k_bl ?_ | refine k_and ?_ | refine k_or ?_ | refine k_not ?_
  | refine k_andV ?_ | refine k_orV ?_ | refine k_notV ?_ | refine k_ifE ?_ | refine k_nil ?_ | refine k_cons ?_ | refine k_cb ?_ | refine k_callS ?_ | refine k_lst0 ?_ | refine k_tup0 ?_ | refine k_fld0 ?_ | refine k_sub0 ?_ | refine k_make0 ?_ | refine k_prop0 ?_ | refine k_sta0 ?_ | refine k_sta ?_ | refine k_bm ?_ | refine k_bm0 ?_ | refine k_chain ?_ | refine k_makeK0 ?_ | refine k_swapK ?_ | refine k_meth0 ?_ | refine k_ownN0 ?_ | refine k_ownO0 ?_ | refine k_sfld0 ?_ | refine k_jnil ?_ | refine k_jcons ?_ | refine k_fmt0 ?_ | refine k_sl0 ?_ | refine k_nopart ?_ | refine k_part ?_ | refine k_forR1 ?_ | refine k_forR2 ?_ | refine k_forL ?_ | refine k_forT ?_ | refine k_lcR1 ?_ | refine k_lcR2 ?_ | refine k_lcL ?_ | refine k_lcT ?_ | refine k_err0 ?_ | refine k_xf0 ?_ | refine k_errQ1 ?_ | refine k_errQ0 ?_ | refine k_errQ2 ?_ | refine k_errQ3 ?_
  | refine k_I0 ?_ | (refine k_I ?k1 ?_; (case k1 => walk_at "cond")) | refine k_U ?_ | refine k_eqI ?_ | refine k_neI ?_ | refine k_eqB ?_ | refine k_neB ?_ | refine k_eqS ?_ | refine k_neS ?_
  | refine k_int1 ?_ | refine k_abs1 ?_ | refine k_min2 ?_ | refine k_max2 ?_
  | (refine' k_lenM ?k1 ?_; (case k1 => walk_at "hp")) | (refine' k_lenL ?k1 ?_; (case k1 => walk_at "hp")) | (refine' k_lenT ?k1 ?_; (case k1 => walk_at "hp"))
  | (refine' k_lenS ?k1 ?_; (case k1 => assumption)) | (refine' k_ixS ?k1 ?k2 ?_; (case k1 => assumption); (case k2 => walk_at "look"))
  | (refine' k_ixL ?k1 ?k2 ?_; (case k1 => walk_at "hp"); (case k2 => walk_at "look")) | (refine' k_ixT ?k1 ?k2 ?_; (case k1 => walk_at "hp"); (case k2 => walk_at "look"))
  | (refine' k_ix4 ?k1 ?k2 ?k3 ?_; (case k1 => walk_at "hp"); (case k2 => omega); (case k3 => omega); intro n' hn')
  | (refine' k_ix3 ?k1 ?k2 ?k3 ?_; (case k1 => walk_at "hp"); (case k2 => omega); (case k3 => omega); intro n' hn')
  | (refine' k_ix2 ?k1 ?k2 ?k3 ?_; (case k1 => walk_at "hp"); (case k2 => omega); (case k3 => omega); intro n' hn')
  | (refine' k_fld ?k1 ?k2 ?k3 ?k4 ?_; (case k1 => walk_at "hp"); (case k2 => assumption); (case k3 => assumption); (case k4 => walk_at "fld"))
  | (refine' k_lst ?k1 ?k2 ?_; (case k1 => assumption); (case k2 => exact sz (by simp)); intro p' H' M')
  | (refine' k_tup ?k1 ?k2 ?_; (case k1 => assumption); (case k2 => exact sz (by simp)); intro p' H' M')
  | (refine' k_setF0 ?k1 ?k2 ?k3 ?_; (case k1 => assumption); (case k2 => simp); (case k3 => with_unfolding_all rfl); intro H' M'; try simp only [Int.reduceToNat, List.set_cons_succ, List.set_cons_zero] at M')
  | (refine' k_setL0 ?k1 ?k2 ?_; (case k1 => assumption); (case k2 => with_unfolding_all rfl); intro H' M'; try simp only [Int.reduceToNat, List.set_cons_succ, List.set_cons_zero] at M')
  | (refine' k_setL1 ?k1 ?k2 ?_; (case k1 => assumption); (case k2 => with_unfolding_all rfl); intro H' M'; try simp only [Int.reduceToNat, List.set_cons_succ, List.set_cons_zero] at M')
  | (refine' k_setL2 ?k1 ?k2 ?_; (case k1 => assumption); (case k2 => with_unfolding_all rfl); intro H' M'; try simp only [Int.reduceToNat, List.set_cons_succ, List.set_cons_zero] at M')
  | refine iteT ?_ | refine iteF ?_ | refine k_iteNE ?_ | refine k_iteNS ?_ | refine k_iteNT ?_ | refine k_iteNF ?_
  | (refine k_iteD ?_ ?_ <;> intro hc <;> first | (exfalso; omega) | skip)
  | (refine k_iteN ?_ ?_ <;> intro hc <;> first | (exfalso; omega) | skip)
  | (refine' k_ownN ?k1 ?_; (case k1 => walk_at "hp")) | (refine' k_ownO ?k1 ?k2 ?_; (case k1 => walk_at "hp"); (case k2 => walk_at "hp")) | (refine' k_ownEq ?k1 ?k2 ?_; (case k1 => walk_at "hp"); (case k2 => walk_at "hp"))
  | (refine' k_ownIn ?k1 ?_; (case k1 => walk_at "hp")) | (refine' k_ownU ?k1 ?_; (case k1 => walk_at "hp")) | (refine' k_ownStr ?k1 ?_; (case k1 => walk_at "hp"))
  | (refine' k_prop ?k1 ?_; (case k1 => walk_at "hp")) | (refine' k_ownNe ?k1 ?k2 ?_; (case k1 => walk_at "hp"); (case k2 => walk_at "hp")) | (refine' k_eqP ?k1 ?k2 ?_; (case k1 => walk_at "hp"); (case k2 => walk_at "hp")) | (refine' k_neP ?k1 ?k2 ?_; (case k1 => walk_at "hp"); (case k2 => walk_at "hp"))
  | (refine' k_isiO ?k1 ?k2 ?k3 ?k4 ?k5 ?k6 ?_; (case k1 => walk_at "hp"); (case k2 => assumption); (case k3 => assumption); (case k4 => assumption); (case k5 => assumption); (case k6 => assumption))
  | (refine' k_isiI ?k1 ?_; (case k1 => assumption))
  | (refine' k_jst ?k1 ?_; (case k1 => walk_at "size")) | (refine' k_fmtI ?k1 ?_; (case k1 => exact log2_64 (by omega) (by omega))) | (refine' k_strI ?k1 ?_; (case k1 => exact log2_64 (by omega) (by omega)))
  | (refine k_addS ?k1 ?_; (case k1 => walk_at "size")) | refine k_st ?_ | refine k_parti ?_
  | (refine' k_cat ?k1 ?k2 ?k3 ?k4 ?_; (case k1 => assumption); (case k2 => walk_at "hp"); (case k3 => walk_at "hp"); (case k4 => walk_at "size"); intro p' H' M')
  | (refine' k_slL ?k1 ?k2 ?_; (case k1 => assumption); (case k2 => first | assumption | exact SqL.of (by walk_at "hp")); intro p' H' M')
  | (refine k_rng1 ?k1 ?k2 ?_; (case k1 => omega); (case k2 => omega)) | (refine k_rng2 ?k1 ?k2 ?k3 ?k4 ?_; (case k1 => omega); (case k2 => omega); (case k3 => omega); (case k4 => omega))
  | (refine' k_lstAt ?k1 ?_; (case k1 => first | assumption | exact SqL.of (by walk_at "hp"))) | (refine' k_tupAt ?k1 ?_; (case k1 => first | assumption | exact SqT.of (by walk_at "hp")))
  | (refine' k_isXs ?k1 ?k2 ?_; (case k1 => assumption); (case k2 => walk_at "hp")) | (refine' k_isXo ?k1 ?k2 ?k3 ?_; (case k1 => assumption); (case k2 => walk_at "hp"); (case k3 => assumption)) | (refine' k_isXt ?k1 ?k2 ?k3 ?_; (case k1 => assumption); (case k2 => walk_at "hp"); (case k3 => assumption))
  | (refine' k_isX3 ?k1 ?k2 ?k3 ?k4 ?_; (case k1 => assumption); (case k2 => walk_at "hp"); (case k3 => walk_at "hp"); (case k4 => assumption)) | (refine' k_isX2 ?k1 ?k2 ?k3 ?k4 ?_; (case k1 => assumption); (case k2 => walk_at "hp"); (case k3 => walk_at "hp"); (case k4 => assumption))
  | (refine' k_tyL ?k1 ?_; (case k1 => walk_at "hp"))
  | (refine' k_appL0 ?k1 ?k2 ?_; (case k1 => assumption); (case k2 => walk_at "size"); intro H' M') | (refine' k_appL1 ?k1 ?k2 ?_; (case k1 => assumption); (case k2 => walk_at "size"); intro H' M') | (refine' k_appL2 ?k1 ?k2 ?_; (case k1 => assumption); (case k2 => walk_at "size"); intro H' M') | (refine' k_appL3 ?k1 ?k2 ?_; (case k1 => assumption); (case k2 => walk_at "size"); intro H' M')
  | (refine' k_revL0 ?k1 ?_; (case k1 => assumption); intro H' M') | (refine' k_revL1 ?k1 ?_; (case k1 => assumption); intro H' M')
  | (refine' k_isX0s ?k1 ?_; (case k1 => assumption)) | (refine' k_isX0o ?k1 ?k2 ?_; (case k1 => assumption); (case k2 => assumption)) | (refine' k_isX0t ?k1 ?k2 ?_; (case k1 => assumption); (case k2 => assumption)) | (refine' k_isX04 ?k1 ?k2 ?k3 ?_; (case k1 => assumption); (case k2 => walk_at "hp"); (case k3 => assumption))
  | (refine' k_isX4 ?k1 ?k2 ?k3 ?k4 ?_; (case k1 => assumption); (case k2 => walk_at "hp"); (case k3 => walk_at "hp"); (case k4 => assumption)) | (refine' k_ixT2 ?k1 ?k2 ?k3 ?_; (case k1 => walk_at "hp"); (case k2 => omega); (case k3 => omega); intro n' hn')
  | (refine k_iteNEq ?k1 ?_; (case k1 => (rw [Bool.eq_iff_iff]; first | (simp; done) | (simp; omega))))
  | (refine' k_xf ?k1 ?k2 ?_; (case k1 => walk_at "hp"); (case k2 => first | exact xd1 | exact xdH | exact xd2 (by decide +kernel)))
  | (refine' k_caught ?k1 ?_; (case k1 => assumption); intro a' ha')
  | refine k_asgT ?_ | refine k_gCons ?_ | refine k_gNil ?_ | refine k_par ?_ | refine k_two ?_ | refine k_isNn ?_ | refine k_isNi ?_ | refine k_notNn ?_ | refine k_notNi ?_ | refine k_isN ?_ | refine k_notN ?_
  | (refine' k_gTup ?k1 ?k2 ?_; (case k1 => walk_at "hp"); (case k2 => with_unfolding_all rfl))
  | (refine' k_isiT ?k1 ?k2 ?_; (case k1 => walk_at "hp"); (case k2 => assumption)) | (refine' k_isiL ?k1 ?k2 ?_; (case k1 => walk_at "hp"); (case k2 => assumption))
  | (refine' k_ixQ ?k1 ?k2 ?_; (case k1 => assumption); (case k2 => walk_at "look")) | (refine' k_lenQ ?k1 ?_; (case k1 => assumption))
  | (refine' k_xfB ?k1 ?k2 ?_; (case k1 => walk_at "hp"); (case k2 => first | exact xd1 | exact xdH | exact xd2 (by decide +kernel)))
  | (refine' k_all ?k1 ?_; (case k1 => walk_at "hp"))
  | (refine' k_tupleOf ?k1 ?k2 ?_; (case k1 => assumption); (case k2 => exact SqL.of (by walk_at "hp")); intro p' H' M')
  | (refine' k_listOf ?k1 ?k2 ?_; (case k1 => assumption); (case k2 => exact Or.inl (SqL.of (by walk_at "hp"))); intro p' H' M')
  | walk_at "use")
local macro_rules | `(tactic| walk_at "go") => `(tactic| repeat' (walk_at "go1"))

local macro_rules | `(tactic| walk_at "eq") => `(tactic| first | rfl | assumption | omega)
local macro_rules | `(tactic| walk_at "fld") => `(tactic| exact xdH)
local macro_rules | `(tactic| walk_at "size") => `(tactic| first | exact sz (by first | omega | (simp only [List.length_map, List.length_range, List.length_append, List.length_cons, List.length_nil, Int.reduceSub, Int.reduceToNat, Int.reduceNeg]; omega)) | (exact Nat.lt_of_le_of_lt (m := 50000) (by first | omega | (simp only [List.length_map, List.length_range, List.length_append, List.length_cons, List.length_nil]; omega)) (by decide)))
section
variable {P : Program} {w : World} {K : PySem.W.Frag} {mg : Str → Option Value} {base : Heap} {C CR fR aS : Addr}
local macro_rules | `(tactic| walk_at "use") => `(tactic| with_reducible first
  | refine use_isn ?_
  | (refine' use_take ?k1 ?k2 ?k3 ?k4 ?k5 ?k6 ?_; (case k1 => assumption); (case k2 => simp); (case k3 => omega); (case k4 => omega); (case k5 => omega); (case k6 => omega); intro d' n' c' H' a1' a2' a3' a4' M'))
theorem _root_.MyL.Mem.sameB {B H' : Hp} {ms : List Addr} {f l : List (Addr × HO)} (M : Mem B ms H' f l) (h : ∀ m ∈ ms, B m = none) : Same B H' := fun a o e => M.keep a o e (fun hm => by rw [h a hm] at e; cases e)
theorem use_box {B H : Hp} {ms : List Addr} {f l : List (Addr × HO)} {Q : VK} {E : XK} {a : Addr} {ns : List Int} {pl : Int} (M : Mem B ms H f l) (hS : SqL K H a (ns.map V.int)) (h0 : 0 ≤ pl) (h1 : pl ≤ 2) (k : ∀ bg fl n c H' l2, 0 ≤ c → c ≤ 100 → B bg = none → Mem B (bg :: ms) H' ((bg, bagO fl n c) :: f) (l2 ++ l) → Q (.ref bg) H') : sp_box K [.ref a, .int pl] H Q E :=
  ⟨a, ns, pl, rfl, hS, h0, h1, fun bg fl n c H' l2 a1 a2 M2 => by
    have M3 := M.comp0 M2
    exact k bg fl n c H' l2 a1 a2 (M3.new _ List.mem_cons_self) M3.toF⟩
section
variable {σ : L2.St} {H : Hp} {Q : VK} {te : TE} {B : Hp} {ms : List Addr} {f l : List (Addr × HO)} {vs : List Nat}
theorem lcT_new {O : V → HO → Prop} {a : Addr} {xs : List V} {j : Nat} (M : Mem B ms H f l) (hx : ∀ H' l', Mem B ms H' f l' → SqT K H' a xs) (hn : xs.length ≤ 50000) (hw : ∀ x, wipe ((wipe σ vs).set j (some x)) vs = wipe σ vs)
    (he : ∀ x H' l' (R : VK), x ∈ xs → Mem B ms H' f l' → (∀ y o H4, O x o → Mem B ms H4 f ((y, o) :: l') → R (.ref y) H4) → te ((wipe σ vs).set j (some x)) H' R)
    (k : ∀ (D : Addr) (zs : List (Addr × HO)) (H' : Hp), zs.length = xs.length → (∀ (n : Nat) (x : V) (z : Addr × HO), xs[n]? = some x → zs[n]? = some z → O x z.2) → Mem B ms H' f ((D, .lst (zs.map fun z => V.ref z.1)) :: (zs.reverse ++ l)) → Q (.ref D) H') : tLc (iJ (Itt K a)) (gName j) tYes te vs σ H Q := by
  refine lc_tupW (xs := xs) fun D hD => ⟨fun i H' => ∃ zs : List (Addr × HO), zs.length = i ∧ (∀ (n : Nat) (x : V) (z : Addr × HO), xs[n]? = some x → zs[n]? = some z → O x z.2) ∧ Mem B ms H' f ((D, .lst (zs.map fun z => V.ref z.1)) :: (zs.reverse ++ l)), ?_, ?_, ?_, ?_⟩
  · exact ⟨[], rfl, (fun n x z _ h => by simp at h), M.alloc hD⟩
  · rintro i H' _ ⟨zs, _, _, M'⟩
    exact hx H' _ M'
  · rintro i x H' hi ⟨zs, hz, hO, M'⟩
    refine ⟨hw _, ?_⟩
    refine iteT (B := ∃ zs : List (Addr × HO), zs.length = i + 1 ∧ (∀ (n : Nat) (x : V) (z : Addr × HO), xs[n]? = some x → zs[n]? = some z → O x z.2) ∧ Mem B ms H' f ((D, .lst (zs.map fun z => V.ref z.1)) :: (zs.reverse ++ l))) (he x H' _ _ (List.mem_of_getElem? hi) M' fun y o H4 ho M4 => ?_)
    have hil : i < xs.length := by
      have := List.getElem?_eq_some_iff.1 hi
      exact this.1
    refine ⟨_, M4.getL (List.mem_cons_of_mem _ List.mem_cons_self), ?_, zs ++ [(y, o)], ?_, ?_, ?_⟩
    · rw [List.length_map, hz]; exact Nat.lt_of_lt_of_le hil (Nat.le_trans hn (by decide))
    · simp [hz]
    · intro n x' z hx' hz'
      by_cases hlt : n < i
      · rw [List.getElem?_append_left (by omega)] at hz'
        exact hO n x' z hx' hz'
      · have hni : n = i := by
          have := (List.getElem?_eq_some_iff.1 hz').1
          simp at this
          omega
        subst hni
        rw [List.getElem?_append_right (by omega), hz, Nat.sub_self] at hz'
        rw [hi] at hx'
        simp at hx' hz'
        subst hx' hz'
        exact ho
    · have := (Mem.setL (l1 := [(y, o)]) (o' := .lst (List.map (fun z : Addr × HO => V.ref z.1) (zs ++ [(y, o)]))) M4).swap
      simpa using this
  · rintro H' ⟨zs, hz, hO, M'⟩
    exact k D zs H' hz hO M'
end
theorem ok_law {f : Addr} {fd : FuncData} (F : Fun K "law" "law" s_law f fd) (T : Txt P K mg C CR fR aS) (c__law_box : Cal P w K mg base 1 "_law_box" (sp_box K)) (c__law_take : Cal P w K mg base 1 "_law_take" sp_take) (c__law_terms : Cal P w K mg base 2 "_law_terms" (sp_bag ArTm RTm)) (c__law_shelf : Cal P w K mg base 3 "_law_shelf" sp_shelf) (c__law_rule_right : Cal P w K mg base 5 "_law_rule_right" sp_rr) :
    FnOk P w K mg base (L2.CX P w) (5 + 1) f fd ["_law_script"] (spLaw K) := by
  refine okT F sc_law (fun vs H Q E h => ?_) (fun cdv A outer s H vs Q E hr tk h => ?_)
  · obtain ⟨a, ns, rfl, _⟩ := h
    rfl
  obtain ⟨a, ns, rfl, hS, hlen, k⟩ := h
  have f1 := T.i1; have f2 := T.i2; have f3 := T.i3; have f4 := T.i4; have f6 := T.cl; have f7 := T.nT
  refine ⟨_, (pss_cons (ps_set (i := 1) sc_law.nd rfl (Or.inl rfl) (c_call c__law_box tk hr (by decide) (pa_cons (pv 0) (pa_cons pe_int pa_nil))))
      (pss_cons (ps_set (i := 2) sc_law.nd rfl (Or.inl rfl) (pe_ix ix_list (pe_lst (pa_cons pe_int (pa_cons pe_int (pa_cons pe_int pa_nil)))) (c_call c__law_take tk hr (by decide) (pa_cons (pv 1) (pa_cons pe_int pa_nil))) (fun _ _ => rfl)))
      (pss_cons (ps_set (i := 3) sc_law.nd rfl (Or.inl rfl) (pe_callTy b_tupleOf (by rfl) T.b_tuple (by decide +kernel) (pa_cons (c_call c__law_terms tk hr (by decide) (pa_cons (pv 1) (pa_cons (pe_op op_add (pv 2) pe_int) (pa_cons (pe_op op_add (pv 2) pe_int) pa_nil)))) pa_nil)))
      (pss_cons (ps_set (i := 4) sc_law.nd rfl (Or.inl rfl) (c_call c__law_shelf tk hr (by decide) (pa_cons (c_call c__law_box tk hr (by decide) (pa_cons (pv 0) (pa_cons pe_int pa_nil))) (pa_cons (pv 2) (pa_cons (pv 3) pa_nil)))))
      (pss_cons (ps_set (i := 5) sc_law.nd rfl (Or.inl rfl) (pe_callTy b_tupleOf (by rfl) T.b_tuple (by decide +kernel) (pa_cons (pe_lc (own := [("_law_term", 6)]) (g := gName 6) (tt := tYes) rfl sc_law.nd (pi_tup (pv 3)) (blkOk_by (own := [("_law_term", 6)]) (N := N_law) (sc := defScope s_law) (by decide +kernel)) (fun _ _ _ _ _ => pg_name (i := 6) sc_law.nd rfl (Or.inl rfl)) (fun _ _ _ _ _ => pts_nil) (fun _ _ _ _ _ => (pe_tup (pa_cons (pe_ix (ix_tup : IxR _ (rIxT K)) (pv 6) pe_int (fun _ _ => rfl)) (pa_cons (pe_un un_neg (pe_ix (ix_tup : IxR _ (rIxT K)) (pv 6) pe_int (fun _ _ => rfl))) pa_nil))))) pa_nil)))
      (pss_cons (ps_set (i := 1) sc_law.nd rfl (Or.inl rfl) (c_call c__law_box tk hr (by decide) (pa_cons (pv 0) (pa_cons pe_int pa_nil))))
      (pss_one (ps_ret (pe_and (c_call c__law_rule_right tk hr (by decide) (pa_cons (pv 1) (pa_cons (pv 3) (pa_cons (pv 4) pa_nil)))) (pe_one (c_call c__law_rule_right tk hr (by decide) (pa_cons (pv 1) (pa_cons (pv 5) (pa_cons (pv 4) pa_nil)))))))))))))), ?_⟩
  simp only [cxK, st_law]
  have M : Mem H [] H [] [] := mem_start (by simp []) (by simp) (by simp)
  walk_at "go"
  refine use_box M hS (by omega) (by omega) fun bg fl n c H1 l1 hc0 hc1 hb1 M1 => ?_
  have hms1 : ∀ m ∈ [bg], H m = none := fun m hm => by rw [List.mem_singleton.mp hm]; exact hb1
  walk_at "go"
  rename_i p2 H2 M2 d3 n3 c3 H3 a31 a32 a33 a34 M3 kn hkn3
  have hkn : 0 ≤ kn ∧ kn ≤ 2 := by omega
  refine use_bag M3 (by simp) (by omega) (by omega) ⟨kn + 1, kn + 1, rfl, by omega, by omega, by omega⟩ ?_
  rintro v l5 n5 c5 H5 ⟨tp, xs, ts, zs, rfl, rfl, pz, htl, htm⟩ a53 a54 M5
  have htm := htm _ _ rfl
  rw [List.cons_append] at M5
  have hxl := pz.1
  walk_at "go"
  rename_i tt H6 M6
  have hS6 := sqL_same hS (M6.sameB hms1)
  have hT6 : H6 tt = some (.tup xs) := M6.getL (by simp)
  have pT6 : Prs H6 xs ts := PrL.prs M6 (pz.more fun z hz => by simp [hz])
  clear M1 M2 M3 M5 M6 M
  have M : Mem H6 [] H6 [] [] := mem_start (by simp) (by simp) (by simp)
  refine use_box M hS6 (by omega) (by omega) fun bg2 fl2 n7 c7 H7 l7 hc70 hc71 hb2 M7 => ?_
  have hms2 : ∀ m ∈ [bg2], H6 m = none := fun m hm => by rw [List.mem_singleton.mp hm]; exact hb2
  have s7 := M7.sameB hms2
  walk_at "go"
  refine ⟨bg2, tt, fl2, n7, c7, kn, xs, ts, rfl, M7.getF List.mem_cons_self, hc70, by omega, hkn.1, hkn.2, s7 _ _ hT6, pT6.same s7, fun t ht => ?_, htl, fun sh zsh S n8 c8 H8 l8 M8 pS hrow hSl => ?_⟩
  · have := htm.rng t ht
    omega
  have M8' := M7.comp1 (by simp) M8
  have s8 := M8'.sameB hms2
  have hS8 := sqL_same hS6 s8
  have hT8 := s8 _ _ hT6
  have pT8 := pT6.same s8
  have hL8 : H8 sh = some (.lst zsh) := M8.getL List.mem_cons_self
  clear M7 M8 M8' M s7 s8
  have M : Mem H8 [] H8 [] [] := mem_start (by simp) (by simp) (by simp)
  walk_at "go"
  refine lcT_new (O := fun x o => ∃ p t, x = .ref p ∧ H8 p = some (prO t) ∧ o = prO (t.1, -t.2)) M (fun H' l' M' => SqT.of (M'.atB0 hT8)) (by omega) (fun x => rfl) ?_ ?_
  · intro x H' l' R hx M' kR
    obtain ⟨iu, hiu⟩ := List.mem_iff_getElem?.mp hx
    obtain ⟨t, p, ht, rfl, hp⟩ := pT8.get hiu
    have hp' := M'.atB0 hp
    walk_at "go"
    rename_i y H4 M4
    exact kR y _ H4 ⟨p, t, rfl, hp, rfl⟩ M4
  intro up uzs H9 hul hO M9
  have pu : PrL uzs (uzs.map fun z => V.ref z.1) (ts.map fun t => (t.1, -t.2)) := PG.ofNew (by
    apply List.ext_getElem?
    intro n
    rw [List.getElem?_map, List.getElem?_map, List.getElem?_map]
    by_cases hn : n < xs.length
    · have hxn := List.getElem?_eq_getElem hn
      have hzn := List.getElem?_eq_getElem (show n < uzs.length by omega)
      obtain ⟨p, t, e1, e2, e3⟩ := hO n _ _ hxn hzn
      obtain ⟨t', p', ht', e4, e5⟩ := pT8.get hxn
      rw [e1] at e4
      cases e4
      rw [e2] at e5
      have e6 : t = t' := by
        injection e5 with e5
        injection e5 with e5
        injection e5 with a1 a2
        injection a2 with a2 _
        injection a1 with a1
        injection a2 with a2
        exact Prod.ext a1 a2
      subst e6
      rw [hzn, ht']
      exact congrArg some e3
    · rw [List.getElem?_eq_none (show uzs.length ≤ n by omega), List.getElem?_eq_none (show ts.length ≤ n by omega)]
      rfl)
  walk_at "go"
  rename_i ut H10 M10
  refine use_box M10 (sqL_same hS8 (Same.of_keep M10)) (by omega) (by omega) fun bg3 fl3 n11 c11 H11 l11 hc110 hc111 hb3 M11 => ?_
  have htm4 : Tms 4 ts := ⟨fun t ht => by have := htm.rng t ht; omega, htm.dir, htm.nd⟩
  have hdir2 : ∀ t ∈ ts.map fun t => (t.1, -t.2), t.2 = 1 ∨ t.2 = -1 := fun t ht => by
    obtain ⟨u, hu, rfl⟩ := List.mem_map.mp ht
    have := htm.dir u hu
    dsimp only
    omega
  have htm42 : Tms 4 (ts.map fun t => (t.1, -t.2)) := ⟨fun t ht => by
    obtain ⟨u, hu, rfl⟩ := List.mem_map.mp ht
    exact htm4.rng u hu, hdir2, by rw [List.map_map]; exact htm.nd⟩
  have s11 := M11.sameB (fun m hm => by rw [List.mem_singleton.mp hm]; exact hb3)
  have hb11 : H11 bg3 = some (bagO fl3 n11 c11) := M11.getF List.mem_cons_self
  have hne : sh ≠ bg3 := fun e => by rw [← e, hL8] at hb3; cases hb3
  have hu11 : H11 ut = some (.tup (uzs.map fun z => V.ref z.1)) := M11.getL (by simp)
  have pu11 : Prs H11 (uzs.map fun z => V.ref z.1) (ts.map fun t => (t.1, -t.2)) := PrL.prs M11 (pu.more fun z hz => by simp [hz])
  have hsf : Shf ts S kn.toNat := ⟨htm.dir, fun t ht => by have := htm.rng t ht; omega, fun r hr => by have := hrow r hr; omega, by omega, by omega⟩
  have htm42' : ∀ t ∈ (ts.map fun t => (t.1, -t.2) : List Pr), 0 ≤ t.1 ∧ t.1 ≤ ((kn.toNat : Nat) : Int) := fun t ht => by
    obtain ⟨u, hu, rfl⟩ := List.mem_map.mp ht
    have := htm.rng u hu
    dsimp only
    omega
  have hsf2 : Shf (ts.map fun t => (t.1, -t.2)) S kn.toNat := ⟨hdir2, fun t ht => htm42' t ht, hsf.row, hsf.n10, hsf.len⟩
  have M : Mem H11 [bg3] H11 [(bg3, bagO fl3 n11 c11)] [] := mem_start (by simp [hb11]) (by simp) (by simp)
  walk_at "go"
  refine ⟨bg3, tt, sh, fl3, n11, c11, xs, zsh, ts, S, kn.toNat, rfl, hb11, hc110, by omega, hne, s11 _ _ hT8, pT8.same s11, htm4, htl, s11 _ _ hL8, pS.same s11, hsf, fun n12 c12 H12 l12 a12 b12 M12 => ?_⟩
  walk_at "go"
  refine ⟨bg3, ut, sh, fl3, n12, c12, _, zsh, _, S, kn.toNat, rfl, M12.getF List.mem_cons_self, a12, by omega, hne, M12.atX hb11 hu11 (by simp), pu11.mono fun p s e => M12.atX hb11 e (by simp), htm42, by rw [List.length_map]; exact htl, M12.keep _ _ (s11 _ _ hL8) (by simpa using hne), (pS.same s11).mono fun p s e => M12.atX hb11 e (by simp), hsf2, fun n13 c13 H13 l13 a13 b13 M13 => ?_⟩
  walk_at "go"
  exact k _
end
end K35

set_option Elab.async false
set_option linter.all false
set_option maxRecDepth 100000
set_option maxHeartbeats 8000000
namespace K35
open PySem L2 MyL
abbrev PR : Program := PySem.Challenge.rw_fittingpasts_k35_whole_demands.prog
abbrev s_InvalidRule : Stmt := inClass (top 5) 0
theorem e_InvalidRule : PySem.ErrX.ErrSt PR "InvalidRule.__init__" s_InvalidRule ["at"] :=
  ⟨_, _, _, _, _, _, _, _, _, _, rfl, fun _ => rfl, rfl, rfl, rfl, rfl, rfl, rfl, by decide +kernel, rfl, rfl, rfl, by decide +kernel, by decide +kernel, (.cons (by decide +kernel) .nil), fun _ _ _ _ _ _ us hl => match us, hl with | [_, _], _ => rfl⟩
theorem b_Rule_init : BindsSt "__init__" "Rule.__init__" s_Rule_init ["self", "terms"] := fun _ _ _ _ _ _ us hl => match us, hl with | [_, _], _ => rfl
theorem b_is_integer : BindsSt "is_integer" "is_integer" s_is_integer ["value"] := fun _ _ _ _ _ _ us hl => match us, hl with | [_], _ => rfl
theorem b_is_term : BindsSt "is_term" "is_term" s_is_term ["term"] := fun _ _ _ _ _ _ us hl => match us, hl with | [_], _ => rfl
theorem b_compare_by : BindsSt "compare_by" "compare_by" s_compare_by ["terms", "first", "second"] := fun _ _ _ _ _ _ us hl => match us, hl with | [_, _, _], _ => rfl
theorem b_demand : BindsSt "demand" "demand" s_demand ["rule", "first", "second"] := fun _ _ _ _ _ _ us hl => match us, hl with | [_, _, _], _ => rfl
theorem b_shelf_demands : BindsSt "shelf_demands" "shelf_demands" s_shelf_demands ["rule", "shelf"] := fun _ _ _ _ _ _ us hl => match us, hl with | [_, _], _ => rfl
theorem b__law_box : BindsSt "_law_box" "_law_box" s__law_box ["_law_script", "_law_place"] := fun _ _ _ _ _ _ us hl => match us, hl with | [_, _], _ => rfl
theorem b__law_take : BindsSt "_law_take" "_law_take" s__law_take ["_law_bag", "_law_size"] := fun _ _ _ _ _ _ us hl => match us, hl with | [_, _], _ => rfl
theorem b__law_integer : BindsSt "_law_integer" "_law_integer" s__law_integer ["_law_told"] := fun _ _ _ _ _ _ us hl => match us, hl with | [_], _ => rfl
theorem b__law_value : BindsSt "_law_value" "_law_value" s__law_value ["_law_bag", "_law_plain"] := fun _ _ _ _ _ _ us hl => match us, hl with | [_, _], _ => rfl
theorem b__law_terms : BindsSt "_law_terms" "_law_terms" s__law_terms ["_law_bag", "_law_many", "_law_marks"] := fun _ _ _ _ _ _ us hl => match us, hl with | [_, _, _], _ => rfl
theorem b__law_roll : BindsSt "_law_roll" "_law_roll" s__law_roll ["_law_bag", "_law_at", "_law_marks", "_law_pool"] := fun _ _ _ _ _ _ us hl => match us, hl with | [_, _, _, _], _ => rfl
theorem b__law_side : BindsSt "_law_side" "_law_side" s__law_side ["_law_terms_here", "_law_one", "_law_two"] := fun _ _ _ _ _ _ us hl => match us, hl with | [_, _, _], _ => rfl
theorem b__law_laid : BindsSt "_law_laid" "_law_laid" s__law_laid ["_law_terms_here", "_law_rolls"] := fun _ _ _ _ _ _ us hl => match us, hl with | [_, _], _ => rfl
theorem b__law_shelf : BindsSt "_law_shelf" "_law_shelf" s__law_shelf ["_law_bag", "_law_known", "_law_terms_here"] := fun _ _ _ _ _ _ us hl => match us, hl with | [_, _, _], _ => rfl
theorem b__law_is_triple : BindsSt "_law_is_triple" "_law_is_triple" s__law_is_triple ["_law_told"] := fun _ _ _ _ _ _ us hl => match us, hl with | [_], _ => rfl
theorem b__law_signs_right : BindsSt "_law_signs_right" "_law_signs_right" s__law_signs_right ["_law_told", "_law_due"] := fun _ _ _ _ _ _ us hl => match us, hl with | [_, _], _ => rfl
theorem b__law_demand_right : BindsSt "_law_demand_right" "_law_demand_right" s__law_demand_right ["_law_bag", "_law_rule", "_law_terms_here", "_law_one", "_law_two"] := fun _ _ _ _ _ _ us hl => match us, hl with | [_, _, _, _, _], _ => rfl
theorem b__law_signs : BindsSt "_law_signs" "_law_signs" s__law_signs ["_law_terms_here", "_law_one", "_law_two"] := fun _ _ _ _ _ _ us hl => match us, hl with | [_, _, _], _ => rfl
theorem b__law_triples_right : BindsSt "_law_triples_right" "_law_triples_right" s__law_triples_right ["_law_told", "_law_terms_here", "_law_shelf_here"] := fun _ _ _ _ _ _ us hl => match us, hl with | [_, _, _], _ => rfl
theorem b__law_asked_ages : BindsSt "_law_asked_ages" "_law_asked_ages" s__law_asked_ages ["_law_triples", "_law_many"] := fun _ _ _ _ _ _ us hl => match us, hl with | [_, _], _ => rfl
theorem b__law_age_rows : BindsSt "_law_age_rows" "_law_age_rows" s__law_age_rows ["_law_bag", "_law_triples", "_law_many"] := fun _ _ _ _ _ _ us hl => match us, hl with | [_, _, _], _ => rfl
theorem b__law_ages_right : BindsSt "_law_ages_right" "_law_ages_right" s__law_ages_right ["_law_told", "_law_terms_here", "_law_shelf_here", "_law_ages"] := fun _ _ _ _ _ _ us hl => match us, hl with | [_, _, _, _], _ => rfl
theorem b__law_rule_right : BindsSt "_law_rule_right" "_law_rule_right" s__law_rule_right ["_law_bag", "_law_terms_here", "_law_shelf_here"] := fun _ _ _ _ _ _ us hl => match us, hl with | [_, _, _], _ => rfl
theorem b_law : BindsSt "law" "law" s_law ["_law_script"] := fun _ _ _ _ _ _ us hl => match us, hl with | [_], _ => rfl
theorem all_mk {w : World} {K : PySem.W.Frag} {h : Heap} {mg : Str → Option Value} {C CR fR aS : Addr} {tG : Tok} {oS : Obj} {iS : Array Value} {nS : Nat} (X : K.In h) (G : h.Ns mainGlobals mg)
    (a_Rule : PySem.W.nsIn K mainGlobals "Rule" = some (some (.ref C)))
    (z_isinstance : PySem.W.nsIn K mainGlobals "isinstance" = some none)
    (z_int : PySem.W.nsIn K mainGlobals "int" = some none)
    (z_bool : PySem.W.nsIn K mainGlobals "bool" = some none)
    (z_len : PySem.W.nsIn K mainGlobals "len" = some none)
    (z_min : PySem.W.nsIn K mainGlobals "min" = some none)
    (z_max : PySem.W.nsIn K mainGlobals "max" = some none)
    (z_list : PySem.W.nsIn K mainGlobals "list" = some none)
    (z_tuple : PySem.W.nsIn K mainGlobals "tuple" = some none)
    (z_range : PySem.W.nsIn K mainGlobals "range" = some none)
    (z_enumerate : PySem.W.nsIn K mainGlobals "enumerate" = some none)
    (v_GM : PySem.W.nsIn K mainGlobals "GREATEST_MARK" = some (some (.int 3 tG)))
    (v_AS : PySem.W.nsIn K mainGlobals "ALL_SIGNS" = some (some (.ref aS)))
    (o_AS : K.lookup aS = some oS)
    (o_AS1 : oS.cls = .type "tuple")
    (o_AS2 : oS.data = .seq iS nS)
    (o_AS3 : iS.size ≤ sizeLine)
    (o_AS4 : Vals (sg3.map V.int) iS.toList)
    (cl_Rule : Cls K C)
    (na_Rule_terms : NoAttr K C "terms")
    (mk_Rule : PySem.W.makesIn K C = true)
    (kc_Rule : PySem.W.keepIn K (.ref C) = true)
    (ca_Rule : PySem.W.findIn K (.ref C) "__class__" = some (some (.builtin "object.__class__")))
    (cm_Rule : PySem.W.mroIn K C (.type "object") = some true)
    (er_InvalidRule : PySem.ErrX.ErrTxt PR K mg "InvalidRule" CR fR ["at"])
    (m_Rule_init : MethAt K C "__init__" "Rule.__init__" s_Rule_init)
    (d_is_integer : DefAt K mg "is_integer" "is_integer" s_is_integer)
    (d_is_term : DefAt K mg "is_term" "is_term" s_is_term)
    (d_compare_by : DefAt K mg "compare_by" "compare_by" s_compare_by)
    (d_demand : DefAt K mg "demand" "demand" s_demand)
    (d_shelf_demands : DefAt K mg "shelf_demands" "shelf_demands" s_shelf_demands)
    (d__law_box : DefAt K mg "_law_box" "_law_box" s__law_box)
    (d__law_take : DefAt K mg "_law_take" "_law_take" s__law_take)
    (d__law_integer : DefAt K mg "_law_integer" "_law_integer" s__law_integer)
    (d__law_value : DefAt K mg "_law_value" "_law_value" s__law_value)
    (d__law_terms : DefAt K mg "_law_terms" "_law_terms" s__law_terms)
    (d__law_roll : DefAt K mg "_law_roll" "_law_roll" s__law_roll)
    (d__law_side : DefAt K mg "_law_side" "_law_side" s__law_side)
    (d__law_laid : DefAt K mg "_law_laid" "_law_laid" s__law_laid)
    (d__law_shelf : DefAt K mg "_law_shelf" "_law_shelf" s__law_shelf)
    (d__law_is_triple : DefAt K mg "_law_is_triple" "_law_is_triple" s__law_is_triple)
    (d__law_signs_right : DefAt K mg "_law_signs_right" "_law_signs_right" s__law_signs_right)
    (d__law_demand_right : DefAt K mg "_law_demand_right" "_law_demand_right" s__law_demand_right)
    (d__law_signs : DefAt K mg "_law_signs" "_law_signs" s__law_signs)
    (d__law_triples_right : DefAt K mg "_law_triples_right" "_law_triples_right" s__law_triples_right)
    (d__law_asked_ages : DefAt K mg "_law_asked_ages" "_law_asked_ages" s__law_asked_ages)
    (d__law_age_rows : DefAt K mg "_law_age_rows" "_law_age_rows" s__law_age_rows)
    (d__law_ages_right : DefAt K mg "_law_ages_right" "_law_ages_right" s__law_ages_right)
    (d__law_rule_right : DefAt K mg "_law_rule_right" "_law_rule_right" s__law_rule_right)
    (d_law : DefAt K mg "law" "law" s_law) :
    DefAt K mg "law" "law" s_law ∧ ∀ {f : Addr} {fd : FuncData}, Fun K "law" "law" s_law f fd → ∀ base : Heap, FnOk PR w K mg base (L2.CX PR w) 6 f fd ["_law_script"] (spLaw K) := by
  have z := fun {n : Str} (e : PySem.W.nsIn K mainGlobals n = some none) => PySem.W.mg_none_of X G e
  have y := fun {n : Str} {v : Value} (e : PySem.W.nsIn K mainGlobals n = some (some v)) => PySem.W.mg_of X G e
  have T : Txt PR K mg C CR fR aS := ⟨cl_Rule, na_Rule_terms, z z_isinstance, z z_int, z z_bool, z z_len, z z_min, z z_max, z z_list, z z_tuple, z z_range, z z_enumerate, ⟨_, y v_GM, ⟨_, rfl⟩⟩, ⟨_, y v_AS, rfl⟩, fun _ => .inr ⟨oS, iS, nS, o_AS, o_AS1, o_AS2, o_AS3, o_AS4⟩, y a_Rule, er_InvalidRule, kit_ty (by decide +kernel), kit_ty (by decide +kernel), kit_ty (by decide +kernel), kit_ty (by decide +kernel)⟩
  refine ⟨d_law, fun {f fd} F base => ?_⟩
  have c_is_integer : Cal PR w K mg base 1 "is_integer" sp_isn := cal_of d_is_integer b_is_integer fun F => ok_isi F T 
  have c__law_integer : Cal PR w K mg base 1 "_law_integer" sp_isn := cal_of d__law_integer b__law_integer fun F => ok_isn F T 
  have c__law_box : Cal PR w K mg base 1 "_law_box" (sp_box K) := cal_of d__law_box b__law_box fun F => ok_box F T 
  have c__law_take : Cal PR w K mg base 1 "_law_take" sp_take := cal_of d__law_take b__law_take fun F => ok_take F T 
  have c__law_side : Cal PR w K mg base 1 "_law_side" sp_side := cal_of d__law_side b__law_side fun F => ok_side F T 
  have c_compare_by : Cal PR w K mg base 1 "compare_by" sp_cmp := cal_of d_compare_by b_compare_by fun F => ok_cmpby F T 
  have c__law_asked_ages : Cal PR w K mg base 1 "_law_asked_ages" sp_ask := cal_of d__law_asked_ages b__law_asked_ages fun F => ok_ask F T 
  have c__law_value : Cal PR w K mg base 2 "_law_value" (sp_bag ArInt RInt) := cal_of d__law_value b__law_value fun F => ok_value F T c__law_take
  have c__law_terms : Cal PR w K mg base 2 "_law_terms" (sp_bag ArTm RTm) := cal_of d__law_terms b__law_terms fun F => ok_terms F T c__law_take
  have c__law_roll : Cal PR w K mg base 2 "_law_roll" (sp_bag ArRo RRo) := cal_of d__law_roll b__law_roll fun F => ok_roll F T c__law_take
  have c_is_term : Cal PR w K mg base 2 "is_term" sp_isterm := cal_of d_is_term b_is_term fun F => ok_isterm F T c_is_integer
  have c__law_laid : Cal PR w K mg base 2 "_law_laid" sp_laid := cal_of d__law_laid b__law_laid fun F => ok_laid F T c__law_side
  have c_demand : Cal PR w K mg base 2 "demand" (sp_dem C) := cal_of d_demand b_demand fun F => ok_dem F T c_compare_by
  have c__law_signs : Cal PR w K mg base 2 "_law_signs" sp_signs := cal_of d__law_signs b__law_signs fun F => ok_signs F T c__law_side
  have c__law_is_triple : Cal PR w K mg base 2 "_law_is_triple" sp_istr := cal_of d__law_is_triple b__law_is_triple fun F => ok_istr F T c__law_integer
  have c__law_signs_right : Cal PR w K mg base 2 "_law_signs_right" sp_sgr := cal_of d__law_signs_right b__law_signs_right fun F => ok_sgr F T c__law_integer
  have c__law_age_rows : Cal PR w K mg base 2 "_law_age_rows" (sp_bag ArAr RAr) := cal_of d__law_age_rows b__law_age_rows fun F => ok_arows F T c__law_asked_ages c__law_take
  have c__law_ages_right : Cal PR w K mg base 2 "_law_ages_right" sp_agr := cal_of d__law_ages_right b__law_ages_right fun F => ok_agr F T c__law_side
  have c_Rule : Mak PR w K mg base 3 "Rule" C (sp_rule C) := mak_of m_Rule_init T.g_Rule mk_Rule kc_Rule b_Rule_init fun F => ok_rule F T c_is_term
  have c_shelf_demands : Cal PR w K mg base 3 "shelf_demands" (sp_sdem C) := cal_of d_shelf_demands b_shelf_demands fun F => ok_sdem F T c_demand
  have c__law_triples_right : Cal PR w K mg base 3 "_law_triples_right" sp_trr := cal_of d__law_triples_right b__law_triples_right fun F => ok_trr F T c__law_signs c__law_is_triple c__law_signs_right
  have c__law_demand_right : Cal PR w K mg base 3 "_law_demand_right" (sp_bag (ArDr C) RTrue) := cal_of d__law_demand_right b__law_demand_right fun F => ok_dright F T c_demand c__law_take c__law_side c__law_signs_right
  have c__law_shelf : Cal PR w K mg base 3 "_law_shelf" sp_shelf := cal_of d__law_shelf b__law_shelf fun F => ok_shelf F T c__law_take c__law_value c__law_roll c__law_laid
  have c__law_rule_right : Cal PR w K mg base 5 "_law_rule_right" sp_rr := cal_of d__law_rule_right b__law_rule_right fun F => ok_rr F T c_Rule c__law_demand_right c_shelf_demands c__law_triples_right c__law_age_rows c__law_ages_right
  exact ok_law F T c__law_box c__law_take c__law_terms c__law_shelf c__law_rule_right
end K35

set_option Elab.async false
set_option linter.all false
open PySem PySem.W PyProof.Rows L2 MyL K35
set_option maxRecDepth 100000 in
set_option maxHeartbeats 0 in
theorem PySem.Challenge.cw_fittingpasts_k35_whole_demands_holds : PySem.Challenge.rw_fittingpasts_k35_whole_demands.Holds := by
  w_on; o_law; k_head; (case hw => w_witness2)
  k_fill
  refine law_walk (l := PySem.Challenge.rw_fittingpasts_k35_whole_demands) (k := 6) (x := "_law_script") (st := s_law) rfl rfl ⟨rfl, by decide, by decide⟩ (fun w h Y => PySem.W.kIn_of Y) (fun _ _ _ _ _ _ _ _ => .of_eq rfl) ?F
  case F =>
    intro w mg h KX G
    refine' K35.all_mk KX G ?a_Rule ?z_isinstance ?z_int ?z_bool ?z_len ?z_min ?z_max ?z_list ?z_tuple ?z_range ?z_enumerate ?v_GM ?v_AS ?o_AS ?o_AS1 ?o_AS2 ?o_AS3 ?o_AS4 ?cl_Rule ?na_Rule_terms ?mk_Rule ?kc_Rule ?ca_Rule ?cm_Rule ?er_InvalidRule ?m_Rule_init ?d_is_integer ?d_is_term ?d_compare_by ?d_demand ?d_shelf_demands ?d__law_box ?d__law_take ?d__law_integer ?d__law_value ?d__law_terms ?d__law_roll ?d__law_side ?d__law_laid ?d__law_shelf ?d__law_is_triple ?d__law_signs_right ?d__law_demand_right ?d__law_signs ?d__law_triples_right ?d__law_asked_ages ?d__law_age_rows ?d__law_ages_right ?d__law_rule_right ?d_law
    (case a_Rule => k_is)
    (case z_isinstance => k_is)
    (case z_int => k_is)
    (case z_bool => k_is)
    (case z_len => k_is)
    (case z_min => k_is)
    (case z_max => k_is)
    (case z_list => k_is)
    (case z_tuple => k_is)
    (case z_range => k_is)
    (case z_enumerate => k_is)
    (case v_GM => k_is)
    (case v_AS => k_is)
    (case o_AS => k_is)
    (case o_AS1 => rfl)
    (case o_AS2 => rfl)
    (case o_AS3 => decide +kernel)
    (case o_AS4 => exact .cons ⟨_, rfl⟩ (.cons ⟨_, rfl⟩ (.cons ⟨_, rfl⟩ .nil)))
    (case cl_Rule => refine' ⟨?a, ?b, ?c, ?d⟩; (case a => k_is); (case b => k_is); (case c => k_is); (case d => k_is))
    (case na_Rule_terms => unfold NoAttr; k_is)
    (case mk_Rule => k_is)
    (case kc_Rule => k_is)
    (case ca_Rule => k_is)
    (case cm_Rule => k_is)
    (case er_InvalidRule => refine' PySem.ErrX.err_mk KX G e_InvalidRule ?g1 ?g2 ?g3 ?g4 ?g5 ?g6 ?g7 ?g8 ?g9 ?h1 ?h2 ?h3 ?h4 ?h5 ?h6 ?h7 ?h8 ?h9 ?i1 ?i2 ?i3; (case g1 => k_is); (case g2 => k_is); (case g3 => k_is); (case g4 => decide +kernel); (case g5 => k_is); (case g6 => (intro f hf; simp only [List.mem_cons, List.not_mem_nil, or_false] at hf; rcases hf with rfl; all_goals k_is)); (case g7 => k_is); (case g8 => k_is); (case g9 => k_is); (case h1 => k_is); (case h2 => k_is); (case h3 => k_is); (case h4 => k_is); (case h5 => ks_is); (case h6 => k_is); (case h7 => k_is); (case h8 => k_is); (case h9 => k_is); (case i1 => rfl); (case i2 => decide +kernel); (case i3 => k_is))
    (case m_Rule_init => refine' gmeth (st := s_Rule_init) ?a ?i ?l ?c ?k; (case a => k_is); (case i => k_is); (case l => k_is); (case c => k_is); (case k => k_is))
    (case d_is_integer => refine' gdef (st := s_is_integer) KX G ?a ?l ?c ?k; (case a => k_is); (case l => k_is); (case c => k_is); (case k => k_is))
    (case d_is_term => refine' gdef (st := s_is_term) KX G ?a ?l ?c ?k; (case a => k_is); (case l => k_is); (case c => k_is); (case k => k_is))
    (case d_compare_by => refine' gdef (st := s_compare_by) KX G ?a ?l ?c ?k; (case a => k_is); (case l => k_is); (case c => k_is); (case k => k_is))
    (case d_demand => refine' gdef (st := s_demand) KX G ?a ?l ?c ?k; (case a => k_is); (case l => k_is); (case c => k_is); (case k => k_is))
    (case d_shelf_demands => refine' gdef (st := s_shelf_demands) KX G ?a ?l ?c ?k; (case a => k_is); (case l => k_is); (case c => k_is); (case k => k_is))
    (case d__law_box => refine' gdef (st := s__law_box) KX G ?a ?l ?c ?k; (case a => k_is); (case l => k_is); (case c => k_is); (case k => k_is))
    (case d__law_take => refine' gdef (st := s__law_take) KX G ?a ?l ?c ?k; (case a => k_is); (case l => k_is); (case c => k_is); (case k => k_is))
    (case d__law_integer => refine' gdef (st := s__law_integer) KX G ?a ?l ?c ?k; (case a => k_is); (case l => k_is); (case c => k_is); (case k => k_is))
    (case d__law_value => refine' gdef (st := s__law_value) KX G ?a ?l ?c ?k; (case a => k_is); (case l => k_is); (case c => k_is); (case k => k_is))
    (case d__law_terms => refine' gdef (st := s__law_terms) KX G ?a ?l ?c ?k; (case a => k_is); (case l => k_is); (case c => k_is); (case k => k_is))
    (case d__law_roll => refine' gdef (st := s__law_roll) KX G ?a ?l ?c ?k; (case a => k_is); (case l => k_is); (case c => k_is); (case k => k_is))
    (case d__law_side => refine' gdef (st := s__law_side) KX G ?a ?l ?c ?k; (case a => k_is); (case l => k_is); (case c => k_is); (case k => k_is))
    (case d__law_laid => refine' gdef (st := s__law_laid) KX G ?a ?l ?c ?k; (case a => k_is); (case l => k_is); (case c => k_is); (case k => k_is))
    (case d__law_shelf => refine' gdef (st := s__law_shelf) KX G ?a ?l ?c ?k; (case a => k_is); (case l => k_is); (case c => k_is); (case k => k_is))
    (case d__law_is_triple => refine' gdef (st := s__law_is_triple) KX G ?a ?l ?c ?k; (case a => k_is); (case l => k_is); (case c => k_is); (case k => k_is))
    (case d__law_signs_right => refine' gdef (st := s__law_signs_right) KX G ?a ?l ?c ?k; (case a => k_is); (case l => k_is); (case c => k_is); (case k => k_is))
    (case d__law_demand_right => refine' gdef (st := s__law_demand_right) KX G ?a ?l ?c ?k; (case a => k_is); (case l => k_is); (case c => k_is); (case k => k_is))
    (case d__law_signs => refine' gdef (st := s__law_signs) KX G ?a ?l ?c ?k; (case a => k_is); (case l => k_is); (case c => k_is); (case k => k_is))
    (case d__law_triples_right => refine' gdef (st := s__law_triples_right) KX G ?a ?l ?c ?k; (case a => k_is); (case l => k_is); (case c => k_is); (case k => k_is))
    (case d__law_asked_ages => refine' gdef (st := s__law_asked_ages) KX G ?a ?l ?c ?k; (case a => k_is); (case l => k_is); (case c => k_is); (case k => k_is))
    (case d__law_age_rows => refine' gdef (st := s__law_age_rows) KX G ?a ?l ?c ?k; (case a => k_is); (case l => k_is); (case c => k_is); (case k => k_is))
    (case d__law_ages_right => refine' gdef (st := s__law_ages_right) KX G ?a ?l ?c ?k; (case a => k_is); (case l => k_is); (case c => k_is); (case k => k_is))
    (case d__law_rule_right => refine' gdef (st := s__law_rule_right) KX G ?a ?l ?c ?k; (case a => k_is); (case l => k_is); (case c => k_is); (case k => k_is))
    (case d_law => refine' gdef (st := s_law) KX G ?a ?l ?c ?k; (case a => k_is); (case l => k_is); (case c => k_is); (case k => k_is))
#print axioms PySem.Challenge.cw_fittingpasts_k35_whole_demands_holds

