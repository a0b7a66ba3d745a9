import PyProof.Rows.All
import Wide.All
import OpenK.AllK
import Wide.FinOn
import KE.KExcSuper
import HandS.Exc
import HandS.ExcInit
import KE.KOpsOwn
import KE.KCallOwn
import KE.KExcIs
import HandS.ForExc
import HandS.ForMost
import HandS.HotCalls
import HandS.More
import HandS.SlotsOwn
import HandS.MakeKw
import HandS.IsInst
import HandS.ExcField
import HandS.Wide
import HandS.FStr
import HandS.EndBits
import HandS.Property
import HandS.ClsMeth
import HandS.ExcOwn
import HandS.Star
import KE.GoesMore
import HandS.Iter
import PyProof.ListRange
import HandS.Conv
import HandS.Sort
import HandS.Style
import HandS.Deep
import HandS.TupAny
import HandS.ListItems
import HandS.DictTup
import PyProof.StrBlock2
import PySem.Challenge.RW_fittingpasts_k20_stays_asked
set_option Elab.async false
set_option linter.all false
set_option maxRecDepth 100000
set_option maxHeartbeats 4000000
/-! An own error whose body of __init__ is super().__init__('..') and then self.f = f for each field f. -/
namespace PySem
namespace ErrX
open PySem.W PySem.Calls PyProof.Rows PySem.HandSPX
/-- self.f = f for each name -/
inductive Asgs : List Str → List Stmt → Prop
  | nil : Asgs [] []
  | cons {f : Str} {fs : List Str} {r : List Stmt} {q1 q2 q3 q4 : Pos} : (f == ("__debug__" : Str)) = false → Asgs fs r → Asgs (f :: fs) (.Assign [.Attribute (.Name "self" q1) f q2] (.Name f q3) q4 :: r)
/-- what the written part says of the error's class at C and of its __init__ at fI -/
structure ErrTxt (prog : Program) (K : Frag) (mg : Str → Option Value) (x : Str) (C fI : Addr) (fs : List Str) : Prop where
  gC : mg x = some (.ref C)
  gS : mg "super" = none
  cls : ∃ nm q N bs bm sn sub ab col dd k0 k1 k2 k3 k5, K.lookup C = some (excClassObj nm q C N bs bm true sn sub ab col dd k0 k1 k2 k3 k5 "ValueError.__new__") ∧ refsVE bm = true
  sa : findIn K (.ref C) "__setattr__" = some (some (.builtin "object.__setattr__"))
  no : ∀ f ∈ fs, findIn K (.ref C) f = some none
  iC : findIn K (.ref C) "__init__" = some (some (.ref fI))
  tC : typeIn K (.ref fI) = some (.type "function")
  kC : keepIn K (.ref C) = true
  exC : subIn K (.ref C) (.type "BaseException") = some true
  veC : subIn K (.ref C) (.type "ValueError") = some true
  tyC : typeIn K (.ref C) = some (.type "type")
  op : nsIn K cStatics "thirdparty.any" = some none
  al : ks_superIn K C C "__init__" = some (some (.builtin "ValueError.__init__"))
  slf : mroIn K C (.ref C) = some true
  fn : ∃ (oc : Value) (od : Option Addr) (qual : Str) (params : Arguments) (scope : Scope) (rest : List Stmt) (doc pm : Value) (an : Option Addr) (cda : Addr) (ct : Value) (cc : Addr) (osl : Array (Option Value)) (txt : Str) (j : Nat) (p0 p1 p2 p3 p4 p5 : Pos) (ar : Arg)
      (ccl : Value) (cdd : Option Addr) (vs : Array Value) (ccs : Array (Option Value)) (file : Str) (tf : Tok) (cl : Value) (cld : Option Addr) (csl : Array (Option Value)),
    K.lookup fI = some ⟨oc, od, .func (ksFn "__init__" qual params (.Expr (.Call (.Attribute (.Call (.Name "super" p0) [] [] p1) "__init__" p2) [.Constant (.str txt) j p3] [] p4) p5 :: rest) scope .none .none doc pm an (.ref cda) ct cc), osl⟩ ∧ codeIn K (.ref cda) qual = true ∧
    K.lookup cda = some ⟨ccl, cdd, .fields vs, ccs⟩ ∧ vs[2]? = some (.str file tf) ∧ ((prog.main.file : Str) == file) = true ∧ K.lookup cc = some ⟨cl, cld, .cell (some (.ref C)), csl⟩ ∧
    (∀ env : Env, eval (.Call (.Attribute (.Call (.Name "super" p0) [] [] p1) "__init__" p2) [.Constant (.str txt) j p3] [] p4) env = (do
      let ov ← attributeBase (.Call (.Name "super" p0) [] [] p1) "__init__" env (eval (.Call (.Name "super" p0) [] [] p1) env)
      standAt p2.atName
      let (f, first) ← holding [ov] (getMethod ov "__init__" (do return (← importBound (.Call (.Name "super" p0) [] [] p1) env).getD true))
      callWith p4 f first (backTo p4 (starEach [.Constant (.str txt) j p3] env)) [])) ∧
    (prog.main.scope.names.lookup ("super" : Str)).isSome = false ∧
    (params.posonlyargs ++ params.args).head? = some ar ∧ ar.arg = "self" ∧
    scope.kind = .function ∧ scope.isCoroutine = false ∧ scope.isGenerator = false ∧ (∀ x ∈ scope.names, x.2 ≠ .cell) ∧ scope.names.lookup ("super" : Str) = some .globalImplicit ∧ scope.names.lookup ("__class__" : Str) = some .free ∧
    scope.names.lookup ("self" : Str) = some .local ∧ (∀ f ∈ fs, scope.names.lookup f = some .local) ∧ (("self" : Str) :: fs).Nodup ∧
    Asgs fs rest ∧ ∀ us : List Value, us.length = fs.length + 1 → bindArgs (ksFn "__init__" qual params (.Expr (.Call (.Attribute (.Call (.Name "super" p0) [] [] p1) "__init__" p2) [.Constant (.str txt) j p3] [] p4) p5 :: rest) scope .none .none doc pm an (.ref cda) ct cc) ⟨us, []⟩ = pure (((("self" : Str) :: fs)).zip us)

theorem lookup_rev : ∀ {l : List (Str × Value)} {x : Str} {v : Value}, (l.map (·.1)).Nodup → l.lookup x = some v → l.reverse.lookup x = some v := by
  intro l x v nd h
  have key : ∀ (m : List (Str × Value)), (m.map (·.1)).Nodup → (x, v) ∈ m → m.lookup x = some v := by
    intro m
    induction m with
    | nil => intro _ h; cases h
    | cons p m ih =>
      intro nd h
      obtain ⟨y, u⟩ := p
      rw [List.map_cons, List.nodup_cons] at nd
      rcases List.mem_cons.mp h with e | e
      · cases e; simp [List.lookup]
      · have hne : (x == y) = false := by
          rw [beq_eq_false_iff_ne]
          rintro rfl
          exact nd.1 (List.mem_map_of_mem (f := (·.1)) e)
        simp [List.lookup, hne]
        exact ih nd.2 e
  refine key _ ?_ (List.mem_reverse.mpr (PySem.mem_of_lookup h))
  rw [List.map_reverse]
  exact List.pairwise_reverse.mpr (nd.imp Ne.symm)

/-- what stands at the exception behind the stores: the fields so far (the last one first) -/
def DictOf (x : Addr) (n : Nat) (h : Heap) (fl : List (Str × Value)) (dv : Option Addr) : Prop :=
  match fl with
  | [] => dv = none
  | _ => ∃ dx, dv = some dx ∧ n ≤ dx ∧ dx ≠ x ∧ ∃ mA, h.Ns1 dx mA ∧ (∀ y, mA y = fl.lookup y)
theorem dictOf_cons {x : Addr} {n : Nat} {h : Heap} {fl : List (Str × Value)} {dv : Option Addr} {f : Str} {v : Value} : DictOf x n h ((f, v) :: fl) dv = ∃ dx, dv = some dx ∧ n ≤ dx ∧ dx ≠ x ∧ ∃ mA, h.Ns1 dx mA ∧ (∀ y, mA y = ((f, v) :: fl).lookup y) := rfl
abbrev excD (C t : Addr) (d : Option Addr) : Obj := { cls := .ref C, dict := d, data := .fields #[.ref t, .none, .none, .none, .bool false, .none] }
theorem lookup_ite (f y : Str) (v : Value) (fl : List (Str × Value)) : ((f, v) :: fl).lookup y = if y = f then some v else fl.lookup y := by
  by_cases h : y = f
  · subst h; simp [List.lookup]
  · have e : (y == f) = false := by simpa using h
    rw [if_neg h]; simp [List.lookup, e]
section
variable {prog : Program} {w : World} {A : Around} {E : Value → Shared → Prop} {K : Frag} {mg : Str → Option Value} {C fI : Addr}
theorem run_asgs {env : Env} {x t0 : Addr} {n : Nat} {m : Str → Option Value} {cd : ClassData} (hcd : clsIn K C = some cd) (hmr : refsVE cd.mro = true) (hh : cd.hasDict = true) (sa : findIn K (.ref C) "__setattr__" = some (some (.builtin "object.__setattr__")))
    (hnx : K.lookup x = none) (hk : env.scope.kind = .function) (hself : env.kindOf "self" = some .local) (mself : m "self" = some (.ref x)) (hLx : env.locals ≠ x) (hLn : env.locals < n) {Q : Flow → Shared → Prop} :
    ∀ {fs : List Str} {rest : List Stmt} {vs : List Value} {fl : List (Str × Value)} {dv : Option Addr} {s : Shared}, Asgs fs rest → vs.length = fs.length → (∀ p ∈ fs.zip vs, m p.1 = some p.2 ∧ env.kindOf p.1 = some .local ∧ findIn K (.ref C) p.1 = some none) → fl.length + fs.length ≤ 900 →
    K.In s.heap → s.heap.Ns env.locals m → s.heap.get? x = some (excD C t0 dv) → n ≤ s.heap.objs.size → DictOf x n s.heap fl dv → (∀ dx, dv = some dx → K.lookup dx = none ∧ dx ≠ env.locals) →
    (∀ h' tk dv', (∀ b o, b ≠ x → some b ≠ dv → s.heap.get? b = some o → h'.get? b = some o) → h'.get? x = some (excD C t0 dv') → DictOf x n h' ((fs.zip vs).reverse ++ fl) dv' → Q .next { s with heap := h', toks := tk }) →
    wpAny (model prog w) A (execs rest env) Q E s := by
  intro fs
  induction fs with
  | nil =>
    intro rest vs fl dv s ha hl _ _ _ _ hx _ hd _ hq
    cases ha
    refine wpAny_execs_nil ?_
    have := hq s.heap s.toks dv (fun b o _ _ e => e) hx (by simpa using hd)
    exact this
  | cons f fs ih =>
    intro rest vs fl dv s ha hl hm hz X hn hx hsz hd hdv hq
    cases ha with
    | cons hdb ha' =>
    cases vs with
    | nil => cases hl
    | cons v vs =>
    have hl' : vs.length = fs.length := by simpa using hl
    obtain ⟨mv, kv, nov⟩ := hm (f, v) (by simp)
    have hm' : ∀ p ∈ fs.zip vs, m p.1 = some p.2 ∧ env.kindOf p.1 = some .local ∧ findIn K (.ref C) p.1 = some none := fun p hp => hm p (by simp [hp])
    have hz' : fl.length + (fs.length + 1) ≤ 900 := by simpa using hz
    refine wpAny_execs_cons (plainObj_wpAny_Assign_Attribute ?_ (by rfl))
    refine wpAny_Name (wpAny_loadName_local hk kv hn mv ?_) hdb
    refine wpAny_Name (wpAny_loadName_local hk hself hn mself ?_) (by decide)
    show wpAny _ _ (setAttr (.ref x) f v) _ _ _
    obtain ⟨hp, g, d, tk, os⟩ := s
    cases fl with
    | nil =>
      have e0 : dv = none := hd
      subst e0
      refine set_plain X (ox := excD C t0 none) (od := none) ⟨hx, rfl, rfl, trivial⟩ sa ?_
      refine exc_osa X hx hcd hmr hh nov (fun h' tk' dx k dn dne hx' hn' => ?_)
      have ndl : ∀ {b o}, hp.get? b = some o → b ≠ dx := fun {b o} q => Nat.ne_of_lt (Nat.lt_of_lt_of_le (Heap.lt_size q) dn)
      have hnL : h'.Ns env.locals m := by
        obtain ⟨o, es, ep, ho, r⟩ := hn
        exact ⟨o, es, ep, k _ o hLx ho, r⟩
      have hsz' : n ≤ h'.objs.size := by
        have := Heap.lt_size (show h'.get? x = some _ from hx')
        obtain ⟨o, es, ep, ho, r⟩ := hn'
        have z := Heap.lt_size ho
        exact Nat.le_of_lt (Nat.lt_of_le_of_lt (Nat.le_trans hsz dn) z)
      have X' : K.In h' := fun a o e => k a o (fun z => by rw [z, hnx] at e; cases e) (X a o e)
      refine ih (fl := [(f, v)]) (dv := some dx) (s := ⟨h', g, d, tk', os⟩) ha' hl' hm' (by simp; omega) X' hnL hx' hsz' ?_ ?_ ?_
      · refine ⟨dx, rfl, Nat.le_trans hsz dn, dne, _, hn', fun y => ?_⟩
        rw [lookup_ite]
        rfl
      · intro dx' e
        cases e
        refine ⟨?_, ?_⟩
        · cases q : K.lookup dx with
          | none => rfl
          | some o => exact absurd (Heap.lt_size (X _ _ q)) (Nat.not_lt.mpr dn)
        · exact Ne.symm (Nat.ne_of_lt (Nat.lt_of_lt_of_le hLn (Nat.le_trans hsz dn)))
      · intro h2 tk2 dv2 k2 hx2 hd2
        refine hq h2 tk2 dv2 (fun b o hb _ e => k2 b o hb (fun z => ndl e (Option.some.inj z)) (k b o hb e)) hx2 ?_
        simpa using hd2
    | cons p0 fl =>
      obtain ⟨dx, rfl, dn, dne, mA, hns, hmA⟩ := hd
      obtain ⟨nK, nL⟩ := hdv dx rfl
      have hw : Within mA ((p0 :: fl).map (·.1)) := fun y hy => by
        rw [hmA y] at hy
        cases q : (p0 :: fl).lookup y with
        | none => exact absurd q hy
        | some u => exact List.mem_map_of_mem (f := (·.1)) (PySem.mem_of_lookup q)
      obtain ⟨oD, _, _, hoD, _, _⟩ := hns.count hw
      refine set_plain X (ox := excD C t0 (some dx)) (od := some oD) ⟨hx, rfl, rfl, hoD⟩ sa ?_
      refine PySem.OEX.osa_old X hx hns hw (by rw [List.length_map]; simp at hz' ⊢; omega) hcd hmr hh nov (fun h' tk' k hn' => ?_)
      have hnL : h'.Ns env.locals m := by
        obtain ⟨o, es, ep, ho, r⟩ := hn
        exact ⟨o, es, ep, k _ o (Ne.symm nL) ho, r⟩
      have hx' : h'.get? x = some (excD C t0 (some dx)) := k _ _ (Ne.symm dne) hx
      have hsz' : n ≤ h'.objs.size := by
        obtain ⟨o, es, ep, ho, r⟩ := hn'
        have z := Heap.lt_size ho
        exact Nat.le_of_lt (Nat.lt_of_le_of_lt dn z)
      have X' : K.In h' := fun a o e => k a o (fun z => by rw [z, nK] at e; cases e) (X a o e)
      refine ih (fl := (f, v) :: p0 :: fl) (dv := some dx) (s := ⟨h', g, d, tk', os⟩) ha' hl' hm' (by simp at hz' ⊢; omega) X' hnL hx' hsz' ?_ hdv ?_
      · refine ⟨dx, rfl, dn, dne, _, hn', fun y => ?_⟩
        rw [lookup_ite, hmA y]
      · intro h2 tk2 dv2 k2 hx2 hd2
        refine hq h2 tk2 dv2 (fun b o hb hb2 e => k2 b o hb hb2 (k b o (fun z => hb2 (by rw [z])) e)) hx2 ?_
        simpa using hd2
end
end ErrX
end PySem

set_option Elab.async false
set_option linter.all false
set_option maxRecDepth 100000
set_option maxHeartbeats 4000000
namespace PySem
namespace ErrX
open PySem.W PySem.Calls PyProof.Rows PySem.HandSPX
section
variable {prog : Program} {w : World} {A : Around} {E : Value → Shared → Prop} {K : Frag} {mg : Str → Option Value} {C fI : Addr} {R : Result → Shared → Prop}
/-- the call of super().__init__ as a wrapper -/
theorem call_mw {h : Heap} {g : Array GenState} {d : Drawn} {t : Nat} {os : OsState} {nm q : Str} {N : Addr} {bs bm : List Value} {hdct : Bool} {sn : List Str} {sub : List Value} {ab : Bool} {col : Option Bool} {dd : Option Addr} {k0 k1 k2 k3 k5 : Option Value} {u e t0 : Addr} {rest : List Value} {Q : Value → Shared → Prop}
    (hC : h.get? C = some (excClassObj nm q C N bs bm hdct sn sub ab col dd k0 k1 k2 k3 k5 "ValueError.__new__")) (he : h.get? e = some (excO C t0)) (hu : h.get? u = some (kxs_mw "ValueError.__init__" e)) (hrest : rest.length ≤ sizeLine)
    (hq : ∀ h' t1, (∀ b o, b ≠ e → h.get? b = some o → h'.get? b = some o) → h'.get? e = some (excO C t1) → Q .none ⟨h', g, d, t, os⟩) :
    wpAny (model prog w) A (call (.ref u) rest) Q E ⟨h, g, d, t, os⟩ := by
  refine wpAny_call (codeAny_of_tree ?_)
  show wpAny _ A.in1 (callAny (.ref u) ⟨rest, []⟩) _ _ _
  simp only [callAny]
  refine wpAny_bind (wpAny_load hu ?_)
  simp only [kxs_mw, show (Value.type "method-wrapper" == Value.type "method" || Value.type "method-wrapper" == Value.type "builtin_function_or_method" || Value.type "method-wrapper" == Value.type "method-wrapper") = true by decide, if_true]
  refine KFB.if_so (by decide) ?_
  refine wpAny_bind (check_bound_init PySem.F.excBase_ValueError.toExcCallFacts hC he rfl ?_)
  refine wpAny_bind (wpAny_pure (wpAny_pure ?_))
  refine ⟨plainId_quiet PySem.F.excBase_ValueError.init.plain _, codeAny_builtin PySem.F.excBase_ValueError.initEntry ?_⟩
  exact exc_init_tree (cls := .ref C) (t0 := t0) (dv := none) (c2 := .none) (c3 := .none) (b4 := .bool false) he hrest fun h' k e' _ => hq h' _ k e'
theorem str_size (v : Value) : [v].length ≤ sizeLine := by
  rw [sizeLine_eq]
  exact (by decide : 1 ≤ 16777216)
theorem run_init {x0 : Str} {fs : List Str} (T : ErrTxt prog K mg x0 C fI fs) (hfs : fs.length ≤ 100) {s : Shared} {x t0 : Addr} {vs : List Value} (hl : vs.length = fs.length) (X : K.In s.heap) (hlim : s.heap.NoLimit) (hg : s.heap.Ns mainGlobals mg)
    (hb : ∃ mb, s.heap.Ns builtinsNs mb ∧ ∀ y : Str, y ≠ "__name__" → mb y = bootBuiltins y) (hx : s.heap.get? x = some (excO C t0)) (hnx : K.lookup x = none) (hroom : A.depth < recursionLimit)
    (hq : ∀ h' tk t1 dv, (∀ b o, b ≠ x → s.heap.get? b = some o → h'.get? b = some o) → h'.get? x = some (excD C t1 dv) → DictOf x s.heap.objs.size h' (fs.zip vs).reverse dv → R (.ok (.ret .none)) { s with heap := h', toks := tk }) :
    codeAny (model prog w) A (.call (.ref fI) ⟨.ref x :: vs, []⟩) R s := by
  obtain ⟨oc, od, qual, params, scope, rest, doc, pm, an, cda, ct, cc, osl, txt, j, p0, p1, p2, p3, p4, p5, ar, ccl, cdd, cvs, ccs, file, tf, cl, cld, csl, lf, hcd, lcd, hvs, hfile, lcc, heq, htop, hhd, hself, hk, hco, hgen, hcell, hks, hkc, hks1, hkf, nd, hasg, hbind⟩ := T.fn
  obtain ⟨nm, q, N, bs, bm, sn, sub, ab, col, dd, k0, k1, k2, k3, k5, hC, hbm⟩ := T.cls
  have hcl : clsIn K C = some { name := nm, bases := bs, mro := .ref C :: bm, ns := N, qualname := q, hasDict := true, slotNames := sn, subclasses := sub, abstract := ab, collection := col, hasDel := false } := by unfold clsIn; rw [hC] <;> rfl
  have hxn : s.heap.objs.size ≠ x := Nat.ne_of_gt (Heap.lt_size hx)
  have hal := T.al
  unfold ks_superIn at hal
  rw [hcl] at hal
  refine ks_codeAny_call_defAt (binds := ((("self" : Str) :: fs)).zip (.ref x :: vs)) hroom (X _ _ lf) rfl hlim (codeRec_of X hcd) rfl (BindsTo.of_eq (hbind _ (by simp [hl]))) hcell (fun y hy => ?_) (fun h1 hn1 k1' => ?_) hco hgen hk
  · have := (List.of_mem_zip (show (y.1, y.2) ∈ _ from hy)).1
    rcases List.mem_cons.mp this with e | e
    · rw [e]; exact hks1
    · exact hkf _ e
  obtain ⟨hp, g, d, tk, os⟩ := s
  dsimp only at *
  have X1 : K.In h1 := X.keeps k1'
  have hx1 := k1' _ _ hx
  have mself : (fun y => (((("self" : Str) :: fs)).zip (.ref x :: vs)).reverse.lookup y) "self" = some (Value.ref x) := by
    refine lookup_rev ?_ (by simp [List.zip_cons_cons, List.lookup])
    rw [List.map_fst_zip (by simp [hl])]
    exact nd
  have mfs : ∀ p ∈ fs.zip vs, (fun y => (((("self" : Str) :: fs)).zip (.ref x :: vs)).reverse.lookup y) p.1 = some p.2 ∧ (ksEnv qual scope hp.objs.size fI (.ref cda) cc).kindOf p.1 = some .local ∧ findIn K (.ref C) p.1 = some none := by
    intro p hp'
    have hpf := (List.of_mem_zip (show (p.1, p.2) ∈ _ from hp')).1
    refine ⟨lookup_rev ?_ ?_, hkf _ hpf, T.no _ hpf⟩
    · rw [List.map_fst_zip (by simp [hl])]
      exact nd
    · have key : ∀ (m : List (Str × Value)), (m.map (·.1)).Nodup → p ∈ m → m.lookup p.1 = some p.2 := by
        intro m
        induction m with
        | nil => intro _ h; cases h
        | cons r m ih =>
          intro nd h
          obtain ⟨y, u⟩ := r
          rw [List.map_cons, List.nodup_cons] at nd
          rcases List.mem_cons.mp h with e | e
          · rw [e]; simp [List.lookup]
          · have hne : (p.1 == y) = false := by
              rw [beq_eq_false_iff_ne]
              rintro rfl
              exact nd.1 (List.mem_map_of_mem (f := (·.1)) e)
            simp [List.lookup, hne]
            exact ih nd.2 e
      refine key _ ?_ (by rw [List.zip_cons_cons]; exact List.mem_cons_of_mem _ hp')
      rw [List.map_fst_zip (by simp [hl])]
      exact nd
  generalize hm : (fun y => (((("self" : Str) :: fs)).zip (.ref x :: vs)).reverse.lookup y) = m at hn1 mself mfs
  have J : InstAt h1 x (excO C t0) C none := ⟨hx1, rfl, rfl, trivial⟩
  obtain ⟨oD, hD1, hD2⟩ : ∃ oD, h1.get? C = some oD ∧ ∃ cd, oD.data = .cls cd := ⟨_, X1 _ _ hC, _, rfl⟩
  obtain ⟨cdD, hD2⟩ := hD2
  obtain ⟨mb, hb1, hb2⟩ := hb
  have hint : interactive (callEnv (ksFn "__init__" qual params (.Expr (.Call (.Attribute (.Call (.Name "super" p0) [] [] p1) "__init__" p2) [.Constant (.str txt) j p3] [] p4) p5 :: rest) scope .none .none doc pm an (.ref cda) ct cc) hp.objs.size fI) = false := by
    show (scope.kind == .module && _) = false
    rw [hk]
    rfl
  -- super().__init__('..')
  refine ks_wpAt_execs_cons (ks_wpAt_Expr_any (ks_wpAt_MethodCall ?_ (heq _)) hint)
  refine ks_wpAt_super_base (env := ksEnv qual scope hp.objs.size fI (.ref cda) cc) hks hkc (by decide) rfl (X1 _ _ lf) rfl hhd rfl (X1 _ _ lcd) rfl hvs hfile htop ?_
  refine ks_loadName_global hk hks (loadGlobal_builtin (env := ksEnv qual scope hp.objs.size fI (.ref cda) cc) (hg.keeps k1') T.gS (hb1.keeps k1') ((hb2 _ (by decide)).trans (by decide +kernel : bootBuiltins "super" = some (.type "super"))) ⟨rfl, ?_⟩)
  refine wpAny_loadName_free hk hkc rfl ⟨_, X1 _ _ lcc, rfl⟩ ?_
  rw [hself]
  refine wpAny_loadName_local hk hks1 hn1 mself ?_
  refine ks_wpAny_isType_cls hD1 hD2 ⟨rfl, ?_⟩
  refine ks_wpAny_call_super hD1 hD2 J.at_ J.cls (fun c e => ?_) (looks_mroIn X1 T.slf) (fun h2 hso k2 => ?_)
  · cases e
  have X2 : K.In h2 := X1.keeps k2
  have hx2 := k2 _ _ hx1
  have J2 : InstAt h2 x (excO C t0) C none := ⟨hx2, rfl, rfl, trivial⟩
  refine kxs_getMethod (l₀ := Value.ref C :: bm) kxs_ValueError hso (looks_opaque X2 T.op) ?_ rfl X2 hal (J2.type.andThen (looks_subIn X2 T.veC)) (fun z => by rw [z, hC] at hnx; cases hnx) (by decide) ?_
  · exact fun A Q E s k q => wpAny_bind ((looks_clsIn X2 hcl) A _ E s k (wpAny_pure q))
  have hmw : (h2.push (kxs_mw "ValueError.__init__" x)).get? h2.objs.size = some (kxs_mw "ValueError.__init__" x) := Heap.get?_push_at rfl rfl
  have k3' : ∀ b o, h2.get? b = some o → (h2.push (kxs_mw "ValueError.__init__" x)).get? b = some o := fun b o e => Heap.get?_push_of_some _ e
  refine kxs_callWith (i := "ValueError.__init__") (x := x) (by rfl) ?_
  refine evalArgs_plain (spliced_cons (Constant_str (k := j) (pos := p3) (spliced_nil ?_)))
  refine ⟨hmw, ?_⟩
  refine call_mw (k3' _ _ (X2 _ _ hC)) (k3' _ _ hx2) hmw (str_size _) fun h4 t4 k4 hx4 => ?_
  have kA : ∀ b o, b ≠ x → h1.get? b = some o → h4.get? b = some o := fun b o hb e => k4 b o hb (k3' b o (k2 b o e))
  have X4 : K.In h4 := fun a o e => kA a o (fun z => by rw [z, hnx] at e; cases e) (X1 a o e)
  have hnL : h4.Ns hp.objs.size m := by
    obtain ⟨o, es, ep, ho, r⟩ := hn1
    exact ⟨o, es, ep, kA _ o hxn ho, r⟩
  have hs4 : hp.objs.size < h4.objs.size := by
    obtain ⟨o, es, ep, ho, r⟩ := hnL
    exact Heap.lt_size ho
  refine wpAt_of_wpAny ?_
  refine run_asgs (env := ksEnv qual scope hp.objs.size fI (.ref cda) cc) (n := hp.objs.size + 1) (fl := []) (dv := none) (s := ⟨h4, g, d, _, os⟩) hcl (show refsVE (.ref C :: bm) = true from hbm) rfl T.sa hnx hk hks1 mself hxn (Nat.lt_succ_self _) hasg hl mfs (by simp; omega) X4 hnL hx4 hs4 rfl (fun dx e => nomatch e) ?_
  intro h' tk' dv' k' hx' hd'
  refine hq h' tk' t4 dv' (fun b o hb e => k' b o hb (fun z => nomatch z) (kA b o hb (k1' b o e))) hx' ?_
  rw [List.append_nil] at hd'
  cases hz : (fs.zip vs).reverse with
  | nil =>
    rw [hz] at hd'
    exact hd'
  | cons p r =>
    rw [hz] at hd'
    obtain ⟨dx, e, dn, r⟩ := hd'
    exact ⟨dx, e, Nat.le_of_succ_le dn, r⟩
/-- what is made by C(..) -/
structure Made (h h' : Heap) (e C : Addr) (dv : Option Addr) (fl : List (Str × Value)) : Prop where
  keep : ∀ b o, h.get? b = some o → h'.get? b = some o
  new : h.objs.size ≤ e
  obj : ∃ t1, h'.get? e = some (excD C t1 dv)
  dct : DictOf e h.objs.size h' fl dv
theorem run_made {x0 : Str} {fs : List Str} (T : ErrTxt prog K mg x0 C fI fs) (hfs : fs.length ≤ 100) {s : Shared} {vs : List Value} (hl : vs.length = fs.length) (X : K.In s.heap) (hlim : s.heap.NoLimit) (hg : s.heap.Ns mainGlobals mg)
    (hb : ∃ mb, s.heap.Ns builtinsNs mb ∧ ∀ y : Str, y ≠ "__name__" → mb y = bootBuiltins y) (hroom : A.depth + 1 < recursionLimit)
    (hq : ∀ h' tk e dv, Made s.heap h' e C dv (fs.zip vs).reverse → R (.ok (.ret (.ref e))) { s with heap := h', toks := tk }) :
    codeAny (model prog w) A (.call (.ref C) ⟨vs, []⟩) R s := by
  obtain ⟨nm, q, N, bs, bm, sn, sub, ab, col, dd, k0, k1, k2, k3, k5, hC, hbm⟩ := T.cls
  obtain ⟨hp, g, dr, tk, os⟩ := s
  have k : ∀ b o, hp.get? b = some o → ((hp.push (kdv_tup vs)).push (excO C hp.objs.size)).get? b = some o := fun b o e => Heap.get?_push_of_some _ (Heap.get?_push_of_some _ e)
  have hget : ((hp.push (kdv_tup vs)).push (excO C hp.objs.size)).get? (hp.objs.size + 1) = some (excO C hp.objs.size) := by heap_get
  have hnx : K.lookup (hp.objs.size + 1) = none := by
    cases e : K.lookup (hp.objs.size + 1) with
    | none => rfl
    | some o =>
      have z : hp.get? (hp.objs.size + 1) = some o := X _ _ e
      exact absurd (Nat.lt_of_succ_lt (Heap.lt_size z)) (Nat.lt_irrefl _)
  obtain ⟨mb, hb1, hb2⟩ := hb
  have hvl : vs.length ≤ sizeLine := by rw [hl, sizeLine_eq]; omega
  refine call_own PySem.F.excBase_ValueError (fun X => refsVE_contains X bm hbm) (X _ _ hC) (looks_findIn X T.iC) (fun self => bind_fn X self T.tC) hvl ?_
  refine run_init (s := ⟨(hp.push (kdv_tup vs)).push (excO C hp.objs.size), g, dr, tk, os⟩) T hfs hl (X.keeps k) (hlim.keeps k) (hg.keeps k) ⟨mb, hb1.keeps k, hb2⟩ hget hnx ?_ fun h' tk' t1 dv k' hx hd => ?_
  · show A.depth + 1 < recursionLimit
    exact hroom
  · have old : ∀ b o, hp.get? b = some o → h'.get? b = some o := fun b o e => k' b o (Nat.ne_of_lt (Nat.lt_succ_of_lt (Heap.lt_size e))) (k b o e)
    refine ⟨rfl, hq h' tk' (hp.objs.size + 1) dv ⟨old, Nat.le_succ _, ⟨_, hx⟩, ?_⟩⟩
    cases hz : (fs.zip vs).reverse with
    | nil =>
      rw [hz] at hd
      exact hd
    | cons p r =>
      rw [hz] at hd
      obtain ⟨dx, e, dn, r⟩ := hd
      refine ⟨dx, e, Nat.le_trans ?_ dn, r⟩
      simp only [Heap.size_push]
      exact Nat.le_trans (Nat.le_succ _) (Nat.le_succ _)
end
end ErrX
end PySem
namespace L2
open PySem PySem.Spec PyProof.Rows
theorem relO_zip {vs : List V} {us : List Value} (r : Vals vs us) : ∀ (fs : List Str), fs.length = vs.length → ∀ f, RelO ((fs.zip vs).lookup f) ((fs.zip us).lookup f) := by
  induction r with
  | nil => intro fs h f; simp; trivial
  | cons rv rr ih =>
    intro fs h f
    cases fs with
    | nil => cases h
    | cons g fs =>
      rw [List.zip_cons_cons, List.zip_cons_cons, lookup_put, PySem.ErrX.lookup_ite]
      by_cases e : f = g
      · rw [if_pos e, if_pos e]; exact rv
      · rw [if_neg e, if_neg e]; exact ih fs (by simpa using h) f
theorem vals_reverse {vs : List V} {us : List Value} (r : Vals vs us) : Vals vs.reverse us.reverse := by
  induction r with
  | nil => exact .nil
  | cons rv rr ih =>
    rw [List.reverse_cons, List.reverse_cons]
    exact Vals.append ih (.cons rv .nil)
section
variable {X : Cx} {C fI : Addr}
/-- C(e, ..), an own error with the fields fs -/
def errQ (C : Addr) (fs : List Str) (vs : List V) (H1 : Hp) (Q : XK) : Prop :=
  match fs with
  | [] => Q (.ref C) none H1
  | f :: r => ∀ d, H1 d = none → Q (.ref C) (some d) (upd H1 d (.xd ((f :: r).reverse.zip vs.reverse)))
def tMkErr (C : Addr) (fs : List Str) (ta : TA) : St → Hp → XK → Prop := fun σ H Q => ta σ H fun vs H1 => vs.length = fs.length ∧ errQ C fs vs H1 Q
theorem mk_err_end {x0 : Str} {fs : List Str} {pins : List (Addr × Obj)} {σ : St} {H1 : Hp} {Q : XK} {s1 : Shared} {us : List Value} {vs : List V} (T : PySem.ErrX.ErrTxt X.prog X.K X.mg x0 C fI fs) (hfs : fs.length ≤ 100) {k : Nat} (hr : Room k X.A)
    (I1 : Inv X pins σ H1 s1) (r1 : Vals vs us) (hl : vs.length = fs.length) (q : errQ C fs vs H1 Q) :
    wpAny (model X.prog X.w) X.A (call (.ref C) us) (MkP X pins σ Q) X.xe s1 := by
  have hlim := I1.nolimit
  obtain ⟨mb, hb1, hb2⟩ := I1.mod.blt
  have hul : us.length = fs.length := by rw [← r1.length]; exact hl
  obtain ⟨hp, g, dr, tk, os⟩ := s1
  refine wpAny_call (PySem.ErrX.run_made (A := X.A) T hfs hul I1.kIn hlim (I1.mod.glob.keeps I1.bk) ⟨mb, hb1.keeps I1.bk, hb2⟩ (by have := hr.dp; omega) fun h' tk' e dv M => ?_)
  show MkP X pins σ Q (.ref e) ⟨h', g, dr, tk', os⟩
  obtain ⟨t1, hoe⟩ := M.obj
  have hzip : (fs.zip us).reverse = fs.reverse.zip us.reverse := by
    have hz := List.reverse_zipWith (f := Prod.mk) (l := fs) (l' := us) (by rw [hul])
    simpa [List.zip] using hz
  have hd := M.dct
  rw [hzip] at hd
  cases fs with
  | nil =>
    have e0 : dv = none := by simpa [PySem.ErrX.DictOf] using hd
    subst e0
    obtain ⟨G', g1, g2⟩ := restrict h' fun b => decide (b ≠ e)
    have gk : ∀ b, b ≠ e → G'.get? b = h'.get? b := fun b hb => g1 b (decide_eq_true hb)
    have ge : G'.get? e = none := g2 e (by simp)
    have old : ∀ b o, hp.get? b = some o → G'.get? b = some o := fun b o q => (gk b (Nat.ne_of_lt (Nat.lt_of_lt_of_le (Heap.lt_size q) M.new))).trans (M.keep b o q)
    have J : Inv X pins σ H1 ⟨G', g, dr, tk', os⟩ := I1.kept (t' := tk') old
    refine ⟨e, _, _, ⟨G', g, dr, tk', os⟩, _, .ref C, none, rfl, J, fun b o q => ?_, ge, hoe, ⟨rfl, rfl⟩, rfl, rfl, I1.hok.fresh M.new, rfl, I1.bare, raises_own T.exC T.tyC, q⟩
    by_cases hb : b = e
    · have q' : G'.get? b = some o := q
      rw [hb, ge] at q'; cases q'
    · exact (gk b hb).symm.trans q
  | cons f fs =>
    have hne : ∃ p r, (f :: fs).reverse.zip us.reverse = p :: r := by
      cases hz : (f :: fs).reverse.zip us.reverse with
      | nil =>
        have := congrArg List.length hz
        rw [List.length_zip, List.length_reverse, List.length_reverse, hul] at this
        simp at this
      | cons p r => exact ⟨p, r, rfl⟩
    obtain ⟨p, r, hne⟩ := hne
    rw [hne] at hd
    obtain ⟨d, e0, dn, dne, mA, hns, hmA⟩ := hd
    subst e0
    rw [← hne] at hmA
    obtain ⟨G', g1, g2⟩ := restrict h' fun b => decide (b ≠ e)
    have gk : ∀ b, b ≠ e → G'.get? b = h'.get? b := fun b hb => g1 b (decide_eq_true hb)
    have ge : G'.get? e = none := g2 e (by simp)
    have old : ∀ b o, hp.get? b = some o → G'.get? b = some o := fun b o q => (gk b (Nat.ne_of_lt (Nat.lt_of_lt_of_le (Heap.lt_size q) M.new))).trans (M.keep b o q)
    have ob : ObjOk X.prog X.w (upd H1 d (.xd ((f :: fs).reverse.zip vs.reverse))) G' d (.xd ((f :: fs).reverse.zip vs.reverse)) :=
      ⟨mA, hns.at (fun o q => (gk d dne).trans q), fun y => by rw [hmA y]; exact relO_zip (vals_reverse r1) _ (by rw [List.length_reverse, List.length_reverse, hl]) y⟩
    have J : Inv X pins σ (upd H1 d (.xd ((f :: fs).reverse.zip vs.reverse))) ⟨G', g, dr, tk', os⟩ := I1.laid (t' := tk') old dn ob
    refine ⟨e, _, _, ⟨G', g, dr, tk', os⟩, _, .ref C, some d, rfl, J, fun b o q => ?_, ge, hoe, ⟨rfl, rfl⟩, rfl, rfl, ?_, rfl, I1.bare, raises_own T.exC T.tyC, q d (I1.hok.fresh dn)⟩
    · by_cases hb : b = e
      · have q' : G'.get? b = some o := q
        rw [hb, ge] at q'; cases q'
      · exact (gk b hb).symm.trans q
    · rw [upd_ne (Ne.symm dne)]
      exact I1.hok.fresh M.new
theorem pmk_err {x0 : Str} {fs : List Str} {a : Expr} {es : List Expr} {ta : TA} {p pos : Pos} {k : Nat} (T : PySem.ErrX.ErrTxt X.prog X.K X.mg x0 C fI fs) (hfs : fs.length ≤ 100) (hr : Room k X.A) (ha : PA X (a :: es) ta) (hg : Gl X x0 := by rfl) (hdb : (x0 == ("__debug__" : Str)) = false := by decide)
    (he : starEach (a :: es) X.env = (false, eval a X.env) :: starEach es X.env := by rfl) (hpl : (backTo pos (starEach es X.env)).any (·.1) = false := by rfl) :
    PMk X (.Call (.Name x0 p) (a :: es) [] pos) (tMkErr C fs ta) := by
  intro pins s σ H Q I h
  refine wpAny_Call_Name_kw (ld_glob I hg T.gC ?_ hdb)
  refine PySem.W.callWith_K (h₀ := X.base) I.ok.mod.kin T.kC (thn (ha.run pos pins s σ H _ I h) fun us s1 hh => ?_) he hpl
  obtain ⟨vs, H1, I1, r1, hl, q⟩ := hh
  exact ⟨I1.kIn, mk_err_end T hfs hr I1 r1 hl q⟩
theorem pmk_err0 {x0 : Str} {p pos : Pos} {k : Nat} (T : PySem.ErrX.ErrTxt X.prog X.K X.mg x0 C fI []) (hr : Room k X.A) (hg : Gl X x0 := by rfl) (hdb : (x0 == ("__debug__" : Str)) = false := by decide) :
    PMk X (.Call (.Name x0 p) [] [] pos) (tMkErr C [] tNil) := by
  intro pins s σ H Q I h
  obtain ⟨hl, q⟩ := h
  refine wpAny_Call_Name_kw (ld_glob I hg T.gC ?_ hdb)
  exact PySem.W.callWith_K0 I.kIn T.kC (mk_err_end (us := []) (vs := []) T (Nat.zero_le _) hr I .nil rfl q)
end
end L2

set_option Elab.async false
set_option linter.all false
set_option maxRecDepth 100000
set_option maxHeartbeats 4000000
/-! Calls, makings and operators by defs of one's own, each as one rule. -/
namespace MyL
open PySem PySem.Spec PyProof.Rows L2
/-- a def of the module by its name -/
structure Cal (P : Program) (w : World) (K : PySem.W.Frag) (mg : Str → Option Value) (base : Heap) (k : Nat) (x : Str) (sp : Sp) : Prop where
  ex : ∃ (f : Addr) (fd : FuncData) (ps : List Str), mg x = some (.ref f) ∧ PySem.W.keepIn K (.ref f) = true ∧ Binds K fd ps [] ∧ FnOk P w K mg base (L2.CX P w) k f fd ps sp
/-- a class of the module by its name, made by its __init__ -/
structure Mak (P : Program) (w : World) (K : PySem.W.Frag) (mg : Str → Option Value) (base : Heap) (k : Nat) (x : Str) (C : Addr) (sp : Sp) : Prop where
  ex : ∃ (f : Addr) (fd : FuncData) (ps : List Str), mg x = some (.ref C) ∧ Mk K C f ∧ Binds K fd ps [] ∧ FnOk P w K mg base (L2.CX P w) k f fd ps sp
/-- a method of the class at C -/
structure Met (P : Program) (w : World) (K : PySem.W.Frag) (mg : Str → Option Value) (base : Heap) (k : Nat) (C : Addr) (m : Str) (sp : Sp) : Prop where
  ex : ∃ (f : Addr) (fd : FuncData) (ps : List Str), Cls K C ∧ Meth K C m f ∧ Binds K fd ps [] ∧ FnOk P w K mg base (L2.CX P w) k f fd ps sp
section
variable {P : Program} {w : World} {K : PySem.W.Frag} {mg : Str → Option Value} {base : Heap} {k : Nat} {x m : Str} {C : Addr} {sp : Sp}
theorem raw0 {CX : CXT} {f : Addr} {fd : FuncData} {ps : List Str} (F : FnOk P w K mg base CX k f fd ps sp) (hb : Binds K fd ps []) : FnR P w K mg base CX k f sp := by
  have h := F.raw hb (dvs := []) .nil
  intro A outer s H us vs Q E hr e0 r hs
  exact h A outer s H us vs Q E hr e0 r (by show sp (vs ++ []) H Q E; rw [List.append_nil]; exact hs)
end
section
variable {X : Cx} {W : WX} {pins : List (Addr × Obj)} {σ : L2.St} {H : Hp} {s : Shared} {k : Nat} {f C : Addr} {sp : Sp} {Q : VK} {us : List Value} {vs : List V}
/-- the callee runs below the running body, what it raises goes to W -/
theorem run_S {A : Around} (F : FnR X.prog X.w X.K X.mg X.base (L2.CX X.prog X.w) k f sp) (tk : Takes X W) (hr : Room k A) (e0 : Env0 X.prog X.w X.K X.mg X.base A X.stack s H) (I : Inv X pins σ H s) (r : Vals vs us) (h : sp vs H Q (WE W σ)) :
    codeAny (model X.prog X.w) A (.call (.ref f) ⟨us, []⟩) (fun r s' => match r with | .ok (.ret v) => EP X pins σ Q v s' | .ok _ => False | .error e => X.xe e s') s := by
  refine codeAny_mono (F A X.stack s H us vs Q (WE W σ) hr e0 r h) fun r s' hq => ?_
  match r, hq with
  | .error e, hq => exact passAt tk σ pins H s e s' I hq
  | .ok (.ret u), hq => exact I.after hq
  | .ok .next, hq => exact hq.elim
  | .ok .brk, hq => exact hq.elim
  | .ok .cont, hq => exact hq.elim
/-- C(..) with what __init__ raises going to W -/
theorem make_S {fd : FuncData} {ps : List Str} (M : Mk X.K C f) (F : FnOk X.prog X.w X.K X.mg X.base (L2.CX X.prog X.w) k f fd ps sp) (tk : Takes X W) (hr : Room (k + 1) X.A) (hb : Binds X.K fd ps []) (I : Inv X pins σ H s) (r : Vals vs us)
    (h : ∀ x dx, H x = none → H dx = none → dx ≠ x → sp (.ref x :: vs) (upd (upd H dx (.own x)) x (.ins C dx [])) (fun v H2 => v = .non ∧ Q (.ref x) H2) (WE W σ)) :
    wpAny (model X.prog X.w) X.A (call (.ref C) us) (EP X pins σ Q) X.xe s := by
  have hq := h (s.heap.objs.size + 1) s.heap.objs.size (I.hok.fresh (Nat.le_succ _)) (I.hok.fresh (Nat.le_refl _)) (Nat.ne_of_lt (Nat.lt_succ_self _))
  have I2 := Inv.made (C := C) I
  have r2 : Vals (V.ref (s.heap.objs.size + 1) :: vs) (Value.ref (s.heap.objs.size + 1) :: us) := .cons rfl r
  have hl : (Value.ref (s.heap.objs.size + 1) :: us ++ []).length = ps.length := by
    rw [List.append_nil, ← r2.length]; exact F.len _ _ _ _ hq
  have hbd := hb _ (Value.ref (s.heap.objs.size + 1) :: us) I2.kIn hl
  rw [List.append_nil] at hbd
  refine wpAny_call (make_map (f := f) I.kIn M.makes M.init (beq_iff_eq.mp M.fn) (codeAny_mono (F.run _ X.stack _ _ ⟨Value.ref (s.heap.objs.size + 1) :: us, []⟩ _ _ _ (WE W σ) (hr.make C us [])
    (I2.env0.make C us []) hbd r2 hq) fun r s' hq' => ?_))
  match r, hq' with
  | .error e, hq' => exact passAt tk σ pins _ _ e s' I2 hq'
  | .ok (.ret u), hq' =>
    obtain ⟨v, H', I3, rv, ev, q3⟩ := I2.after hq'
    subst ev
    exact ⟨rv, ⟨V.ref (s.heap.objs.size + 1), H', I3, rfl, q3⟩⟩
  | .ok .next, hq' => exact hq'.elim
  | .ok .brk, hq' => exact hq'.elim
  | .ok .cont, hq' => exact hq'.elim
end
/-! ### the rules -/
def tMakeS (C : Addr) (sp : Sp) (W : WX) (t : TA) : TE := fun σ H Q => t σ H fun vs H1 => ∀ x dx, H1 x = none → H1 dx = none → dx ≠ x → sp (.ref x :: vs) (upd (upd H1 dx (.own x)) x (.ins C dx [])) (fun v H2 => v = .non ∧ Q (.ref x) H2) (WE W σ)
def tMethS (C : Addr) (m : Str) (sp : Sp) (W : WX) (ta : TE) (t : TA) : TE := fun σ H Q => ta σ H fun x H1 => ∃ a dx fs, x = .ref a ∧ H1 a = some (.ins C dx fs) ∧ fs.lookup m = none ∧ t σ H1 fun vs H2 => sp (.ref a :: vs) H2 Q (WE W σ)
section
variable {X : Cx} {W : WX} {k j : Nat} {C : Addr} {sp : Sp} {x m : Str} {p pos apos : Pos} {e o : Expr} {es : List Expr} {ta : TE} {t : TA}
theorem c_call (c : Cal X.prog X.w X.K X.mg X.base k x sp) (tk : Takes X W) (hr : Room j X.A) (hk : k ≤ j) (ha : PA X (e :: es) t) (hg : Gl X x := by rfl)
    (hdb : (x == ("__debug__" : Str)) = false := by decide) (he : starEach (e :: es) X.env = (false, eval e X.env) :: starEach es X.env := by rfl) (hpl : (backTo pos (starEach es X.env)).any (·.1) = false := by rfl) :
    PE X (.Call (.Name x p) (e :: es) [] pos) (tCallS sp (WE W) t) := by
  obtain ⟨f, fd, ps, hm, kp, b, F⟩ := c.ex
  exact pe_callS F (hr.mono hk) hg hm kp b (fun σ => passAt tk σ) ha hdb he hpl
theorem c_call0 (c : Cal X.prog X.w X.K X.mg X.base k x sp) (tk : Takes X W) (hr : Room j X.A) (hk : k ≤ j) (hg : Gl X x := by rfl)
    (hdb : (x == ("__debug__" : Str)) = false := by decide) : PE X (.Call (.Name x p) [] [] pos) (tCallS sp (WE W) tNil) := by
  obtain ⟨f, fd, ps, hm, kp, b, F⟩ := c.ex
  refine ⟨fun pins s σ H Q I h => ?_⟩
  exact wpAny_Call_Name_kw (ld_glob I hg hm (PySem.W.callWith_K0 I.kIn kp (run_fnS (E := WE W) (us := []) F (hr.mono hk) b (passAt tk σ) I .nil h)) hdb)
theorem c_make (c : Mak X.prog X.w X.K X.mg X.base k x C sp) (tk : Takes X W) (hr : Room j X.A) (hk : k + 1 ≤ j) (ha : PA X (e :: es) t) (hg : Gl X x := by rfl)
    (hdb : (x == ("__debug__" : Str)) = false := by decide) (he : starEach (e :: es) X.env = (false, eval e X.env) :: starEach es X.env := by rfl) (hpl : (backTo pos (starEach es X.env)).any (·.1) = false := by rfl) :
    PE X (.Call (.Name x p) (e :: es) [] pos) (tMakeS C sp W t) := by
  obtain ⟨f, fd, ps, hm, M, b, F⟩ := c.ex
  refine ⟨fun pins s σ H Q I h => ?_⟩
  refine wpAny_Call_Name_kw (ld_glob I hg hm ?_ hdb)
  refine PySem.W.callWith_K (h₀ := X.base) I.ok.mod.kin M.kp (thn (ha.run pos pins s σ H _ I h) fun us s1 hh => ?_) he hpl
  obtain ⟨vs, H1, I1, r, q⟩ := hh
  exact ⟨I1.kIn, make_S M F tk (hr.mono hk) b I1 r q⟩
theorem c_meth {pl : Sem Bool} (c : Met X.prog X.w X.K X.mg X.base k C m sp) (tk : Takes X W) (hr : Room j X.A) (hk : k ≤ j) (ho : PE X o ta) (ha : PA X (e :: es) t)
    (hst : starEach (e :: es) X.env = (false, eval e X.env) :: starEach es X.env := by rfl) (hpl : (backTo pos (starEach es X.env)).any (·.1) = false := by rfl)
    (ht : eval (.Call (.Attribute o m apos) (e :: es) [] pos) X.env = (do
      let ov ← eval o X.env
      standAt apos.atName
      let (f, first) ← holding [ov] (getMethod ov m pl)
      callWith pos f first (backTo pos (starEach (e :: es) X.env)) (backToKw pos (keywordEach [] X.env))) := by rfl) :
    PE X (.Call (.Attribute o m apos) (e :: es) [] pos) (tMethS C m sp W ta t) := by
  obtain ⟨f, fd, ps, cl, hm, b, F⟩ := c.ex
  refine ⟨fun pins s σ H Q I h => ?_⟩
  refine PySem.W.methodCall_KW (pl := pl) (thn (ho.run pins s σ H _ I h) fun u s1 hh => ?_) ht
  obtain ⟨x, H1, I1, rx, a, dx, fs, ex, ea, l, q⟩ := hh
  subst ex
  obtain rfl : u = Value.ref a := rx
  refine getmeth_ok I1 ea cl hm l ?_
  refine PySem.W.callWith_K (first := [.ref a]) (h₀ := X.base) I.ok.mod.kin hm.kp (thn (ha.run pos pins s1 σ H1 _ I1 q) fun us s2 hh => ?_) hst hpl
  obtain ⟨vs, H2, I2, r, q2⟩ := hh
  exact ⟨I2.kIn, run_fnS (E := WE W) (us := .ref a :: us) (vs := .ref a :: vs) F (hr.mono hk) b (passAt tk σ) I2 (.cons rfl r) q2⟩
theorem c_meth0 {pl : Sem Bool} (c : Met X.prog X.w X.K X.mg X.base k C m sp) (tk : Takes X W) (hr : Room j X.A) (hk : k ≤ j) (ho : PE X o ta)
    (ht : eval (.Call (.Attribute o m apos) [] [] pos) X.env = (do
      let ov ← eval o X.env
      standAt apos.atName
      let (f, first) ← holding [ov] (getMethod ov m pl)
      callWith pos f first (backTo pos (starEach [] X.env)) (backToKw pos (keywordEach [] X.env))) := by rfl) :
    PE X (.Call (.Attribute o m apos) [] [] pos) (tMethS C m sp W ta tNil) := by
  obtain ⟨f, fd, ps, cl, hm, b, F⟩ := c.ex
  refine ⟨fun pins s σ H Q I h => ?_⟩
  refine PySem.W.methodCall_KW (pl := pl) (thn (ho.run pins s σ H _ I h) fun u s1 hh => ?_) ht
  obtain ⟨x, H1, I1, rx, a, dx, fs, ex, ea, l, q⟩ := hh
  subst ex
  obtain rfl : u = Value.ref a := rx
  refine getmeth_ok I1 ea cl hm l ?_
  exact PySem.W.callWith_K0 (first := [.ref a]) I1.kIn hm.kp (run_fnS (E := WE W) (us := [.ref a]) (vs := [.ref a]) F (hr.mono hk) b (passAt tk σ) I1 (.cons rfl .nil) q)
end
/-! ### operators by own methods -/
/-- the class at C has the def for the special name at f -/
structure Spc (P : Program) (w : World) (K : PySem.W.Frag) (mg : Str → Option Value) (base : Heap) (k : Nat) (C : Addr) (m : Str) (sp : Sp) : Prop where
  ex : ∃ f : Addr, PySem.W.findIn K (.ref C) m = some (some (.ref f)) ∧ PySem.W.isFn K (.ref f) = true ∧ FnR P w K mg base (L2.CX P w) k f sp
/-- a + n and the like, n a whole number -/
structure NumC (K : PySem.W.Frag) (C : Addr) (op : Operator) : Prop where
  sf : PySem.W.selfFirst K C = true
  r : PySem.W.findIn K (.ref C) (dunderR op.info.2) = some none
  it : PySem.W.subIn K (.type "int") (.ref C) = some false
  i1 : ∃ fo, PySem.W.findIn K (.type "int") (PySem.dunder op.info.2) = some fo
  i2 : ∃ ro, PySem.W.findIn K (.type "int") (dunderR op.info.2) = some ro
def tOwnN (C : Addr) (sp : Sp) (W : WX) (ta tb : TE) : TE := fun σ H Q => ta σ H fun x H1 => tb σ H1 fun y H2 => ∃ a dx fs j, x = .ref a ∧ y = .int j ∧ H2 a = some (.ins C dx fs) ∧ sp [.ref a, .int j] H2 Q (WE W σ)
def tOwnO (C : Addr) (sp : Sp) (W : WX) (ta tb : TE) : TE := fun σ H Q => ta σ H fun x H1 => tb σ H1 fun y H2 => ∃ a dx fs b dy gs, x = .ref a ∧ y = .ref b ∧ H2 a = some (.ins C dx fs) ∧ H2 b = some (.ins C dy gs) ∧ sp [.ref a, .ref b] H2 Q (WE W σ)
def rOwnEq (C : Addr) (sp : Sp) : R2 := fun x y H Q => ∃ a dx fs b dy gs, x = .ref a ∧ y = .ref b ∧ H a = some (.ins C dx fs) ∧ H b = some (.ins C dy gs) ∧ sp [.ref a, .ref b] H (fun v H' => ∃ c, v = .bl c ∧ Q v H') (fun _ _ _ => False)
def rOwnIn (C : Addr) (sp : Sp) : R2 := fun y x H Q => ∃ a dx fs, x = .ref a ∧ H a = some (.ins C dx fs) ∧ sp [.ref a, y] H (fun v H' => ∃ c, v = .bl c ∧ Q v H') (fun _ _ _ => False)
def rOwnU (C : Addr) (sp : Sp) : V → Hp → VK → Prop := fun x H Q => ∃ a dx fs, x = .ref a ∧ H a = some (.ins C dx fs) ∧ sp [.ref a] H Q (fun _ _ _ => False)
def rOwnStr (C : Addr) (sp : Sp) : List V → Hp → VK → Prop := fun xs H Q => ∃ a dx fs, xs = [.ref a] ∧ H a = some (.ins C dx fs) ∧ sp [.ref a] H (fun v H' => ∃ z, v = .str z ∧ Q v H') (fun _ _ _ => False)
section
variable {X : Cx} {W : WX} {k j : Nat} {C : Addr} {sp : Sp} {a b : Expr} {ta tb : TE} {pos : Pos}
theorem c_opN {op : Operator} (c : Spc X.prog X.w X.K X.mg X.base k C (PySem.dunder op.info.2) sp) (n : NumC X.K C op) (tk : Takes X W) (hr : Room j X.A) (hk : k ≤ j) (ha : PE X a ta) (hb : PE X b tb) : PE X (.BinOp a op b pos) (tOwnN C sp W ta tb) := by
  obtain ⟨f, hs, hf, F⟩ := c.ex
  obtain ⟨fo, h1⟩ := n.i1
  obtain ⟨ro, h2⟩ := n.i2
  refine ⟨fun pins s σ H Q I h => wpAny_BinOp (binT ha hb I h fun v u s2 x y H2 I2 rx ry q => ?_)⟩
  obtain ⟨p, dx, fs, i, rfl, rfl, hp, hsp⟩ := q
  obtain rfl : v = Value.ref p := rx
  obtain ⟨t, rfl⟩ := ry
  obtain ⟨mA, J, _⟩ := ins_get I2.hok hp
  obtain ⟨od, J, _⟩ := J.look
  obtain ⟨m, hF⟩ := I2.fr
  refine PySem.W.ksp_binT (T := "int") (rc := none) hF I2.ok.mod.kin J rfl n.sf hs hf n.r (.inl rfl) h1 h2 n.it ?_
  refine wpAny_mono (wpAny_call (run_S (us := [.ref p, .int i t]) (vs := [.ref p, .int i]) F tk (hr.mono hk) I2.env0 I2 (.cons rfl (.cons ⟨t, rfl⟩ .nil)) hsp)) (fun w s' z => ?_) fun _ _ x => x
  obtain ⟨z', H', I', rz, qz⟩ := z
  exact SlX.cmpback rz ⟨z', H', I', rz, qz⟩
theorem c_opO {op : Operator} (c : Spc X.prog X.w X.K X.mg X.base k C (PySem.dunder op.info.2) sp) (sf : PySem.W.selfFirst X.K C = true) (tk : Takes X W) (hr : Room j X.A) (hk : k ≤ j) (ha : PE X a ta) (hb : PE X b tb) : PE X (.BinOp a op b pos) (tOwnO C sp W ta tb) := by
  obtain ⟨f, hs, hf, F⟩ := c.ex
  refine ⟨fun pins s σ H Q I h => wpAny_BinOp (binT ha hb I h fun v u s2 x y H2 I2 rx ry q => ?_)⟩
  obtain ⟨p, dx, fs, p2, dy, gs, rfl, rfl, hp, hp2, hsp⟩ := q
  obtain rfl : v = Value.ref p := rx
  obtain rfl : u = Value.ref p2 := ry
  obtain ⟨mA, J, _⟩ := ins_get I2.hok hp
  obtain ⟨od, J, _⟩ := J.look
  obtain ⟨mB, J', _⟩ := ins_get I2.hok hp2
  obtain ⟨od', J', _⟩ := J'.look
  obtain ⟨m, hF⟩ := I2.fr
  refine PySem.W.binop_K hF I2.ok.mod.kin J J'.type sf hs hf ?_
  refine wpAny_mono (wpAny_call (run_S (us := [.ref p, .ref p2]) (vs := [.ref p, .ref p2]) F tk (hr.mono hk) I2.env0 I2 (.cons rfl (.cons rfl .nil)) hsp)) (fun w s' z => ?_) fun _ _ x => x
  obtain ⟨z', H', I', rz, qz⟩ := z
  exact SlX.cmpback rz ⟨z', H', I', rz, qz⟩
theorem c_eq (c : Spc X.prog X.w X.K X.mg X.base k C "__eq__" sp) (hr : Room j X.A) (hk : k ≤ j) : OpR X (compareOp .Eq) (rOwnEq C sp) := by
  intro pins s σ H x y v u Q I rx ry h
  obtain ⟨f, hs, hf, F⟩ := c.ex
  obtain ⟨p, dx, fs, p2, dy, gs, rfl, rfl, hp, hp2, hsp⟩ := h
  obtain rfl : v = Value.ref p := rx
  obtain rfl : u = Value.ref p2 := ry
  obtain ⟨mA, J, _⟩ := ins_get I.hok hp
  obtain ⟨od, J, _⟩ := J.look
  obtain ⟨mB, J', _⟩ := ins_get I.hok hp2
  obtain ⟨od', J', _⟩ := J'.look
  obtain ⟨m, hF⟩ := I.fr
  show wpAny _ _ (richCompare .Eq (.ref p) (.ref p2)) _ _ _
  refine PySem.W.cmp_K (op := .Eq) (tb := .ref C) hr.units0 hF I.ok.mod.kin J J'.type (by simp [PySem.W.notFirst]) hs hf ?_
  refine wpAny_mono (wpAny_call (run_S (W := fun _ _ _ _ => False) (us := [.ref p, .ref p2]) (vs := [.ref p, .ref p2]) F takes0 (hr.mono hk) I.env0 I (.cons rfl (.cons rfl .nil)) hsp)) (fun w s' z => ?_) fun _ _ x => x
  obtain ⟨z', H', I', rz, c, ec, qz⟩ := z
  exact SlX.cmpback rz ⟨z', H', I', rz, qz⟩
theorem c_in (c : Spc X.prog X.w X.K X.mg X.base k C "__contains__" sp) (hr : Room j X.A) (hk : k ≤ j) : OpR X (compareOp .In) (rOwnIn C sp) := by
  intro pins s σ H y x u v Q I ry rx h
  obtain ⟨f, hs, hf, F⟩ := c.ex
  obtain ⟨p, dx, fs, rfl, hp, hsp⟩ := h
  obtain rfl : v = Value.ref p := rx
  obtain ⟨mA, J, _⟩ := ins_get I.hok hp
  obtain ⟨od, J, _⟩ := J.look
  obtain ⟨m, hF⟩ := I.fr
  refine PySem.W.in_K hF I.ok.mod.kin J hs hf ?_
  refine wpAny_mono (wpAny_call (run_S (W := fun _ _ _ _ => False) (us := [.ref p, u]) (vs := [.ref p, y]) F takes0 (hr.mono hk) I.env0 I (.cons rfl (.cons ry .nil)) hsp)) (fun w s' z => ?_) fun _ _ x => x
  obtain ⟨z', H', I', rz, c, ec, qz⟩ := z
  subst ec
  obtain rfl : w = Value.bool c := rz
  exact wpAny_truthy_bool ⟨.bl c, H', I', rfl, qz⟩
theorem c_neg (c : Spc X.prog X.w X.K X.mg X.base k C "__neg__" sp) (hr : Room j X.A) (hk : k ≤ j) : UnR X (unaryOp .USub) (rOwnU C sp) := by
  intro pins s σ H x v Q I rx h
  obtain ⟨f, hs, hf, F⟩ := c.ex
  obtain ⟨p, dx, fs, rfl, hp, hsp⟩ := h
  obtain rfl : v = Value.ref p := rx
  obtain ⟨mA, J, _⟩ := ins_get I.hok hp
  obtain ⟨od, J, _⟩ := J.look
  obtain ⟨m, hF⟩ := I.fr
  exact PySem.W.ksp_neg hF I.ok.mod.kin J hs hf (wpAny_call (run_S (W := fun _ _ _ _ => False) (us := [.ref p]) (vs := [.ref p]) F takes0 (hr.mono hk) I.env0 I (.cons rfl .nil) hsp))
theorem c_str (c : Spc X.prog X.w X.K X.mg X.base k C "__str__" sp) (hr : Room j X.A) (hk : k + 2 ≤ j) : CallR X (.type "str") (rOwnStr C sp) := by
  intro pins s σ H xs us Q I r h
  obtain ⟨f, hs, hf, F⟩ := c.ex
  obtain ⟨p, dx, fs, rfl, hp, hsp⟩ := h
  obtain ⟨u, rfl, ru⟩ := r.one
  obtain rfl : u = Value.ref p := ru
  obtain ⟨mA, J, _⟩ := ins_get I.hok hp
  obtain ⟨od, J, _⟩ := J.look
  have hr2 : Room k X.A.in1.in1 := (show Room (k + 1) X.A.in1 from Room.in1 (hr.mono hk)).in1
  refine PySem.W.kso_call hr2.units0 I.kIn J hs hf ?_
  refine wpAny_mono (wpAny_call (run_S (W := fun _ _ _ _ => False) (us := [.ref p]) (vs := [.ref p]) F takes0 hr2 I.env0.in1.in1 I (.cons rfl .nil) hsp)) (fun w s' z => ?_) fun _ _ x => x
  obtain ⟨z', H', I', rz, y, ey, qz⟩ := z
  subst ey
  obtain ⟨t, rfl⟩ := rz
  exact ⟨.str y, H', I', ⟨t, rfl⟩, qz⟩
end
end MyL

set_option Elab.async false
set_option linter.all false
set_option maxRecDepth 100000
set_option maxHeartbeats 4000000
/-! Defs that raise nothing and run whatever is handled; isinstance of a caught error. -/
namespace MyL
open PySem PySem.Spec PyProof.Rows L2
/-- a def that lets nothing out, wherever it is called -/
def FnQ (P : Program) (w : World) (K : PySem.W.Frag) (mg : Str → Option Value) (base : Heap) (k : Nat) (f : Addr) (sp : Sp) : Prop :=
  ∀ (A : Around) (outer : List Env) (s : Shared) (H : Hp) (us : List Value) (vs : List V) (Q : VK), L2H.RoomH k A → Env0 P w K mg base A outer s H → Vals vs us → sp vs H Q (fun _ _ _ => False) →
    codeAny (model P w) A (.call (.ref f) ⟨us, []⟩) (CR (fun _ _ _ _ _ _ => False) outer P w H s Q (fun _ _ _ => False)) s
structure CalQ (P : Program) (w : World) (K : PySem.W.Frag) (mg : Str → Option Value) (base : Heap) (k : Nat) (x : Str) (sp : Sp) : Prop where
  ex : ∃ f : Addr, mg x = some (.ref f) ∧ PySem.W.keepIn K (.ref f) = true ∧ FnQ P w K mg base k f sp
def cxQ (P : Program) (w : World) (K : PySem.W.Frag) (mg : Str → Option Value) (base : Heap) (N : List Str) (qual : Str) (scope : Scope) (f : Addr) (cd : Value) (A : Around) (outer : List Env) (s : Shared) (H : Hp) : Cx :=
  { cxOf (fun _ _ _ _ _ _ => False) P w K mg base N qual scope f cd A outer s H (fun _ _ _ => False) with calm := false, xe := fun _ _ => False }
theorem inv_startQ {P : Program} {w : World} {K : PySem.W.Frag} {mg : Str → Option Value} {base : Heap} {N ps : List Str} {qual : Str} {scope : Scope} {f : Addr} {cd : Value} {A : Around} {outer : List Env} {s s1 : Shared} {H : Hp} {us : List Value} {vs : List V}
    (S : FnScope N ps scope) (e0 : Env0 P w K mg base A outer s H) (hl : vs.length = ps.length) (r : Vals vs us)
    (x : InCallC s s.heap.objs.size (bindL (envOfC qual scope s.heap.objs.size f cd).kindOf (ps.zip us) fun _ => none) (cellsFrom (s.heap.objs.size + 1) scope.names []) (bindC (envOfC qual scope s.heap.objs.size f cd).kindOf (ps.zip us) fun _ => none) s1) :
    Inv (cxQ P w K mg base N qual scope f cd A outer s H) [] (start N vs) H s1 := by
  have I := inv_start (CX := fun _ _ _ _ _ _ => False) (E := fun _ _ _ => False) (A := { A with handled := none }) (N := N) S rfl ⟨e0.frames, e0.mod, e0.bs, e0.bsz, e0.funs, e0.frf, e0.hok, e0.bare⟩ hl r x
  exact ⟨⟨I.ok.mod, I.ok.kind, I.ok.glob, I.ok.blt, I.ok.above, I.ok.inj, I.ok.has, I.ok.cab, fun z => Bool.noConfusion (show false = true from z), Around.frames_deeper e0.frames, I.ok.stk, I.ok.exf, I.ok.bs, I.ok.bsz, I.ok.noex, I.ok.exfs, I.ok.funs, I.ok.frf⟩,
    I.os, I.bare, I.base, I.loc, I.cell, I.free, I.freeC, I.pin, I.hok, I.len⟩
section
variable {P : Program} {w : World} {K : PySem.W.Frag} {mg : Str → Option Value} {base : Heap}
theorem Fun.okQ {x qual : Str} {st : Stmt} {f : Addr} {fd : FuncData} {N ps : List Str} {k : Nat} {sp : Sp} (F : L2.Fun K x qual st f fd) (S : FnScope N ps (defScope st)) (hb : Binds K fd ps []) (len : ∀ vs H Q E, sp vs H Q E → vs.length = ps.length)
    (hbody : ∀ (cdv : Value) (A : Around) (outer : List Env) (s : Shared) (H : Hp) (vs : List V) (Q : VK), L2H.RoomH k (A.deeper (envOfC qual (defScope st) s.heap.objs.size f cdv)) → sp vs H Q (fun _ _ _ => False) →
      ∃ t, PSs (cxQ P w K mg base N qual (defScope st) f cdv A outer s H) (defBody st) t ∧ t { nx := fun _ H' => Q .non H', rt := Q } (start N vs) H) : FnQ P w K mg base (k + 1) f sp := by
  obtain ⟨oc, od, kV, doc, pm, an, cdv, ct, osl, rfl, lk, hcd⟩ := F.ex
  intro A outer s H us vs Q hr e0 r hsp
  have hl := len _ _ _ _ hsp
  have KX : K.In s.heap := e0.mod.kin.keeps fun b o e => (e0.bs b o e).1
  have lim : s.heap.NoLimit := e0.mod.nolimit.keeps fun b o e => (e0.bs b o e).1
  have hb' := hb s us KX (by rw [List.append_nil, ← r.length]; exact hl)
  rw [List.append_nil] at hb'
  refine codeAny_call_function hr.depth (KX _ _ lk) rfl S.co S.gen rfl (PySem.W.codeRec_of KX hcd) (hb' _ _ _ _ ?_)
  refine wpAny_newFunctionEnv_cells S.kind (fun y hy => ?_) fun env he s1 x => ?_
  · rcases S.par y.1 (List.of_mem_zip (show (y.1, y.2) ∈ _ from hy)).1 with q | q
    · exact .inl q
    · exact .inr ⟨q, PySem.W.cellsFrom_some _ _ _ (.inl q)⟩
  subst he
  refine ⟨lim.keeps x.toInCall.keep, codeAny_func ?_⟩
  obtain ⟨t, ht, hq⟩ := hbody cdv A outer s H vs Q (hr.deeper _) hsp
  have I : Inv (cxQ P w K mg base N qual (defScope st) f cdv A outer s H) [] (start N vs) H s1 := inv_startQ S e0 hl r x
  refine wpAny_mono (ht.run [] s1 (start N vs) H _ I hq) (fun fl s' hs => ?_) fun e s' hs => (show False from hs).elim
  match fl, hs with
  | .ret u, hs =>
    obtain ⟨v, σ', H', J, rv, q⟩ := hs
    exact ⟨v, H', J.os, J.bare, J.base, J.hok, rv, q⟩
  | .next, hs =>
    obtain ⟨σ', H', J, q⟩ := hs
    exact ⟨.non, H', J.os, J.bare, J.base, J.hok, rfl, q⟩
  | .brk, hs =>
    obtain ⟨_, _, _, q⟩ := hs
    exact q.elim
  | .cont, hs =>
    obtain ⟨_, _, _, q⟩ := hs
    exact q.elim
end
theorem roomQ {j : Nat} {A : Around} (r : Room j A) (h : Option Value) : L2H.RoomH j (A.mark h) := ⟨r.dp, r.un⟩
section
variable {X : Cx} {k j : Nat} {sp : Sp} {x : Str} {p pos : Pos} {e : Expr} {es : List Expr} {t : TA}
theorem q_call (c : CalQ X.prog X.w X.K X.mg X.base k x sp) (hr : L2H.RoomH j X.A) (hk : k ≤ j) (ha : PA X (e :: es) t) (hg : Gl X x := by rfl)
    (hdb : (x == ("__debug__" : Str)) = false := by decide) (he : starEach (e :: es) X.env = (false, eval e X.env) :: starEach es X.env := by rfl) (hpl : (backTo pos (starEach es X.env)).any (·.1) = false := by rfl) :
    PE X (.Call (.Name x p) (e :: es) [] pos) (tCallS sp (fun _ _ _ _ => False) t) := by
  obtain ⟨f, hm, kp, F⟩ := c.ex
  refine ⟨fun pins s σ H Q I h => ?_⟩
  refine wpAny_Call_Name_kw (ld_glob I hg hm ?_ hdb)
  refine PySem.W.callWith_K (h₀ := X.base) I.ok.mod.kin kp (thn (ha.run pos pins s σ H _ I h) fun us s1 hh => ?_) he hpl
  obtain ⟨vs, H1, I1, r, q⟩ := hh
  refine ⟨I1.kIn, wpAny_call (codeAny_mono (F X.A X.stack s1 H1 us vs Q (hr.mono hk) I1.env0 r q) fun r s' hq => ?_)⟩
  match r, hq with
  | .error e, hq => exact (show False from hq).elim
  | .ok (.ret u), hq => exact I1.after hq
  | .ok .next, hq => exact hq.elim
  | .ok .brk, hq => exact hq.elim
  | .ok .cont, hq => exact hq.elim
end
/-! ### isinstance of the caught error -/
structure ExcK (K : PySem.W.Frag) (D : Addr) : Prop where
  cl : (PySem.W.clsIn K D).isSome = true
  ga : PySem.W.findIn K (.ref D) "__getattribute__" = some (some (.builtin "BaseException.__getattribute__"))
  gg : PySem.W.findIn K (.ref D) "__getattr__" = some none
  sb : PySem.W.subIn K (.ref D) (.type "BaseException") = some true
  ca : PySem.W.findIn K (.ref D) "__class__" = some (some (.builtin "object.__class__"))
  cn : PySem.W.specialIn K (.builtin "object.__class__") "__get__" = some (some (.builtin "getset_descriptor.__get__"))
  ct : PySem.W.takesIn K (.builtin "object.__class__") = some true
  cm : PySem.W.mroIn K D (.type "object") = some true
def DOk (H : Hp) : Option Addr → Prop
  | none => True
  | some dd => ∃ fs, H dd = some (.xd fs)
def rIsX (K : PySem.W.Frag) (cls : Value) (d : Option Addr) (a : Addr) : List V → Hp → VK → Prop := fun xs H Q => ∃ (D : Addr) (c : V) (cv : Value) (b : Bool), cls = .ref D ∧ ExcK K D ∧ DOk H d ∧ xs = [.ref a, c] ∧ ClsV c cv ∧ PySem.W.kitOne K (.ref D) cv = some b ∧ Q (.bl b) H
def rIsXT (K : PySem.W.Frag) (cls : Value) (d : Option Addr) (a : Addr) : List V → Hp → VK → Prop := fun xs H Q => ∃ (D tp : Addr) (cs : List V) (us : List Value) (b : Bool), cls = .ref D ∧ ExcK K D ∧ DOk H d ∧ xs = [.ref a, .ref tp] ∧ H tp = some (.tup cs) ∧ Paired ClsV cs us ∧ PySem.W.kitAny K (.ref D) us = some b ∧ Q (.bl b) H
section
variable {X : Cx} {a D : Addr} {oe : Obj} {cls : Value} {d : Option Addr} {pn pins : List (Addr × Obj)} {σ : L2.St} {H : Hp} {s : Shared}
theorem exc_inst (hz : Zc (.ref D) d oe) (hf : ∃ vs, oe.data = .fields vs) (hd : DOk H d) (I : Inv (X.suite a ((a, oe) :: pn)) pins σ H s) : ∃ od, PySem.W.InstAt s.heap a oe D od := by
  obtain ⟨hget, _⟩ := I.pin (a, oe) (List.mem_append_left _ List.mem_cons_self)
  obtain ⟨vs, hv⟩ := hf
  have hnc : PySem.W.notCls oe = true := by
    unfold PySem.W.notCls
    rw [hv]
  cases d with
  | none =>
    refine ⟨none, hget, hz.1, hnc, ?_⟩
    rw [hz.2]
    trivial
  | some dd =>
    obtain ⟨fs, hx⟩ := hd
    have hx : ObjOk X.prog X.w H s.heap dd (.xd fs) := I.hok dd _ hx
    obtain ⟨mA, hns, _⟩ := hx
    obtain ⟨od, ho, _⟩ := lookIn_ns hns
    refine ⟨some od, hget, hz.1, hnc, ?_⟩
    rw [hz.2]
    exact ho
theorem call_isX (hz : Zc cls d oe) (hf : ∃ vs, oe.data = .fields vs) : CallR (X.suite a ((a, oe) :: pn)) (.builtin "isinstance") (rIsX X.K cls d a) := by
  intro pins s σ H xs us Q I r h
  obtain ⟨D, c, cv, b, rfl, C, hd, rfl, hc, e, q⟩ := h
  obtain ⟨od, J⟩ := exc_inst hz hf hd I
  match us, r with
  | [u1, u2], .cons r1 (.cons r2 .nil) =>
    obtain rfl : u1 = Value.ref a := r1
    have e2 := hc.eq r2
    subst e2
    exact PySem.W.kia_one (PySem.W.kitx_exc C.cl C.ga C.gg C.sb C.ca C.cn C.ct C.cm) I.kIn J e (fun z => nomatch z) fun tk => ⟨.bl b, H, I.tok tk, rfl, q⟩
theorem call_isXT (hz : Zc cls d oe) (hf : ∃ vs, oe.data = .fields vs) : CallR (X.suite a ((a, oe) :: pn)) (.builtin "isinstance") (rIsXT X.K cls d a) := by
  intro pins s σ H xs us Q I r h
  obtain ⟨D, tp, cs, ws, b, rfl, C, hd, rfl, hT, k, e, q⟩ := h
  obtain ⟨od, J⟩ := exc_inst hz hf hd I
  match us, r with
  | [u1, u2], .cons r1 (.cons r2 .nil) =>
    obtain rfl : u1 = Value.ref a := r1
    obtain rfl : u2 = Value.ref tp := r2
    obtain ⟨_, its, rv, o, h1, h2, n, h3⟩ := (show ObjOk X.prog X.w H s.heap tp (.tup cs) from I.hok tp _ hT)
    have e3 := ClsV.all k rv
    subst e3
    obtain ⟨oc, od', dt, sl⟩ := o
    simp only at h2 h3
    subst h2 h3
    exact PySem.W.kia_tup (PySem.W.kitx_exc C.cl C.ga C.gg C.sb C.ca C.cn C.ct C.cm) I.kIn J h1 e (fun z => nomatch z) fun tk => ⟨.bl b, H, I.tok tk, rfl, q⟩
end
end MyL

set_option Elab.async false
set_option linter.all false
set_option maxRecDepth 100000
set_option maxHeartbeats 4000000
/-! What is known of the heap, and readings taken apart step by step. -/
namespace MyL
open PySem L2
/-- behind B, of which only the objects at ms may have changed: H holds f (handed in) and l (made here) -/
structure Mem (B : Hp) (ms : List Addr) (H : Hp) (f l : List (Addr × HO)) : Prop where
  atF : ∀ p ∈ f, H p.1 = some p.2
  atL : ∀ p ∈ l, H p.1 = some p.2
  nd : ((l ++ f).map (·.1)).Nodup
  keep : ∀ a o, B a = some o → a ∉ ms → H a = some o
  tr : ∀ m ∈ ms, H m ≠ none
  new : ∀ p ∈ l, B p.1 = none
theorem Same.of_keep {B H : Hp} {f l : List (Addr × HO)} (M : Mem B [] H f l) : Same B H := fun a o h => M.keep a o h (by simp)
theorem mem_start {H : Hp} {ms : List Addr} {f : List (Addr × HO)} (h : ∀ p ∈ f, H p.1 = some p.2) (nd : (f.map (·.1)).Nodup) (tr : ∀ m ∈ ms, m ∈ f.map (·.1)) : Mem H ms H f [] :=
  ⟨h, (fun _ h => nomatch h), by simpa using nd, fun _ _ h _ => h, (fun m hm z => by
    obtain ⟨p, hp, e⟩ := List.mem_map.mp (tr m hm)
    have := h p hp
    rw [e, z] at this; cases this), (fun _ h => nomatch h)⟩
section
variable {B H H' : Hp} {ms : List Addr} {f l : List (Addr × HO)} {p a : Addr} {o o' : HO}
theorem Mem.fresh (M : Mem B ms H f l) (h : H p = none) : B p = none := by
  cases e : B p with
  | none => rfl
  | some u =>
    by_cases hm : p ∈ ms
    · exact absurd h (M.tr p hm)
    · rw [M.keep p u e hm] at h; cases h
theorem Mem.ne (M : Mem B ms H f l) (h : H p = none) : p ∉ (l ++ f).map (·.1) := fun hm => by
  obtain ⟨q, hq, e⟩ := List.mem_map.mp hm
  rcases List.mem_append.mp hq with z | z
  · have := M.atL q z; rw [e, h] at this; cases this
  · have := M.atF q z; rw [e, h] at this; cases this
theorem Mem.same (M : Mem B ms H f l) (s : Same H H') : Mem B ms H' f l :=
  ⟨fun p hp => s _ _ (M.atF p hp), fun p hp => s _ _ (M.atL p hp), M.nd, fun a o h hm => s _ _ (M.keep a o h hm), fun m hm => by
    cases e : H m with
    | none => exact absurd e (M.tr m hm)
    | some o => rw [s _ _ e]; exact (fun z => nomatch z), M.new⟩
theorem same_alloc (h : H p = none) : Same H (upd H p o) := fun a u e => by
  rw [upd_ne (ne_of_none e h)]; exact e
theorem Mem.sameNew (M : Mem B ms H f l) (s : Same H H') (h : H p = none) (h' : H' p = some o) : Mem B ms H' f ((p, o) :: l) :=
  let M' := M.same s
  ⟨M'.atF, fun q hq => by
    rcases List.mem_cons.mp hq with rfl | hq
    · exact h'
    · exact M'.atL q hq, by
      show (p :: ((l ++ f).map (·.1))).Nodup
      exact List.nodup_cons.mpr ⟨M.ne h, M.nd⟩, M'.keep, M'.tr, fun q hq => by
    rcases List.mem_cons.mp hq with rfl | hq
    · exact M.fresh h
    · exact M.new q hq⟩
theorem Mem.alloc (M : Mem B ms H f l) (h : H p = none) : Mem B ms (upd H p o) f ((p, o) :: l) := M.sameNew (same_alloc h) h upd_same
/-- something that stands in the heap is known of, too -/
theorem Mem.drop {q : Addr × HO} (M : Mem B ms H f (q :: l)) : Mem B ms H f l :=
  ⟨M.atF, fun p hp => M.atL p (List.mem_cons_of_mem _ hp), by
    have := M.nd
    rw [List.cons_append, List.map_cons, List.nodup_cons] at this
    exact this.2, M.keep, M.tr, fun p hp => M.new p (List.mem_cons_of_mem _ hp)⟩
theorem Mem.setL {l1 l2 : List (Addr × HO)} (M : Mem B ms H f (l1 ++ (a, o) :: l2)) : Mem B ms (upd H a o') f (l1 ++ (a, o') :: l2) := by
  have nd := M.nd
  have hne : ∀ q ∈ l1 ++ l2 ++ f, q.1 ≠ a := by
    have e : ((l1 ++ (a, o) :: l2 ++ f).map (·.1)) = l1.map (·.1) ++ a :: (l2 ++ f).map (·.1) := by simp
    rw [e, List.nodup_append] at nd
    obtain ⟨_, n2, n3⟩ := nd
    rw [List.nodup_cons] at n2
    intro q hq z
    rw [List.append_assoc] at hq
    rcases List.mem_append.mp hq with hq | hq
    · exact n3 _ (List.mem_map_of_mem hq) _ List.mem_cons_self z
    · exact n2.1 (by rw [← z]; exact List.mem_map_of_mem hq)
  have hB : B a = none := M.new (a, o) (by simp)
  refine ⟨fun q hq => ?_, fun q hq => ?_, by simpa using nd, fun b u h hm => ?_, fun m hm z => ?_, fun q hq => ?_⟩
  · rw [upd_ne (hne q (by simp [hq]))]; exact M.atF q hq
  · rcases List.mem_append.mp hq with h | h
    · rw [upd_ne (hne q (by simp [h]))]; exact M.atL q (by simp [h])
    · rcases List.mem_cons.mp h with rfl | h
      · exact upd_same
      · rw [upd_ne (hne q (by simp [h]))]; exact M.atL q (by simp [h])
  · rw [upd_ne (ne_of_none h hB)]; exact M.keep b u h hm
  · by_cases e : m = a
    · rw [e, upd_same] at z; cases z
    · rw [upd_ne e] at z; exact M.tr m hm z
  · rcases List.mem_append.mp hq with h | h
    · exact M.new q (by simp [h])
    · rcases List.mem_cons.mp h with rfl | h
      · exact hB
      · exact M.new q (by simp [h])
theorem Mem.setF {f1 f2 : List (Addr × HO)} (M : Mem B ms H (f1 ++ (a, o) :: f2) l) (ha : a ∈ ms) : Mem B ms (upd H a o') (f1 ++ (a, o') :: f2) l := by
  have nd := M.nd
  have hne : ∀ q ∈ l ++ f1 ++ f2, q.1 ≠ a := by
    have e : ((l ++ (f1 ++ (a, o) :: f2)).map (·.1)) = (l ++ f1).map (·.1) ++ a :: f2.map (·.1) := by simp
    rw [e, List.nodup_append] at nd
    obtain ⟨_, n2, n3⟩ := nd
    rw [List.nodup_cons] at n2
    intro q hq z
    rcases List.mem_append.mp hq with hq | hq
    · exact n3 _ (List.mem_map_of_mem hq) _ List.mem_cons_self z
    · exact n2.1 (by rw [← z]; exact List.mem_map_of_mem hq)
  refine ⟨fun q hq => ?_, fun q hq => ?_, by simpa using nd, fun b u h hm => ?_, fun m hm z => ?_, M.new⟩
  · rcases List.mem_append.mp hq with h | h
    · rw [upd_ne (hne q (by simp [h]))]; exact M.atF q (by simp [h])
    · rcases List.mem_cons.mp h with rfl | h
      · exact upd_same
      · rw [upd_ne (hne q (by simp [h]))]; exact M.atF q (by simp [h])
  · rw [upd_ne (hne q (by simp [hq]))]; exact M.atL q hq
  · rw [upd_ne (fun z => hm (by rw [z]; exact ha))]; exact M.keep b u h hm
  · by_cases e : m = a
    · rw [e, upd_same] at z; cases z
    · rw [upd_ne e] at z; exact M.tr m hm z
/-- all but the objects at ms is as it was -/
def Keep (ms : List Addr) (H H' : Hp) : Prop := (∀ a o, H a = some o → a ∉ ms → H' a = some o) ∧ ∀ m ∈ ms, H' m ≠ none
theorem Mem.keeps (M : Mem B ms H f l) : Keep ms B H := ⟨M.keep, M.tr⟩
theorem Mem.getF (M : Mem B ms H f l) (h : (a, o) ∈ f) : H a = some o := M.atF _ h
theorem Mem.getL (M : Mem B ms H f l) (h : (a, o) ∈ l) : H a = some o := M.atL _ h
/-- behind a call that may have changed the first of what was handed in -/
theorem Mem.call1 {f : List (Addr × HO)} (M : Mem B ms H ((a, o) :: f) l) (ha : a ∈ ms) (k : Keep [a] H H') (h' : H' a = some o') : Mem B ms H' ((a, o') :: f) l := by
  have nd := M.nd
  have hne : ∀ q ∈ l ++ f, q.1 ≠ a := by
    rw [List.map_append, List.map_cons, List.nodup_append] at nd
    obtain ⟨_, n2, n3⟩ := nd
    rw [List.nodup_cons] at n2
    intro q hq z
    rcases List.mem_append.mp hq with hq | hq
    · exact n3 _ (List.mem_map.mpr ⟨q, hq, rfl⟩) _ List.mem_cons_self z
    · exact n2.1 (List.mem_map.mpr ⟨q, hq, z⟩)
  refine ⟨fun q hq => ?_, fun q hq => ?_, by simpa using nd, fun b u h hm => ?_, fun m hm z => ?_, M.new⟩
  · rcases List.mem_cons.mp hq with rfl | h
    · exact h'
    · exact k.1 _ _ (M.atF q (by simp [h])) (by simpa using hne q (by simp [h]))
  · exact k.1 _ _ (M.atL q hq) (by simpa using hne q (by simp [hq]))
  · exact k.1 _ _ (M.keep b u h hm) (by intro z; rw [List.mem_singleton] at z; exact hm (by rw [z]; exact ha))
  · cases e : H m with
    | none => exact M.tr m hm e
    | some u =>
      by_cases hma : m = a
      · rw [hma, h'] at z; cases z
      · rw [k.1 _ _ e (by simpa using hma)] at z; cases z
end
/-! ### steps -/
section
variable {n : L2.St → Hp → Prop} {r : VK} {b c : L2.St → Hp → Prop} {σ : L2.St} {H : Hp} {t u : TS} {te ta tb : TE} {tt tu : TT} {Q : VK} {QB : Bool → Hp → Prop} {QA : List V → Hp → Prop} {v : V} {i : Nat} {tA : TA}
theorem k_seq (h : t ⟨u ⟨n, r, b, c⟩, r, b, c⟩ σ H) : tSeq t u ⟨n, r, b, c⟩ σ H := h
theorem k_next (h : n σ H) : tNext ⟨n, r, b, c⟩ σ H := h
theorem k_break (h : b σ H) : tBreak ⟨n, r, b, c⟩ σ H := h
theorem k_cont (h : c σ H) : tCont ⟨n, r, b, c⟩ σ H := h
theorem k_asg (h : te σ H fun v H1 => n (σ.set i (some v)) H1) : tAsg te (gName i) ⟨n, r, b, c⟩ σ H := h
theorem k_ret (h : te σ H r) : tRet te ⟨n, r, b, c⟩ σ H := h
theorem k_retN (h : r .non H) : tRetN ⟨n, r, b, c⟩ σ H := h
theorem k_drop (h : te σ H fun _ H1 => n σ H1) : tDrop te ⟨n, r, b, c⟩ σ H := h
theorem k_ifS (h : tt σ H fun k H1 => if k = true then t ⟨n, r, b, c⟩ σ H1 else u ⟨n, r, b, c⟩ σ H1) : tIfS tt t u ⟨n, r, b, c⟩ σ H := h
theorem k_var (h : σ[i]? = some (some v)) (q : Q v H) : tVar i σ H Q := ⟨v, h, q⟩
theorem k_c (q : Q v H) : tC v σ H Q := q
theorem k_op {rr : R2} (h : ta σ H fun x H1 => tb σ H1 fun y H2 => rr x y H2 Q) : tOp rr ta tb σ H Q := h
theorem k_un {ru : V → Hp → VK → Prop} (h : ta σ H fun x H1 => ru x H1 Q) : tUn ru ta σ H Q := h
theorem k_test (h : te σ H fun x H' => ∃ k, x = .bl k ∧ QB k H') : tTest te σ H QB := h
theorem k_B (h : te σ H fun x H' => ∃ k, x = .bl k ∧ QB k H') : tB te σ H QB := h
theorem k_bl {k : Bool} {PB : Bool → Prop} (h : PB k) : ∃ k', V.bl k = .bl k' ∧ PB k' := ⟨k, rfl, h⟩
theorem k_and (h : tt σ H fun k H1 => if k = true then tu σ H1 QB else QB false H1) : tAnd tt tu σ H QB := h
theorem k_or (h : tt σ H fun k H1 => if k = true then QB true H1 else tu σ H1 QB) : tOr tt tu σ H QB := h
theorem k_not (h : tt σ H fun k H1 => QB (!k) H1) : tNot tt σ H QB := h
theorem k_andV (h : ta σ H fun x H1 => ∃ k, x = .bl k ∧ if k = true then tb σ H1 Q else Q (.bl false) H1) : tAndV ta tb σ H Q := h
theorem k_orV (h : ta σ H fun x H1 => ∃ k, x = .bl k ∧ if k = true then Q (.bl true) H1 else tb σ H1 Q) : tOrV ta tb σ H Q := h
theorem k_notV (h : ta σ H fun x H1 => ∃ k, x = .bl k ∧ Q (.bl (!k)) H1) : tNotV ta σ H Q := h
theorem k_ifE (h : tt σ H fun k H1 => if k = true then ta σ H1 Q else tb σ H1 Q) : tIf tt ta tb σ H Q := h
theorem k_nil (h : QA [] H) : tNil σ H QA := h
theorem k_cons (h : te σ H fun x H1 => tA σ H1 fun xs H2 => QA (x :: xs) H2) : tCons te tA σ H QA := h
theorem k_cb {rc : List V → Hp → VK → Prop} (h : tA σ H fun vs H1 => rc vs H1 Q) : tCB rc tA σ H Q := h
theorem k_callS {sp : Sp} {E : L2.St → XK} (h : tA σ H fun vs H1 => sp vs H1 Q (E σ)) : tCallS sp E tA σ H Q := h
theorem k_I {C : Int → Int → Prop} {g : Int → Int → V} {x y : Int} (hc : C x y) (q : Q (g x y) H) : rI C g (.int x) (.int y) H Q := ⟨x, y, rfl, rfl, hc, q⟩
theorem k_I0 {g : Int → Int → V} {x y : Int} (q : Q (g x y) H) : rI0 g (.int x) (.int y) H Q := ⟨x, y, rfl, rfl, q⟩
theorem k_U {g : Int → V} {x : Int} (q : Q (g x) H) : rU g (.int x) H Q := ⟨x, rfl, q⟩
theorem k_eqI {x y : Int} (q : Q (.bl (decide (x = y))) H) : rEq (.int x) (.int y) H Q := ⟨rfl, by
  have e : decide (V.int x = V.int y) = decide (x = y) := by
    by_cases h : x = y
    · subst h; simp
    · rw [decide_eq_false h, decide_eq_false (fun z => h (V.int.inj z))]
  rw [e]; exact q⟩
theorem k_neI {x y : Int} (q : Q (.bl (!decide (x = y))) H) : rNe (.int x) (.int y) H Q := ⟨rfl, by
  have e : decide (V.int x = V.int y) = decide (x = y) := by
    by_cases h : x = y
    · subst h; simp
    · rw [decide_eq_false h, decide_eq_false (fun z => h (V.int.inj z))]
  rw [e]; exact q⟩
theorem k_eqB {x y : Bool} (q : Q (.bl (x == y)) H) : rEq (.bl x) (.bl y) H Q := ⟨rfl, by
  have e : decide (V.bl x = V.bl y) = (x == y) := by cases x <;> cases y <;> simp
  rw [e]; exact q⟩
theorem k_neB {x y : Bool} (q : Q (.bl (!(x == y))) H) : rNe (.bl x) (.bl y) H Q := ⟨rfl, by
  have e : decide (V.bl x = V.bl y) = (x == y) := by cases x <;> cases y <;> simp
  rw [e]; exact q⟩
theorem k_eqS {x y : Str} (q : Q (.bl (decide (x = y))) H) : rEq (.str x) (.str y) H Q := ⟨rfl, by
  have e : decide (V.str x = V.str y) = decide (x = y) := by
    by_cases h : x = y
    · subst h; simp
    · rw [decide_eq_false h, decide_eq_false (fun z => h (V.str.inj z))]
  rw [e]; exact q⟩
theorem k_neS {x y : Str} (q : Q (.bl (!decide (x = y))) H) : rNe (.str x) (.str y) H Q := ⟨rfl, by
  have e : decide (V.str x = V.str y) = decide (x = y) := by
    by_cases h : x = y
    · subst h; simp
    · rw [decide_eq_false h, decide_eq_false (fun z => h (V.str.inj z))]
  rw [e]; exact q⟩
theorem k_iteD {p : Prop} [Decidable p] {A Z : Prop} (h1 : p → A) (h2 : ¬ p → Z) : if decide p = true then A else Z := by
  by_cases h : p
  · rw [if_pos (decide_eq_true h)]; exact h1 h
  · rw [if_neg (by simpa using h)]; exact h2 h
theorem k_iteN {p : Prop} [Decidable p] {A Z : Prop} (h1 : ¬ p → A) (h2 : p → Z) : if (!decide p) = true then A else Z := by
  by_cases h : p
  · rw [if_neg (by simpa using h)]; exact h2 h
  · rw [if_pos (by simpa using h)]; exact h1 h
theorem k_iteB {k : Bool} {A Z : Prop} (h1 : k = true → A) (h2 : k = false → Z) : if k = true then A else Z := by
  cases k with
  | true => rw [if_pos rfl]; exact h1 rfl
  | false => rw [if_neg Bool.false_ne_true]; exact h2 rfl
/-- new things -/
def newL (xs : List V) (H : Hp) (Q : VK) : Prop := xs.length ≤ sizeLine ∧ ∀ p, H p = none → Q (.ref p) (upd H p (.lst xs))
def newT (xs : List V) (H : Hp) (Q : VK) : Prop := xs.length ≤ sizeLine ∧ ∀ p, H p = none → Q (.ref p) (upd H p (.tup xs))
theorem k_lst {B : Hp} {ms : List Addr} {f l : List (Addr × HO)} {xs : List V} (M : Mem B ms H f l) (hl : xs.length ≤ sizeLine) (k : ∀ p H', Mem B ms H' f ((p, .lst xs) :: l) → Q (.ref p) H') : newL xs H Q :=
  ⟨hl, fun p hp => k p _ (M.alloc hp)⟩
theorem k_tup {B : Hp} {ms : List Addr} {f l : List (Addr × HO)} {xs : List V} (M : Mem B ms H f l) (hl : xs.length ≤ sizeLine) (k : ∀ p H', Mem B ms H' f ((p, .tup xs) :: l) → Q (.ref p) H') : newT xs H Q :=
  ⟨hl, fun p hp => k p _ (M.alloc hp)⟩
theorem k_lst0 (h : tA σ H fun xs H1 => newL xs H1 Q) : tLst tA σ H Q := h
theorem k_tup0 (h : tA σ H fun xs H1 => newT xs H1 Q) : tTup tA σ H Q := h
/-- an attribute -/
theorem k_fld0 {K : PySem.W.Frag} {f : Str} (h : ta σ H fun x H1 => ∃ a C dx fs v, x = .ref a ∧ H1 a = some (.ins C dx fs) ∧ Cls K C ∧ NoAttr K C f ∧ fs.lookup f = some v ∧ Q v H1) : tFld K ta f σ H Q := h
theorem k_fld {K : PySem.W.Frag} {f : Str} {a C dx : Addr} {fs : List (Str × V)} {v : V} (h : H a = some (.ins C dx fs)) (hc : Cls K C) (hn : NoAttr K C f) (hl : fs.lookup f = some v) {PV : V → Prop} (q : PV v) :
    ∃ a' C' dx' fs' v', V.ref a = .ref a' ∧ H a' = some (.ins C' dx' fs') ∧ Cls K C' ∧ NoAttr K C' f ∧ fs'.lookup f = some v' ∧ PV v' := ⟨a, C, dx, fs, v, rfl, h, hc, hn, hl, q⟩
/-- an item -/
theorem k_ixL {K : PySem.W.Frag} {p : Addr} {xs : List V} {j : Int} {v : V} (h : H p = some (.lst xs)) (ha : atI xs j = some v) (q : Q v H) : rIxL K (.ref p) (.int j) H Q := ⟨p, xs, j, v, rfl, rfl, SqL.of h, ha, q⟩
theorem k_ixT {K : PySem.W.Frag} {p : Addr} {xs : List V} {j : Int} {v : V} (h : H p = some (.tup xs)) (ha : atI xs j = some v) (q : Q v H) : rIxT K (.ref p) (.int j) H Q := ⟨p, xs, j, v, rfl, rfl, SqT.of h, ha, q⟩
end
end MyL

set_option Elab.async false
set_option linter.all false
set_option maxRecDepth 100000
set_option maxHeartbeats 4000000
namespace MyL
open PySem PySem.Spec PyProof.Rows L2
section
variable {X : Cx} {e a b : Expr} {t t' ta tb : TE} {pos : Pos}
theorem pe_imp (h : PE X e t) (hi : ∀ σ H Q, t' σ H Q → t σ H Q) : PE X e t' := ⟨fun pins s σ H Q I q => h.run pins s σ H Q I (hi _ _ _ q)⟩
/-- a * b -/
def CMulU (i j : Int) : Prop := CMul i j ∨ CMulW i j
theorem op_mulU : OpR X (binaryOp .Mult) (rI CMulU fun i j => .int (i * j)) := by
  intro pins s σ H x y v u Q I rx ry h
  obtain ⟨i, j, ex, ey, hc, q⟩ := h
  rcases hc with hc | hc
  · exact op_mul pins s σ H x y v u Q I rx ry ⟨i, j, ex, ey, hc, q⟩
  · exact op_mulW pins s σ H x y v u Q I rx ry ⟨i, j, ex, ey, hc, q⟩
/-- a written power -/
theorem pe_powC {i j n : Int} {k1 k2 : Nat} {p1 p2 : Pos} (hc : CPow i j := by unfold CPow; decide) (hv : i ^ j.toNat = n := by decide +kernel) : PE X (.BinOp (.Constant (.int i) k1 p1) .Pow (.Constant (.int j) k2 p2) pos) (tC (.int n)) :=
  pe_imp (pe_op op_pow pe_int pe_int) fun σ H Q q => ⟨i, j, rfl, rfl, hc, by show Q (.int (i ^ j.toNat)) H; rw [hv]; exact q⟩
/-- a written number below zero -/
theorem pe_negC {i : Int} {k1 : Nat} {p1 : Pos} : PE X (.UnaryOp .USub (.Constant (.int i) k1 p1) pos) (tC (.int (-i))) :=
  pe_imp (pe_un un_neg pe_int) fun σ H Q q => ⟨i, rfl, q⟩
end
section
variable {P : Program} {w : World} {K : PySem.W.Frag} {mg : Str → Option Value} {base : Heap}
/-- a def that may raise, by its body; what leaves the frame is the caller's wish -/
theorem okT {x qual : Str} {st : Stmt} {f : Addr} {fd : FuncData} {N ps : List Str} {k : Nat} {sp : Sp} (F : L2.Fun K x qual st f fd) (S : FnScope N ps (defScope st)) (len : ∀ vs H Q E, sp vs H Q E → vs.length = ps.length)
    (hbody : ∀ (cdv : Value) (A : Around) (outer : List Env) (s : Shared) (H : Hp) (vs : List V) (Q : VK) (E : XK), Room k (A.deeper (envOfC qual (defScope st) s.heap.objs.size f cdv)) →
      Takes (cxOf (L2.CX P w) P w K mg base N qual (defScope st) f cdv A outer s H E) (fun c d _ H => E c d H) → sp vs H Q E →
      ∃ t, PSs (cxOf (L2.CX P w) P w K mg base N qual (defScope st) f cdv A outer s H E) (defBody st) t ∧ t ⟨fun _ H' => Q .non H', Q, fun _ _ => False, fun _ _ => False⟩ (start N vs) H) : FnOk P w K mg base (L2.CX P w) (k + 1) f fd ps sp :=
  F.okX S len fun cdv A outer s H vs Q E hr h => hbody cdv A outer s H vs Q E hr (takes_of rfl rfl rfl rfl) h
end
/-! ### built-ins of one argument -/
def rInt1 : List V → Hp → VK → Prop := fun xs H Q => ∃ i, xs = [.int i] ∧ Q (.int i) H
def rAbs1 : List V → Hp → VK → Prop := fun xs H Q => ∃ i : Int, xs = [.int i] ∧ Q (.int (if i < 0 then -i else i)) H
def rStrI : List V → Hp → VK → Prop := fun xs H Q => ∃ i : Int, xs = [.int i] ∧ i.natAbs.log2 < 1920 ∧ Q (.str (toString i)) H
def rLenQ (K : PySem.W.Frag) : List V → Hp → VK → Prop := fun xs H Q => ∃ p ys, xs = [.ref p] ∧ (SqL K H p ys ∨ SqT K H p ys) ∧ Q (.int ys.length) H
def rMin2 : List V → Hp → VK → Prop := fun xs H Q => ∃ i j : Int, xs = [.int i, .int j] ∧ Q (.int (if j < i then j else i)) H
def rMax2 : List V → Hp → VK → Prop := fun xs H Q => ∃ i j : Int, xs = [.int i, .int j] ∧ Q (.int (if j > i then j else i)) H
section
variable {X : Cx}
theorem b_int : CallR X (.type "int") rInt1 := fun pins s σ H xs us Q I r h => call_int1 pins s σ H xs us Q I r (.inl h)
theorem b_abs : CallR X (.builtin "abs") rAbs1 := call_abs
theorem b_strI : CallR X (.type "str") rStrI := call_str_int
theorem b_len : CallR X (.builtin "len") (rLenQ X.K) := call_len_seq
theorem b_min2 (hc : X.calm = true) : CallR X (.builtin "min") rMin2 := call_min2 hc
theorem b_max2 (hc : X.calm = true) : CallR X (.builtin "max") rMax2 := call_max2 hc
end
section
variable {H : Hp} {Q : VK} {i j : Int} {K : PySem.W.Frag}
theorem k_int1 (q : Q (.int i) H) : rInt1 [.int i] H Q := ⟨i, rfl, q⟩
theorem k_abs1 (q : Q (.int (if i < 0 then -i else i)) H) : rAbs1 [.int i] H Q := ⟨i, rfl, q⟩
theorem k_strI (h : i.natAbs.log2 < 1920) (q : Q (.str (toString i)) H) : rStrI [.int i] H Q := ⟨i, rfl, h, q⟩
theorem k_lenL {p : Addr} {ys : List V} (h : H p = some (.lst ys)) (q : Q (.int ys.length) H) : rLenQ K [.ref p] H Q := ⟨p, ys, rfl, .inl (SqL.of h), q⟩
theorem k_lenT {p : Addr} {ys : List V} (h : H p = some (.tup ys)) (q : Q (.int ys.length) H) : rLenQ K [.ref p] H Q := ⟨p, ys, rfl, .inr (SqT.of h), q⟩
theorem k_min2 (q : Q (.int (if j < i then j else i)) H) : rMin2 [.int i, .int j] H Q := ⟨i, j, rfl, q⟩
theorem k_max2 (q : Q (.int (if j > i then j else i)) H) : rMax2 [.int i, .int j] H Q := ⟨i, j, rfl, q⟩
/-- isinstance of numbers and truths -/
theorem k_isiI {c : String} {b : Bool} (e : PySem.W.kitOne K (.type "int") (.type c) = some b) (q : Q (.bl b) H) : rIsi K [.int i, .ty c] H Q := ⟨_, _, _, _, b, rfl, .ty c, .base (.int i), e, q⟩
/-- the rest of a division -/
theorem k_mod {x y : Int} {g : Int → Int → V} {C : Int → Int → Prop} (hc : C x y) (q : Q (g x y) H) : rI C g (.int x) (.int y) H Q := ⟨x, y, rfl, rfl, hc, q⟩
/-- xs[j] = v, xs made here or handed in to be changed -/
theorem k_sub0 {σ : L2.St} {n : L2.St → Hp → Prop} {r : VK} {b c : L2.St → Hp → Prop} {te to ti : TE} {ts : TSet} (h : te σ H fun v H1 => to σ H1 fun o H2 => ti σ H2 fun i H3 => ts o i v H3 fun H4 => n σ H4) : tAsg te (gSub to ti ts) ⟨n, r, b, c⟩ σ H := h
theorem k_setL {QH : Hp → Prop} {p : Addr} {xs : List V} {k : Int} {jn : Nat} {v : V} (h : H p = some (.lst xs)) (hi : ixN xs.length k = some jn) (q : QH (upd H p (.lst (xs.set jn v)))) : rSetL (.ref p) (.int k) v H QH := ⟨p, xs, k, jn, rfl, rfl, h, hi, q⟩
end
end MyL

set_option Elab.async false
set_option linter.all false
set_option maxRecDepth 100000
set_option maxHeartbeats 4000000
namespace MyL
open PySem L2
/-! ### the steps of a reading, as one word -/
theorem k_iteNT {A Z : Prop} (h : Z) : if (!true) = true then A else Z := h
theorem k_iteNF {A Z : Prop} (h : A) : if (!false) = true then A else Z := h
theorem divW {i j : Int} (h : 0 < j) (h2 : j < 2 ^ 64) : CDivW i j := ⟨h, by
  have e : j.natAbs < 2 ^ 64 := by omega
  exact Nat.lt_of_le_of_lt (Nat.log2_lt (by omega) |>.mpr e |> Nat.le_of_lt) (by decide)⟩
theorem cxK {CX : CXT} {P : Program} {w : World} {K : PySem.W.Frag} {mg : Str → Option Value} {base : Heap} {N : List Str} {qual : Str} {scope : Scope} {f : Addr} {cd : Value} {A : Around} {outer : List Env} {s : Shared} {H : Hp} {E : XK} : (cxOf CX P w K mg base N qual scope f cd A outer s H E).K = K := rfl
theorem cxQK {P : Program} {w : World} {K : PySem.W.Frag} {mg : Str → Option Value} {base : Heap} {N : List Str} {qual : Str} {scope : Scope} {f : Addr} {cd : Value} {A : Around} {outer : List Env} {s : Shared} {H : Hp} : (cxQ P w K mg base N qual scope f cd A outer s H).K = K := rfl
theorem mulL {i j : Int} (h : -(2 ^ 64) < i) (h2 : i < 2 ^ 64) : CMulU i j := .inl (.inl ⟨h, h2⟩)
theorem mulR {i j : Int} (h : -(2 ^ 64) < j) (h2 : j < 2 ^ 64) : CMulU i j := .inl (.inr ⟨h, h2⟩)
theorem atI_map {ns : List Int} {j : Int} (h0 : 0 ≤ j) (h1 : j < ns.length) : atI (ns.map V.int) j = some (.int (ns.getD j.toNat 0)) := by
  have hj : j.toNat < ns.length := by omega
  unfold atI ixN
  rw [List.length_map, if_pos h0, if_pos h1]
  simp [hj]
theorem k_lenM {K : PySem.W.Frag} {H : Hp} {Q : VK} {p : Addr} {ns : List Int} (h : H p = some (.lst (ns.map V.int))) (q : Q (.int ns.length) H) : rLenQ K [.ref p] H Q := ⟨p, _, rfl, .inl (SqL.of h), by rw [List.length_map]; exact q⟩
theorem sz {n : Nat} (h : n ≤ 100000) : n ≤ sizeLine := Nat.le_trans h (by decide)
section
variable {B H : Hp} {ms : List Addr} {f l : List (Addr × HO)} {QH : Hp → Prop} {p : Addr} {xs : List V} {k : Int} {jn : Nat} {v : V} {x0 x1 x2 x3 : Addr × HO}
theorem k_setF0 (M : Mem B ms H ((p, .lst xs) :: f) l) (hm : p ∈ ms) (hi : ixN xs.length k = some jn) (q : ∀ H', Mem B ms H' ((p, .lst (xs.set jn v)) :: f) l → QH H') : rSetL (.ref p) (.int k) v H QH :=
  ⟨p, xs, k, jn, rfl, rfl, M.getF List.mem_cons_self, hi, q _ (Mem.setF (f1 := []) M hm)⟩
theorem k_setL0 (M : Mem B ms H f ((p, .lst xs) :: l)) (hi : ixN xs.length k = some jn) (q : ∀ H', Mem B ms H' f ((p, .lst (xs.set jn v)) :: l) → QH H') : rSetL (.ref p) (.int k) v H QH :=
  ⟨p, xs, k, jn, rfl, rfl, M.getL List.mem_cons_self, hi, q _ (Mem.setL (l1 := []) M)⟩
theorem k_setL1 (M : Mem B ms H f (x0 :: (p, .lst xs) :: l)) (hi : ixN xs.length k = some jn) (q : ∀ H', Mem B ms H' f (x0 :: (p, .lst (xs.set jn v)) :: l) → QH H') : rSetL (.ref p) (.int k) v H QH :=
  ⟨p, xs, k, jn, rfl, rfl, M.getL (by simp), hi, q _ (Mem.setL (l1 := [x0]) M)⟩
theorem k_setL2 (M : Mem B ms H f (x0 :: x1 :: (p, .lst xs) :: l)) (hi : ixN xs.length k = some jn) (q : ∀ H', Mem B ms H' f (x0 :: x1 :: (p, .lst (xs.set jn v)) :: l) → QH H') : rSetL (.ref p) (.int k) v H QH :=
  ⟨p, xs, k, jn, rfl, rfl, M.getL (by simp), hi, q _ (Mem.setL (l1 := [x0, x1]) M)⟩
end

section
variable {B H H' : Hp} {ms : List Addr} {f l : List (Addr × HO)} {p a : Addr} {o o' u : HO}
theorem Mem.call1New {f : List (Addr × HO)} (M : Mem B ms H ((a, o) :: f) l) (ha : a ∈ ms) (k : Keep [a] H H') (h' : H' a = some o') (hn : H p = none) (hp : H' p = some u) : Mem B ms H' ((a, o') :: f) ((p, u) :: l) := by
  have M1 := M.call1 ha k h'
  have hpa : p ≠ a := fun z => by
    have := M.getF (a := a) (o := o) List.mem_cons_self
    rw [← z, hn] at this; cases this
  have hne : p ∉ (l ++ (a, o') :: f).map (·.1) := by
    have h := M.ne hn
    simpa using h
  refine ⟨M1.atF, fun q hq => ?_, ?_, M1.keep, M1.tr, fun q hq => ?_⟩
  · rcases List.mem_cons.mp hq with rfl | hq
    · exact hp
    · exact M1.atL q hq
  · show (p :: ((l ++ (a, o') :: f).map (·.1))).Nodup
    exact List.nodup_cons.mpr ⟨hne, M1.nd⟩
  · rcases List.mem_cons.mp hq with rfl | hq
    · exact M.fresh hn
    · exact M.new q hq
theorem Keep.of_same (h : Same H H') : Keep [] H H' := ⟨fun a o e _ => h a o e, fun _ h => nomatch h⟩
end
section
variable {K : PySem.W.Frag} {H : Hp} {Q : VK} {p : Addr} {j a b c d e g : Int}
theorem k_ix2 (h : H p = some (.lst [.int a, .int b])) (h0 : 0 ≤ j) (h1 : j < 2) (q : ∀ n, n = a ∨ n = b → Q (.int n) H) : rIxL K (.ref p) (.int j) H Q := by
  obtain rfl | rfl : j = 0 ∨ j = 1 := by omega
  · exact ⟨p, _, _, _, rfl, rfl, SqL.of h, rfl, q _ (by simp)⟩
  · exact ⟨p, _, _, _, rfl, rfl, SqL.of h, rfl, q _ (by simp)⟩
theorem k_ix3 (h : H p = some (.lst [.int a, .int b, .int c])) (h0 : 0 ≤ j) (h1 : j < 3) (q : ∀ n, n = a ∨ n = b ∨ n = c → Q (.int n) H) : rIxL K (.ref p) (.int j) H Q := by
  obtain rfl | rfl | rfl : j = 0 ∨ j = 1 ∨ j = 2 := by omega
  · exact ⟨p, _, _, _, rfl, rfl, SqL.of h, rfl, q _ (by simp)⟩
  · exact ⟨p, _, _, _, rfl, rfl, SqL.of h, rfl, q _ (by simp)⟩
  · exact ⟨p, _, _, _, rfl, rfl, SqL.of h, rfl, q _ (by simp)⟩
theorem k_ix4 (h : H p = some (.lst [.int a, .int b, .int c, .int d])) (h0 : 0 ≤ j) (h1 : j < 4) (q : ∀ n, n = a ∨ n = b ∨ n = c ∨ n = d → Q (.int n) H) : rIxL K (.ref p) (.int j) H Q := by
  obtain rfl | rfl | rfl | rfl : j = 0 ∨ j = 1 ∨ j = 2 ∨ j = 3 := by omega
  · exact ⟨p, _, _, _, rfl, rfl, SqL.of h, rfl, q _ (by simp)⟩
  · exact ⟨p, _, _, _, rfl, rfl, SqL.of h, rfl, q _ (by simp)⟩
  · exact ⟨p, _, _, _, rfl, rfl, SqL.of h, rfl, q _ (by simp)⟩
  · exact ⟨p, _, _, _, rfl, rfl, SqL.of h, rfl, q _ (by simp)⟩
end
end MyL

set_option Elab.async false
set_option linter.all false
set_option maxRecDepth 100000
set_option maxHeartbeats 4000000
namespace MyL
open PySem L2
section
variable {n : L2.St → Hp → Prop} {r : VK} {b c : L2.St → Hp → Prop} {σ : L2.St} {H : Hp} {te ta tb : TE} {Q : VK} {tA : TA} {K : PySem.W.Frag} {C : Addr} {sp : Sp} {W : WX}
/-- C(..), its values at hand -/
def newO (C : Addr) (sp : Sp) (vs : List V) (H : Hp) (Q : VK) (E : XK) : Prop := ∀ x dx, H x = none → H dx = none → dx ≠ x → sp (.ref x :: vs) (upd (upd H dx (.own x)) x (.ins C dx [])) (fun v H2 => v = .non ∧ Q (.ref x) H2) E
theorem k_make0 (h : tA σ H fun vs H1 => newO C sp vs H1 Q (WE W σ)) : tMakeS C sp W tA σ H Q := h
theorem k_meth0 {m : Str} (h : ta σ H fun x H1 => ∃ a dx fs, x = .ref a ∧ H1 a = some (.ins C dx fs) ∧ fs.lookup m = none ∧ tA σ H1 fun vs H2 => sp (.ref a :: vs) H2 Q (WE W σ)) : tMethS C m sp W ta tA σ H Q := h
theorem k_meth {m : Str} {a dx : Addr} {fs : List (Str × V)} {PQ : Addr → Prop} (h : H a = some (.ins C dx fs)) (hl : fs.lookup m = none) (q : PQ a) : ∃ a' dx' fs', V.ref a = .ref a' ∧ H a' = some (.ins C dx' fs') ∧ fs'.lookup m = none ∧ PQ a' := ⟨a, dx, fs, rfl, h, hl, q⟩
theorem k_ownN0 (h : ta σ H fun x H1 => tb σ H1 fun y H2 => ∃ a dx fs j, x = .ref a ∧ y = .int j ∧ H2 a = some (.ins C dx fs) ∧ sp [.ref a, .int j] H2 Q (WE W σ)) : tOwnN C sp W ta tb σ H Q := h
theorem k_ownO0 (h : ta σ H fun x H1 => tb σ H1 fun y H2 => ∃ a dx fs b dy gs, x = .ref a ∧ y = .ref b ∧ H2 a = some (.ins C dx fs) ∧ H2 b = some (.ins C dy gs) ∧ sp [.ref a, .ref b] H2 Q (WE W σ)) : tOwnO C sp W ta tb σ H Q := h
theorem k_ownN {a dx : Addr} {fs : List (Str × V)} {j : Int} {E : XK} (h : H a = some (.ins C dx fs)) (q : sp [.ref a, .int j] H Q E) : ∃ a' dx' fs' j', V.ref a = .ref a' ∧ V.int j = .int j' ∧ H a' = some (.ins C dx' fs') ∧ sp [.ref a', .int j'] H Q E := ⟨a, dx, fs, j, rfl, rfl, h, q⟩
theorem k_ownO {a dx b dy : Addr} {fs gs : List (Str × V)} {E : XK} (h : H a = some (.ins C dx fs)) (h2 : H b = some (.ins C dy gs)) (q : sp [.ref a, .ref b] H Q E) : ∃ a' dx' fs' b' dy' gs', V.ref a = .ref a' ∧ V.ref b = .ref b' ∧ H a' = some (.ins C dx' fs') ∧ H b' = some (.ins C dy' gs') ∧ sp [.ref a', .ref b'] H Q E := ⟨a, dx, fs, b, dy, gs, rfl, rfl, h, h2, q⟩
theorem k_ownEq {a dx b dy : Addr} {fs gs : List (Str × V)} (h : H a = some (.ins C dx fs)) (h2 : H b = some (.ins C dy gs)) (q : sp [.ref a, .ref b] H (fun v H' => ∃ c, v = .bl c ∧ Q v H') (fun _ _ _ => False)) : rOwnEq C sp (.ref a) (.ref b) H Q := ⟨a, dx, fs, b, dy, gs, rfl, rfl, h, h2, q⟩
theorem k_ownIn {a dx : Addr} {fs : List (Str × V)} {y : V} (h : H a = some (.ins C dx fs)) (q : sp [.ref a, y] H (fun v H' => ∃ c, v = .bl c ∧ Q v H') (fun _ _ _ => False)) : rOwnIn C sp y (.ref a) H Q := ⟨a, dx, fs, rfl, h, q⟩
theorem k_ownU {a dx : Addr} {fs : List (Str × V)} (h : H a = some (.ins C dx fs)) (q : sp [.ref a] H Q (fun _ _ _ => False)) : rOwnU C sp (.ref a) H Q := ⟨a, dx, fs, rfl, h, q⟩
theorem k_ownStr {a dx : Addr} {fs : List (Str × V)} (h : H a = some (.ins C dx fs)) (q : sp [.ref a] H (fun v H' => ∃ z, v = .str z ∧ Q v H') (fun _ _ _ => False)) : rOwnStr C sp [.ref a] H Q := ⟨a, dx, fs, rfl, h, q⟩
theorem k_st {z : Str} {PS : Str → Prop} (q : PS z) : ∃ z', V.str z = .str z' ∧ PS z' := ⟨z, rfl, q⟩
/-- isinstance of an instance and its own class -/
theorem k_isiO {a dx : Addr} {fs : List (Str × V)} (h : H a = some (.ins C dx fs)) (cl : Cls K C) (ha : PySem.W.findIn K (.ref C) "__class__" = some (some (.builtin "object.__class__"))) (hn : PySem.W.specialIn K (.builtin "object.__class__") "__get__" = some (some (.builtin "getset_descriptor.__get__")))
    (ht : PySem.W.takesIn K (.builtin "object.__class__") = some true) (hm : PySem.W.mroIn K C (.type "object") = some true) (q : Q (.bl true) H) : rIsi K [.ref a, .ref C] H Q :=
  ⟨_, _, _, _, true, rfl, .own C, .base (.ins h cl ha hn ht hm), by simp [PySem.W.kitOne], q⟩
/-- self.f = e -/
theorem k_sfld0 {f : Str} (h : te σ H fun y H1 => ta σ H1 fun x H2 => ∃ a C dx fs, x = .ref a ∧ H2 a = some (.ins C dx fs) ∧ Cls K C ∧ NoAttr K C f ∧ fs.length < 1000 ∧ n σ (upd H2 a (.ins C dx (putF f y fs)))) : sFld K ta te f ⟨n, r, b, c⟩ σ H := h
theorem k_sfld {f : Str} {a dx : Addr} {fs : List (Str × V)} {y : V} {PQ : Hp → Prop} (h : H a = some (.ins C dx fs)) (cl : Cls K C) (na : NoAttr K C f) (hl : fs.length < 1000) (q : PQ (upd H a (.ins C dx (putF f y fs)))) :
    ∃ a' C' dx' fs', V.ref a = .ref a' ∧ H a' = some (.ins C' dx' fs') ∧ Cls K C' ∧ NoAttr K C' f ∧ fs'.length < 1000 ∧ PQ (upd H a' (.ins C' dx' (putF f y fs'))) := ⟨a, C, dx, fs, rfl, h, cl, na, hl, q⟩
/-- f'..' -/
theorem k_jnil {acc : Str} {QS : Str → Hp → Prop} (q : QS acc H) : tJs [] acc σ H QS := q
theorem k_jcons {t : TE} {ts : List TE} {acc : Str} {QS : Str → Hp → Prop} (q : t σ H fun x H1 => ∃ y : Str, x = .str y ∧ (acc ++ y).length ≤ sizeLine ∧ tJs ts (acc ++ y) σ H1 QS) : tJs (t :: ts) acc σ H QS := q
theorem k_jst {acc y : Str} {PS : Str → Prop} (h : (acc ++ y).length ≤ sizeLine) (q : PS y) : ∃ y' : Str, V.str y = .str y' ∧ (acc ++ y').length ≤ sizeLine ∧ PS y' := ⟨y, rfl, h, q⟩
theorem k_fmt0 (q : te σ H fun x H1 => (∃ y : Str, x = .str y ∧ y.length ≤ sizeLine ∧ Q (.str y) H1) ∨ ∃ i : Int, x = .int i ∧ i.natAbs.log2 < 1920 ∧ Q (.str (toString i)) H1) : tFmt te σ H Q := q
theorem k_fmtI {i : Int} {P1 : Str → Prop} {P2 : Int → Prop} (h : i.natAbs.log2 < 1920) (q : P2 i) : (∃ y : Str, V.int i = .str y ∧ y.length ≤ sizeLine ∧ P1 y) ∨ ∃ i' : Int, V.int i = .int i' ∧ i'.natAbs.log2 < 1920 ∧ P2 i' := .inr ⟨i, rfl, h, q⟩
theorem k_fmtS {z : Str} {P1 : Str → Prop} {P2 : Int → Prop} (h : z.length ≤ sizeLine) (q : P1 z) : (∃ y : Str, V.str z = .str y ∧ y.length ≤ sizeLine ∧ P1 y) ∨ ∃ i' : Int, V.str z = .int i' ∧ i'.natAbs.log2 < 1920 ∧ P2 i' := .inl ⟨z, rfl, h, q⟩
theorem k_addS {x y : Str} {P2 : Str → Str → Prop} (h : x.length + y.length ≤ sizeLine) (q : P2 x y) : ∃ i j, V.str x = .str i ∧ V.str y = .str j ∧ i.length + j.length ≤ sizeLine ∧ P2 i j := ⟨x, y, rfl, rfl, h, q⟩
/-- xs + ys -/
theorem k_cat {B : Hp} {ms : List Addr} {f l : List (Addr × HO)} {p q : Addr} {xs ys : List V} (M : Mem B ms H f l) (h1 : H p = some (.lst xs)) (h2 : H q = some (.lst ys)) (hl : xs.length + ys.length ≤ sizeLine) (k : ∀ a H', Mem B ms H' f ((a, .lst (xs ++ ys)) :: l) → Q (.ref a) H') : rCat (.ref p) (.ref q) H Q :=
  ⟨p, q, xs, ys, rfl, rfl, h1, h2, hl, fun a ha => k a _ (M.alloc ha)⟩
/-- xs[a:b] -/
theorem k_sl0 {rr : V → Option Int → Option Int → Hp → VK → Prop} {tl th : TO} (h : te σ H fun x H1 => tl σ H1 fun l H2 => th σ H2 fun u H3 => rr x l u H3 Q) : tSl rr te tl th σ H Q := h
theorem k_slL {B : Hp} {ms : List Addr} {f l : List (Addr × HO)} {p : Addr} {xs : List V} {lo hi : Option Int} (M : Mem B ms H f l) (h1 : SqL K H p xs) (k : ∀ a H', Mem B ms H' f ((a, .lst (cutV xs lo hi)) :: l) → Q (.ref a) H') : rSlL K (.ref p) lo hi H Q :=
  ⟨p, xs, rfl, h1, fun a ha => k a _ (M.alloc ha)⟩
theorem k_nopart {QO : Option Int → Hp → Prop} (q : QO none H) : tNoPart σ H QO := q
theorem k_part {QO : Option Int → Hp → Prop} (q : te σ H fun x H1 => ∃ i, x = .int i ∧ QO (some i) H1) : tPart te σ H QO := q
theorem k_parti {i : Int} {PQ : Int → Prop} (q : PQ i) : ∃ i', V.int i = .int i' ∧ PQ i' := ⟨i, rfl, q⟩
end
section
variable {σ : L2.St} {H : Hp} {tA : TA} {C : Addr} {fs : List Str} {X : XK} {f g h : Str} {v u t : V}
theorem k_err0 (q : tA σ H fun vs H1 => vs.length = fs.length ∧ errQ C fs vs H1 X) : tMkErr C fs tA σ H X := q
theorem k_errQ0 (q : X (.ref C) none H) : ([] : List V).length = ([] : List Str).length ∧ errQ C [] [] H X := ⟨rfl, q⟩
theorem k_errQ1 (q : ∀ d, H d = none → X (.ref C) (some d) (upd H d (.xd [(f, v)]))) : [v].length = [f].length ∧ errQ C [f] [v] H X := ⟨rfl, q⟩
theorem k_errQ2 (q : ∀ d, H d = none → X (.ref C) (some d) (upd H d (.xd [(g, u), (f, v)]))) : [v, u].length = [f, g].length ∧ errQ C [f, g] [v, u] H X := ⟨rfl, q⟩
theorem k_errQ3 (q : ∀ d, H d = none → X (.ref C) (some d) (upd H d (.xd [(h, t), (g, u), (f, v)]))) : [v, u, t].length = [f, g, h].length ∧ errQ C [f, g, h] [v, u, t] H X := ⟨rfl, q⟩
end
/-- a class of the module, as a value -/
theorem g_ref {X : Cx} {x : Str} {C : Addr} {pos : Pos} (hm : X.mg x = some (.ref C)) (hg : Gl X x := by rfl) (hd : (x == ("__debug__" : Str)) = false := by decide) : PE X (.Name x pos) (tC (.ref C)) := pe_glob (v := .ref C) hg hm rfl hd
/-- a built-in class, as a value -/
theorem g_ty {X : Cx} {x : Str} {n : String} {pos : Pos} (hm : X.mg x = none) (hv : bootBuiltins x = some (.type n)) (hg : Gl X x := by rfl) (hn : x ≠ "__name__" := by decide) (hd : (x == ("__debug__" : Str)) = false := by decide) : PE X (.Name x pos) (tC (.ty n)) := pe_bltn (v := .ty n) hg hm hv rfl hn hd
theorem log2_64 {i : Int} (h : -(2 ^ 64) < i) (h2 : i < 2 ^ 64) : i.natAbs.log2 < 1920 := by
  by_cases e : i.natAbs = 0
  · rw [e]; decide
  · exact Nat.lt_of_lt_of_le ((Nat.log2_lt e).mpr (show i.natAbs < 2 ^ 64 by omega)) (by decide)
theorem strI_len {i : Int} (h : -(2 ^ 64) < i) (h2 : i < 2 ^ 64) : (Str.ofString (toString i)).length ≤ 31 := by
  rw [PySem.ofString_length]
  exact int_text_length_le10 (k := 30) (by decide) (by omega)
end MyL

set_option Elab.async false
set_option linter.all false
set_option maxRecDepth 100000
set_option maxHeartbeats 4000000
/-! Loops by a word between two turns. -/
namespace MyL
open PySem L2
/-- for k in a range that begins at lo and has n turns -/
def RngLoop (lo : Int) (n : Nat) (g : TG) (tb : TS) (nx : L2.St → Hp → Prop) (rt : VK) (σ : L2.St) (H : Hp) : Prop :=
  ∃ Pv : Nat → L2.St → Hp → Prop, Pv 0 σ H ∧ (∀ i σ' H', i < n → Pv i σ' H' → g (.int (lo + i)) σ' H' fun σ2 H2 => tb ⟨Pv (i + 1), rt, nx, Pv (i + 1)⟩ σ2 H2) ∧ ∀ σ' H', Pv n σ' H' → nx σ' H'
/-- for x in a list of xs -/
def LstLoop (K : PySem.W.Frag) (a : Addr) (xs : List V) (g : TG) (tb : TS) (nx : L2.St → Hp → Prop) (rt : VK) (σ : L2.St) (H : Hp) : Prop :=
  ∃ Pv : Nat → L2.St → Hp → Prop, Pv 0 σ H ∧ (∀ i σ' H', i ≤ xs.length → Pv i σ' H' → SqL K H' a xs) ∧ (∀ i x σ' H', xs[i]? = some x → Pv i σ' H' → g x σ' H' fun σ2 H2 => tb ⟨Pv (i + 1), rt, nx, Pv (i + 1)⟩ σ2 H2) ∧ ∀ σ' H', Pv xs.length σ' H' → nx σ' H'
def TupLoop (K : PySem.W.Frag) (a : Addr) (xs : List V) (g : TG) (tb : TS) (nx : L2.St → Hp → Prop) (rt : VK) (σ : L2.St) (H : Hp) : Prop :=
  ∃ Pv : Nat → L2.St → Hp → Prop, Pv 0 σ H ∧ (∀ i σ' H', i ≤ xs.length → Pv i σ' H' → SqT K H' a xs) ∧ (∀ i x σ' H', xs[i]? = some x → Pv i σ' H' → g x σ' H' fun σ2 H2 => tb ⟨Pv (i + 1), rt, nx, Pv (i + 1)⟩ σ2 H2) ∧ ∀ σ' H', Pv xs.length σ' H' → nx σ' H'
/-- a comprehension over a range, over a list -/
def LcR (lo : Int) (n : Nat) (g : TG) (tt : TT) (te : TE) (vs : List Nat) (σ : L2.St) (H : Hp) (Q : VK) : Prop :=
  ∀ D, H D = none → ∃ Pv : Nat → Hp → Prop, Pv 0 (upd H D (.lst [])) ∧ (∀ i H', i < n → Pv i H' → g (.int (lo + i)) (wipe σ vs) H' fun σ2 H2 => wipe σ2 vs = wipe σ vs ∧ tt σ2 H2 fun b H3 =>
    if b = true then te σ2 H3 fun y H4 => ∃ acc, H4 D = some (.lst acc) ∧ acc.length < sizeLine ∧ Pv (i + 1) (upd H4 D (.lst (acc ++ [y]))) else Pv (i + 1) H3) ∧ ∀ H', Pv n H' → Q (.ref D) H'
def LcL (K : PySem.W.Frag) (a : Addr) (xs : List V) (g : TG) (tt : TT) (te : TE) (vs : List Nat) (σ : L2.St) (H : Hp) (Q : VK) : Prop :=
  ∀ D, H D = none → ∃ Pv : Nat → Hp → Prop, Pv 0 (upd H D (.lst [])) ∧ (∀ i H', i ≤ xs.length → Pv i H' → SqL K H' a xs) ∧ (∀ i x H', xs[i]? = some x → Pv i H' → g x (wipe σ vs) H' fun σ2 H2 => wipe σ2 vs = wipe σ vs ∧ tt σ2 H2 fun b H3 =>
    if b = true then te σ2 H3 fun y H4 => ∃ acc, H4 D = some (.lst acc) ∧ acc.length < sizeLine ∧ Pv (i + 1) (upd H4 D (.lst (acc ++ [y]))) else Pv (i + 1) H3) ∧ ∀ H', Pv xs.length H' → Q (.ref D) H'
def iJ (J : It) : TI := fun _ H R => R J H
section
variable {nx : L2.St → Hp → Prop} {rt : VK} {bk ct : L2.St → Hp → Prop} {σ : L2.St} {H : Hp} {tb : TS} {g : TG} {te tl : TE} {tt : TT} {Q : VK} {tA : TA} {K : PySem.W.Frag} {D : Ends} {vs : List Nat}
theorem k_forR1 (h : tA σ H fun vs H1 => ∃ j : Int, vs = [.int j] ∧ -(2 ^ 62) ≤ j ∧ j < 2 ^ 62 ∧ tFor (iJ (Itr 0 j.toNat)) g tb D σ H1) : tFor (iRng1 tA) g tb D σ H := h
theorem k_forR2 (h : tA σ H fun vs H1 => ∃ i j : Int, vs = [.int i, .int j] ∧ (-(2 ^ 62) ≤ i ∧ i < 2 ^ 62 ∧ -(2 ^ 62) ≤ j ∧ j < 2 ^ 62) ∧ tFor (iJ (Itr i (j - i).toNat)) g tb D σ H1) : tFor (iRng2 tA) g tb D σ H := h
theorem k_forL (h : tl σ H fun x H1 => ∃ a, x = .ref a ∧ (∃ xs, SqL K H1 a xs) ∧ tFor (iJ (Itl K a)) g tb D σ H1) : tFor (iList K tl) g tb D σ H := h
theorem k_forT (h : tl σ H fun x H1 => ∃ a, x = .ref a ∧ (∃ xs, SqT K H1 a xs) ∧ tFor (iJ (Itt K a)) g tb D σ H1) : tFor (iTup K tl) g tb D σ H := h
theorem k_lcR1 (h : tA σ H fun zs H1 => ∃ j : Int, zs = [.int j] ∧ -(2 ^ 62) ≤ j ∧ j < 2 ^ 62 ∧ tLc (iJ (Itr 0 j.toNat)) g tt te vs σ H1 Q) : tLc (iRng1 tA) g tt te vs σ H Q := h
theorem k_lcR2 (h : tA σ H fun zs H1 => ∃ i j : Int, zs = [.int i, .int j] ∧ (-(2 ^ 62) ≤ i ∧ i < 2 ^ 62 ∧ -(2 ^ 62) ≤ j ∧ j < 2 ^ 62) ∧ tLc (iJ (Itr i (j - i).toNat)) g tt te vs σ H1 Q) : tLc (iRng2 tA) g tt te vs σ H Q := h
theorem k_lcL (h : tl σ H fun x H1 => ∃ a, x = .ref a ∧ (∃ xs, SqL K H1 a xs) ∧ tLc (iJ (Itl K a)) g tt te vs σ H1 Q) : tLc (iList K tl) g tt te vs σ H Q := h
theorem k_rng1 {n : Int} {PR : Int → Prop} (h1 : -(2 ^ 62) ≤ n) (h2 : n < 2 ^ 62) (q : PR n) : ∃ j : Int, [V.int n] = [.int j] ∧ -(2 ^ 62) ≤ j ∧ j < 2 ^ 62 ∧ PR j := ⟨n, rfl, h1, h2, q⟩
theorem k_rng2 {m n : Int} {PR : Int → Int → Prop} (h1 : -(2 ^ 62) ≤ m) (h2 : m < 2 ^ 62) (h3 : -(2 ^ 62) ≤ n) (h4 : n < 2 ^ 62) (q : PR m n) : ∃ i j : Int, [V.int m, V.int n] = [.int i, .int j] ∧ (-(2 ^ 62) ≤ i ∧ i < 2 ^ 62 ∧ -(2 ^ 62) ≤ j ∧ j < 2 ^ 62) ∧ PR i j := ⟨m, n, rfl, ⟨h1, h2, h3, h4⟩, q⟩
theorem k_lstAt {p : Addr} {xs : List V} {PR : Addr → Prop} (h : SqL K H p xs) (q : PR p) : ∃ a, V.ref p = .ref a ∧ (∃ xs, SqL K H a xs) ∧ PR a := ⟨p, rfl, ⟨xs, h⟩, q⟩
theorem k_tupAt {p : Addr} {xs : List V} {PR : Addr → Prop} (h : SqT K H p xs) (q : PR p) : ∃ a, V.ref p = .ref a ∧ (∃ xs, SqT K H a xs) ∧ PR a := ⟨p, rfl, ⟨xs, h⟩, q⟩
theorem rng_loop {lo : Int} {n : Nat} (h : RngLoop lo n g tb nx rt σ H) : tFor (iJ (Itr lo n)) g tb ⟨nx, rt, bk, ct⟩ σ H := by
  obtain ⟨Pv, h0, hs, hd⟩ := h
  exact for_range (D := ⟨nx, rt, bk, ct⟩) Pv h0 hs hd
theorem lst_loop {a : Addr} {xs : List V} (h : LstLoop K a xs g tb nx rt σ H) : tFor (iJ (Itl K a)) g tb ⟨nx, rt, bk, ct⟩ σ H := by
  obtain ⟨Pv, h0, hl, hs, hd⟩ := h
  exact for_list (D := ⟨nx, rt, bk, ct⟩) Pv h0 hl hs hd
theorem tup_loop {a : Addr} {xs : List V} (h : TupLoop K a xs g tb nx rt σ H) : tFor (iJ (Itt K a)) g tb ⟨nx, rt, bk, ct⟩ σ H := by
  obtain ⟨Pv, h0, hl, hs, hd⟩ := h
  exact for_tup (D := ⟨nx, rt, bk, ct⟩) Pv h0 hl hs hd
theorem lc_rng {lo : Int} {n : Nat} (h : LcR lo n g tt te vs σ H Q) : tLc (iJ (Itr lo n)) g tt te vs σ H Q := fun D hD => by
  obtain ⟨Pv, h0, hs, hd⟩ := h D hD
  exact lc_range Pv h0 hs hd
theorem lc_lst {a : Addr} {xs : List V} (h : LcL K a xs g tt te vs σ H Q) : tLc (iJ (Itl K a)) g tt te vs σ H Q := fun D hD => by
  obtain ⟨Pv, h0, hl, hs, hd⟩ := h D hD
  exact lc_list Pv h0 hl hs hd
theorem k_iteNE {x : Bool} {A Z : Prop} (h : Z) : if (!(x == x)) = true then A else Z := by
  rw [if_neg (by simp)]; exact h
theorem k_iteNS {z : Str} {A Z : Prop} (h : Z) : if (!decide (z = z)) = true then A else Z := by
  rw [if_neg (by simp)]; exact h
theorem k_gName {i : Nat} {v : V} {QG : L2.St → Hp → Prop} (q : QG (σ.set i (some v)) H) : gName i v σ H QG := q
theorem Mem.one {B : Hp} {ms : List Addr} {f l : List (Addr × HO)} {x : Addr × HO} (M : Mem B ms H f (x :: l)) : Mem B ms H f [x] := by
  refine ⟨M.atF, fun p hp => M.atL p (by simp at hp; simp [hp]), ?_, M.keep, M.tr, fun p hp => M.new p (by simp at hp; simp [hp])⟩
  have nd := M.nd
  simp only [List.cons_append, List.map_cons, List.nodup_cons, List.map_append, List.nil_append, List.nodup_append, List.mem_append, List.append_eq] at nd ⊢
  exact ⟨fun z => nd.1 (.inr z), nd.2.2.1⟩
theorem Mem.none {B : Hp} {ms : List Addr} {f l : List (Addr × HO)} (M : Mem B ms H f l) : Mem B ms H f [] := by
  refine ⟨M.atF, (fun p hp => nomatch hp), ?_, M.keep, M.tr, (fun p hp => nomatch hp)⟩
  have nd := M.nd
  rw [List.map_append, List.nodup_append] at nd
  simpa using nd.2.1
/-- a comprehension over a range without a test, whose element is reckoned and makes nothing -/
theorem lcR_pure {B : Hp} {ms : List Addr} {f l : List (Addr × HO)} {lo : Int} {n j : Nat} (M : Mem B ms H f l) (v : Nat → V) (hn : n ≤ 50000) (hw : ∀ x, wipe ((wipe σ vs).set j (some x)) vs = wipe σ vs)
    (he : ∀ (i : Nat) H' D (R : VK), i < n → Mem B ms H' f ((D, .lst ((List.range i).map v)) :: l) → (∀ H4, Mem B ms H4 f ((D, .lst ((List.range i).map v)) :: l) → R (v i) H4) → te ((wipe σ vs).set j (some (.int (lo + i)))) H' R)
    (k : ∀ D H', Mem B ms H' f ((D, .lst ((List.range n).map v)) :: l) → Q (.ref D) H') : tLc (iJ (Itr lo n)) (gName j) tYes te vs σ H Q := by
  refine lc_rng fun D hD => ⟨fun i H' => Mem B ms H' f ((D, .lst ((List.range i).map v)) :: l), M.alloc hD, fun i H' hi M' => ⟨hw _, ?_⟩, fun H' M' => k D H' M'⟩
  refine iteT (B := Mem B ms H' f ((D, .lst ((List.range (i + 1)).map v)) :: l)) (he i H' D _ hi M' fun H4 M4 => ⟨_, M4.getL List.mem_cons_self, ?_, ?_⟩)
  · rw [List.length_map, List.length_range]; exact Nat.lt_of_lt_of_le hi (Nat.le_trans hn (by decide))
  · dsimp only; rw [List.range_succ, List.map_append]; exact Mem.setL (l1 := []) M4
/-- .. over a list -/
theorem lcL_pure {B : Hp} {ms : List Addr} {f l : List (Addr × HO)} {a : Addr} {xs : List V} {j : Nat} (M : Mem B ms H f l) (hx : ∀ H', Mem B ms H' f l → SqL K H' a xs) (v : Nat → V) (hn : xs.length ≤ 50000) (hw : ∀ x, wipe ((wipe σ vs).set j (some x)) vs = wipe σ vs)
    (he : ∀ (i : Nat) x H' D (R : VK), xs[i]? = some x → Mem B ms H' f ((D, .lst ((List.range i).map v)) :: l) → (∀ H4, Mem B ms H4 f ((D, .lst ((List.range i).map v)) :: l) → R (v i) H4) → te ((wipe σ vs).set j (some x)) H' R)
    (k : ∀ D H', Mem B ms H' f ((D, .lst ((List.range xs.length).map v)) :: l) → Q (.ref D) H') : tLc (iJ (Itl K a)) (gName j) tYes te vs σ H Q := by
  refine lc_lst (xs := xs) fun D hD => ⟨fun i H' => Mem B ms H' f ((D, .lst ((List.range i).map v)) :: l), M.alloc hD, fun i H' _ M' => hx H' M'.drop, fun i x H' hi M' => ⟨hw _, ?_⟩, fun H' M' => k D H' M'⟩
  refine iteT (B := Mem B ms H' f ((D, .lst ((List.range (i + 1)).map v)) :: l)) (he i x H' D _ hi M' fun H4 M4 => ⟨_, M4.getL List.mem_cons_self, ?_, ?_⟩)
  · rw [List.length_map, List.length_range]; exact Nat.lt_of_lt_of_le (List.getElem?_eq_some_iff.mp hi).1 (Nat.le_trans hn (by decide))
  · dsimp only; rw [List.range_succ, List.map_append]; exact Mem.setL (l1 := []) M4
end
end MyL

set_option Elab.async false
set_option linter.all false
set_option maxRecDepth 100000
set_option maxHeartbeats 4000000
/-! What is asked of a caught error, step by step. -/
namespace MyL
open PySem L2
section
variable {K : PySem.W.Frag} {H : Hp} {Q : VK} {D a dd C1 C2 C3 : Addr} {fs : List (Str × V)} {b : Bool} {σ : L2.St} {te : TE} {f : Str} {v : V}
theorem k_isXo (hD : ExcK K D) (hd : H dd = some (.xd fs)) (e : PySem.W.kitOne K (.ref D) (.ref C1) = some b) (q : Q (.bl b) H) : rIsX K (.ref D) (some dd) a [.ref a, .ref C1] H Q := ⟨D, _, _, b, rfl, hD, ⟨fs, hd⟩, rfl, .own C1, e, q⟩
theorem k_isXs (hD : ExcK K D) (hd : H dd = some (.xd fs)) (q : Q (.bl true) H) : rIsX K (.ref D) (some dd) a [.ref a, .ref D] H Q := k_isXo hD hd (by simp [PySem.W.kitOne]) q
theorem k_isXt {n : String} (hD : ExcK K D) (hd : H dd = some (.xd fs)) (e : PySem.W.kitOne K (.ref D) (.type n) = some b) (q : Q (.bl b) H) : rIsX K (.ref D) (some dd) a [.ref a, .ty n] H Q := ⟨D, _, _, b, rfl, hD, ⟨fs, hd⟩, rfl, .ty n, e, q⟩
theorem k_isX3 {tp : Addr} (hD : ExcK K D) (hd : H dd = some (.xd fs)) (ht : H tp = some (.tup [.ref C1, .ref C2, .ref C3])) (e : PySem.W.kitAny K (.ref D) [.ref C1, .ref C2, .ref C3] = some b) (q : Q (.bl b) H) : rIsXT K (.ref D) (some dd) a [.ref a, .ref tp] H Q :=
  ⟨D, tp, _, _, b, rfl, hD, ⟨fs, hd⟩, rfl, ht, .cons (.own C1) (.cons (.own C2) (.cons (.own C3) .nil)), e, q⟩
theorem k_isX2 {tp : Addr} (hD : ExcK K D) (hd : H dd = some (.xd fs)) (ht : H tp = some (.tup [.ref C1, .ref C2])) (e : PySem.W.kitAny K (.ref D) [.ref C1, .ref C2] = some b) (q : Q (.bl b) H) : rIsXT K (.ref D) (some dd) a [.ref a, .ref tp] H Q :=
  ⟨D, tp, _, _, b, rfl, hD, ⟨fs, hd⟩, rfl, ht, .cons (.own C1) (.cons (.own C2) .nil), e, q⟩
theorem k_xf0 {cls : Value} {d : Option Addr} (h : te σ H fun x H1 => x = .ref a ∧ cls = .ref D ∧ ∃ (dd : Addr) (fs : List (Str × V)) (v : V), d = some dd ∧ H1 dd = some (.xd fs) ∧ fs.lookup f = some v ∧ Q v H1) : tXf a cls d D f te σ H Q := h
theorem k_xf {PV : V → Prop} (hd : H dd = some (.xd fs)) (hl : fs.lookup f = some v) (q : PV v) : V.ref a = .ref a ∧ Value.ref D = .ref D ∧ ∃ (dd' : Addr) (fs' : List (Str × V)) (v' : V), some dd = some dd' ∧ H dd' = some (.xd fs') ∧ fs'.lookup f = some v' ∧ PV v' := ⟨rfl, rfl, dd, fs, v, rfl, hd, hl, q⟩
theorem xd1 {g : Str} {v : V} : List.lookup g [(g, v)] = some v := by simp [List.lookup]
theorem xd2 {g h : Str} {v u : V} (n : ¬ g = h) : List.lookup g [(h, u), (g, v)] = some v := by
  rw [lookup_put, if_neg n, lookup_put, if_pos rfl]
/-- the clause takes the error -/
theorem k_caught {K : PySem.W.Frag} {c : Value} {i : Nat} {ts : Addr → Value → Option Addr → TS} {Wout : WX} {nx : L2.St → Hp → Prop} {rt : VK} {bk ct : L2.St → Hp → Prop} {cls : Value} {d : Option Addr} (h : PySem.W.exmOne K cls c = some true)
    (q : ∀ a, H a = none → ts a cls d ⟨fun σ' H' => nx (σ'.set i none) H', rt, fun σ' H' => bk (σ'.set i none) H', fun σ' H' => ct (σ'.set i none) H'⟩ (σ.set i (some (.ref a))) H) : wAs K c i ts Wout ⟨nx, rt, bk, ct⟩ cls d σ H :=
  ⟨true, h, fun _ => q, fun z => nomatch z⟩
/-- the script's list -/
theorem k_lenS {p : Addr} {ns : List Int} (h : SqL K H p (ns.map V.int)) (q : Q (.int ns.length) H) : rLenQ K [.ref p] H Q := ⟨p, _, rfl, .inl h, by rw [List.length_map]; exact q⟩
theorem k_ixS {p : Addr} {xs : List V} {j : Int} {v : V} (h : SqL K H p xs) (ha : atI xs j = some v) (q : Q v H) : rIxL K (.ref p) (.int j) H Q := ⟨p, xs, j, v, rfl, rfl, h, ha, q⟩
theorem cut_all {xs : List V} {n : Int} (h : (xs.length : Int) ≤ n) : cutV xs none (some n) = xs := by
  unfold cutV
  have h0 : HT.sIx xs.length 0 none = 0 := rfl
  have h1 : HT.sIx xs.length xs.length (some n) = xs.length := by
    show (if n < 0 then (n + (xs.length : Int)).toNat else min n.toNat xs.length) = xs.length
    rw [if_neg (by omega)]
    omega
  rw [h0, h1]
  simp
end
end MyL

set_option Elab.async false
set_option linter.all false
set_option maxRecDepth 100000
set_option maxHeartbeats 4000000
/-! A class of one's own made by keywords alone. -/
namespace MyL
open PySem PySem.Spec PyProof.Rows L2
structure MakK (P : Program) (w : World) (K : PySem.W.Frag) (mg : Str → Option Value) (base : Heap) (k : Nat) (x : Str) (C : Addr) (ks : List Str) (pm : {α : Type} → List α → List α) (sp : Sp) : Prop where
  ex : ∃ (f : Addr) (fd : FuncData) (ps : List Str), mg x = some (.ref C) ∧ Mk K C f ∧ (∀ (s : Shared) (u : Value) (ws : List Value), K.In s.heap → ws.length = ks.length → BindsTo s fd ⟨[u], ks.zip ws⟩ (ps.zip (u :: pm ws))) ∧
    (∀ (zs : List V) (ws : List Value), Vals zs ws → zs.length = ks.length → Vals (pm zs) (pm ws)) ∧ FnOk P w K mg base (L2.CX P w) k f fd ps sp
def tMakeK (C : Addr) (sp : Sp) (pm : List V → List V) (n : Nat) (W : WX) (tk : TA) : TE := fun σ H Q => tk σ H fun zs H1 => zs.length = n ∧ newO C sp (pm zs) H1 Q (WE W σ)
section
variable {X : Cx} {W : WX} {k j : Nat} {C : Addr} {sp : Sp} {x : Str} {p pos : Pos} {kws : List Keyword} {ks : List Str} {t : TA} {pm : {α : Type} → List α → List α}
theorem c_makeK (c : MakK X.prog X.w X.K X.mg X.base k x C ks pm sp) (tk : Takes X W) (hr : Room j X.A) (hk : k + 1 ≤ j) (hkw : PK X kws t) (hg : Gl X x := by rfl) (hall : (backToKw pos (keywordEach kws X.env)).all (·.1.isSome) = true := by rfl) (hks : (backToKw pos (keywordEach kws X.env)).filterMap (·.1) = ks := by rfl)
    (hdb : (x == ("__debug__" : Str)) = false := by decide) (hpl : ((backTo pos (starEach [] X.env)).any (·.1) || (backToKw pos (keywordEach kws X.env)).any (·.1.isNone)) = false := by rfl) :
    PE X (.Call (.Name x p) [] kws pos) (tMakeK C sp pm ks.length W t) := by
  obtain ⟨f, fd, ps, hm, M, hb, hrel, F⟩ := c.ex
  refine ⟨fun pins s σ H Q I h => ?_⟩
  refine wpAny_Call_Name_kw (ld_glob I hg hm ?_ hdb)
  refine PySem.W.callWith_KW0 (first := []) (h₀ := X.base) I.ok.mod.kin M.kp hall (thn (hkw.run pos pins s σ H _ I h) fun ws s1 hh => ?_) hpl
  obtain ⟨zs, H1, I1, rz, hl, q⟩ := hh
  refine ⟨I1.kIn, ?_⟩
  rw [hks]
  have hwl : ws.length = ks.length := by rw [← rz.length]; exact hl
  have hq := q (s1.heap.objs.size + 1) s1.heap.objs.size (I1.hok.fresh (Nat.le_succ _)) (I1.hok.fresh (Nat.le_refl _)) (Nat.ne_of_lt (Nat.lt_succ_self _))
  have I2 := Inv.made (C := C) I1
  have r2 : Vals (V.ref (s1.heap.objs.size + 1) :: pm zs) (Value.ref (s1.heap.objs.size + 1) :: pm ws) := .cons rfl (hrel zs ws rz hl)
  have hr2 : Room (k + 1) X.A := hr.mono hk
  show wpAny _ _ (call (.ref C) [] (ks.zip ws)) _ _ _
  refine wpAny_call (make_map (f := f) I1.kIn M.makes M.init (beq_iff_eq.mp M.fn) (codeAny_mono (F.run _ X.stack _ _ ⟨[Value.ref (s1.heap.objs.size + 1)], ks.zip ws⟩ (Value.ref (s1.heap.objs.size + 1) :: pm ws) _ _ (WE W σ) (hr2.make C [] (ks.zip ws))
    (I2.env0.make C [] (ks.zip ws)) (hb _ _ ws I2.kIn hwl) r2 hq) fun r s' hq' => ?_))
  match r, hq' with
  | .error e, hq' => exact passAt tk σ pins _ _ e s' I2 hq'
  | .ok (.ret u), hq' =>
    obtain ⟨v, H', I3, rv, ev, q3⟩ := I2.after hq'
    subst ev
    exact ⟨rv, ⟨V.ref (s1.heap.objs.size + 1), H', I3, rfl, q3⟩⟩
  | .ok .next, hq' => exact hq'.elim
  | .ok .brk, hq' => exact hq'.elim
  | .ok .cont, hq' => exact hq'.elim
theorem k_makeK0 {σ : L2.St} {H : Hp} {Q : VK} {pm : List V → List V} {n : Nat} (h : t σ H fun zs H1 => zs.length = n ∧ newO C sp (pm zs) H1 Q (WE W σ)) : tMakeK C sp pm n W t σ H Q := h
end
/-- two turned about -/
def swap2 {α : Type} : List α → List α
  | [a, b] => [b, a]
  | l => l
theorem k_swap2 {H : Hp} {Q : VK} {E : XK} {C : Addr} {sp : Sp} {u v : V} (q : newO C sp [v, u] H Q E) : [u, v].length = 2 ∧ newO C sp (swap2 [u, v]) H Q E := ⟨rfl, q⟩
end MyL

set_option Elab.async false
set_option linter.all false
set_option maxRecDepth 100000
set_option maxHeartbeats 4000000
/-! A comprehension whose element makes an object at every turn. -/
namespace MyL
open PySem L2
section
variable {σ : L2.St} {H : Hp} {te : TE} {Q : VK} {K : PySem.W.Frag} {vs : List Nat} {B : Hp} {ms : List Addr} {f l : List (Addr × HO)}
theorem Mem.swap {x y : Addr × HO} (M : Mem B ms H f (x :: y :: l)) : Mem B ms H f (y :: x :: l) := by
  refine ⟨M.atF, fun p hp => M.atL p ?_, ?_, M.keep, M.tr, fun p hp => M.new p ?_⟩
  · simp at hp ⊢; rcases hp with h | h | h <;> simp [h]
  · have nd := M.nd
    simp only [List.cons_append, List.map_cons, List.nodup_cons, List.mem_cons, not_or] at nd ⊢
    exact ⟨⟨fun z => nd.1.1 z.symm, nd.2.1⟩, nd.1.2, nd.2.2⟩
  · simp at hp ⊢; rcases hp with h | h | h <;> simp [h]
theorem lcL_new {O : V → HO → Prop} {a : Addr} {xs : List V} {j : Nat} (M : Mem B ms H f l) (hx : ∀ H' l', Mem B ms H' f l' → SqL K H' a xs) (hn : xs.length ≤ 50000) (hw : ∀ x, wipe ((wipe σ vs).set j (some x)) vs = wipe σ vs)
    (he : ∀ x H' l' (R : VK), x ∈ xs → Mem B ms H' f l' → (∀ y o H4, O x o → Mem B ms H4 f ((y, o) :: l') → R (.ref y) H4) → te ((wipe σ vs).set j (some x)) H' R)
    (k : ∀ (D : Addr) (zs : List (Addr × HO)) (H' : Hp), zs.length = xs.length → (∀ (n : Nat) (x : V) (z : Addr × HO), xs[n]? = some x → zs[n]? = some z → O x z.2) → Mem B ms H' f ((D, .lst (zs.map fun z => V.ref z.1)) :: (zs.reverse ++ l)) → Q (.ref D) H') : tLc (iJ (Itl K a)) (gName j) tYes te vs σ H Q := by
  refine lc_lst (xs := xs) fun D hD => ⟨fun i H' => ∃ zs : List (Addr × HO), zs.length = i ∧ (∀ (n : Nat) (x : V) (z : Addr × HO), xs[n]? = some x → zs[n]? = some z → O x z.2) ∧ Mem B ms H' f ((D, .lst (zs.map fun z => V.ref z.1)) :: (zs.reverse ++ l)), ?_, ?_, ?_, ?_⟩
  · exact ⟨[], rfl, (fun n x z _ h => by simp at h), M.alloc hD⟩
  · rintro i H' _ ⟨zs, _, _, M'⟩
    exact hx H' _ M'
  · rintro i x H' hi ⟨zs, hz, hO, M'⟩
    refine ⟨hw _, ?_⟩
    refine iteT (B := ∃ zs : List (Addr × HO), zs.length = i + 1 ∧ (∀ (n : Nat) (x : V) (z : Addr × HO), xs[n]? = some x → zs[n]? = some z → O x z.2) ∧ Mem B ms H' f ((D, .lst (zs.map fun z => V.ref z.1)) :: (zs.reverse ++ l))) (he x H' _ _ (List.mem_of_getElem? hi) M' fun y o H4 ho M4 => ?_)
    have hil : i < xs.length := by
      have := List.getElem?_eq_some_iff.1 hi
      exact this.1
    refine ⟨_, M4.getL (List.mem_cons_of_mem _ List.mem_cons_self), ?_, zs ++ [(y, o)], ?_, ?_, ?_⟩
    · rw [List.length_map, hz]; exact Nat.lt_of_lt_of_le hil (Nat.le_trans hn (by decide))
    · simp [hz]
    · intro n x' z hx' hz'
      by_cases hlt : n < i
      · rw [List.getElem?_append_left (by omega)] at hz'
        exact hO n x' z hx' hz'
      · have hni : n = i := by
          have := (List.getElem?_eq_some_iff.1 hz').1
          simp at this
          omega
        subst hni
        rw [List.getElem?_append_right (by omega), hz, Nat.sub_self] at hz'
        rw [hi] at hx'
        simp at hx' hz'
        subst hx' hz'
        exact ho
    · have := (Mem.setL (l1 := [(y, o)]) (o' := .lst (List.map (fun z : Addr × HO => V.ref z.1) (zs ++ [(y, o)]))) M4).swap
      simpa using this
  · rintro H' ⟨zs, hz, hO, M'⟩
    exact k D zs H' hz hO M'
theorem k_swapK {E : XK} {C : Addr} {sp : Sp} {u v : V} {s t : Str} (q : newO C sp [v, u] H Q E) : [u, v].length = [s, t].length ∧ newO C sp (swap2 [u, v]) H Q E := ⟨rfl, q⟩
theorem k_iteNEq {x y : Bool} {A Z : Prop} (e : x = y) (h : Z) : if (!(x == y)) = true then A else Z := by
  subst e; rw [if_neg (by simp)]; exact h
end
end MyL

set_option Elab.async false
set_option linter.all false
set_option maxRecDepth 100000
set_option maxHeartbeats 4000000
/-! The end: what the top has written, def by def, and the law's own head. -/
namespace MyL
open PySem PySem.Spec PyProof.Rows L2
def DefAt (K : PySem.W.Frag) (mg : Str → Option Value) (x qual : Str) (st : Stmt) : Prop := ∃ (f : Addr) (fd : FuncData), mg x = some (.ref f) ∧ Fun K x qual st f fd
def MethAt (K : PySem.W.Frag) (C : Addr) (m qual : Str) (st : Stmt) : Prop := ∃ (f : Addr) (fd : FuncData), PySem.W.findIn K (.ref C) m = some (some (.ref f)) ∧ PySem.W.isFn K (.ref f) = true ∧ Fun K m qual st f fd
section
variable {P : Program} {w : World} {K : PySem.W.Frag} {mg : Str → Option Value} {base h : Heap} {k : Nat} {C f : Addr} {x m qual : Str} {sp : Sp} {st : Stmt} {fd : FuncData} {ps : List Str} {oc : Value} {od an : Option Addr} {osl : Array (Option Value)} {kV doc pm cdv ct : Value}
theorem gdef (X : K.In h) (G : h.Ns mainGlobals mg) (a : PySem.W.nsIn K mainGlobals x = some (some (.ref f))) (l : K.lookup f = some ⟨oc, od, .func (PySem.W.fnOf x qual (defArgs st) (defBody st) (defScope st) .none kV doc pm an cdv ct), osl⟩)
    (c : PySem.W.codeIn K cdv qual = true) (kp : PySem.W.keepIn K (.ref f) = true) : DefAt K mg x qual st := ⟨f, _, PySem.W.mg_of X G a, fun_mk l c kp⟩
theorem gmeth (a : PySem.W.findIn K (.ref C) m = some (some (.ref f))) (i : PySem.W.isFn K (.ref f) = true) (l : K.lookup f = some ⟨oc, od, .func (PySem.W.fnOf m qual (defArgs st) (defBody st) (defScope st) .none kV doc pm an cdv ct), osl⟩)
    (c : PySem.W.codeIn K cdv qual = true) (kp : PySem.W.keepIn K (.ref f) = true) : MethAt K C m qual st := ⟨f, _, a, i, fun_mk l c kp⟩
/-- the arguments of a def of the text bind by place -/
def BindsSt (x qual : Str) (st : Stmt) (ps : List Str) : Prop := ∀ (kV doc pm : Value) (an : Option Addr) (cdv ct : Value) (us : List Value), us.length = ps.length → bindArgs (PySem.W.fnOf x qual (defArgs st) (defBody st) (defScope st) .none kV doc pm an cdv ct) ⟨us, []⟩ = pure (ps.zip us)
theorem cal_of (D : DefAt K mg x qual st) (hb : BindsSt x qual st ps) (ok : ∀ {f : Addr} {fd : FuncData}, Fun K x qual st f fd → FnOk P w K mg base (L2.CX P w) k f fd ps sp) : Cal P w K mg base k x sp := by
  obtain ⟨f, fd, a, F⟩ := D
  exact ⟨f, fd, ps, a, F.kp, F.binds hb, ok F⟩
theorem calQ_of (D : DefAt K mg x qual st) (hb : BindsSt x qual st ps) (ok : ∀ {f : Addr} {fd : FuncData}, Fun K x qual st f fd → Binds K fd ps [] → FnQ P w K mg base k f sp) : CalQ P w K mg base k x sp := by
  obtain ⟨f, fd, a, F⟩ := D
  exact ⟨f, a, F.kp, ok F (F.binds hb)⟩
theorem spc_of (D : MethAt K C m qual st) (hb : BindsSt m qual st ps) (ok : ∀ {f : Addr} {fd : FuncData}, Fun K m qual st f fd → FnOk P w K mg base (L2.CX P w) k f fd ps sp) : Spc P w K mg base k C m sp := by
  obtain ⟨f, fd, a, i, F⟩ := D
  exact ⟨f, a, i, raw0 (ok F) (F.binds hb)⟩
theorem met_of (D : MethAt K C m qual st) (cl : Cls K C) (hb : BindsSt m qual st ps) (ok : ∀ {f : Addr} {fd : FuncData}, Fun K m qual st f fd → FnOk P w K mg base (L2.CX P w) k f fd ps sp) : Met P w K mg base k C m sp := by
  obtain ⟨f, fd, a, i, F⟩ := D
  exact ⟨f, fd, ps, cl, ⟨a, i, F.kp⟩, F.binds hb, ok F⟩
theorem mak_of (D : MethAt K C "__init__" qual st) (gC : mg x = some (.ref C)) (mk : PySem.W.makesIn K C = true) (kc : PySem.W.keepIn K (.ref C) = true) (hb : BindsSt "__init__" qual st ps) (ok : ∀ {f : Addr} {fd : FuncData}, Fun K "__init__" qual st f fd → FnOk P w K mg base (L2.CX P w) k f fd ps sp) : Mak P w K mg base k x C sp := by
  obtain ⟨f, fd, a, i, F⟩ := D
  exact ⟨f, fd, ps, gC, ⟨mk, a, i, kc⟩, F.binds hb, ok F⟩
def KwSt (x qual : Str) (st : Stmt) (ps ks : List Str) (pm : {α : Type} → List α → List α) : Prop := ∀ (kV doc pm' : Value) (an : Option Addr) (cdv ct : Value) (u : Value) (ws : List Value), ws.length = ks.length → bindArgs (PySem.W.fnOf x qual (defArgs st) (defBody st) (defScope st) .none kV doc pm' an cdv ct) ⟨[u], ks.zip ws⟩ = pure (ps.zip (u :: pm ws))
theorem swap2_vals {zs : List V} {ws : List Value} (r : Vals zs ws) : Vals (swap2 zs) (swap2 ws) := by
  cases r with
  | nil => exact .nil
  | cons h1 r1 =>
    cases r1 with
    | nil => exact .cons h1 .nil
    | cons h2 r2 =>
      cases r2 with
      | nil => exact .cons h2 (.cons h1 .nil)
      | cons h3 r3 => exact .cons h1 (.cons h2 (.cons h3 r3))
theorem makK_of {ks : List Str} (D : MethAt K C "__init__" qual st) (gC : mg x = some (.ref C)) (mk : PySem.W.makesIn K C = true) (kc : PySem.W.keepIn K (.ref C) = true) (hb : KwSt "__init__" qual st ps ks swap2) (ok : ∀ {f : Addr} {fd : FuncData}, Fun K "__init__" qual st f fd → FnOk P w K mg base (L2.CX P w) k f fd ps sp) : MakK P w K mg base k x C ks swap2 sp := by
  obtain ⟨f, fd, a, i, F⟩ := D
  obtain ⟨oc, od, kV, doc, pm', an, cdv, ct, osl, rfl, lk, hcd⟩ := id F.ex
  exact ⟨f, _, ps, gC, ⟨mk, a, i, kc⟩, fun s u ws _ hl => .of_eq (hb kV doc pm' an cdv ct u ws hl), fun zs ws r _ => swap2_vals r, ok F⟩
def spLaw (K : PySem.W.Frag) : Sp := fun vs H Q _ => ∃ (a : Addr) (ns : List Int), vs = [.ref a] ∧ SqL K H a (ns.map V.int) ∧ ns.length ≤ 63 ∧ ∀ H', Q (.bl true) H'
end
theorem law_walk {l : PySem.W.OpenLaw} {k : Nat} {q : Program} {loose : List Str} {XP : (Str → Option Value) → Heap → Prop} {YP : World → Heap → Prop} {d : DefRec} {K : Params → PySem.W.Frag} {st : Stmt} {x : Str} (hn : l.most = some 63) (hdf : d.params.defaults = []) (hr : Room k callerA)
    (hY : ∀ (w : World) (h : Heap), YP w h → (K w.params).In h)
    (hb : ∀ (kV doc pm : Value) (an : Option Addr) (cdv ct : Value) (s : Shared) (u : Value), BindsTo s (PySem.W.fnOf d.name d.name (defArgs st) (defBody st) (defScope st) .none kV doc pm an cdv ct) ⟨[u], []⟩ [(x, u)])
    (F : ∀ (w : World) (mg : Str → Option Value) (h : Heap), (K w.params).In h → h.Ns mainGlobals mg → DefAt (K w.params) mg d.name d.name st ∧ ∀ {f : Addr} {fd : FuncData}, Fun (K w.params) d.name d.name st f fd → ∀ base : Heap, FnOk l.prog w (K w.params) mg base (L2.CX l.prog w) k f fd [x] (spLaw (K w.params))) :
    PySem.W.WalkO q loose XP YP l.row.toRowW d [] (fun f vs => PySem.call f vs) := by
  refine L2.walk_of (n := 63) (k := k) (x := x) (CX := fun w => L2.CX l.prog w) (sp := fun w => spLaw (K w.params)) hn (by decide) hdf hr hY (fun w mg fa h KX G hmg => ?_) (fun _ _ a ns hl _ hS => ⟨a, ns, rfl, hS, hl, fun _ => rfl⟩) fun _ _ _ _ _ ⟨_, _, _, _, _, _, _, _, _, _, _, _, z⟩ => z
  obtain ⟨⟨f, fd, a, Fn⟩, ok⟩ := F w mg h KX G
  have e := hmg.symm.trans a
  cases e
  obtain ⟨oc, od, kV, doc, pm, an, cdv, ct, osl, rfl, lk, hcd⟩ := id Fn.ex
  exact ⟨_, fun s u => hb kV doc pm an cdv ct s u, fun base _ _ => ok Fn base⟩
end MyL

set_option Elab.async false
set_option linter.all false
set_option maxRecDepth 100000
set_option maxHeartbeats 4000000
/-! The end, for error classes of one's own. -/
namespace PySem.ErrX
open PySem PySem.W PySem.Spec PyProof.Rows L2 PySem.ErrX HandSPX
/-- what the text of an error's __init__ says -/
def ErrSt (prog : Program) (qual : Str) (st : Stmt) (fs : List Str) : Prop :=
  ∃ (rest : List Stmt) (txt : Str) (j : Nat) (p0 p1 p2 p3 p4 p5 : Pos) (ar : Arg),
    defBody st = .Expr (.Call (.Attribute (.Call (.Name "super" p0) [] [] p1) "__init__" p2) [.Constant (.str txt) j p3] [] p4) p5 :: rest ∧
    (∀ env : Env, eval (.Call (.Attribute (.Call (.Name "super" p0) [] [] p1) "__init__" p2) [.Constant (.str txt) j p3] [] p4) env = (do
      let ov ← attributeBase (.Call (.Name "super" p0) [] [] p1) "__init__" env (eval (.Call (.Name "super" p0) [] [] p1) env)
      standAt p2.atName
      let (f, first) ← holding [ov] (getMethod ov "__init__" (do return (← importBound (.Call (.Name "super" p0) [] [] p1) env).getD true))
      callWith p4 f first (backTo p4 (starEach [.Constant (.str txt) j p3] env)) [])) ∧
    (prog.main.scope.names.lookup ("super" : Str)).isSome = false ∧
    ((defArgs st).posonlyargs ++ (defArgs st).args).head? = some ar ∧ ar.arg = "self" ∧
    (defScope st).kind = .function ∧ (defScope st).isCoroutine = false ∧ (defScope st).isGenerator = false ∧ (∀ x ∈ (defScope st).names, x.2 ≠ .cell) ∧ (defScope st).names.lookup ("super" : Str) = some .globalImplicit ∧ (defScope st).names.lookup ("__class__" : Str) = some .free ∧
    (defScope st).names.lookup ("self" : Str) = some .local ∧ (∀ f ∈ fs, (defScope st).names.lookup f = some .local) ∧ (("self" : Str) :: fs).Nodup ∧
    Asgs fs rest ∧ ∀ (doc pm : Value) (an : Option Addr) (cda : Addr) (ct : Value) (cc : Addr) (us : List Value), us.length = fs.length + 1 → bindArgs (ksFn "__init__" qual (defArgs st) (defBody st) (defScope st) .none .none doc pm an (.ref cda) ct cc) ⟨us, []⟩ = pure (((("self" : Str) :: fs)).zip us)
theorem fn_mk {prog : Program} {K : Frag} {C fI : Addr} {fs : List Str} {st : Stmt} {qual : Str} {oc : Value} {od : Option Addr} {doc pm : Value} {an : Option Addr} {cda : Addr} {ct : Value} {cc : Addr} {osl : Array (Option Value)} {ccl : Value} {cdd : Option Addr} {vs : Array Value} {ccs : Array (Option Value)} {file : Str} {tf : Tok} {cl : Value} {cld : Option Addr} {csl : Array (Option Value)}
    (S : ErrSt prog qual st fs) (l : K.lookup fI = some ⟨oc, od, .func (ksFn "__init__" qual (defArgs st) (defBody st) (defScope st) .none .none doc pm an (.ref cda) ct cc), osl⟩) (hc : codeIn K (.ref cda) qual = true) (l2 : K.lookup cda = some ⟨ccl, cdd, .fields vs, ccs⟩) (hv : vs[2]? = some (.str file tf)) (hf : ((prog.main.file : Str) == file) = true)
    (l3 : K.lookup cc = some ⟨cl, cld, .cell (some (.ref C)), csl⟩) :
    ∃ (oc : Value) (od : Option Addr) (qual : Str) (params : Arguments) (scope : Scope) (rest : List Stmt) (doc pm : Value) (an : Option Addr) (cda : Addr) (ct : Value) (cc : Addr) (osl : Array (Option Value)) (txt : Str) (j : Nat) (p0 p1 p2 p3 p4 p5 : Pos) (ar : Arg)
      (ccl : Value) (cdd : Option Addr) (vs : Array Value) (ccs : Array (Option Value)) (file : Str) (tf : Tok) (cl : Value) (cld : Option Addr) (csl : Array (Option Value)),
    K.lookup fI = some ⟨oc, od, .func (ksFn "__init__" qual params (.Expr (.Call (.Attribute (.Call (.Name "super" p0) [] [] p1) "__init__" p2) [.Constant (.str txt) j p3] [] p4) p5 :: rest) scope .none .none doc pm an (.ref cda) ct cc), osl⟩ ∧ codeIn K (.ref cda) qual = true ∧
    K.lookup cda = some ⟨ccl, cdd, .fields vs, ccs⟩ ∧ vs[2]? = some (.str file tf) ∧ ((prog.main.file : Str) == file) = true ∧ K.lookup cc = some ⟨cl, cld, .cell (some (.ref C)), csl⟩ ∧
    (∀ env : Env, eval (.Call (.Attribute (.Call (.Name "super" p0) [] [] p1) "__init__" p2) [.Constant (.str txt) j p3] [] p4) env = (do
      let ov ← attributeBase (.Call (.Name "super" p0) [] [] p1) "__init__" env (eval (.Call (.Name "super" p0) [] [] p1) env)
      standAt p2.atName
      let (f, first) ← holding [ov] (getMethod ov "__init__" (do return (← importBound (.Call (.Name "super" p0) [] [] p1) env).getD true))
      callWith p4 f first (backTo p4 (starEach [.Constant (.str txt) j p3] env)) [])) ∧
    (prog.main.scope.names.lookup ("super" : Str)).isSome = false ∧
    (params.posonlyargs ++ params.args).head? = some ar ∧ ar.arg = "self" ∧
    scope.kind = .function ∧ scope.isCoroutine = false ∧ scope.isGenerator = false ∧ (∀ x ∈ scope.names, x.2 ≠ .cell) ∧ scope.names.lookup ("super" : Str) = some .globalImplicit ∧ scope.names.lookup ("__class__" : Str) = some .free ∧
    scope.names.lookup ("self" : Str) = some .local ∧ (∀ f ∈ fs, scope.names.lookup f = some .local) ∧ (("self" : Str) :: fs).Nodup ∧
    Asgs fs rest ∧ ∀ us : List Value, us.length = fs.length + 1 → bindArgs (ksFn "__init__" qual params (.Expr (.Call (.Attribute (.Call (.Name "super" p0) [] [] p1) "__init__" p2) [.Constant (.str txt) j p3] [] p4) p5 :: rest) scope .none .none doc pm an (.ref cda) ct cc) ⟨us, []⟩ = pure (((("self" : Str) :: fs)).zip us) := by
  obtain ⟨rest, txt, j, p0, p1, p2, p3, p4, p5, ar, e, h1, h2, h3, h4, h5, h6, h7, h8, h9, h10, h11, h12, h13, h14, h15⟩ := S
  have h15' := h15 doc pm an cda ct cc
  rw [e] at l h15'
  exact ⟨oc, od, qual, defArgs st, defScope st, rest, doc, pm, an, cda, ct, cc, osl, txt, j, p0, p1, p2, p3, p4, p5, ar, ccl, cdd, vs, ccs, file, tf, cl, cld, csl, l, hc, l2, hv, hf, l3, h1, h2, h3, h4, h5, h6, h7, h8, h9, h10, h11, h12, h13, h14, h15'⟩
theorem err_mk {prog : Program} {K : Frag} {h : Heap} {mg : Str → Option Value} {x : Str} {C fI : Addr} {fs : List Str} {st : Stmt} {qual : Str} {oc : Value} {od : Option Addr} {doc pm : Value} {an : Option Addr} {cda : Addr} {ct : Value} {cc : Addr} {osl : Array (Option Value)} {ccl : Value} {cdd : Option Addr} {vs : Array Value} {ccs : Array (Option Value)} {file : Str} {tf : Tok} {cl : Value} {cld : Option Addr} {csl : Array (Option Value)}
    {nm q N bs bm sn sub ab col dd k0 k1 k2 k3 k5}
    (X : K.In h) (G : h.Ns mainGlobals mg) (S : ErrSt prog qual st fs) (gC : nsIn K mainGlobals x = some (some (.ref C))) (gS : nsIn K mainGlobals "super" = some none)
    (xL : K.lookup C = some (excClassObj nm q C N bs bm true sn sub ab col dd k0 k1 k2 k3 k5 "ValueError.__new__")) (xM : refsVE bm = true)
    (sa : findIn K (.ref C) "__setattr__" = some (some (.builtin "object.__setattr__"))) (no : ∀ f ∈ fs, findIn K (.ref C) f = some none) (iC : findIn K (.ref C) "__init__" = some (some (.ref fI))) (tC : typeIn K (.ref fI) = some (.type "function")) (kC : keepIn K (.ref C) = true)
    (exC : subIn K (.ref C) (.type "BaseException") = some true) (veC : subIn K (.ref C) (.type "ValueError") = some true) (tyC : typeIn K (.ref C) = some (.type "type")) (op : nsIn K cStatics "thirdparty.any" = some none) (al : ks_superIn K C C "__init__" = some (some (.builtin "ValueError.__init__"))) (slf : mroIn K C (.ref C) = some true)
    (l : K.lookup fI = some ⟨oc, od, .func (ksFn "__init__" qual (defArgs st) (defBody st) (defScope st) .none .none doc pm an (.ref cda) ct cc), osl⟩) (hc : codeIn K (.ref cda) qual = true) (l2 : K.lookup cda = some ⟨ccl, cdd, .fields vs, ccs⟩) (hv : vs[2]? = some (.str file tf)) (hf : ((prog.main.file : Str) == file) = true)
    (l3 : K.lookup cc = some ⟨cl, cld, .cell (some (.ref C)), csl⟩) : ErrTxt prog K mg x C fI fs :=
  ⟨mg_of X G gC, mg_none_of X G gS, ⟨nm, q, N, bs, bm, sn, sub, ab, col, dd, k0, k1, k2, k3, k5, xL, xM⟩, sa, no, iC, tC, kC, exC, veC, tyC, op, al, slf, fn_mk S l hc l2 hv hf l3⟩
theorem exck_mk {K : Frag} {D : Addr} (cl : (clsIn K D).isSome = true) (ga : findIn K (.ref D) "__getattribute__" = some (some (.builtin "BaseException.__getattribute__"))) (gg : findIn K (.ref D) "__getattr__" = some none) (sb : subIn K (.ref D) (.type "BaseException") = some true)
  (ca : findIn K (.ref D) "__class__" = some (some (.builtin "object.__class__"))) (cn : specialIn K (.builtin "object.__class__") "__get__" = some (some (.builtin "getset_descriptor.__get__"))) (ct : takesIn K (.builtin "object.__class__") = some true) (cm : mroIn K D (.type "object") = some true) : MyL.ExcK K D := ⟨cl, ga, gg, sb, ca, cn, ct, cm⟩
theorem int_has {K : Frag} {x : Str} (h : (fastLookup "int" x).isSome = true) : ∃ fo, findIn K (.type "int") x = some fo := Option.isSome_iff_exists.mp h
theorem num_mk {K : Frag} {C : Addr} {op : Operator} (sf : selfFirst K C = true) (r : findIn K (.ref C) (dunderR op.info.2) = some none) (it : subIn K (.type "int") (.ref C) = some false) (h1 : (fastLookup "int" (PySem.dunder op.info.2)).isSome = true) (h2 : (fastLookup "int" (dunderR op.info.2)).isSome = true) : MyL.NumC K C op := ⟨sf, r, it, int_has h1, int_has h2⟩
end PySem.ErrX

set_option Elab.async false
set_option linter.all false
set_option maxRecDepth 100000
set_option maxHeartbeats 4000000
/-! != by an own __eq__; properties. -/
namespace MyL
open PySem PySem.Spec PyProof.Rows L2
section
variable {prog : Program} {w : World} {A : Around} {E : Value → Shared → Prop} {s : Shared} {K : PySem.W.Frag} {x C L f : Addr} {h₀ : Heap} {m : Str → Option Value} {ox : Obj} {od : Option Obj} {name : Str} {b tb : Value}
theorem ifBound_B {M : Model} {args : List Value} {id : String} {Q : Option Value → Shared → Prop} (X : K.In s.heap) (I : PySem.W.InstAt s.heap x ox C od) (hs : PySem.W.findIn K (.ref C) name = some (some (.builtin id))) (hb : ∀ self, bindSpecial (.builtin id) self = pure (.builtin id, [self]))
    (h : wpAny M A (call (.builtin id) (.ref x :: args)) (fun v => Q (some v)) E s) : wpAny M A (callSpecialIfBound? (.ref x) name args) Q E s := by
  simp only [callSpecialIfBound?, bindSpecialIfBound?]
  refine wpAny_holding (wpAny_bind (wpAny_bind (wpAny_bind (I.type.here ((PySem.W.looks_findIn X hs).here ?_)))))
  simp only [hb]
  refine wpAny_bind (wpAny_askSetting (wpAny_ite ?_))
  have fin : wpAny M A (call (.builtin id) ([.ref x] ++ args) >>= fun v => pure (some v)) Q E s := wpAny_bind (wpAny_mono h (fun v s' h' => wpAny_pure h') fun _ _ h' => h')
  split
  · exact wpAny_bind (wpAny_pure (wpAny_pure fin))
  · exact wpAny_tryCatch (wpAny_bind (wpAny_pure (wpAny_pure fin)))
theorem objNe_own {Q : Fin → Shared → Prop} (hu : A.units < cLine) (X : K.In s.heap) (I : PySem.W.InstAt s.heap x ox C od) (hs : PySem.W.findIn K (.ref C) "__eq__" = some (some (.ref f))) (hf : PySem.W.isFn K (.ref f) = true)
    (hcall : wpAny (model prog w) A (call (.ref f) [.ref x, b]) (fun v s' => ∃ c, v = .bool c ∧ Q (.done (.ret (.bool (!c)))) s') E s) :
    wpAny (model prog w) A (Builtin.«object.__ne__» ⟨[.ref x, b], []⟩) Q E s := by
  unfold Builtin.«object.__ne__»
  repeat (first
    | with_reducible refine wpAny_cRoomFor hu ?_
    | (refine wpAny_bind (m := callSpecialIfBound? (.ref x) (Str.ofString "__eq__") [b])
        (PySem.W.ifBound_K X I hs hf (wpAny_mono hcall (fun r s' hr => by
          obtain ⟨c, rfl, hq⟩ := hr
          repeat (first | exact hq | exact wpAny_pure hq | exact wpAny_truthy_bool hq | (refine wpAny_bind (m := truthy (.bool _)) (wpAny_truthy_bool ?_)) | wp_step)) fun _ _ e => e)))
    | wp_step)
theorem ne_own {Q : Value → Shared → Prop} (hu : A.units + 1 < cLine) (X : K.In s.heap) (I : PySem.W.InstAt s.heap x ox C od) (hb : PySem.W.Looks (model prog w) s.heap (typeOf b) (.ref C)) (hn : PySem.W.findIn K (.ref C) "__ne__" = some (some (.builtin "object.__ne__"))) (hm : PySem.W.mroIn K C (.type "object") = some true)
    (hs : PySem.W.findIn K (.ref C) "__eq__" = some (some (.ref f))) (hf : PySem.W.isFn K (.ref f) = true)
    (hcall : wpAny (model prog w) A.in1 (call (.ref f) [.ref x, b]) (fun v s' => ∃ c, v = .bool c ∧ Q (.bool (!c)) s') E s) : wpAny (model prog w) A (richCompare .NotEq (.ref x) b) Q E s := by
  have one : wpAny (model prog w) A (tryCompare (.ref x) "__ne__" b) (fun r s' => ∃ v, r = some v ∧ Q v s') E s := by
    unfold tryCompare
    refine wpAny_bind (ifBound_B X I hn F.cmp_object.ne.bind (wpAny_call (codeAny_call_builtin F.cmp_object.ne.plain F.cmpEntry_ne (@PySem.W.check_slot (model prog w) _ _ s "object.__ne__" "object" "__ne__" (.ref x) [b] [] _ F.cmpKind_ne F.cmpSplit_ne (I.type.andThen (PySem.W.looks_mroIn X hm)) (F.cmpArgs_ne _ _)
      (objNe_own (A := A.in1) hu X I hs hf (wpAny_mono hcall (fun v s' hv => ?_) fun _ _ e => e))))))
    obtain ⟨c, rfl, hq⟩ := hv
    exact ⟨c, rfl, wpAny_pure ⟨_, rfl, hq⟩⟩
  unfold richCompare
  simp only [oneThing_ref]
  refine wpAny_holding (wpAny_bind (wpAny_cRoomFor (Nat.lt_of_succ_lt hu) ?_))
  rw [cmpInfo_NotEq]
  dsimp only
  refine wpAny_bind (I.type.here (wpAny_bind (hb.here ?_)))
  rw [show (Value.ref C != Value.ref C) = false from by simp]
  simp only [Bool.false_eq_true, if_false]
  refine wpAny_bind (wpAny_pure ?_)
  simp only [Bool.false_eq_true, if_false]
  refine wpAny_bind (wpAny_mono one (fun r s' z => ?_) fun _ _ e => e)
  obtain ⟨v, rfl, hq⟩ := z
  exact wpAny_pure hq
end
def rOwnNe (C : Addr) (sp : Sp) : R2 := fun x y H Q => ∃ a dx fs b dy gs, x = .ref a ∧ y = .ref b ∧ H a = some (.ins C dx fs) ∧ H b = some (.ins C dy gs) ∧ sp [.ref a, .ref b] H (fun v H' => ∃ c, v = .bl c ∧ Q (.bl (!c)) H') (fun _ _ _ => False)
structure NeC (K : PySem.W.Frag) (C : Addr) : Prop where
  ne : PySem.W.findIn K (.ref C) "__ne__" = some (some (.builtin "object.__ne__"))
  mro : PySem.W.mroIn K C (.type "object") = some true
section
variable {X : Cx} {W : WX} {k j : Nat} {C : Addr} {sp : Sp}
theorem c_ne (c : Spc X.prog X.w X.K X.mg X.base k C "__eq__" sp) (n : NeC X.K C) (hr : Room j X.A) (hk : k + 1 ≤ j) : OpR X (compareOp .NotEq) (rOwnNe C sp) := by
  intro pins s σ H x y v u Q I rx ry h
  obtain ⟨f, hs, hf, F⟩ := c.ex
  obtain ⟨p, dx, fs, p2, dy, gs, rfl, rfl, hp, hp2, hsp⟩ := h
  obtain rfl : v = Value.ref p := rx
  obtain rfl : u = Value.ref p2 := ry
  obtain ⟨mA, J, _⟩ := ins_get I.hok hp
  obtain ⟨od, J, _⟩ := J.look
  obtain ⟨mB, J', _⟩ := ins_get I.hok hp2
  obtain ⟨od', J', _⟩ := J'.look
  show wpAny _ _ (richCompare .NotEq (.ref p) (.ref p2)) _ _ _
  refine ne_own (Nat.lt_of_le_of_lt (Nat.add_le_add_left (by decide : 1 ≤ 64) _) hr.units) I.kIn J J'.type n.ne n.mro hs hf ?_
  have z := run_S (A := X.A.in1) (W := fun _ _ _ _ => False) (us := [.ref p, .ref p2]) (vs := [.ref p, .ref p2]) F takes0 (hr.mono hk).in1 I.env0.in1 I (.cons rfl (.cons rfl .nil)) hsp
  refine wpAny_mono (wpAny_call z) (fun w s' z => ?_) fun _ _ x => x
  obtain ⟨z', H', I', rz, c, ec, qz⟩ := z
  subst ec
  exact ⟨c, rz, .bl (!c), H', I', rfl, qz⟩
end
end MyL
namespace MyL
open PySem PySem.Spec PyProof.Rows L2
/-- a property of the class at C -/
structure Prp (P : Program) (w : World) (K : PySem.W.Frag) (mg : Str → Option Value) (base : Heap) (k : Nat) (C : Addr) (f : Str) (sp : Sp) : Prop where
  ex : ∃ (p g : Addr) (fd : FuncData) (ps : List Str), Cls K C ∧ PropOf K C f p g ∧ Binds K fd ps [] ∧ FnOk P w K mg base (L2.CX P w) k g fd ps sp
section
variable {X : Cx} {k j : Nat} {C : Addr} {sp : Sp} {f : Str} {e : Expr} {ta : TE} {pos : Pos}
theorem c_prop (c : Prp X.prog X.w X.K X.mg X.base k C f sp) (hr : Room j X.A) (hk : k + 1 ≤ j) (he : PE X e ta) (hab : attributeBase e f X.env (eval e X.env) = eval e X.env := by rfl) : PE X (.Attribute e f pos) (tProp C sp [] (fun _ _ _ => False) ta) := by
  obtain ⟨p, g, fd, ps, cl, hp, hb, F⟩ := c.ex
  exact pe_prop he cl hp F (hr.mono hk) hb .nil (fun _ _ _ _ _ _ _ ⟨_, _, _, _, _, _, _, _, _, _, _, _, z⟩ => z.elim) hab
end
section
variable {σ : L2.St} {H : Hp} {Q : VK} {C : Addr} {sp : Sp} {ta : TE} {K : PySem.W.Frag} {E : XK}
theorem k_prop0 (h : ta σ H fun x H1 => ∃ a dx fs, x = .ref a ∧ H1 a = some (.ins C dx fs) ∧ sp [.ref a] H1 Q E) : tProp C sp [] E ta σ H Q := h
theorem k_prop {a dx : Addr} {fs : List (Str × V)} (h : H a = some (.ins C dx fs)) (q : sp [.ref a] H Q E) : ∃ a' dx' fs', V.ref a = .ref a' ∧ H a' = some (.ins C dx' fs') ∧ sp [.ref a'] H Q E := ⟨a, dx, fs, rfl, h, q⟩
theorem k_ownNe {a dx b dy : Addr} {fs gs : List (Str × V)} (h1 : H a = some (.ins C dx fs)) (h2 : H b = some (.ins C dy gs)) (q : sp [.ref a, .ref b] H (fun v H' => ∃ c, v = .bl c ∧ Q (.bl (!c)) H') (fun _ _ _ => False)) : rOwnNe C sp (.ref a) (.ref b) H Q := ⟨a, dx, fs, b, dy, gs, rfl, rfl, h1, h2, q⟩
theorem k_neBack {PB : Bool → Prop} {c : Bool} (q : PB c) : ∃ c', V.bl c = .bl c' ∧ PB c' := ⟨c, rfl, q⟩
theorem beq_dec {i k : Int} : (i == k) = decide (i = k) := rfl
theorem k_eqP {a b : Addr} {i j k l : Int} (h1 : H a = some (.tup [.int i, .int j])) (h2 : H b = some (.tup [.int k, .int l])) (q : Q (.bl (decide (i = k) && decide (j = l))) H) : rEqD K (.ref a) (.ref b) H Q := by
  refine ⟨.tuple [.int i, .int j], .tuple [.int k, .int l], .tup (SqT.of h1) (.cons (.int _) (.cons (.int _) .nil)), .tup (SqT.of h2) (.cons (.int _) (.cons (.int _) .nil)), rfl, rfl, ?_⟩
  have : PyData.eqv (.tuple [.int i, .int j]) (.tuple [.int k, .int l]) = (decide (i = k) && decide (j = l)) := by
    simp only [PyData.eqv, PyData.eqvAll, Bool.and_true]
    rfl
  rw [this]; exact q
theorem k_neP {a b : Addr} {i j k l : Int} (h1 : H a = some (.tup [.int i, .int j])) (h2 : H b = some (.tup [.int k, .int l])) (q : Q (.bl (!(decide (i = k) && decide (j = l)))) H) : rNeD K (.ref a) (.ref b) H Q := by
  refine ⟨.tuple [.int i, .int j], .tuple [.int k, .int l], .tup (SqT.of h1) (.cons (.int _) (.cons (.int _) .nil)), .tup (SqT.of h2) (.cons (.int _) (.cons (.int _) .nil)), rfl, rfl, ?_⟩
  have : PyData.eqv (.tuple [.int i, .int j]) (.tuple [.int k, .int l]) = (decide (i = k) && decide (j = l)) := by
    simp only [PyData.eqv, PyData.eqvAll, Bool.and_true]
    rfl
  rw [this]; exact q
end
end MyL

set_option Elab.async false
set_option linter.all false
set_option maxRecDepth 100000
set_option maxHeartbeats 4000000
namespace MyL
open PySem PySem.Spec PyProof.Rows L2
def PropAt (K : PySem.W.Frag) (C : Addr) (m qual : Str) (st : Stmt) : Prop := ∃ (p g : Addr) (fd : FuncData), PropOf K C m p g ∧ Fun K m qual st g fd
section
variable {P : Program} {w : World} {K : PySem.W.Frag} {mg : Str → Option Value} {base h : Heap} {k : Nat} {C f p : Addr} {x m qual : Str} {sp : Sp} {st : Stmt} {fd : FuncData} {ps : List Str} {oc : Value} {od an : Option Addr} {osl : Array (Option Value)} {kV doc pm cdv ct : Value} {rest : List Value}
theorem gprop (a : PySem.W.findIn K (.ref C) m = some (some (.ref p))) (g : PySem.W.specialIn K (.ref p) "__get__" = some (some (.builtin "property.__get__"))) (t : PySem.W.takesIn K (.ref p) = some true) (r : PySem.W.recIn K p "property" = some (.ref f :: rest))
    (l : K.lookup f = some ⟨oc, od, .func (PySem.W.fnOf m qual (defArgs st) (defBody st) (defScope st) .none kV doc pm an cdv ct), osl⟩)
    (c : PySem.W.codeIn K cdv qual = true) (kp : PySem.W.keepIn K (.ref f) = true) : PropAt K C m qual st := ⟨p, f, _, ⟨a, g, t, rest, r⟩, fun_mk l c kp⟩
theorem prp_of (D : PropAt K C m qual st) (cl : Cls K C) (hb : BindsSt m qual st ps) (ok : ∀ {f : Addr} {fd : FuncData}, Fun K m qual st f fd → FnOk P w K mg base (L2.CX P w) k f fd ps sp) : Prp P w K mg base k C m sp := by
  obtain ⟨p, f, fd, a, F⟩ := D
  exact ⟨p, f, fd, ps, cl, a, F.binds hb, ok F⟩
end
section
variable {σ : L2.St} {H : Hp} {Q : VK} {K : PySem.W.Frag} {p : Addr} {xs : List V}
theorem k_chain {r r' : R2} {ta tb tc : TE} (h : ta σ H fun x H1 => tb σ H1 fun y H2 => r x y H2 fun z H3 => ∃ k, z = .bl k ∧ (if k = true then tc σ H3 fun w' H4 => r' y w' H4 Q else Q (.bl false) H3)) : tChain r r' ta tb tc σ H Q := h
/-- an item of a list of whole numbers, each within R -/
theorem k_ixAll {R : Int → Prop} {j : Int} (h : H p = some (.lst xs)) (h0 : 0 ≤ j) (h1 : j < xs.length) (hR : ∀ x ∈ xs, ∃ n : Int, x = .int n ∧ R n) (q : ∀ n, R n → Q (.int n) H) : rIxL K (.ref p) (.int j) H Q := by
  obtain ⟨i, rfl⟩ := Int.eq_ofNat_of_zero_le h0
  have hi : i < xs.length := by omega
  obtain ⟨n, e, hn⟩ := hR _ (List.getElem_mem hi)
  exact ⟨p, xs, (i : Int), .int n, rfl, rfl, SqL.of h, atI_nat (by rw [List.getElem?_eq_getElem hi, e]), q n hn⟩
theorem k_ixAllT {R : Int → Prop} {j : Int} (h : H p = some (.tup xs)) (h0 : 0 ≤ j) (h1 : j < xs.length) (hR : ∀ x ∈ xs, ∃ n : Int, x = .int n ∧ R n) (q : ∀ n, R n → Q (.int n) H) : rIxT K (.ref p) (.int j) H Q := by
  obtain ⟨i, rfl⟩ := Int.eq_ofNat_of_zero_le h0
  have hi : i < xs.length := by omega
  obtain ⟨n, e, hn⟩ := hR _ (List.getElem_mem hi)
  exact ⟨p, xs, (i : Int), .int n, rfl, rfl, SqT.of h, atI_nat (by rw [List.getElem?_eq_getElem hi, e]), q n hn⟩
end
end MyL

set_option Elab.async false
set_option linter.all false
set_option maxRecDepth 100000
set_option maxHeartbeats 4000000
namespace MyL
open PySem PySem.Spec PyProof.Rows L2
section
variable {K : PySem.W.Frag} {D dd a C1 C2 C3 C4 : Addr} {H : Hp} {Q : VK} {fs : List (Str × V)} {b : Bool}
theorem k_isX4 {tp : Addr} (hD : ExcK K D) (hd : H dd = some (.xd fs)) (ht : H tp = some (.tup [.ref C1, .ref C2, .ref C3, .ref C4])) (e : PySem.W.kitAny K (.ref D) [.ref C1, .ref C2, .ref C3, .ref C4] = some b) (q : Q (.bl b) H) : rIsXT K (.ref D) (some dd) a [.ref a, .ref tp] H Q :=
  ⟨D, tp, _, _, b, rfl, hD, ⟨fs, hd⟩, rfl, ht, .cons (.own C1) (.cons (.own C2) (.cons (.own C3) (.cons (.own C4) .nil))), e, q⟩
theorem k_ixT2 {p : Addr} {i j n : Int} (h : H p = some (.tup [.int i, .int j])) (h0 : 0 ≤ n) (h1 : n < 2) (q : ∀ m, m = i ∨ m = j → Q (.int m) H) : rIxT K (.ref p) (.int n) H Q :=
  k_ixAllT (R := fun m => m = i ∨ m = j) h h0 (by simpa using h1) (fun x hx => by simp at hx; rcases hx with rfl | rfl <;> exact ⟨_, rfl, by simp⟩) q
theorem Mem.atB {B : Hp} {f l : List (Addr × HO)} {o : HO} (M : Mem B [] H f l) (h : B a = some o) : H a = some o := Same.of_keep M a o h
theorem xdH {g : Str} {v : V} {l : List (Str × V)} : List.lookup g ((g, v) :: l) = some v := by simp [List.lookup]
end
end MyL

set_option Elab.async false
set_option linter.all false
set_option maxRecDepth 100000
set_option maxHeartbeats 4000000
/-! Static methods by the class; own errors without own __init__. -/
namespace MyL
open PySem PySem.Spec PyProof.Rows L2
/-- C.m is a staticmethod: its record at p, its def at g -/
structure StaOf (K : PySem.W.Frag) (C : Addr) (m : Str) (p g : Addr) : Prop where
  ga : PySem.W.specialIn K (.ref C) "__getattribute__" = some (some (.builtin "type.__getattribute__"))
  rd : PySem.W.readsIn K C (.type "type") = true
  at_ : PySem.W.findCls K (.ref C) (.type "type") m = some (.get (.builtin "staticmethod.__get__") (.ref p) .none (.ref C))
  rc : ∃ rest, PySem.W.recIn K p "staticmethod" = some (.ref g :: rest)
  kp : PySem.W.keepIn K (.ref g) = true
structure Sta (P : Program) (w : World) (K : PySem.W.Frag) (mg : Str → Option Value) (base : Heap) (k : Nat) (C : Addr) (m : Str) (sp : Sp) : Prop where
  ex : ∃ (p g : Addr) (fd : FuncData) (ps : List Str), StaOf K C m p g ∧ Binds K fd ps [] ∧ FnOk P w K mg base (L2.CX P w) k g fd ps sp
def tSta (C : Addr) (sp : Sp) (W : WX) (ta : TE) (t : TA) : TE := fun σ H Q => ta σ H fun x H1 => x = .ref C ∧ t σ H1 fun vs H2 => sp vs H2 Q (WE W σ)
section
variable {X : Cx} {W : WX} {k j : Nat} {C : Addr} {sp : Sp} {x m : Str} {p pos apos : Pos} {e o : Expr} {es : List Expr} {ta : TE} {t : TA}
theorem c_sta {pl : Sem Bool} (c : Sta X.prog X.w X.K X.mg X.base k C m sp) (tk : Takes X W) (hr : Room j X.A) (hk : k ≤ j) (ho : PE X o ta) (ha : PA X (e :: es) t)
    (hst : starEach (e :: es) X.env = (false, eval e X.env) :: starEach es X.env := by rfl) (hpl : (backTo pos (starEach es X.env)).any (·.1) = false := by rfl)
    (ht : eval (.Call (.Attribute o m apos) (e :: es) [] pos) X.env = (do
      let ov ← eval o X.env
      standAt apos.atName
      let (f, first) ← holding [ov] (getMethod ov m pl)
      callWith pos f first (backTo pos (starEach (e :: es) X.env)) (backToKw pos (keywordEach [] X.env))) := by rfl) :
    PE X (.Call (.Attribute o m apos) (e :: es) [] pos) (tSta C sp W ta t) := by
  obtain ⟨p, g, fd, ps, hm, b, F⟩ := c.ex
  obtain ⟨rest, hrec⟩ := hm.rc
  refine ⟨fun pins s σ H Q I h => ?_⟩
  refine PySem.W.methodCall_KW (pl := pl) (thn (ho.run pins s σ H _ I h) fun u s1 hh => ?_) ht
  obtain ⟨x, H1, I1, rx, ex, q⟩ := hh
  subst ex
  obtain rfl : u = Value.ref C := rx
  have I1' := I1.tok (s1.toks + 1)
  refine PySem.W.method_cls I1.kIn hm.ga (PySem.W.cls_bind I1.kIn hm.rd hm.at_ (wpAny_call (PySem.W.sm_get (s := { s1 with toks := s1.toks + 1 }) I1.kIn hrec (PySem.W.handed_on rfl ?_))))
  refine PySem.W.callWith_K (first := []) (h₀ := X.base) I.ok.mod.kin hm.kp (thn (ha.run pos pins _ σ H1 _ I1' q) fun us s2 hh => ?_) hst hpl
  obtain ⟨vs, H2, I2, r, q2⟩ := hh
  exact ⟨I2.kIn, run_fnS (E := WE W) (us := us) (vs := vs) F (hr.mono hk) b (passAt tk σ) I2 r q2⟩
end
/-- an own error whose class has no __init__ of its own -/
structure PlainErr (K : PySem.W.Frag) (mg : Str → Option Value) (x : Str) (C : Addr) : Prop where
  gC : mg x = some (.ref C)
  kC : PySem.W.keepIn K (.ref C) = true
  exc : PySem.W.excIn K C [.type "ValueError", .type "Exception", .type "BaseException", .type "object"] "ValueError.__new__" = true
  sb : PySem.W.subIn K (.ref C) (.type "BaseException") = some true
  ty : PySem.W.typeIn K (.ref C) = some (.type "type")
theorem pmk_plain0 {X : Cx} {x : Str} {C : Addr} {p pos : Pos} (T : PlainErr X.K X.mg x C) (hg : Gl X x := by rfl) (hdb : (x == ("__debug__" : Str)) = false := by decide) : PMk X (.Call (.Name x p) [] [] pos) (fun _ H Q => Q (.ref C) none H) := by
  intro pins s σ H Q I h
  refine wpAny_Call_Name_kw (ld_glob I hg T.gC (PySem.W.callWith_K0 I.kIn T.kC ?_) hdb)
  obtain ⟨bm, N, nm, qn, bs, hdct, sn, sub, ab, col, dd, k0, k1, k2, k3, k5, mN, hC, hN, hni, T'⟩ := exc_obj I.kIn T.exc
  refine wpAny_call_exc_subT PySem.F.excBase_ValueError T' hC hN hni (fun h' e hm => ?_) (Nat.zero_le _)
  exact mk_of I hm (raises_own T.sb T.ty) h (I.hok.gone hm.new)
section
variable {K : PySem.W.Frag} {D a C1 C2 C3 C4 : Addr} {H : Hp} {Q : VK} {b : Bool}
theorem k_isX0o (hD : ExcK K D) (e : PySem.W.kitOne K (.ref D) (.ref C1) = some b) (q : Q (.bl b) H) : rIsX K (.ref D) none a [.ref a, .ref C1] H Q := ⟨D, _, _, b, rfl, hD, trivial, rfl, .own C1, e, q⟩
theorem k_isX0s (hD : ExcK K D) (q : Q (.bl true) H) : rIsX K (.ref D) none a [.ref a, .ref D] H Q := k_isX0o hD (by simp [PySem.W.kitOne]) q
theorem k_isX0t {n : String} (hD : ExcK K D) (e : PySem.W.kitOne K (.ref D) (.type n) = some b) (q : Q (.bl b) H) : rIsX K (.ref D) none a [.ref a, .ty n] H Q := ⟨D, _, _, b, rfl, hD, trivial, rfl, .ty n, e, q⟩
theorem k_isX04 {tp : Addr} (hD : ExcK K D) (ht : H tp = some (.tup [.ref C1, .ref C2, .ref C3, .ref C4])) (e : PySem.W.kitAny K (.ref D) [.ref C1, .ref C2, .ref C3, .ref C4] = some b) (q : Q (.bl b) H) : rIsXT K (.ref D) none a [.ref a, .ref tp] H Q :=
  ⟨D, tp, _, _, b, rfl, hD, trivial, rfl, ht, .cons (.own C1) (.cons (.own C2) (.cons (.own C3) (.cons (.own C4) .nil))), e, q⟩
end
section
variable {σ : L2.St} {H : Hp} {Q : VK} {C : Addr} {sp : Sp} {W : WX} {ta : TE} {t : TA}
theorem k_sta0 (h : ta σ H fun x H1 => x = .ref C ∧ t σ H1 fun vs H2 => sp vs H2 Q (WE W σ)) : tSta C sp W ta t σ H Q := h
theorem k_sta {PR : Prop} (q : PR) : V.ref C = .ref C ∧ PR := ⟨rfl, q⟩
end
end MyL

set_option Elab.async false
set_option linter.all false
set_option maxRecDepth 100000
set_option maxHeartbeats 4000000
/-! min and max of a list or a tuple of whole numbers. -/
namespace MyL
open PySem PySem.Spec PyProof.Rows L2
section
variable {prog : Program} {w : World} {A : Around} {E : Value → Shared → Prop} {s : Shared} {l : Addr} {xs : Array (Int × Tok)}
theorem iter_intTup {Q : Value → Shared → Prop} (hl : s.heap.IsTuple l (intItems xs))
    (h : ∀ s₂ : Shared, s₂ = { s with heap := s.heap.push { cls := .type "tuple_iterator", data := .fields #[.ref l, .int 0 0] } } →
      (s₂.heap.IsTupleIter s.heap.objs.size l 0 ∧ s₂.heap.IsTuple l (intItems xs)) → (∀ b ∈ [s.heap.objs.size, l], b < s₂.heap.objs.size) → l ≠ s.heap.objs.size → Q (.ref s.heap.objs.size) s₂) :
    wpAny (model prog w) A (pyIter (.ref l)) Q E s := by
  have hlt : l < s.heap.objs.size := by obtain ⟨_, e, _⟩ := hl; exact Heap.lt_size e
  refine wpAny_pyIter_tuple hl (h _ rfl ⟨⟨_, Heap.get?_push_size _ rfl, rfl, rfl⟩, hl.push _⟩ (fun b hb => ?_) (Nat.ne_of_lt hlt))
  show b < (s.heap.push _).objs.size
  rw [Heap.size_push]
  rcases List.mem_cons.mp hb with rfl | hb
  · exact Nat.lt_succ_self _
  · rcases List.mem_cons.mp hb with rfl | hb
    · exact Nat.lt_succ_of_lt hlt
    · cases hb
theorem old_keptT {o0 : Obj} {h' : Heap} (hk : ∀ b o, b ∉ [s.heap.objs.size] → (s.heap.push o0).get? b = some o → h'.get? b = some o) :
    ∀ b o, s.heap.get? b = some o → h'.get? b = some o := fun b o e => by
  refine hk b o (fun hm => ?_) (Heap.get?_push_of_some _ e)
  rcases List.mem_cons.mp hm with e1 | hm
  · exact absurd (e1 ▸ Heap.lt_size e) (Nat.lt_irrefl _)
  · cases hm
theorem max_intTup {Q : Value → Shared → Prop} (hh : A.handled = none) (hl : s.heap.IsTuple l (intItems xs)) (hne : 0 < xs.size)
    (h : ∀ v h' tk, (intItems xs)[argBest (fun i j => decide (numAt xs i > numAt xs j)) (xs.size - 1)]? = some v → (∀ b o, s.heap.get? b = some o → h'.get? b = some o) → Q v { s with heap := h', toks := tk }) :
    wpAny (model prog w) A (call (.builtin "max") [.ref l]) Q E s := by
  refine call_max_walk (iter_intTup hl fun s₂ e st hfp hlI => ?_)
  subst e
  refine ⟨_, _, _, _, _, _, _, rfl, Walks.tuple (A := A.in1) hh _ l hlI (intItems xs), st, hfp, by simpa [intItems] using hne, CmpOf.ints_gt (numAt xs) (fun _ _ => intItems_at), fun v h' tk hP hk => ?_⟩
  exact h v h' tk (by simpa [intItems] using hP) (old_keptT hk)
theorem min_intTup {Q : Value → Shared → Prop} (hh : A.handled = none) (hl : s.heap.IsTuple l (intItems xs)) (hne : 0 < xs.size)
    (h : ∀ v h' tk, (intItems xs)[argBest (fun i j => decide (numAt xs i < numAt xs j)) (xs.size - 1)]? = some v → (∀ b o, s.heap.get? b = some o → h'.get? b = some o) → Q v { s with heap := h', toks := tk }) :
    wpAny (model prog w) A (call (.builtin "min") [.ref l]) Q E s := by
  refine call_min_walk (iter_intTup hl fun s₂ e st hfp hlI => ?_)
  subst e
  refine ⟨_, _, _, _, _, _, _, rfl, Walks.tuple (A := A.in1) hh _ l hlI (intItems xs), st, hfp, by simpa [intItems] using hne, CmpOf.ints_lt (numAt xs) (fun _ _ => intItems_at), fun v h' tk hP hk => ?_⟩
  exact h v h' tk (by simpa [intItems] using hP) (old_keptT hk)
theorem max_rawT {its : List Value} {ns : List Int} {Q : Value → Shared → Prop} (hh : A.handled = none) (hl : s.heap.IsTuple l its.toArray) (hi : IntsAre its ns) (hne : 0 < ns.length)
    (h : ∀ h' tk M t', (∀ b o, s.heap.get? b = some o → h'.get? b = some o) → M ∈ ns → (∀ a, a ∈ ns → a ≤ M) → Q (.int M t') { s with heap := h', toks := tk }) : wpAny (model prog w) A (call (.builtin "max") [.ref l]) Q E s := by
  obtain ⟨xs, e⟩ := hi.allInts.items
  have hn : numsOf (intItems xs).toList = ns := by rw [← e]; exact hi.numsOf
  rw [nums_intItems] at hn
  subst hn
  rw [e] at hl
  have hsz : 0 < xs.size := by simpa using hne
  refine max_intTup hh hl hsz fun v h' tk hv hk => ?_
  obtain ⟨t, rfl⟩ := intItems_at hv
  obtain ⟨h1, h2⟩ := argBest_gt (numAt xs) (xs.size - 1)
  refine h h' tk _ t hk ?_ fun a ha => ?_
  · rw [numAt_eq]; exact PySem.getD_mem (by rw [List.length_map, Array.length_toList]; omega)
  · obtain ⟨j, hj, rfl⟩ := mem_getD ha
    rw [List.length_map, Array.length_toList] at hj
    rw [← numAt_eq]; exact h2 j (by omega)
theorem min_rawT {its : List Value} {ns : List Int} {Q : Value → Shared → Prop} (hh : A.handled = none) (hl : s.heap.IsTuple l its.toArray) (hi : IntsAre its ns) (hne : 0 < ns.length)
    (h : ∀ h' tk M t', (∀ b o, s.heap.get? b = some o → h'.get? b = some o) → M ∈ ns → (∀ a, a ∈ ns → M ≤ a) → Q (.int M t') { s with heap := h', toks := tk }) : wpAny (model prog w) A (call (.builtin "min") [.ref l]) Q E s := by
  obtain ⟨xs, e⟩ := hi.allInts.items
  have hn : numsOf (intItems xs).toList = ns := by rw [← e]; exact hi.numsOf
  rw [nums_intItems] at hn
  subst hn
  rw [e] at hl
  have hsz : 0 < xs.size := by simpa using hne
  refine min_intTup hh hl hsz fun v h' tk hv hk => ?_
  obtain ⟨t, rfl⟩ := intItems_at hv
  obtain ⟨h1, h2⟩ := argBest_lt (numAt xs) (xs.size - 1)
  refine h h' tk _ t hk ?_ fun a ha => ?_
  · rw [numAt_eq]; exact PySem.getD_mem (by rw [List.length_map, Array.length_toList]; omega)
  · obtain ⟨j, hj, rfl⟩ := mem_getD ha
    rw [List.length_map, Array.length_toList] at hj
    rw [← numAt_eq]; exact h2 j (by omega)
end
def rMaxQ (K : PySem.W.Frag) : List V → Hp → VK → Prop := fun vs H Q => ∃ (a : Addr) (ns : List Int), vs = [V.ref a] ∧ (SqL K H a (ns.map V.int) ∨ SqT K H a (ns.map V.int)) ∧ 0 < ns.length ∧ ∀ m, m ∈ ns → (∀ y, y ∈ ns → y ≤ m) → Q (.int m) H
def rMinQ (K : PySem.W.Frag) : List V → Hp → VK → Prop := fun vs H Q => ∃ (a : Addr) (ns : List Int), vs = [V.ref a] ∧ (SqL K H a (ns.map V.int) ∨ SqT K H a (ns.map V.int)) ∧ 0 < ns.length ∧ ∀ m, m ∈ ns → (∀ y, y ∈ ns → m ≤ y) → Q (.int m) H
section
variable {X : Cx}
theorem b_maxQ (hc : X.calm = true) : CallR X (.builtin "max") (rMaxQ X.K) := by
  intro pins s σ H vs us Q I r h
  obtain ⟨a, ns, rfl, hs | hs, hne, q⟩ := h
  · exact cr_max hc pins s σ H _ us Q I r ⟨a, ns, rfl, hs, hne, q⟩
  · obtain ⟨its, rv, hl, _⟩ := I.tuple hs
    rw [Vals.ref1 r]
    obtain ⟨o, ho, hc', n, hd⟩ := hl
    exact max_rawT (I.ok.hd hc) ⟨o, ho, hc', n, hd⟩ rv.ints hne fun h' tk m t' hk h1 h2 => ⟨.int _, H, I.kept hk, ⟨_, rfl⟩, q m h1 h2⟩
theorem b_minQ (hc : X.calm = true) : CallR X (.builtin "min") (rMinQ X.K) := by
  intro pins s σ H vs us Q I r h
  obtain ⟨a, ns, rfl, hs | hs, hne, q⟩ := h
  · exact cr_min hc pins s σ H _ us Q I r ⟨a, ns, rfl, hs, hne, q⟩
  · obtain ⟨its, rv, hl, _⟩ := I.tuple hs
    rw [Vals.ref1 r]
    obtain ⟨o, ho, hc', n, hd⟩ := hl
    exact min_rawT (I.ok.hd hc) ⟨o, ho, hc', n, hd⟩ rv.ints hne fun h' tk m t' hk h1 h2 => ⟨.int _, H, I.kept hk, ⟨_, rfl⟩, q m h1 h2⟩
end
end MyL

set_option Elab.async false
set_option linter.all false
set_option maxRecDepth 100000
set_option maxHeartbeats 4000000
/-! Steps for list methods, list(..), tuple(..), in, tests against [], comprehensions with a test. -/
namespace MyL
open PySem PySem.Spec PyProof.Rows L2
section
variable {X : Cx}
def rListOf (K : PySem.W.Frag) : List V → Hp → VK → Prop := fun xs H Q => ∃ p ys, xs = [.ref p] ∧ (SqL K H p ys ∨ SqT K H p ys) ∧ ∀ l, H l = none → Q (.ref l) (upd H l (.lst ys))
def rTupleOf (K : PySem.W.Frag) : List V → Hp → VK → Prop := fun xs H Q => ∃ p ys, xs = [.ref p] ∧ ((SqL K H p ys ∧ ∀ l, H l = none → Q (.ref l) (upd H l (.tup ys))) ∨ (SqT K H p ys ∧ Q (.ref p) H))
theorem b_listOf : CallR X (.type "list") (rListOf X.K) := call_list_of
theorem b_tupleOf : CallR X (.type "tuple") (rTupleOf X.K) := call_tuple_of
end
section
variable {σ : L2.St} {H : Hp} {Q : VK} {K : PySem.W.Frag} {T : String} {r : V → List V → Hp → VK → Prop} {to te : TE} {t : TA} {tt : TT} {B : Hp} {ms : List Addr} {f l : List (Addr × HO)} {p : Addr} {xs : List V} {y : V} {x0 x1 x2 x3 : Addr × HO} {vs : List Nat}
theorem k_bm (h : to σ H fun x H1 => tyV K T x H1 ∧ t σ H1 fun xs H2 => r x xs H2 Q) : tBM K T r to t σ H Q := h
theorem k_bm0 (h : to σ H fun x H1 => tyV K T x H1 ∧ r x [] H1 Q) : tBM0 K T r to σ H Q := h
theorem k_tyL {PR : Prop} (h : H p = some (.lst xs)) (q : PR) : tyV K "list" (.ref p) H ∧ PR := ⟨.inl ⟨rfl, xs, SqL.of h⟩, q⟩
theorem k_appL0 (M : Mem B ms H f ((p, .lst xs) :: l)) (hs : xs.length < sizeLine) (q : ∀ H', Mem B ms H' f ((p, .lst (xs ++ [y])) :: l) → Q .non H') : rAppend (.ref p) [y] H Q :=
  ⟨p, xs, y, rfl, rfl, M.getL List.mem_cons_self, hs, q _ (Mem.setL (l1 := []) M)⟩
theorem k_appL1 (M : Mem B ms H f (x0 :: (p, .lst xs) :: l)) (hs : xs.length < sizeLine) (q : ∀ H', Mem B ms H' f (x0 :: (p, .lst (xs ++ [y])) :: l) → Q .non H') : rAppend (.ref p) [y] H Q :=
  ⟨p, xs, y, rfl, rfl, M.getL (by simp), hs, q _ (Mem.setL (l1 := [x0]) M)⟩
theorem k_appL2 (M : Mem B ms H f (x0 :: x1 :: (p, .lst xs) :: l)) (hs : xs.length < sizeLine) (q : ∀ H', Mem B ms H' f (x0 :: x1 :: (p, .lst (xs ++ [y])) :: l) → Q .non H') : rAppend (.ref p) [y] H Q :=
  ⟨p, xs, y, rfl, rfl, M.getL (by simp), hs, q _ (Mem.setL (l1 := [x0, x1]) M)⟩
theorem k_appL3 (M : Mem B ms H f (x0 :: x1 :: x2 :: (p, .lst xs) :: l)) (hs : xs.length < sizeLine) (q : ∀ H', Mem B ms H' f (x0 :: x1 :: x2 :: (p, .lst (xs ++ [y])) :: l) → Q .non H') : rAppend (.ref p) [y] H Q :=
  ⟨p, xs, y, rfl, rfl, M.getL (by simp), hs, q _ (Mem.setL (l1 := [x0, x1, x2]) M)⟩
theorem k_revL0 (M : Mem B ms H f ((p, .lst xs) :: l)) (q : ∀ H', Mem B ms H' f ((p, .lst xs.reverse) :: l) → Q .non H') : rReverse (.ref p) [] H Q :=
  ⟨p, xs, rfl, rfl, M.getL List.mem_cons_self, q _ (Mem.setL (l1 := []) M)⟩
theorem k_revL1 (M : Mem B ms H f (x0 :: (p, .lst xs) :: l)) (q : ∀ H', Mem B ms H' f (x0 :: (p, .lst xs.reverse) :: l) → Q .non H') : rReverse (.ref p) [] H Q :=
  ⟨p, xs, rfl, rfl, M.getL (by simp), q _ (Mem.setL (l1 := [x0]) M)⟩
theorem k_listOf (M : Mem B ms H f l) (h : SqL K H p xs ∨ SqT K H p xs) (q : ∀ d H', Mem B ms H' f ((d, .lst xs) :: l) → Q (.ref d) H') : rListOf K [.ref p] H Q := ⟨p, xs, rfl, h, fun d hd => q d _ (M.alloc hd)⟩
theorem k_tupleOf (M : Mem B ms H f l) (h : SqL K H p xs) (q : ∀ d H', Mem B ms H' f ((d, .tup xs) :: l) → Q (.ref d) H') : rTupleOf K [.ref p] H Q := ⟨p, xs, rfl, .inl ⟨h, fun d hd => q d _ (M.alloc hd)⟩⟩
theorem k_tupleOfT (h : SqT K H p xs) (q : Q (.ref p) H) : rTupleOf K [.ref p] H Q := ⟨p, xs, rfl, .inr ⟨h, q⟩⟩
theorem inV_ints {n : Int} {ns : List Int} : inV (.int n) (ns.map V.int) = decide (n ∈ ns) := by
  rw [Bool.eq_iff_iff]
  simp [inV, eqV]
theorem flat_ints {ns : List Int} : (ns.map V.int).all flatV = true := by simp [flatV]
theorem k_inI {n : Int} {ns : List Int} (h : SqL K H p (ns.map V.int) ∨ SqT K H p (ns.map V.int)) (q : Q (.bl (decide (n ∈ ns))) H) : rIn K false (.int n) (.ref p) H Q :=
  ⟨p, _, rfl, h, rfl, flat_ints, by show Q (.bl (inV (.int n) (ns.map V.int))) H; rw [inV_ints]; exact q⟩
/-- a list against [] -/
theorem k_neNil {b : Addr} {ds : List PyData} (h1 : SqL K H p xs) (h2 : H b = some (.lst [])) (hd : DpAll K H xs ds) (hs : SeqAt.shaped (.list ds) = true) (q : Q (.bl (!xs.isEmpty)) H) : rNeD K (.ref p) (.ref b) H Q := by
  refine ⟨.list ds, .list [], .lst h1 hd, .lst (SqL.of h2) .nil, hs, by decide +kernel, ?_⟩
  have e : PyData.eqv (.list ds) (.list []) = xs.isEmpty := by
    cases hd with
    | nil => rfl
    | cons _ _ => rfl
  rw [e]; exact q
theorem dp_ints {ns : List Int} : DpAll K H (ns.map V.int) (ns.map PyData.int) := by
  induction ns with
  | nil => exact .nil
  | cons n ns ih => exact .cons (.int n) ih
theorem lcL_sel {a : Addr} {j : Nat} (M : Mem B ms H f l) (hx : ∀ H' D acc, Mem B ms H' f ((D, .lst acc) :: l) → SqL K H' a xs) (P : V → Bool) (v : V → V) (hn : xs.length ≤ 50000) (hw : ∀ x, wipe ((wipe σ vs).set j (some x)) vs = wipe σ vs)
    (ht : ∀ x H' D acc (R : Bool → Hp → Prop), x ∈ xs → Mem B ms H' f ((D, .lst acc) :: l) → (∀ H4, Mem B ms H4 f ((D, .lst acc) :: l) → R (P x) H4) → tt ((wipe σ vs).set j (some x)) H' R)
    (he : ∀ x H' D acc (R : VK), x ∈ xs → P x = true → Mem B ms H' f ((D, .lst acc) :: l) → (∀ H4, Mem B ms H4 f ((D, .lst acc) :: l) → R (v x) H4) → te ((wipe σ vs).set j (some x)) H' R)
    (k : ∀ (D : Addr) (H' : Hp), Mem B ms H' f ((D, .lst ((xs.filter P).map v)) :: l) → Q (.ref D) H') : tLc (iJ (Itl K a)) (gName j) tt te vs σ H Q := by
  refine lc_lst (xs := xs) fun D hD => ⟨fun i H' => Mem B ms H' f ((D, .lst (((xs.take i).filter P).map v)) :: l), M.alloc hD, fun i H' _ M' => hx H' D _ M', fun i x H' hi M' => ⟨hw _, ?_⟩, fun H' M' => k D H' (by dsimp only at M'; rw [List.take_length] at M'; exact M')⟩
  have hm := List.mem_of_getElem? hi
  have hil := (List.getElem?_eq_some_iff.mp hi).1
  have htk : xs.take (i + 1) = xs.take i ++ [x] := by rw [List.take_add_one, hi]; rfl
  refine ht x H' D _ _ hm M' fun H4 M4 => ?_
  by_cases hp : P x = true
  · rw [hp, if_pos rfl]
    refine he x H4 D _ _ hm hp M4 fun H5 M5 => ⟨_, M5.getL List.mem_cons_self, ?_, ?_⟩
    · rw [List.length_map]
      have h1 := List.length_filter_le P (xs.take i)
      have h2 := List.length_take_le i xs
      exact Nat.lt_of_le_of_lt (Nat.le_trans h1 h2) (Nat.lt_of_lt_of_le hil (Nat.le_trans hn (by decide)))
    · dsimp only
      rw [htk, List.filter_append, List.map_append]
      have e : ([x].filter P).map v = [v x] := by simp [hp]
      rw [e]; exact Mem.setL (l1 := []) M5
  · have hf : P x = false := by simpa using hp
    rw [hf, if_neg (by decide)]
    dsimp only
    rw [htk, List.filter_append]
    have e : [x].filter P = [] := by simp [hf]
    rw [e, List.append_nil]; exact M4
end
end MyL
namespace MyL
open PySem PySem.Spec PyProof.Rows L2
def StaAt (K : PySem.W.Frag) (C : Addr) (m qual : Str) (st : Stmt) : Prop := ∃ (p g : Addr) (fd : FuncData), StaOf K C m p g ∧ Fun K m qual st g fd
section
variable {P : Program} {w : World} {K : PySem.W.Frag} {mg : Str → Option Value} {base h : Heap} {k : Nat} {C f p : Addr} {x m qual : Str} {sp : Sp} {st : Stmt} {fd : FuncData} {ps : List Str} {oc : Value} {od an : Option Addr} {osl : Array (Option Value)} {kV doc pm cdv ct : Value} {rest : List Value}
theorem gsta (ga : PySem.W.specialIn K (.ref C) "__getattribute__" = some (some (.builtin "type.__getattribute__"))) (rd : PySem.W.readsIn K C (.type "type") = true)
    (a : PySem.W.findCls K (.ref C) (.type "type") m = some (.get (.builtin "staticmethod.__get__") (.ref p) .none (.ref C))) (r : PySem.W.recIn K p "staticmethod" = some (.ref f :: rest))
    (l : K.lookup f = some ⟨oc, od, .func (PySem.W.fnOf m qual (defArgs st) (defBody st) (defScope st) .none kV doc pm an cdv ct), osl⟩)
    (c : PySem.W.codeIn K cdv qual = true) (kp : PySem.W.keepIn K (.ref f) = true) : StaAt K C m qual st := ⟨p, f, _, ⟨ga, rd, a, ⟨rest, r⟩, kp⟩, fun_mk l c kp⟩
theorem sta_of (D : StaAt K C m qual st) (hb : BindsSt m qual st ps) (ok : ∀ {f : Addr} {fd : FuncData}, Fun K m qual st f fd → FnOk P w K mg base (L2.CX P w) k f fd ps sp) : Sta P w K mg base k C m sp := by
  obtain ⟨p, f, fd, a, F⟩ := D
  exact ⟨p, f, fd, ps, a, F.binds hb, ok F⟩
theorem plain_mk (X : K.In h) (G : h.Ns mainGlobals mg) (g : PySem.W.nsIn K mainGlobals x = some (some (.ref C))) (kC : PySem.W.keepIn K (.ref C) = true) (e : PySem.W.excIn K C [.type "ValueError", .type "Exception", .type "BaseException", .type "object"] "ValueError.__new__" = true)
    (sb : PySem.W.subIn K (.ref C) (.type "BaseException") = some true) (ty : PySem.W.typeIn K (.ref C) = some (.type "type")) : PlainErr K mg x C := ⟨PySem.W.mg_of X G g, kC, e, sb, ty⟩
end
end MyL

set_option Elab.async false
set_option linter.all false
set_option maxRecDepth 100000
set_option maxHeartbeats 4000000
/-! Walks over a list or a tuple, unpacking, while, all, extend; pairs of numbers in the heap. -/
namespace MyL
open PySem PySem.Spec PyProof.Rows L2
/-- a list or a tuple of xs -/
def Sq (H : Hp) (a : Addr) (xs : List V) : Prop := H a = some (.lst xs) ∨ H a = some (.tup xs)
theorem Sq.same {H H' : Hp} {a : Addr} {xs : List V} (h : Sq H a xs) (s : Same H H') : Sq H' a xs := h.elim (fun z => .inl (s _ _ z)) fun z => .inr (s _ _ z)
def rIsN0 : R2 := fun x y H Q => y = .non ∧ Q (.bl (decide (x = .non))) H
def rNotN0 : R2 := fun x y H Q => y = .non ∧ Q (.bl (!decide (x = .non))) H
theorem op_isN0 {X : Cx} : OpR X (compareOp .Is) rIsN0 := op_isN
theorem op_notN0 {X : Cx} : OpR X (compareOp .IsNot) rNotN0 := op_notN
def iOr (a b : TI) : TI := fun σ H R => a σ H R ∨ b σ H R
section
variable {X : Cx} {tg l : Expr} {tl : TE} {a b : TI}
theorem pi_or (h1 : PI X tg l a) (h2 : PI X tg l b) : PI X tg l (iOr a b) := ⟨fun pins s σ H R I h => h.elim (h1.run pins s σ H R I) (h2.run pins s σ H R I)⟩
theorem pi_seq (h : PE X l tl) : PI X tg l (iOr (iList X.K tl) (iTup X.K tl)) := pi_or (pi_list h) (pi_tup h)
end
section
variable {nx : L2.St → Hp → Prop} {rt : VK} {bk ct : L2.St → Hp → Prop} {σ : L2.St} {H : Hp} {tb : TS} {g : TG} {te tl : TE} {tt : TT} {Q : VK} {tA : TA} {K : PySem.W.Frag} {D : Ends} {vs : List Nat} {B : Hp} {ms : List Addr} {f l : List (Addr × HO)}
theorem sq_loop {n : Nat} {a : Addr} {xs : List V} (hv : σ[n]? = some (some (.ref a))) (hq : Sq H a xs) (Pv : Nat → L2.St → Hp → Prop) (h0 : Pv 0 σ H) (hk : ∀ i σ' H', i ≤ xs.length → Pv i σ' H' → Same H H')
    (hs : ∀ i x σ' H', xs[i]? = some x → Pv i σ' H' → g x σ' H' fun σ2 H2 => tb ⟨Pv (i + 1), rt, nx, Pv (i + 1)⟩ σ2 H2) (hd : ∀ σ' H', Pv xs.length σ' H' → nx σ' H') : tFor (iOr (iList K (tVar n)) (iTup K (tVar n))) g tb ⟨nx, rt, bk, ct⟩ σ H := by
  rcases hq with hq | hq
  · exact .inl ⟨_, hv, a, rfl, ⟨xs, SqL.of hq⟩, lst_loop (K := K) ⟨Pv, h0, fun i σ' H' hi hp => SqL.of (hk i σ' H' hi hp _ _ hq), hs, hd⟩⟩
  · exact .inr ⟨_, hv, a, rfl, ⟨xs, SqT.of hq⟩, tup_loop (K := K) ⟨Pv, h0, fun i σ' H' hi hp => SqT.of (hk i σ' H' hi hp _ _ hq), hs, hd⟩⟩
def LcT (K : PySem.W.Frag) (a : Addr) (xs : List V) (g : TG) (tt : TT) (te : TE) (vs : List Nat) (σ : L2.St) (H : Hp) (Q : VK) : Prop :=
  ∀ D, H D = none → ∃ Pv : Nat → Hp → Prop, Pv 0 (upd H D (.lst [])) ∧ (∀ i H', i ≤ xs.length → Pv i H' → SqT K H' a xs) ∧ (∀ i x H', xs[i]? = some x → Pv i H' → g x (wipe σ vs) H' fun σ2 H2 => wipe σ2 vs = wipe σ vs ∧ tt σ2 H2 fun b H3 =>
    if b = true then te σ2 H3 fun y H4 => ∃ acc, H4 D = some (.lst acc) ∧ acc.length < sizeLine ∧ Pv (i + 1) (upd H4 D (.lst (acc ++ [y]))) else Pv (i + 1) H3) ∧ ∀ H', Pv xs.length H' → Q (.ref D) H'
theorem lc_tupW {a : Addr} {xs : List V} (h : LcT K a xs g tt te vs σ H Q) : tLc (iJ (Itt K a)) g tt te vs σ H Q := fun D hD => by
  obtain ⟨Pv, h0, hl, hs, hd⟩ := h D hD
  exact lc_tup Pv h0 hl hs hd
theorem k_lcT (h : tl σ H fun x H1 => ∃ a, x = .ref a ∧ (∃ xs, SqT K H1 a xs) ∧ tLc (iJ (Itt K a)) g tt te vs σ H1 Q) : tLc (iTup K tl) g tt te vs σ H Q := h
theorem lcT_pure {a : Addr} {xs : List V} {j : Nat} (M : Mem B ms H f l) (hx : ∀ H', Mem B ms H' f l → SqT K H' a xs) (v : Nat → V) (hn : xs.length ≤ 50000) (hw : ∀ x, wipe ((wipe σ vs).set j (some x)) vs = wipe σ vs)
    (he : ∀ (i : Nat) x H' D (R : VK), xs[i]? = some x → Mem B ms H' f ((D, .lst ((List.range i).map v)) :: l) → (∀ H4, Mem B ms H4 f ((D, .lst ((List.range i).map v)) :: l) → R (v i) H4) → te ((wipe σ vs).set j (some x)) H' R)
    (k : ∀ D H', Mem B ms H' f ((D, .lst ((List.range xs.length).map v)) :: l) → Q (.ref D) H') : tLc (iJ (Itt K a)) (gName j) tYes te vs σ H Q := by
  refine lc_tupW (xs := xs) fun D hD => ⟨fun i H' => Mem B ms H' f ((D, .lst ((List.range i).map v)) :: l), M.alloc hD, fun i H' _ M' => hx H' M'.drop, fun i x H' hi M' => ⟨hw _, ?_⟩, fun H' M' => k D H' M'⟩
  refine iteT (B := Mem B ms H' f ((D, .lst ((List.range (i + 1)).map v)) :: l)) (he i x H' D _ hi M' fun H4 M4 => ⟨_, M4.getL List.mem_cons_self, ?_, ?_⟩)
  · rw [List.length_map, List.length_range]; exact Nat.lt_of_lt_of_le (List.getElem?_eq_some_iff.mp hi).1 (Nat.le_trans hn (by decide))
  · dsimp only; rw [List.range_succ, List.map_append]; exact Mem.setL (l1 := []) M4
theorem lcQ_pure {n : Nat} {a : Addr} {xs : List V} {j : Nat} (hv : σ[n]? = some (some (.ref a))) (hq : Sq H a xs) (M : Mem B ms H f l) (hx : ∀ H', Mem B ms H' f l → Same H H') (v : Nat → V) (hn : xs.length ≤ 50000) (hw : ∀ x, wipe ((wipe σ vs).set j (some x)) vs = wipe σ vs)
    (he : ∀ (i : Nat) x H' D (R : VK), xs[i]? = some x → Mem B ms H' f ((D, .lst ((List.range i).map v)) :: l) → (∀ H4, Mem B ms H4 f ((D, .lst ((List.range i).map v)) :: l) → R (v i) H4) → te ((wipe σ vs).set j (some x)) H' R)
    (k : ∀ D H', Mem B ms H' f ((D, .lst ((List.range xs.length).map v)) :: l) → Q (.ref D) H') : tLc (iOr (iList K (tVar n)) (iTup K (tVar n))) (gName j) tYes te vs σ H Q := by
  rcases hq with hq | hq
  · exact .inl ⟨_, hv, a, rfl, ⟨xs, SqL.of hq⟩, lcL_pure M (fun H' M' => SqL.of (hx H' M' _ _ hq)) v hn hw he k⟩
  · exact .inr ⟨_, hv, a, rfl, ⟨xs, SqT.of hq⟩, lcT_pure M (fun H' M' => SqT.of (hx H' M' _ _ hq)) v hn hw he k⟩
/-- a comprehension over a range with a test, whose element is a new object -/
theorem lcR_selNew {lo : Int} {n j : Nat} (M : Mem B ms H f l) (P : Nat → Bool) (O : Nat → HO) (hn : n ≤ 50000) (hw : ∀ x, wipe ((wipe σ vs).set j (some x)) vs = wipe σ vs)
    (ht : ∀ (i : Nat) H' l' (R : Bool → Hp → Prop), i < n → Mem B ms H' f l' → (∀ H4, Mem B ms H4 f l' → R (P i) H4) → tt ((wipe σ vs).set j (some (.int (lo + i)))) H' R)
    (he : ∀ (i : Nat) H' l' (R : VK), i < n → P i = true → Mem B ms H' f l' → (∀ y H4, Mem B ms H4 f ((y, O i) :: l') → R (.ref y) H4) → te ((wipe σ vs).set j (some (.int (lo + i)))) H' R)
    (k : ∀ (D : Addr) (zs : List (Addr × HO)) (H' : Hp), zs.map (·.2) = ((List.range n).filter P).map O → Mem B ms H' f ((D, .lst (zs.map fun z => V.ref z.1)) :: (zs.reverse ++ l)) → Q (.ref D) H') : tLc (iJ (Itr lo n)) (gName j) tt te vs σ H Q := by
  refine lc_rng fun D hD => ⟨fun i H' => ∃ zs : List (Addr × HO), zs.map (·.2) = ((List.range i).filter P).map O ∧ Mem B ms H' f ((D, .lst (zs.map fun z => V.ref z.1)) :: (zs.reverse ++ l)), ?_, ?_, ?_⟩
  · exact ⟨[], rfl, M.alloc hD⟩
  · rintro i H' hi ⟨zs, hz, M'⟩
    refine ⟨hw _, ?_⟩
    refine ht i H' _ _ hi M' fun H4 M4 => ?_
    by_cases hp : P i = true
    · rw [hp, if_pos rfl]
      refine he i H4 _ _ hi hp M4 fun y H5 M5 => ⟨_, M5.getL (List.mem_cons_of_mem _ List.mem_cons_self), ?_, zs ++ [(y, O i)], ?_, ?_⟩
      · have e := congrArg List.length hz
        rw [List.length_map, List.length_map] at e
        have h1 := List.length_filter_le P (List.range i)
        rw [List.length_range] at h1
        rw [List.length_map]
        exact Nat.lt_of_lt_of_le (by omega : zs.length < n) (Nat.le_trans hn (by decide))
      · rw [List.map_append, hz, List.range_succ, List.filter_append, List.map_append]
        simp [hp]
      · have := (Mem.setL (l1 := [(y, O i)]) (o' := .lst (List.map (fun z : Addr × HO => V.ref z.1) (zs ++ [(y, O i)]))) M5).swap
        simpa using this
    · have hf : P i = false := by simpa using hp
      rw [hf, if_neg (by decide)]
      refine ⟨zs, ?_, M4⟩
      rw [hz, List.range_succ, List.filter_append]
      simp [hf]
  · rintro H' ⟨zs, hz, M'⟩
    exact k D zs H' hz M'
/-! ### unpacking -/
theorem k_asgT {n : Nat} {t : TGs} (h : te σ H fun x H1 => gTup K n t x σ H1 nx) : tAsg te (gTup K n t) ⟨nx, rt, bk, ct⟩ σ H := h
theorem k_gTup {n : Nat} {t : TGs} {p : Addr} {xs : List V} {QG : L2.St → Hp → Prop} (h : H p = some (.tup xs)) (hl : xs.length = n) (q : t xs σ H QG) : gTup K n t (.ref p) σ H QG := ⟨p, xs, rfl, SqT.of h, hl, q⟩
theorem k_gCons {t : TG} {u : TGs} {v : V} {r : List V} {QG : L2.St → Hp → Prop} (q : t v σ H fun σ' H' => u r σ' H' QG) : gCons t u (v :: r) σ H QG := ⟨v, r, rfl, q⟩
theorem k_gNil {QG : L2.St → Hp → Prop} (q : QG σ H) : gNil [] σ H QG := ⟨rfl, q⟩
theorem k_par {i j : Nat} (h : tA σ H fun vs H1 => ∃ v w, vs = [v, w] ∧ nx ((σ.set i (some v)).set j (some w)) H1) : tPar i j tA ⟨nx, rt, bk, ct⟩ σ H := h
theorem k_two {v w : V} {PR : V → V → Prop} (q : PR v w) : ∃ v' w', [v, w] = [v', w'] ∧ PR v' w' := ⟨v, w, rfl, q⟩
/-! ### while -/
theorem k_while {tc : TT} (Pv : L2.St → Hp → Prop) (μ : L2.St → Hp → Nat) (h0 : Pv σ H)
    (hs : ∀ σ' H', Pv σ' H' → tc σ' H' fun b H1 => if b = true then ∃ N : L2.St → Hp → Prop, (∀ σ2 H2, N σ2 H2 → ∃ m', m' < μ σ' H' ∧ (m' = μ σ2 H2 ∧ Pv σ2 H2)) ∧ tb ⟨N, rt, nx, N⟩ σ' H1 else nx σ' H1) : tWhile tc tb ⟨nx, rt, bk, ct⟩ σ H := by
  refine ⟨fun m σ H => m = μ σ H ∧ Pv σ H, ⟨_, rfl, h0⟩, ?_⟩
  rintro m σ' H' ⟨rfl, p⟩
  exact hs σ' H' p
theorem k_turn {Pv : L2.St → Hp → Prop} {μ : L2.St → Hp → Nat} {m : Nat} (h : tb ⟨fun σ2 H2 => Pv σ2 H2 ∧ μ σ2 H2 < m, rt, nx, fun σ2 H2 => Pv σ2 H2 ∧ μ σ2 H2 < m⟩ σ H) :
    ∃ N : L2.St → Hp → Prop, (∀ σ2 H2, N σ2 H2 → ∃ m', m' < m ∧ (m' = μ σ2 H2 ∧ Pv σ2 H2)) ∧ tb ⟨N, rt, nx, N⟩ σ H := ⟨_, fun σ2 H2 ⟨a, b⟩ => ⟨_, b, rfl, a⟩, h⟩
/-! ### all, isinstance, is None -/
theorem k_all {p : Addr} {bs : List Bool} (h : H p = some (.lst (bs.map V.bl))) (q : Q (.bl (bs.all id)) H) : rAll K [.ref p] H Q := ⟨p, bs, rfl, SqL.of h, q⟩
theorem k_isiL {p : Addr} {xs : List V} {c : String} {b : Bool} (h : H p = some (.lst xs)) (e : PySem.W.kitOne K (.type "list") (.type c) = some b) (q : Q (.bl b) H) : rIsi K [.ref p, .ty c] H Q := ⟨_, _, _, _, b, rfl, .ty c, .base (.lst h), e, q⟩
theorem k_isiT {p : Addr} {xs : List V} {c : String} {b : Bool} (h : H p = some (.tup xs)) (e : PySem.W.kitOne K (.type "tuple") (.type c) = some b) (q : Q (.bl b) H) : rIsi K [.ref p, .ty c] H Q := ⟨_, _, _, _, b, rfl, .ty c, .base (.tup h), e, q⟩
theorem k_isN {x : V} (q : Q (.bl (decide (x = .non))) H) : rIsN0 x .non H Q := ⟨rfl, q⟩
theorem k_notN {x : V} (q : Q (.bl (!decide (x = .non))) H) : rNotN0 x .non H Q := ⟨rfl, q⟩
theorem k_eqV {x y : V} (h : scal x y = true) (q : Q (.bl (decide (x = y))) H) : rEq x y H Q := ⟨h, q⟩
theorem k_neV {x y : V} (h : scal x y = true) (q : Q (.bl (!decide (x = y))) H) : rNe x y H Q := ⟨h, q⟩
theorem k_ixQ {p : Addr} {xs : List V} {j : Int} {v : V} (h : Sq H p xs) (ha : atI xs j = some v) (q : Q v H) : rIx K (.ref p) (.int j) H Q := by
  rcases h with h | h
  · exact .inl ⟨p, xs, j, v, rfl, rfl, SqL.of h, ha, q⟩
  · exact .inr (.inl ⟨p, xs, j, v, rfl, rfl, SqT.of h, ha, q⟩)
theorem k_lenQ {p : Addr} {xs : List V} (h : Sq H p xs) (q : Q (.int xs.length) H) : rLenQ K [.ref p] H Q := ⟨p, xs, rfl, h.elim (fun z => .inl (SqL.of z)) fun z => .inr (SqT.of z), q⟩
/-! ### what was made, in another order -/
theorem Mem.perm {l' : List (Addr × HO)} (M : Mem B ms H f l) (h : l.Perm l') : Mem B ms H f l' :=
  ⟨M.atF, fun p hp => M.atL p (h.mem_iff.mpr hp), by
    have e := (h.append_right f).map (·.1)
    exact e.nodup_iff.mp M.nd, M.keep, M.tr, fun p hp => M.new p (h.mem_iff.mpr hp)⟩
theorem Mem.sub {l' : List (Addr × HO)} (M : Mem B ms H f l) (h : l'.Sublist l) : Mem B ms H f l' :=
  ⟨M.atF, fun p hp => M.atL p (h.subset hp), by
    have e := (h.append_right f).map (·.1)
    exact e.nodup M.nd, M.keep, M.tr, fun p hp => M.new p (h.subset hp)⟩
theorem k_ext {p b : Addr} {xs zs : List V} (M : Mem B ms H f ((p, .lst xs) :: l)) (hb : H b = some (.lst zs)) (hs : xs.length + zs.length ≤ sizeLine) (q : ∀ H', Mem B ms H' f ((p, .lst (xs ++ zs)) :: l) → Q .non H') : rExtend (.ref p) [.ref b] H Q :=
  ⟨p, b, xs, zs, rfl, rfl, M.getL List.mem_cons_self, hb, hs, q _ (Mem.setL (l1 := []) M)⟩
/-! ### pairs of numbers -/
abbrev Pr := Int × Int
abbrev prO (s : Pr) : HO := .tup [.int s.1, .int s.2]
/-- xs are the pairs ss, each told by R -/
def PG (R : Addr → Pr → Prop) (xs : List V) (ss : List Pr) : Prop := xs.length = ss.length ∧ ∀ (i : Nat) (x : V) (s : Pr), xs[i]? = some x → ss[i]? = some s → ∃ p, x = .ref p ∧ R p s
/-- .. in the heap -/
abbrev Prs (H : Hp) : List V → List Pr → Prop := PG fun p s => H p = some (prO s)
/-- .. among what was made -/
abbrev PrL (l : List (Addr × HO)) : List V → List Pr → Prop := PG fun p s => (p, prO s) ∈ l
section
variable {R R' : Addr → Pr → Prop} {xs ys : List V} {ss ts : List Pr}
theorem PG.nil : PG R [] [] := ⟨rfl, fun i x s h => by simp at h⟩
theorem PG.get (h : PG R xs ss) {i : Nat} {x : V} (hx : xs[i]? = some x) : ∃ s p, ss[i]? = some s ∧ x = .ref p ∧ R p s := by
  have hi := (List.getElem?_eq_some_iff.mp hx).1
  rw [h.1] at hi
  obtain ⟨p, e, hp⟩ := h.2 i x _ hx (List.getElem?_eq_getElem hi)
  exact ⟨_, p, List.getElem?_eq_getElem hi, e, hp⟩
theorem PG.mono (h : PG R xs ss) (k : ∀ p s, R p s → R' p s) : PG R' xs ss :=
  ⟨h.1, fun i x s a b => (h.2 i x s a b).imp fun p ⟨e, z⟩ => ⟨e, k p s z⟩⟩
theorem PG.append (h1 : PG R xs ss) (h2 : PG R ys ts) : PG R (xs ++ ys) (ss ++ ts) := by
  refine ⟨by rw [List.length_append, List.length_append, h1.1, h2.1], fun i x s hx hs => ?_⟩
  by_cases hi : i < xs.length
  · rw [List.getElem?_append_left hi] at hx
    rw [List.getElem?_append_left (by rw [← h1.1]; exact hi)] at hs
    exact h1.2 i x s hx hs
  · rw [List.getElem?_append_right (by omega)] at hx
    rw [List.getElem?_append_right (by rw [← h1.1]; omega), ← h1.1] at hs
    exact h2.2 _ x s hx hs
theorem PG.one {p : Addr} {s : Pr} (h : R p s) : PG R [.ref p] [s] := ⟨rfl, fun i x s' a b => by
  cases i with
  | zero => simp at a b; subst a b; exact ⟨p, rfl, h⟩
  | succ i => simp at a⟩
theorem Prs.same {H' : Hp} (h : Prs H xs ss) (k : Same H H') : Prs H' xs ss := h.mono fun p s e => k _ _ e
theorem PrL.prs (M : Mem B ms H f l) (h : PrL l xs ss) : Prs H xs ss := h.mono fun p s e => M.getL e
theorem PrL.more {l' : List (Addr × HO)} (h : PrL l xs ss) (k : ∀ z ∈ l, z ∈ l') : PrL l' xs ss := h.mono fun p s e => k _ e
/-- new objects as pairs -/
theorem PG.ofNew {zs : List (Addr × HO)} (h : zs.map (·.2) = ss.map prO) : PrL zs (zs.map fun z => V.ref z.1) ss := by
  have e := congrArg List.length h
  rw [List.length_map, List.length_map] at e
  refine ⟨by rw [List.length_map]; exact e, fun i x s hx hs => ?_⟩
  rw [List.getElem?_map] at hx
  cases hz : zs[i]? with
  | none => rw [hz] at hx; simp at hx
  | some z =>
    rw [hz] at hx
    simp at hx
    have h1 : (zs.map (·.2))[i]? = some z.2 := by rw [List.getElem?_map, hz]; rfl
    rw [h, List.getElem?_map, hs] at h1
    simp at h1
    refine ⟨z.1, hx.symm, ?_⟩
    show (z.1, prO s) ∈ zs
    rw [h1]
    exact List.mem_of_getElem? hz
end
theorem atI_nat {xs : List V} {i : Nat} {x : V} (h : xs[i]? = some x) : atI xs (i : Int) = some x := by
  have hi := (List.getElem?_eq_some_iff.mp h).1
  unfold atI ixN
  rw [if_pos (by omega), if_pos (by omega)]
  simpa using h
theorem atI_nat0 {xs : List V} {i : Nat} {x : V} (h : xs[i]? = some x) : atI xs (0 + (i : Int)) = some x := by rw [Int.zero_add]; exact atI_nat h
theorem atI_0 {xs : List V} {x : V} (h : xs[0]? = some x) : atI xs 0 = some x := atI_nat (i := 0) h
theorem map_range_getD {α β : Type} {ss : List α} {d : α} {v : α → β} : (List.range ss.length).map (fun i => v (ss.getD i d)) = ss.map v := by
  refine List.ext_getElem? fun i => ?_
  rw [List.getElem?_map, List.getElem?_map]
  by_cases hi : i < ss.length
  · rw [List.getElem?_range hi, List.getElem?_eq_getElem hi]; simp [hi]
  · rw [List.getElem?_eq_none (by simpa using hi), List.getElem?_eq_none (by omega)]; rfl
theorem getD_of {α : Type} {ss : List α} {i : Nat} {s d : α} (h : ss[i]? = some s) : ss.getD i d = s := by
  rw [List.getD_eq_getElem?_getD, h]; rfl
theorem all_at {α : Type} {ss : List α} {p : α → Bool} {i : Nat} {s : α} (h : ss[i]? = some s) (hp : p s = false) : ss.all p = false := by
  rw [List.all_eq_false]; exact ⟨s, List.mem_of_getElem? h, by rw [hp]; exact Bool.false_ne_true⟩
theorem all_next {α : Type} {ss : List α} {p : α → Bool} {i : Nat} {s : α} (h : ss[i]? = some s) (hp : p s = true) (ha : (ss.take i).all p = true) : (ss.take (i + 1)).all p = true := by
  rw [List.take_add_one, h, List.all_append, ha]; simp [hp]
theorem Mem.front1 {x0 y : Addr × HO} (M : Mem B ms H f (x0 :: y :: l)) : Mem B ms H f (y :: x0 :: l) := M.swap
theorem Mem.front2 {x0 x1 y : Addr × HO} (M : Mem B ms H f (x0 :: x1 :: y :: l)) : Mem B ms H f (y :: x0 :: x1 :: l) := M.perm ((List.Perm.cons x0 (List.Perm.swap y x1 l)).trans (List.Perm.swap y x0 _))
theorem Mem.front3 {x0 x1 x2 y : Addr × HO} (M : Mem B ms H f (x0 :: x1 :: x2 :: y :: l)) : Mem B ms H f (y :: x0 :: x1 :: x2 :: l) := M.perm ((List.Perm.cons x0 ((List.Perm.cons x1 (List.Perm.swap y x2 l)).trans (List.Perm.swap y x1 _))).trans (List.Perm.swap y x0 _))
theorem Mem.frontA {zs : List (Addr × HO)} {x0 y : Addr × HO} (M : Mem B ms H f (x0 :: (zs ++ y :: l))) : Mem B ms H f (y :: x0 :: (zs ++ l)) := M.perm ((List.Perm.cons x0 List.perm_middle).trans (List.Perm.swap y x0 _))
theorem k_isNn (q : Q (.bl true) H) : rIsN0 .non .non H Q := ⟨rfl, by rw [decide_eq_true rfl]; exact q⟩
theorem k_isNi {i : Int} (q : Q (.bl false) H) : rIsN0 (.int i) .non H Q := ⟨rfl, by rw [decide_eq_false (fun z => nomatch z)]; exact q⟩
theorem k_notNn (q : Q (.bl false) H) : rNotN0 .non .non H Q := ⟨rfl, by rw [decide_eq_true rfl]; exact q⟩
theorem k_notNi {i : Int} (q : Q (.bl true) H) : rNotN0 (.int i) .non H Q := ⟨rfl, by rw [decide_eq_false (fun z => nomatch z)]; exact q⟩
abbrev pd (s : Pr) : PyData := .tuple [.int s.1, .int s.2]
theorem Prs.dp {xs : List V} {ss : List Pr} (h : Prs H xs ss) : DpAll K H xs (ss.map pd) := by
  induction xs generalizing ss with
  | nil =>
    have e := h.1
    cases ss with
    | nil => exact .nil
    | cons s ss => simp at e
  | cons x xs ih =>
    have e := h.1
    cases ss with
    | nil => simp at e
    | cons s ss =>
      obtain ⟨p, rfl, hp⟩ := h.2 0 x s rfl rfl
      refine .cons (.tup (SqT.of hp) (.cons (.int _) (.cons (.int _) .nil))) (ih ⟨by simpa using e, fun i x s a b => h.2 (i + 1) x s (by simpa using a) (by simpa using b)⟩)
theorem pd_lay (ss : List Pr) : PyData.canLayAll0 (ss.map pd) = true := by
  induction ss with
  | nil => rfl
  | cons s ss ih => simp only [List.map_cons, PyData.canLayAll0, PyData.canLay0, ih, Bool.and_self]
theorem pd_depth (ss : List Pr) : PyData.depthAll (ss.map pd) ≤ 1 := by
  induction ss with
  | nil => simp [PyData.depthAll]
  | cons s ss ih => simp only [List.map_cons, PyData.depthAll, PyData.depth]; omega
theorem pd_shaped (ss : List Pr) : SeqAt.shaped (.list (ss.map pd)) = true := by
  have h := pd_depth ss
  unfold SeqAt.shaped
  rw [Bool.and_eq_true, decide_eq_true_eq]
  refine ⟨by simp only [PyData.canLay0]; exact pd_lay ss, by simp only [PyData.depth]; omega⟩
theorem pd_eqv (ss : List Pr) : PyData.eqvAll (ss.map pd) (ss.map pd) = true := by
  induction ss with
  | nil => rfl
  | cons s ss ih => simp only [List.map_cons, PyData.eqvAll, PyData.eqv, ih, beq_self_eq_true, Bool.and_self]
theorem k_eqPrs {a b : Addr} {xs ys : List V} {ss : List Pr} (h1 : H a = some (.lst xs)) (h2 : H b = some (.lst ys)) (p1 : Prs H xs ss) (p2 : Prs H ys ss) (q : Q (.bl true) H) : rEqD K (.ref a) (.ref b) H Q :=
  ⟨_, _, .lst (SqL.of h1) p1.dp, .lst (SqL.of h2) p2.dp, pd_shaped ss, pd_shaped ss, by simp only [PyData.eqv]; rw [pd_eqv]; exact q⟩
theorem k_nePrs {a b : Addr} {xs ys : List V} {ss : List Pr} (h1 : H a = some (.lst xs)) (h2 : H b = some (.lst ys)) (p1 : Prs H xs ss) (p2 : Prs H ys ss) (q : Q (.bl false) H) : rNeD K (.ref a) (.ref b) H Q :=
  ⟨_, _, .lst (SqL.of h1) p1.dp, .lst (SqL.of h2) p2.dp, pd_shaped ss, pd_shaped ss, by simp only [PyData.eqv]; rw [pd_eqv]; exact q⟩
theorem k_neNilP {a b : Addr} {xs : List V} {ss : List Pr} (h1 : H a = some (.lst xs)) (h2 : H b = some (.lst [])) (p1 : Prs H xs ss) (q : Q (.bl (!ss.isEmpty)) H) : rNeD K (.ref a) (.ref b) H Q :=
  k_neNil (SqL.of h1) h2 p1.dp (pd_shaped ss) (by
    have e : xs.isEmpty = ss.isEmpty := by
      have := p1.1
      cases xs <;> cases ss <;> simp at this ⊢
    rw [e]; exact q)
end
end MyL

set_option Elab.async false
set_option linter.all false
set_option maxRecDepth 100000
set_option maxHeartbeats 4000000
/-! The box of a script and draws from it; what a call leaves, joined with what was known. -/
namespace MyL
open PySem PySem.Spec PyProof.Rows L2
section
variable {B H H' : Hp} {ms : List Addr} {f g l l2 : List (Addr × HO)} {a bx : Addr} {o o' : HO}
theorem Mem.comp1 (M : Mem B ms H ((bx, o) :: f) l) (hm : bx ∈ ms) (M2 : Mem H [bx] H' ((bx, o') :: g) l2) : Mem B ms H' ((bx, o') :: f) (l2 ++ l) := by
  have nd := M.nd
  have hne : ∀ q ∈ l ++ f, q.1 ≠ bx := by
    rw [List.map_append, List.map_cons, List.nodup_append] at nd
    obtain ⟨_, n2, n3⟩ := nd
    rw [List.nodup_cons] at n2
    intro q hq z
    rcases List.mem_append.mp hq with hq | hq
    · exact n3 _ (List.mem_map.mpr ⟨q, hq, rfl⟩) _ List.mem_cons_self z
    · exact n2.1 (List.mem_map.mpr ⟨q, hq, z⟩)
  have hk : ∀ q ∈ l ++ f, H' q.1 = some q.2 := fun q hq => M2.keep _ _ ((List.mem_append.mp hq).elim (fun z => M.atL q z) fun z => M.atF q (List.mem_cons_of_mem _ z)) (by simpa using hne q hq)
  refine ⟨fun q hq => ?_, fun q hq => ?_, ?_, fun b u h hmb => ?_, fun m hmm z => ?_, fun q hq => ?_⟩
  · rcases List.mem_cons.mp hq with rfl | h
    · exact M2.atF _ List.mem_cons_self
    · exact hk q (List.mem_append_right _ h)
  · rcases List.mem_append.mp hq with h | h
    · exact M2.atL q h
    · exact hk q (List.mem_append_left _ h)
  · rw [List.append_assoc, List.map_append, List.nodup_append]
    have n2 := M2.nd
    rw [List.map_append, List.nodup_append] at n2
    refine ⟨n2.1, by simpa using nd, fun x hx y hy e => ?_⟩
    obtain ⟨q, hq, rfl⟩ := List.mem_map.mp hx
    have h0 := M2.new q hq
    have h1 := M.ne h0
    exact h1 (by simpa [e] using hy)
  · exact M2.keep _ _ (M.keep b u h hmb) (by intro z; rw [List.mem_singleton] at z; exact hmb (by rw [z]; exact hm))
  · by_cases e : m = bx
    · rw [e] at z; exact M2.tr bx (by simp) z
    · cases e2 : H m with
      | none => exact M.tr m hmm e2
      | some u => rw [M2.keep _ _ e2 (by simpa using e)] at z; cases z
  · rcases List.mem_append.mp hq with h | h
    · exact M.fresh (M2.new q h)
    · exact M.new q h
theorem Mem.comp0 (M : Mem B ms H f l) (M2 : Mem H [] H' g l2) : Mem B ms H' f (l2 ++ l) := by
  have hk : ∀ b u, H b = some u → H' b = some u := fun b u h => M2.keep b u h (by simp)
  refine ⟨fun q hq => hk _ _ (M.atF q hq), fun q hq => ?_, ?_, fun b u h hmb => hk _ _ (M.keep b u h hmb), fun m hmm z => ?_, fun q hq => ?_⟩
  · rcases List.mem_append.mp hq with h | h
    · exact M2.atL q h
    · exact hk _ _ (M.atL q h)
  · rw [List.append_assoc, List.map_append, List.nodup_append]
    have n2 := M2.nd
    rw [List.map_append, List.nodup_append] at n2
    refine ⟨n2.1, M.nd, fun x hx y hy e => ?_⟩
    obtain ⟨q, hq, rfl⟩ := List.mem_map.mp hx
    exact M.ne (M2.new q hq) (by rw [e]; exact hy)
  · cases e2 : H m with
    | none => exact M.tr m hmm e2
    | some u => rw [hk _ _ e2] at z; cases z
  · rcases List.mem_append.mp hq with h | h
    · exact M.fresh (M2.new q h)
    · exact M.new q h
end
/-- the box: the script's list at sc, the place, the digits left, the turn, the seed -/
abbrev boxO (sc : Addr) (pos big turn seed : Int) : HO := .lst [.ref sc, .int pos, .int big, .int turn, .int seed]
def sp_draw : Sp := fun vs H Q _ => ∃ (bx sc : Addr) (ns : List Int) (pos big turn seed size : Int), vs = [.ref bx, .int size] ∧ H bx = some (boxO sc pos big turn seed) ∧ H sc = some (.lst (ns.map V.int)) ∧ bx ≠ sc ∧ 0 ≤ pos ∧ 0 ≤ big ∧ 1 ≤ size ∧ size < 2 ^ 64 ∧
  ∀ (d pos' big' turn' : Int) H', 0 ≤ d → d < size → 0 ≤ pos' → 0 ≤ big' → Keep [bx] H H' → H' bx = some (boxO sc pos' big' turn' seed) → Q (.int d) H'
def sp_box (K : PySem.W.Frag) : Sp := fun vs H Q _ => ∃ (a : Addr) (ns : List Int), vs = [.ref a] ∧ SqL K H a (ns.map V.int) ∧ ns.length ≤ 63 ∧ ∀ (bx sc : Addr) (seed : Int) H', H bx = none → H sc = none → bx ≠ sc → Same H H' → H' bx = some (boxO sc 0 0 0 seed) → H' sc = some (.lst (ns.map V.int)) → Q (.ref bx) H'
section
variable {B H : Hp} {ms : List Addr} {f l : List (Addr × HO)} {Q : VK} {E : XK} {bx sc : Addr} {ns : List Int} {pos big turn seed size : Int}
theorem box_ne (M : Mem B ms H ((bx, boxO sc pos big turn seed) :: (sc, .lst (ns.map V.int)) :: f) l) : bx ≠ sc := by
  have nd := M.nd
  rw [List.map_append, List.nodup_append] at nd
  have := nd.2.1
  simp at this
  exact this.1.1
theorem use_draw (M : Mem B ms H ((bx, boxO sc pos big turn seed) :: (sc, .lst (ns.map V.int)) :: f) l) (hm : bx ∈ ms) (h0 : 0 ≤ pos) (h1 : 0 ≤ big) (h2 : 1 ≤ size) (h3 : size < 2 ^ 64)
    (k : ∀ (d pos' big' turn' : Int) H', 0 ≤ d → d < size → 0 ≤ pos' → 0 ≤ big' → Mem B ms H' ((bx, boxO sc pos' big' turn' seed) :: (sc, .lst (ns.map V.int)) :: f) l → Q (.int d) H') : sp_draw [.ref bx, .int size] H Q E :=
  ⟨bx, sc, ns, pos, big, turn, seed, size, rfl, M.getF List.mem_cons_self, M.getF (by simp), box_ne M, h0, h1, h2, h3, fun d pos' big' turn' H' a1 a2 a3 a4 kp hb => k d pos' big' turn' H' a1 a2 a3 a4 (M.call1 hm kp hb)⟩
/-- a def that draws: what it may answer, by the objects that it makes -/
def sp_drawn (ar : List V → Prop) (R : List V → V → List (Addr × HO) → Prop) : Sp := fun vs H Q _ => ∃ (bx sc : Addr) (ns : List Int) (pos big turn seed : Int) (as : List V), vs = .ref bx :: as ∧ ar as ∧ H bx = some (boxO sc pos big turn seed) ∧ H sc = some (.lst (ns.map V.int)) ∧ bx ≠ sc ∧ 0 ≤ pos ∧ 0 ≤ big ∧
  ∀ (v : V) (l2 : List (Addr × HO)) (pos' big' turn' : Int) H', R as v l2 → 0 ≤ pos' → 0 ≤ big' → Mem H [bx] H' [(bx, boxO sc pos' big' turn' seed), (sc, .lst (ns.map V.int))] l2 → Q v H'
theorem use_drawn {ar : List V → Prop} {R : List V → V → List (Addr × HO) → Prop} {as : List V} (M : Mem B ms H ((bx, boxO sc pos big turn seed) :: (sc, .lst (ns.map V.int)) :: f) l) (hm : bx ∈ ms) (h0 : 0 ≤ pos) (h1 : 0 ≤ big) (ha : ar as)
    (k : ∀ (v : V) (l2 : List (Addr × HO)) (pos' big' turn' : Int) H', R as v l2 → 0 ≤ pos' → 0 ≤ big' → Mem B ms H' ((bx, boxO sc pos' big' turn' seed) :: (sc, .lst (ns.map V.int)) :: f) (l2 ++ l) → Q v H') : sp_drawn ar R (.ref bx :: as) H Q E :=
  ⟨bx, sc, ns, pos, big, turn, seed, as, rfl, ha, M.getF List.mem_cons_self, M.getF (by simp), box_ne M, h0, h1, fun v l2 pos' big' turn' H' hr a3 a4 M2 => k v l2 pos' big' turn' H' hr a3 a4 (M.comp1 hm M2)⟩
end
end MyL

set_option Elab.async false
set_option linter.all false
set_option maxRecDepth 100000
set_option maxHeartbeats 4000000
/-! What the residues' defs do (contracts alone), and a comprehension over two ranges. -/
namespace MyL
open PySem PySem.Spec PyProof.Rows L2
def resF (p l : Int) : List (Str × V) := [("place", .int p), ("length", .int l)]
theorem ne_pl : ¬ (("length" : Str) = "place") := by decide +kernel
theorem ne_lp : ¬ (("place" : Str) = "length") := by decide +kernel
theorem resF_place (p l : Int) : (resF p l).lookup ("place" : Str) = some (.int p) := by
  unfold resF; rw [lookup_put, if_pos rfl]
theorem resF_length (p l : Int) : (resF p l).lookup ("length" : Str) = some (.int l) := by
  unfold resF; rw [lookup_put, if_neg ne_pl, lookup_put, if_pos rfl]
theorem resF_put (p l : Int) : putF "length" (.int l) (putF "place" (.int p) []) = resF p l := by
  show (if ("place" : Str) = "length" then _ else (("place" : Str), V.int p) :: [(("length" : Str), V.int l)]) = _
  rw [if_neg ne_lp]; rfl
theorem resF_no {p l : Int} {m : Str} (h1 : ¬ m = "place") (h2 : ¬ m = "length") : (resF p l).lookup m = none := by
  unfold resF; rw [lookup_put, if_neg h1, lookup_put, if_neg h2]; rfl
def sp_res (C CO : Addr) : Sp := fun vs H Q E => ∃ (x dx : Addr) (p l : Int), vs = [.ref x, .int p, .int l] ∧ H x = some (.ins C dx []) ∧
  (1 ≤ l → ∀ H', H' x = some (.ins C dx (resF (p % l) l)) → (∀ b o, H b = some o → b ≠ x → H' b = some o) → Q .non H') ∧
  (l < 1 → ∀ d, H d = none → E (.ref CO) (some d) (upd H d (.xd [("value", .int l)])))
def sp_resEq (C : Addr) : Sp := fun vs H Q _ => ∃ (a dx b dy : Addr) (p l p2 l2 : Int), vs = [.ref a, .ref b] ∧ H a = some (.ins C dx (resF p l)) ∧ H b = some (.ins C dy (resF p2 l2)) ∧ Q (.bl (decide (p = p2) && decide (l = l2))) H
def sp_resIn (C : Addr) : Sp := fun vs H Q _ => ∃ (a dx : Addr) (p l d : Int), vs = [.ref a, .int d] ∧ H a = some (.ins C dx (resF p l)) ∧ 1 ≤ l ∧ Q (.bl (decide ((d - p) % l = 0))) H
section
variable {B H : Hp} {ms : List Addr} {f l : List (Addr × HO)} {Q : VK} {E : XK} {C CO a dx b dy : Addr} {p n p2 n2 d : Int}
theorem use_resEq (h1 : H a = some (.ins C dx (resF p n))) (h2 : H b = some (.ins C dy (resF p2 n2))) (q : Q (.bl (decide (p = p2) && decide (n = n2))) H) : sp_resEq C [.ref a, .ref b] H Q E := ⟨a, dx, b, dy, p, n, p2, n2, rfl, h1, h2, q⟩
theorem use_resIn (h1 : H a = some (.ins C dx (resF p n))) (hl : 1 ≤ n) (q : Q (.bl (decide ((d - p) % n = 0))) H) : sp_resIn C [.ref a, .int d] H Q E := ⟨a, dx, p, n, d, rfl, h1, hl, q⟩
theorem use_res (M : Mem B ms H f l) (h : 1 ≤ n) (k : ∀ x dx H', Mem B ms H' f ((x, .ins C dx (resF (p % n) n)) :: l) → Q (.ref x) H') :
    newO C (sp_res C CO) [.int p, .int n] H Q E := by
  intro x dx hx hdx hne
  refine ⟨x, dx, p, n, rfl, upd_same, fun _ H' hx' hk => ⟨rfl, k x dx H' (M.sameNew (fun a o e => ?_) hx hx')⟩, fun h' => absurd h (by omega)⟩
  have hax : a ≠ x := ne_of_none e hx
  exact hk a o (by rw [upd_ne hax, upd_ne (ne_of_none e hdx)]; exact e) hax
theorem use_resE (M : Mem B ms H f l) (h : n < 1) (k : ∀ d H', Mem B ms H' f ((d, .xd [("value", .int n)]) :: l) → E (.ref CO) (some d) H') : newO C (sp_res C CO) [.int p, .int n] H Q E := by
  intro x dx hx hdx hne
  refine ⟨x, dx, p, n, rfl, upd_same, fun h' => absurd h' (by omega), fun _ d hd => k d _ ?_⟩
  have s1 : Same H (upd (upd H dx (.own x)) x (.ins C dx [])) := fun a o e => by
    rw [upd_ne (ne_of_none e hx), upd_ne (ne_of_none e hdx)]; exact e
  exact M.sameNew (s1.trans (same_alloc hd)) (s1.free hd) upd_same
end
section
variable {σ : L2.St} {H : Hp} {te : TE} {Q : VK} {K : PySem.W.Frag} {vs vs1 : List Nat} {B : Hp} {ms : List Addr} {f l : List (Addr × HO)} {g g1 : TG} {tt tt1 : TT} {wi1 : TI} {tA : TA}
theorem k_xfB {H : Hp} {D dd : Addr} {fs : List (Str × V)} {f : Str} {v : V} {PV : V → Prop} (hd : H dd = some (.xd fs)) (hl : fs.lookup f = some v) (q : PV v) : Value.ref D = .ref D ∧ ∃ (dd' : Addr) (fs' : List (Str × V)) (v' : V), some dd = some dd' ∧ H dd' = some (.xd fs') ∧ fs'.lookup f = some v' ∧ PV v' := ⟨rfl, dd, fs, v, rfl, hd, hl, q⟩
/-- a comprehension over a range with a test, whose element is reckoned -/
theorem lcR_selV {lo : Int} {n j : Nat} (M : Mem B ms H f l) (P : Nat → Bool) (v : Nat → V) (hn : n ≤ 50000) (hw : ∀ x, wipe ((wipe σ vs).set j (some x)) vs = wipe σ vs)
    (ht : ∀ (i : Nat) H' D acc (R : Bool → Hp → Prop), i < n → Mem B ms H' f ((D, .lst acc) :: l) → (∀ H4, Mem B ms H4 f ((D, .lst acc) :: l) → R (P i) H4) → tt ((wipe σ vs).set j (some (.int (lo + i)))) H' R)
    (he : ∀ (i : Nat) H' D acc (R : VK), i < n → P i = true → Mem B ms H' f ((D, .lst acc) :: l) → (∀ H4, Mem B ms H4 f ((D, .lst acc) :: l) → R (v i) H4) → te ((wipe σ vs).set j (some (.int (lo + i)))) H' R)
    (k : ∀ (D : Addr) (H' : Hp), Mem B ms H' f ((D, .lst (((List.range n).filter P).map v)) :: l) → Q (.ref D) H') : tLc (iJ (Itr lo n)) (gName j) tt te vs σ H Q := by
  refine lc_rng fun D hD => ⟨fun i H' => Mem B ms H' f ((D, .lst (((List.range i).filter P).map v)) :: l), M.alloc hD, fun i H' hi M' => ⟨hw _, ?_⟩, fun H' M' => k D H' M'⟩
  refine ht i H' D _ _ hi M' fun H4 M4 => ?_
  by_cases hp : P i = true
  · rw [hp, if_pos rfl]
    refine he i H4 D _ _ hi hp M4 fun H5 M5 => ⟨_, M5.getL List.mem_cons_self, ?_, ?_⟩
    · rw [List.length_map]
      have h1 := List.length_filter_le P (List.range i)
      rw [List.length_range] at h1
      exact Nat.lt_of_lt_of_le (Nat.lt_of_le_of_lt h1 hi) (Nat.le_trans hn (by decide))
    · dsimp only
      rw [List.range_succ, List.filter_append, List.map_append]
      have e : ([i].filter P).map v = [v i] := by simp [hp]
      rw [e]; exact Mem.setL (l1 := []) M5
  · have hf : P i = false := by simpa using hp
    rw [hf, if_neg (by decide)]
    dsimp only
    rw [List.range_succ, List.filter_append]
    have e : [i].filter P = [] := by simp [hf]
    rw [e, List.append_nil]; exact M4
theorem k_lc2R2 (h : tA σ H fun zs H1 => ∃ i j : Int, zs = [.int i, .int j] ∧ (-(2 ^ 62) ≤ i ∧ i < 2 ^ 62 ∧ -(2 ^ 62) ≤ j ∧ j < 2 ^ 62) ∧ tLc2 (iJ (Itr i (j - i).toNat)) g tt wi1 g1 tt1 te vs vs1 σ H1 Q) : tLc2 (iRng2 tA) g tt wi1 g1 tt1 te vs vs1 σ H Q := h
/-- the objects that two ranges give, the second one to the number of the first -/
def tot2 (lo : Int) (O : Nat → Nat → HO) (n : Nat) : List HO := (List.range n).flatMap fun (i : Nat) => (List.range (lo + i).toNat).map (O i)
theorem tot2_succ (lo : Int) (O : Nat → Nat → HO) (n : Nat) : tot2 lo O (n + 1) = tot2 lo O n ++ (List.range (lo + n).toNat).map (O n) := by
  unfold tot2; rw [List.range_succ, List.flatMap_append]; simp
theorem tot2_len {lo : Int} {O : Nat → Nat → HO} {n : Nat} (h : lo + n ≤ 200) : (tot2 lo O n).length ≤ 200 * n := by
  induction n with
  | zero => simp [tot2]
  | succ n ih =>
    rw [tot2_succ, List.length_append, List.length_map, List.length_range]
    have := ih (by omega)
    omega
theorem lc2R_new {lo : Int} {n j j1 : Nat} (M : Mem B ms H f l) (O : Nat → Nat → HO) (h0 : 0 ≤ lo) (hn : n ≤ 200) (h2 : lo + n ≤ 200) (hw : ∀ x, wipe ((wipe σ vs).set j (some x)) vs = wipe σ vs)
    (hw1 : ∀ x y, wipe ((wipe ((wipe σ vs).set j (some x)) vs1).set j1 (some y)) vs1 = wipe ((wipe σ vs).set j (some x)) vs1) (hv : ∀ x, ((wipe σ vs).set j (some x))[j]? = some (some x))
    (he : ∀ (i k : Nat) H' l' (R : VK), i < n → k < (lo + i).toNat → Mem B ms H' f l' → (∀ y H4, Mem B ms H4 f ((y, O i k) :: l') → R (.ref y) H4) → te ((wipe ((wipe σ vs).set j (some (.int (lo + i)))) vs1).set j1 (some (.int (0 + (k : Int))))) H' R)
    (k : ∀ (D : Addr) (zs : List (Addr × HO)) (H' : Hp), zs.map (·.2) = tot2 lo O n → Mem B ms H' f ((D, .lst (zs.map fun z => V.ref z.1)) :: (zs.reverse ++ l)) → Q (.ref D) H') : tLc2 (iJ (Itr lo n)) (gName j) tYes (iRng1 (tCons (tVar j) tNil)) (gName j1) tYes te vs vs1 σ H Q := by
  intro D hD
  refine ⟨fun i m H' => m = n - i ∧ i ≤ n ∧ ∃ zs : List (Addr × HO), zs.map (·.2) = tot2 lo O i ∧ Mem B ms H' f ((D, .lst (zs.map fun z => V.ref z.1)) :: (zs.reverse ++ l)), ⟨n, by simp, Nat.zero_le _, [], rfl, M.alloc hD⟩, ?_⟩
  rintro i m H' ⟨rfl, hi, zs, hz, M'⟩
  by_cases hlt : i < n
  · refine .inr ⟨hlt, fun H2 => ∃ zs : List (Addr × HO), zs.map (·.2) = tot2 lo O (i + 1) ∧ Mem B ms H2 f ((D, .lst (zs.map fun z => V.ref z.1)) :: (zs.reverse ++ l)), fun H2 p2 => ⟨n - (i + 1), by omega, rfl, hlt, p2⟩, fun x H2 y => ?_⟩
    obtain ⟨e, y⟩ := y
    subst e y
    refine ⟨hw _, iteT (B := ∃ zs : List (Addr × HO), zs.map (·.2) = tot2 lo O (i + 1) ∧ Mem B ms H2 f ((D, .lst (zs.map fun z => V.ref z.1)) :: (zs.reverse ++ l))) ?_⟩
    refine ⟨_, hv _, lo + i, rfl, by omega, by omega, ?_⟩
    refine ⟨fun u m H3 => m = (lo + i).toNat - u ∧ u ≤ (lo + i).toNat ∧ ∃ zs : List (Addr × HO), zs.map (·.2) = tot2 lo O i ++ (List.range u).map (O i) ∧ Mem B ms H3 f ((D, .lst (zs.map fun z => V.ref z.1)) :: (zs.reverse ++ l)), ⟨_, rfl, Nat.zero_le _, zs, by simpa using hz, M'⟩, ?_⟩
    rintro u m H3 ⟨rfl, hu, zs, hz, M3⟩
    by_cases hul : u < (lo + i).toNat
    · refine .inr ⟨hul, fun H4 => ∃ zs : List (Addr × HO), zs.map (·.2) = tot2 lo O i ++ (List.range (u + 1)).map (O i) ∧ Mem B ms H4 f ((D, .lst (zs.map fun z => V.ref z.1)) :: (zs.reverse ++ l)), fun H4 p4 => ⟨(lo + i).toNat - (u + 1), by omega, rfl, hul, p4⟩, fun x H4 y => ?_⟩
      obtain ⟨e, y⟩ := y
      subst e y
      refine ⟨hw1 _ _, iteT (B := ∃ zs : List (Addr × HO), zs.map (·.2) = tot2 lo O i ++ (List.range (u + 1)).map (O i) ∧ Mem B ms H4 f ((D, .lst (zs.map fun z => V.ref z.1)) :: (zs.reverse ++ l))) ?_⟩
      refine he i u _ _ _ hlt hul M3 fun y H5 M5 => ⟨_, M5.getL (List.mem_cons_of_mem _ List.mem_cons_self), ?_, zs ++ [(y, O i u)], ?_, ?_⟩
      · have e := congrArg List.length hz
        have ht := tot2_len (lo := lo) (O := O) (n := i) (by omega)
        simp only [List.length_map, List.length_append, List.length_range] at e
        rw [List.length_map]
        exact Nat.lt_of_lt_of_le (m := 50000) (by omega) (by decide)
      · rw [List.map_append, hz, List.range_succ, List.map_append, List.append_assoc]; rfl
      · have := (Mem.setL (l1 := [(y, O i u)]) (o' := .lst (List.map (fun z : Addr × HO => V.ref z.1) (zs ++ [(y, O i u)]))) M5).swap
        simpa using this
    · have e : u = (lo + i).toNat := by omega
      subst e
      exact .inl ⟨Nat.le_refl _, zs, by rw [tot2_succ]; exact hz, M3⟩
  · have e : i = n := by omega
    subst e
    exact .inl ⟨Nat.le_refl _, k D zs H' hz M'⟩
end
end MyL

set_option Elab.async false
set_option linter.all false
set_option maxRecDepth 100000
set_option maxHeartbeats 4000000
/-! Static methods by a positional promise, also without arguments and with a star parameter. -/
namespace MyL
open PySem PySem.Spec PyProof.Rows L2
structure StaR (P : Program) (w : World) (K : PySem.W.Frag) (mg : Str → Option Value) (base : Heap) (k : Nat) (C : Addr) (m : Str) (sp : Sp) : Prop where
  ex : ∃ (p g : Addr), StaOf K C m p g ∧ FnR P w K mg base (L2.CX P w) k g sp
section
variable {X : Cx} {W : WX} {k j : Nat} {C : Addr} {sp : Sp} {x m : Str} {p pos apos : Pos} {e o : Expr} {es : List Expr} {ta : TE} {t : TA}
theorem c_staR {pl : Sem Bool} (c : StaR X.prog X.w X.K X.mg X.base k C m sp) (tk : Takes X W) (hr : Room j X.A) (hk : k ≤ j) (ho : PE X o ta) (ha : PA X (e :: es) t)
    (hst : starEach (e :: es) X.env = (false, eval e X.env) :: starEach es X.env := by rfl) (hpl : (backTo pos (starEach es X.env)).any (·.1) = false := by rfl)
    (ht : eval (.Call (.Attribute o m apos) (e :: es) [] pos) X.env = (do
      let ov ← eval o X.env
      standAt apos.atName
      let (f, first) ← holding [ov] (getMethod ov m pl)
      callWith pos f first (backTo pos (starEach (e :: es) X.env)) (backToKw pos (keywordEach [] X.env))) := by rfl) :
    PE X (.Call (.Attribute o m apos) (e :: es) [] pos) (tSta C sp W ta t) := by
  obtain ⟨p, g, hm, F⟩ := c.ex
  obtain ⟨rest, hrec⟩ := hm.rc
  refine ⟨fun pins s σ H Q I h => ?_⟩
  refine PySem.W.methodCall_KW (pl := pl) (thn (ho.run pins s σ H _ I h) fun u s1 hh => ?_) ht
  obtain ⟨x, H1, I1, rx, ex, q⟩ := hh
  subst ex
  obtain rfl : u = Value.ref C := rx
  have I1' := I1.tok (s1.toks + 1)
  refine PySem.W.method_cls I1.kIn hm.ga (PySem.W.cls_bind I1.kIn hm.rd hm.at_ (wpAny_call (PySem.W.sm_get (s := { s1 with toks := s1.toks + 1 }) I1.kIn hrec (PySem.W.handed_on rfl ?_))))
  refine PySem.W.callWith_K (first := []) (h₀ := X.base) I.ok.mod.kin hm.kp (thn (ha.run pos pins _ σ H1 _ I1' q) fun us s2 hh => ?_) hst hpl
  obtain ⟨vs, H2, I2, r, q2⟩ := hh
  exact ⟨I2.kIn, wpAny_call (run_S F tk (hr.mono hk) I2.env0 I2 r q2)⟩
theorem c_sta0R {pl : Sem Bool} (c : StaR X.prog X.w X.K X.mg X.base k C m sp) (tk : Takes X W) (hr : Room j X.A) (hk : k ≤ j) (ho : PE X o ta)
    (ht : eval (.Call (.Attribute o m apos) [] [] pos) X.env = (do
      let ov ← eval o X.env
      standAt apos.atName
      let (f, first) ← holding [ov] (getMethod ov m pl)
      callWith pos f first (backTo pos (starEach [] X.env)) (backToKw pos (keywordEach [] X.env))) := by rfl) :
    PE X (.Call (.Attribute o m apos) [] [] pos) (tSta C sp W ta tNil) := by
  obtain ⟨p, g, hm, F⟩ := c.ex
  obtain ⟨rest, hrec⟩ := hm.rc
  refine ⟨fun pins s σ H Q I h => ?_⟩
  refine PySem.W.methodCall_KW (pl := pl) (thn (ho.run pins s σ H _ I h) fun u s1 hh => ?_) ht
  obtain ⟨x, H1, I1, rx, ex, q⟩ := hh
  subst ex
  obtain rfl : u = Value.ref C := rx
  have I1' := I1.tok (s1.toks + 1)
  refine PySem.W.method_cls I1.kIn hm.ga (PySem.W.cls_bind I1.kIn hm.rd hm.at_ (wpAny_call (PySem.W.sm_get (s := { s1 with toks := s1.toks + 1 }) I1.kIn hrec (PySem.W.handed_on rfl ?_))))
  exact PySem.W.callWith_K0 (first := []) I1'.kIn hm.kp (wpAny_call (run_S F tk (hr.mono hk) I1'.env0 I1' .nil q))
end
section
variable {P : Program} {w : World} {K : PySem.W.Frag} {mg : Str → Option Value} {base : Heap} {k : Nat} {C : Addr} {m qual : Str} {st : Stmt} {sp : Sp}
/-- what a def with a star parameter alone is promised, by what its body is promised -/
def starSp (sp : Sp) : Sp := fun vs H Q E => vs.length ≤ sizeLine ∧ ∀ p, H p = none → sp [.ref p] (upd H p (.tup vs)) Q E
/-- the arguments of a def of the text with a star parameter alone -/
def StarSt (x qual : Str) (st : Stmt) (pv : Str) : Prop := ∀ (kV doc pm : Value) (an : Option Addr) (cdv ct : Value) (rest : List Value), bindArgs (PySem.W.fnOf x qual (defArgs st) (defBody st) (defScope st) .none kV doc pm an cdv ct) ⟨rest, []⟩ = (newTuple rest >>= fun t => pure [(pv, t)])
theorem okStar {x : Str} {f : Addr} {fd : FuncData} {N : List Str} {pv : Str} (F : L2.Fun K x qual st f fd) (hb : StarSt x qual st pv) (S : FnScope N [pv] (defScope st))
    (hbody : ∀ (cdv : Value) (A : Around) (outer : List Env) (s : Shared) (H : Hp) (vs : List V) (Q : VK) (E : XK), Room k (A.deeper (envOfC qual (defScope st) s.heap.objs.size f cdv)) →
      Takes (cxOf (L2.CX P w) P w K mg base N qual (defScope st) f cdv A outer s H E) (fun c d _ H => E c d H) → sp vs H Q E →
      ∃ t, PSs (cxOf (L2.CX P w) P w K mg base N qual (defScope st) f cdv A outer s H E) (defBody st) t ∧ t ⟨fun _ H' => Q .non H', Q, fun _ _ => False, fun _ _ => False⟩ (start N vs) H) : FnR P w K mg base (L2.CX P w) (k + 1) f (starSp sp) := by
  obtain ⟨oc, od, kV, doc, pm, an, cdv, ct, osl, rfl, lk, hcd⟩ := id F.ex
  refine (StX.fn_star (ps := []) (pv := pv) (sp := sp) lk hcd S StX.cxUp (fun us rest hl => ?_) fun A outer s H vs Q E hr h => hbody cdv A outer s H vs Q E hr (takes_of rfl rfl rfl rfl) h).imp ?_
  · cases us with
    | nil => exact hb kV doc pm an cdv ct rest
    | cons u us => cases hl
  · rintro vs H Q E ⟨hl, h⟩
    exact ⟨[], vs, rfl, rfl, hl, h⟩
theorem staR_of {ps : List Str} (D : StaAt K C m qual st) (hb : BindsSt m qual st ps) (ok : ∀ {f : Addr} {fd : FuncData}, Fun K m qual st f fd → FnOk P w K mg base (L2.CX P w) k f fd ps sp) : StaR P w K mg base k C m sp := by
  obtain ⟨p, f, fd, a, F⟩ := D
  exact ⟨p, f, a, raw0 (ok F) (F.binds hb)⟩
theorem staS_of (D : StaAt K C m qual st) (ok : ∀ {f : Addr} {fd : FuncData}, Fun K m qual st f fd → FnR P w K mg base (L2.CX P w) k f sp) : StaR P w K mg base k C m sp := by
  obtain ⟨p, f, fd, a, F⟩ := D
  exact ⟨p, f, a, ok F⟩
end
end MyL

set_option Elab.async false
set_option linter.all false
set_option maxRecDepth 100000
set_option maxHeartbeats 4000000
/-! enumerate over a tuple that was made here. -/
namespace MyL
open PySem PySem.Spec PyProof.Rows L2
theorem enum_makes {v : Value} {o : Obj} {U : Heap → Prop} (B : Begins v o U) :
    Meets (Builtin.«enumerate.__new__» ⟨[.type "enumerate", v], []⟩) fun _ R s => U s.heap ∧ R (.ok (.ret (.ref (s.heap.push o).objs.size)))
      { s with heap := (s.heap.push o).push { cls := .type "enumerate", data := .fields #[.none, .bool false, .ref s.heap.objs.size, rawInt 0, .none, .none] } } :=
  .of_wp fun prog w A R s hyp => by
    obtain ⟨hp, g, d, tk, os⟩ := s
    obtain ⟨hU, hR⟩ := hyp
    have sb := sub_enumerate
    have goIt : ∀ {A2 : Around} {E2 : Value → Shared → Prop} {Q2 : Value → Shared → Prop}, Q2 (.ref hp.objs.size) ⟨hp.push o, g, d, tk, os⟩ → wpAny (model prog w) A2 (pyIter v) Q2 E2 ⟨hp, g, d, tk, os⟩ := fun z => B.iter prog w _ _ ⟨hp, g, d, tk, os⟩ _ hU z
    wp_walk using goIt
    refine wpAny_stack_any fun st2 => wpAny_pure ?_
    split
    · rename_i cc _ _ _ _ _
      cases (cc == Value.type "enumerate") <;> (wp_walk using goIt; exact ⟨_, rfl, hR⟩)
    · wp_walk using goIt
      exact ⟨_, rfl, hR⟩
theorem enum_call {prog : Program} {w : World} {A : Around} {E : Value → Shared → Prop} {s : Shared} {v : Value} {o : Obj} {U : Heap → Prop} {Q : Value → Shared → Prop} (B : Begins v o U) (hU : U s.heap)
    (fin : ∀ h2, IsEnum h2 (s.heap.objs.size + 1) s.heap.objs.size 0 .none → h2.get? s.heap.objs.size = some o → (∀ b ob, s.heap.get? b = some ob → h2.get? b = some ob) → Q (.ref (s.heap.objs.size + 1)) { s with heap := h2 }) :
    wpAny (model prog w) A (call (.type "enumerate") [v]) Q E s := by
  refine callType_new F.called_enumerate (by decide) (F.typeCall_enumerate_1 v) (F.newCall_enumerate_1 v) (fun ob => F.args_object_init_2 ob v) F.entry_enumerate_new (enum_makes B) ⟨hU, ?_⟩
  have size1 : (s.heap.push o).objs.size = s.heap.objs.size + 1 := Heap.size_push ..
  show _ ∧ _
  rw [size1]
  have isE : IsEnum ((s.heap.push o).push { cls := .type "enumerate", data := .fields #[.none, .bool false, .ref s.heap.objs.size, rawInt 0, .none, .none] }) (s.heap.objs.size + 1) s.heap.objs.size 0 .none := by
    have z := Heap.get?_push_size (s.heap.push o) (o := { cls := .type "enumerate", data := .fields #[.none, .bool false, .ref s.heap.objs.size, rawInt 0, .none, .none] }) rfl
    rw [size1] at z
    exact z
  exact ⟨⟨_, isE, rfl⟩, fin _ isE (Heap.get?_push_of_some _ (Heap.get?_push_size _ B.free)) fun b ob z => Heap.get?_push_of_some _ (Heap.get?_push_of_some _ z)⟩
/-- the tuple at a, each item in a new pair -/
def IteT (a : Addr) : It :=
  ⟨fun i H => ∃ (xs : List V) (x : V), H a = some (.tup xs) ∧ xs[i]? = some x,
   fun i H v H' => ∃ T x, v = .ref T ∧ H T = none ∧ H' = upd H T (.tup [.int (i : Nat), x]) ∧ ∀ xs, H a = some (.tup xs) → xs[i]? = some x,
   fun i H => ∃ xs : List V, H a = some (.tup xs) ∧ xs.length = i⟩
theorem turn_enumT {P : Program} {w : World} {K : PySem.W.Frag} {elts : List Expr} {kk : Nat} {tpos : Pos} (a e it : Addr) :
    Turn P w K (.Tuple elts kk tpos) (IteT a) [e, it] e fun i h => (∃ old, IsEnum h e it ((i : Nat) : Int) old) ∧ h.IsTupleIter it a i ∧ e ≠ it where
  mem := List.mem_cons_self
  obj := fun i h st b hb => by
    obtain ⟨⟨old, he⟩, ⟨o, ho, hc, hd⟩, _⟩ := st
    simp only [List.mem_cons, List.not_mem_nil, or_false] at hb
    rcases hb with rfl | rfl
    · exact ⟨_, he, fun v z => nomatch z⟩
    · exact ⟨o, ho, fun v z => by rw [hd] at z; cases z⟩
  keep := fun i h h2 st k => by
    obtain ⟨⟨old, he⟩, hi, hne⟩ := st
    exact ⟨⟨old, k e (by simp) _ he⟩, hi.at fun o z => k it (by simp) o z, hne⟩
  item := by
    rintro X rfl rfl rfl calm i pins s σ H E I fp ⟨⟨old, he⟩, hit, hne⟩ ⟨xs, x, hq, hx⟩
    obtain ⟨its, rv, tup, _⟩ := I.tuple (SqT.of (K := X.K) hq)
    obtain ⟨u, hu, ru⟩ := rv.get hx
    have apart : ∀ b ∈ [e, it], a ≠ b := fun b hb z => by
      have n := (fp b hb).1
      rw [← z, hq] at n
      cases n
    have elt : e < s.heap.objs.size := Heap.lt_size he
    have ilt : it < s.heap.objs.size := by
      obtain ⟨_, z, _⟩ := hit
      exact Heap.lt_size z
    have isz : i < its.toArray.size := by
      have := (List.getElem?_eq_some_iff.mp hu).1
      simpa using this
    refine wpAny_pyNext_enum_itemD (Draws.tuple (A := X.A.in1) (I.ok.hd calm) it a (apart it (by simp)) its.toArray) he ⟨hit, tup⟩ isz hne (by simp [hne, Ne.symm (apart e (by simp))]) fun y h2 tk hy out st2 hT _ hk => ?_
    have ey : y = u := by
      have : its.toArray[i]? = some u := by simpa using hu
      rw [this] at hy
      exact (Option.some.inj hy).symm
    subst ey
    refine ⟨_, rfl, wpAny_letOwnedTupleGo_enum (s := { s with heap := h2, toks := tk + 1 }) out fun h3 he3 sb => ?_⟩
    have at3 : h3.get? s.heap.objs.size = some { cls := .type "tuple", data := .seq #[.int i tk, y] } := (sb.2 _ (Nat.ne_of_gt elt)).trans hT
    have pair : ObjOk X.prog X.w (upd H s.heap.objs.size (.tup [.int (i : Nat), x])) h3 s.heap.objs.size (.tup [.int (i : Nat), x]) := ⟨by show 2 ≤ sizeLine; decide, [.int i tk, y], .cons ⟨_, rfl⟩ (.cons ru .nil), _, at3, rfl, _, rfl⟩
    have I2 : Inv X pins σ (upd H s.heap.objs.size (.tup [.int (i : Nat), x])) { s with heap := h3, toks := tk + 1 } := I.turnedNew (ch := [e, it]) (fun b ob nb z => (sb.2 b fun q => nb (by simp [q])).trans (hk b ob (fun q => nb (by simp [q])) (fun q => nb (by simp [q])) z)) fp (Nat.le_refl _) pair
    refine ⟨.ref s.heap.objs.size, _, I2, rfl, ⟨_, x, rfl, I.hok.fresh (Nat.le_refl _), rfl, fun ys hy2 => by rw [hq] at hy2; cases hy2; exact hx⟩, ⟨⟨y, ?_⟩, st2.1.at fun ob z => (sb.2 it (Ne.symm hne)).trans z, hne⟩, fun b hb => ?_⟩
    · rw [show ((i + 1 : Nat) : Int) = (i : Int) + 1 by omega]
      exact he3
    · have blt : b < s.heap.objs.size := by
        simp only [List.mem_cons, List.not_mem_nil, or_false] at hb
        rcases hb with rfl | rfl <;> assumption
      rw [upd_ne (Nat.ne_of_lt blt)]
      exact (fp b hb).1
  done := by
    rintro X rfl rfl rfl calm i pins s σ H E I fp ⟨⟨old, he⟩, hit, hne⟩ ⟨xs, hq, hl⟩
    obtain ⟨its, rv, tup, _⟩ := I.tuple (SqT.of (K := X.K) hq)
    have apart : a ≠ it := fun z => by
      have n := (fp it (by simp)).1
      rw [← z, hq] at n
      cases n
    have en : its.toArray.size = i := by
      have := rv.length
      simp
      omega
    obtain ⟨f0, f1, _, f3, f4, f5⟩ := fp it (by simp)
    exact wpAny_pyNext_enum_endD (Draws.tuple (A := X.A.in1) (I.ok.hd calm) it a apart its.toArray) he ⟨by rw [en]; exact hit, tup⟩ fun h2 eb => ⟨rfl, I.turned (t' := s.toks) (fun b ob nb z => eb b ob nb z) f0 f1 f3 f4 f5⟩
  self := fun A i s Q E st z => by
    obtain ⟨⟨_, he⟩, _⟩ := st
    exact wpAny_pyIter_enum he z
def iEnumT (ta : TA) : TI := fun σ H R => ta σ H fun vs H1 => ∃ a xs, vs = [.ref a] ∧ H1 a = some (.tup xs) ∧ R (IteT a) H1
theorem pi_enumT {X : Cx} {e : Expr} {ta : TA} {p pos tpos : Pos} {elts : List Expr} {kk : Nat} (hg : Gl X "enumerate") (hm : X.mg "enumerate" = none) (ha : PA X [e] ta) (hs : starEach [e] X.env = [(false, eval e X.env)] := by rfl) :
    PI X (.Tuple elts kk tpos) (.Call (.Name "enumerate" p) [e] [] pos) (iEnumT ta) := by
  refine ⟨fun pins s σ H R I hyp => Call_ (ld_blt I hg hm boot_enumerate (PyProof.Rows.callWith_type1 (thn (ha.run pos pins s σ H _ I hyp) fun us s1 hq => ?_) hs rfl))⟩
  obtain ⟨vs, H1, I1, r1, a, xs, rfl, hq, q⟩ := hq
  obtain ⟨u, rfl, ru⟩ := r1.one
  cases ru
  obtain ⟨its, rv, tup, _⟩ := I1.tuple (SqT.of (K := X.K) hq)
  refine enum_call (begins_tuple a its.toArray) tup fun h2 isE ho hk => wpAny_pyIter_enum isE ?_
  have I2 : Inv X pins σ H1 { s1 with heap := h2 } := I1.kept (t' := s1.toks) hk
  refine ⟨s1.heap.objs.size + 1, [s1.heap.objs.size + 1, s1.heap.objs.size], _, _, H1, rfl, I2, turn_enumT a (s1.heap.objs.size + 1) s1.heap.objs.size, ⟨⟨.none, isE⟩, ⟨_, ho, rfl, rfl⟩, Nat.succ_ne_self _⟩, fun b hb => ?_, q⟩
  have above : s1.heap.objs.size ≤ b := by
    simp only [List.mem_cons, List.not_mem_nil, or_false] at hb
    rcases hb with rfl | rfl
    · exact Nat.le_add_right _ _
    · exact Nat.le_refl _
  exact I1.fpOk above (I1.hok.fresh above)
end MyL

set_option Elab.async false
set_option linter.all false
set_option maxRecDepth 100000
set_option maxHeartbeats 4000000
/-! list(range(..)), insert, pop(i), truth of lists, enumerate loops; rows of numbers in the heap. -/
namespace MyL
open PySem PySem.Spec PyProof.Rows L2
section
variable {X : Cx}
theorem cr_range1 : CallR X (.type "range") fun vs H Q => ∃ j, vs = [V.int j] ∧ ∀ p, H p = none → Q (.ref p) (upd H p (.rng 0 j)) := by
  rintro pins s σ H vs us Q I r ⟨j, rfl, q⟩
  obtain ⟨u, rfl, t, rfl⟩ := r.one
  refine call_range_1 ⟨.ref s.heap.objs.size, upd H s.heap.objs.size (.rng 0 j), I.laid (t' := s.toks + 1 + 1) (fun b o z => Heap.get?_push_of_some _ z) (Nat.le_refl _) ?_, rfl, q _ (I.hok.fresh (Nat.le_refl _))⟩
  exact ⟨s.toks, t, s.toks + 1, Heap.get?_push_size _ rfl⟩
def rListRng : List V → Hp → VK → Prop := fun vs H Q => ∃ a lo hi, vs = [V.ref a] ∧ H a = some (.rng lo hi) ∧ Builtin.Range.small lo hi 1 = true ∧ (hi - lo).toNat ≤ 2 ^ 24 ∧ ∀ p, H p = none → Q (.ref p) (upd H p (.lst ((List.range (hi - lo).toNat).map fun (i : Nat) => .int (lo + i))))
theorem b_listRng (hc : X.calm = true) : CallR X (.type "list") rListRng := by
  rintro pins s σ H vs us Q I r ⟨a, lo, hi, rfl, ha, hsm, hle, q⟩
  obtain ⟨u, rfl, ru⟩ := r.one
  cases ru
  obtain ⟨t1, t2, t3, ho⟩ := I.hok a _ ha
  have sz : Builtin.Range.rangeSize lo hi 1 = ((hi - lo).toNat : Nat) := by
    unfold Builtin.Range.rangeSize
    rw [if_pos (by decide)]
    split <;> omega
  refine call_list_range (I.ok.hd hc) ho hsm sz hle fun h2 tk acc c2 hk hS hacc => ?_
  have en : acc.toList.length = (hi - lo).toNat := by simpa using hacc.1
  have rv : Vals ((List.range (hi - lo).toNat).map fun (i : Nat) => V.int (lo + i)) acc.toList := by
    rw [← en]
    refine vals_of_get acc.toList (fun (i : Nat) => V.int (lo + i)) fun j v hj => ?_
    obtain ⟨t, e⟩ := hacc.2 j v (by simpa using hj)
    exact ⟨t, by rw [e, Int.mul_one]⟩
  refine ⟨.ref s.heap.objs.size, _, I.laid (t' := tk) hk (Nat.le_refl _) (show ObjOk X.prog X.w _ h2 _ (.lst ((List.range (hi - lo).toNat).map fun (i : Nat) => V.int (lo + i))) from ⟨?_, acc.toList, c2, rv, by simpa using hS⟩), rfl, q _ (I.hok.fresh (Nat.le_refl _))⟩
  rw [List.length_map, List.length_range]
  exact Nat.le_trans hle (by rw [sizeLine_eq]; decide)
theorem pi_enumQ {e : Expr} {ta : TA} {p pos tpos : Pos} {elts : List Expr} {kk : Nat} (hg : Gl X "enumerate") (hm : X.mg "enumerate" = none) (ha : PA X [e] ta) (hs : starEach [e] X.env = [(false, eval e X.env)] := by rfl) :
    PI X (.Tuple elts kk tpos) (.Call (.Name "enumerate" p) [e] [] pos) (iOr (iEnum X.K ta) (iEnumT ta)) := pi_or (pi_enum hg hm ha hs) (pi_enumT hg hm ha hs)
def rInsert : V → List V → Hp → VK → Prop := fun x vs H Q => ∃ (l : Addr) (xs : List V) (i : Int) (y : V), x = .ref l ∧ vs = [.int i, y] ∧ H l = some (.lst xs) ∧ xs.length < sizeLine ∧ 0 ≤ i ∧ i < 2 ^ 63 ∧ Q .non (upd H l (.lst (xs.take i.toNat ++ [y] ++ xs.drop i.toNat)))
theorem mt_insert0 : MtR X "list.insert" rInsert := mt_insert
end
section
variable {nx : L2.St → Hp → Prop} {rt : VK} {bk ct : L2.St → Hp → Prop} {σ : L2.St} {H : Hp} {tb : TS} {g : TG} {te tl : TE} {tt : TT} {Q : VK} {tA : TA} {K : PySem.W.Frag} {B : Hp} {ms : List Addr} {f l : List (Addr × HO)}
theorem enumQ_loop {n : Nat} {a : Addr} {xs : List V} (hv : σ[n]? = some (some (.ref a))) (hq : Sq H a xs) (Pv : Nat → L2.St → Hp → Prop) (h0 : Pv 0 σ H) (hk : ∀ i σ' H' o, i ≤ xs.length → Pv i σ' H' → H a = some o → H' a = some o)
    (hs : ∀ i x σ' H' T, xs[i]? = some x → Pv i σ' H' → H' T = none → g (.ref T) σ' (upd H' T (.tup [.int (i : Nat), x])) fun σ2 H2 => tb ⟨Pv (i + 1), rt, nx, Pv (i + 1)⟩ σ2 H2) (hd : ∀ σ' H', Pv xs.length σ' H' → nx σ' H') :
    tFor (iOr (iEnum K (tCons (tVar n) tNil)) (iEnumT (tCons (tVar n) tNil))) g tb ⟨nx, rt, bk, ct⟩ σ H := by
  rcases hq with hq | hq
  · refine .inl ⟨_, hv, a, xs, rfl, SqL.of hq, fun i m σ' H' => m = xs.length - i ∧ i ≤ xs.length ∧ Pv i σ' H', ⟨_, rfl, Nat.zero_le _, h0⟩, ?_⟩
    rintro i m σ' H' ⟨rfl, hi, hp⟩
    have sq := hk i σ' H' _ hi hp hq
    by_cases hlt : i < xs.length
    · refine .inr ⟨⟨xs, xs[i], SqL.of sq, List.getElem?_eq_getElem hlt⟩, Pv (i + 1), fun σ2 H2 p2 => ⟨xs.length - (i + 1), by omega, rfl, hlt, p2⟩, ?_⟩
      rintro v H2 ⟨T, x, rfl, hT, rfl, hx⟩
      exact hs i x σ' H' T (hx xs (SqL.of sq)) hp hT
    · have e : i = xs.length := by omega
      subst e
      exact .inl ⟨⟨xs, SqL.of sq, Nat.le_refl _⟩, hd σ' H' hp⟩
  · refine .inr ⟨_, hv, a, xs, rfl, hq, fun i m σ' H' => m = xs.length - i ∧ i ≤ xs.length ∧ Pv i σ' H', ⟨_, rfl, Nat.zero_le _, h0⟩, ?_⟩
    rintro i m σ' H' ⟨rfl, hi, hp⟩
    have sq := hk i σ' H' _ hi hp hq
    by_cases hlt : i < xs.length
    · refine .inr ⟨⟨xs, xs[i], sq, List.getElem?_eq_getElem hlt⟩, Pv (i + 1), fun σ2 H2 p2 => ⟨xs.length - (i + 1), by omega, rfl, hlt, p2⟩, ?_⟩
      rintro v H2 ⟨T, x, rfl, hT, rfl, hx⟩
      exact hs i x σ' H' T (hx xs sq) hp hT
    · have e : i = xs.length := by omega
      subst e
      exact .inl ⟨⟨xs, sq, rfl⟩, hd σ' H' hp⟩
theorem k_truL {p : Addr} {xs : List V} {QB : Bool → Hp → Prop} (h : H p = some (.lst xs)) (q : QB (!xs.isEmpty) H) : ∃ k, TruV K (.ref p) H k ∧ QB k H := ⟨_, .inl ⟨xs, SqL.of h, rfl⟩, q⟩
theorem k_truT {p : Addr} {xs : List V} {QB : Bool → Hp → Prop} (h : H p = some (.tup xs)) (q : QB (!xs.isEmpty) H) : ∃ k, TruV K (.ref p) H k ∧ QB k H := ⟨_, .inr (.inl ⟨xs, SqT.of h, rfl⟩), q⟩
theorem k_insert {p : Addr} {xs : List V} {i : Int} {y : V} (M : Mem B ms H f ((p, .lst xs) :: l)) (hs : xs.length < sizeLine) (h0 : 0 ≤ i) (h1 : i < 2 ^ 63) (q : ∀ H', Mem B ms H' f ((p, .lst (xs.take i.toNat ++ [y] ++ xs.drop i.toNat)) :: l) → Q .non H') : rInsert (.ref p) [.int i, y] H Q :=
  ⟨p, xs, i, y, rfl, rfl, M.getL List.mem_cons_self, hs, h0, h1, q _ (Mem.setL (l1 := []) M)⟩
theorem seqIx {i : Int} {n : Nat} (h0 : 0 ≤ i) (h1 : i < n) : seqIndex? i n = some i.toNat := by
  unfold seqIndex?
  simp only
  split
  · omega
  · split
    · rfl
    · rename_i z; simp at z; omega
theorem k_popAt {p : Addr} {xs : List V} {i : Int} {y : V} (M : Mem B ms H f ((p, .lst xs) :: l)) (h0 : 0 ≤ i) (h1 : i < xs.length) (hl : xs.length ≤ 50000) (hy : xs[i.toNat]? = some y) (q : ∀ H', Mem B ms H' f ((p, .lst (xs.eraseIdx i.toNat)) :: l) → Q y H') : rPopAt (.ref p) [.int i] H Q :=
  ⟨p, xs, i, i.toNat, y, rfl, rfl, M.getL List.mem_cons_self, by omega, by omega, seqIx h0 h1, hy, q _ (Mem.setL (l1 := []) M)⟩
theorem k_range1 {j : Int} (M : Mem B ms H f l) (q : ∀ p H', Mem B ms H' f ((p, .rng 0 j) :: l) → Q (.ref p) H') : (fun (vs : List V) (H : Hp) (Q : VK) => ∃ j, vs = [V.int j] ∧ ∀ p, H p = none → Q (.ref p) (upd H p (.rng 0 j))) [.int j] H Q := ⟨j, rfl, fun p hp => q p _ (M.alloc hp)⟩
end
/-! ### things told of a row of values -/
def PX {β : Type} (R : Addr → β → Prop) (xs : List V) (bs : List β) : Prop := xs.length = bs.length ∧ ∀ (i : Nat) (x : V) (b : β), xs[i]? = some x → bs[i]? = some b → ∃ p, x = .ref p ∧ R p b
section
variable {β : Type} {R R' : Addr → β → Prop} {xs ys : List V} {bs cs : List β}
theorem PX.nil : PX R [] [] := ⟨rfl, fun i x s h => by simp at h⟩
theorem PX.get (h : PX R xs bs) {i : Nat} {x : V} (hx : xs[i]? = some x) : ∃ b p, bs[i]? = some b ∧ x = .ref p ∧ R p b := by
  have hi := (List.getElem?_eq_some_iff.mp hx).1
  rw [h.1] at hi
  obtain ⟨p, e, hp⟩ := h.2 i x _ hx (List.getElem?_eq_getElem hi)
  exact ⟨_, p, List.getElem?_eq_getElem hi, e, hp⟩
theorem PX.mono (h : PX R xs bs) (k : ∀ p b, R p b → R' p b) : PX R' xs bs := ⟨h.1, fun i x s a b => (h.2 i x s a b).imp fun p ⟨e, z⟩ => ⟨e, k p s z⟩⟩
theorem PX.append (h1 : PX R xs bs) (h2 : PX R ys cs) : PX R (xs ++ ys) (bs ++ cs) := by
  refine ⟨by rw [List.length_append, List.length_append, h1.1, h2.1], fun i x s hx hs => ?_⟩
  by_cases hi : i < xs.length
  · rw [List.getElem?_append_left hi] at hx
    rw [List.getElem?_append_left (by rw [← h1.1]; exact hi)] at hs
    exact h1.2 i x s hx hs
  · rw [List.getElem?_append_right (by omega)] at hx
    rw [List.getElem?_append_right (by rw [← h1.1]; omega), ← h1.1] at hs
    exact h2.2 _ x s hx hs
theorem PX.one {p : Addr} {b : β} (h : R p b) : PX R [.ref p] [b] := ⟨rfl, fun i x s' a c => by
  cases i with
  | zero => simp at a c; subst a c; exact ⟨p, rfl, h⟩
  | succ i => simp at a⟩
theorem PX.take (h : PX R xs bs) (n : Nat) : PX R (xs.take n) (bs.take n) := by
  refine ⟨by rw [List.length_take, List.length_take, h.1], fun i x s hx hs => ?_⟩
  rw [List.getElem?_take] at hx hs
  split at hx
  · rename_i hn; rw [if_pos hn] at hs; exact h.2 i x s hx hs
  · cases hx
theorem PX.drop (h : PX R xs bs) (n : Nat) : PX R (xs.drop n) (bs.drop n) := by
  refine ⟨by rw [List.length_drop, List.length_drop, h.1], fun i x s hx hs => ?_⟩
  rw [List.getElem?_drop] at hx hs
  exact h.2 _ x s hx hs
theorem PX.reverse (h : PX R xs bs) : PX R xs.reverse bs.reverse := by
  refine ⟨by rw [List.length_reverse, List.length_reverse, h.1], fun i x s hx hs => ?_⟩
  have hi := (List.getElem?_eq_some_iff.mp hx).1
  rw [List.length_reverse] at hi
  rw [List.getElem?_reverse hi] at hx
  rw [List.getElem?_reverse (by rw [← h.1]; exact hi), ← h.1] at hs
  exact h.2 _ x s hx hs
theorem PX.erase (h : PX R xs bs) (n : Nat) : PX R (xs.eraseIdx n) (bs.eraseIdx n) := by
  rw [List.eraseIdx_eq_take_drop_succ, List.eraseIdx_eq_take_drop_succ]
  exact (h.take n).append (h.drop (n + 1))
end
/-! ### rows of numbers -/
abbrev rowO (r : List Int) : HO := .tup (r.map V.int)
abbrev Rws (H : Hp) : List V → List (List Int) → Prop := PX fun p r => H p = some (rowO r)
abbrev RwL (l : List (Addr × HO)) : List V → List (List Int) → Prop := PX fun p r => (p, rowO r) ∈ l
section
variable {B H H' : Hp} {ms : List Addr} {f l l' : List (Addr × HO)} {xs ys : List V} {rs : List (List Int)} {K : PySem.W.Frag} {Q : VK} {a b : Addr}
theorem Rws.same (h : Rws H xs rs) (s : Same H H') : Rws H' xs rs := h.mono fun p r e => s _ _ e
theorem RwL.rws (M : Mem B ms H f l) (h : RwL l xs rs) : Rws H xs rs := h.mono fun p r e => M.getL e
theorem RwL.more (h : RwL l xs rs) (k : ∀ z ∈ l, z ∈ l') : RwL l' xs rs := h.mono fun p r e => k _ e
abbrev rd (r : List Int) : PyData := .tuple (r.map PyData.int)
theorem Rws.dp (h : Rws H xs rs) : DpAll K H xs (rs.map rd) := by
  induction xs generalizing rs with
  | nil =>
    have e := h.1
    cases rs with
    | nil => exact .nil
    | cons s ss => simp at e
  | cons x xs ih =>
    have e := h.1
    cases rs with
    | nil => simp at e
    | cons s ss =>
      obtain ⟨p, rfl, hp⟩ := h.2 0 x s rfl rfl
      exact .cons (.tup (SqT.of hp) dp_ints) (ih ⟨by simpa using e, fun i x s a b => h.2 (i + 1) x s (by simpa using a) (by simpa using b)⟩)
theorem ints_lay (r : List Int) : PyData.canLayAll0 (r.map PyData.int) = true := by
  induction r with
  | nil => rfl
  | cons s ss ih => simp only [List.map_cons, PyData.canLayAll0, PyData.canLay0, ih, Bool.and_self]
theorem ints_depth (r : List Int) : PyData.depthAll (r.map PyData.int) = 0 := by
  induction r with
  | nil => rfl
  | cons s ss ih => simp only [List.map_cons, PyData.depthAll, PyData.depth, ih]; rfl
theorem rd_lay (rs : List (List Int)) : PyData.canLayAll0 (rs.map rd) = true := by
  induction rs with
  | nil => rfl
  | cons s ss ih => simp only [List.map_cons, PyData.canLayAll0, PyData.canLay0, ih, ints_lay, Bool.and_self]
theorem rd_depth (rs : List (List Int)) : PyData.depthAll (rs.map rd) ≤ 1 := by
  induction rs with
  | nil => simp [PyData.depthAll]
  | cons s ss ih => simp only [List.map_cons, PyData.depthAll, PyData.depth, ints_depth]; omega
theorem rd_shaped (rs : List (List Int)) : SeqAt.shaped (.list (rs.map rd)) = true := by
  have h := rd_depth rs
  unfold SeqAt.shaped
  rw [Bool.and_eq_true, decide_eq_true_eq]
  exact ⟨by simp only [PyData.canLay0]; exact rd_lay rs, by simp only [PyData.depth]; omega⟩
theorem ints_eqv (r s : List Int) : PyData.eqvAll (r.map PyData.int) (s.map PyData.int) = decide (r = s) := by
  induction r generalizing s with
  | nil => cases s with
    | nil => rfl
    | cons y s => rfl
  | cons x r ih => cases s with
    | nil => rfl
    | cons y s =>
      simp only [List.map_cons, PyData.eqvAll, PyData.eqv, ih]
      by_cases h : x = y
      · subst h; simp
      · simp [h]
theorem rd_eqv (rs : List (List Int)) : PyData.eqvAll (rs.map rd) (rs.map rd) = true := by
  induction rs with
  | nil => rfl
  | cons s ss ih => simp only [List.map_cons, PyData.eqvAll, PyData.eqv, ints_eqv, ih, decide_true, Bool.and_self]
theorem k_eqRws (h1 : H a = some (.lst xs)) (h2 : H b = some (.lst ys)) (p1 : Rws H xs rs) (p2 : Rws H ys rs) (q : Q (.bl true) H) : rEqD K (.ref a) (.ref b) H Q :=
  ⟨_, _, .lst (SqL.of h1) p1.dp, .lst (SqL.of h2) p2.dp, rd_shaped rs, rd_shaped rs, by simp only [PyData.eqv]; rw [rd_eqv]; exact q⟩
theorem k_eqNil {ds : List PyData} (h1 : SqL K H a xs) (h2 : H b = some (.lst [])) (hd : DpAll K H xs ds) (hs : SeqAt.shaped (.list ds) = true) (q : Q (.bl xs.isEmpty) H) : rEqD K (.ref a) (.ref b) H Q := by
  refine ⟨.list ds, .list [], .lst h1 hd, .lst (SqL.of h2) .nil, hs, by decide +kernel, ?_⟩
  have e : PyData.eqv (.list ds) (.list []) = xs.isEmpty := by
    cases hd with
    | nil => rfl
    | cons _ _ => rfl
  rw [e]; exact q
theorem ints_shaped (r : List Int) : SeqAt.shaped (.list (r.map PyData.int)) = true := by
  unfold SeqAt.shaped
  rw [Bool.and_eq_true, decide_eq_true_eq]
  exact ⟨by simp only [PyData.canLay0]; exact ints_lay r, by simp only [PyData.depth, ints_depth]; omega⟩
end
end MyL

set_option Elab.async false
set_option linter.all false
set_option maxRecDepth 100000
set_option maxHeartbeats 4000000
/-! tuple + tuple, list * int, int(bool), l[i] = v, rows and rows of rows told alike, a row in a list of rows. -/
namespace MyL
open PySem PySem.Spec PyProof.Rows L2
theorem units65 {k : Nat} {A : Around} (r : Room k A) : A.units + 65 < cLine := by have := r.un; omega
section
variable {X : Cx}
def rIntB : List V → Hp → VK → Prop := fun xs H Q => ∃ k, xs = [.bl k] ∧ Q (.int (if k = true then 1 else 0)) H
theorem b_intB : CallR X (.type "int") rIntB := fun pins s σ H xs us Q I r h => call_int1 pins s σ H xs us Q I r (.inr h)
end
section
variable {B H : Hp} {ms : List Addr} {f l : List (Addr × HO)} {Q : VK} {K : PySem.W.Frag} {a b p : Addr} {xs ys : List V}
theorem k_intB {k : Bool} (q : Q (.int (if k = true then 1 else 0)) H) : rIntB [.bl k] H Q := ⟨k, rfl, q⟩
theorem k_catA (M : Mem B ms H f l) (h1 : SqT K H a xs) (hb : (b, HO.tup ys) ∈ l) (hy : ys ≠ []) (hz : xs.length + ys.length ≤ sizeLine) (q : ∀ p H' l2, (p, HO.tup (xs ++ ys)) ∈ l2 ++ l → Mem B ms H' f (l2 ++ l) → Q (.ref p) H') : rCatA K (.ref a) (.ref b) H Q := by
  refine ⟨a, b, xs, ys, rfl, rfl, h1, SqT.of (M.getL hb), hz, ?_, ?_, ?_⟩
  · rintro rfl
    exact q b H [] hb M
  · intro _ e
    exact absurd e hy
  · intro _ _ p hp
    exact q p _ [(p, .tup (xs ++ ys))] List.mem_cons_self (M.alloc hp)
theorem rep_ints {n : Nat} {x : Int} : (List.replicate n [V.int x]).flatten = (List.replicate n x).map V.int := by
  induction n with
  | zero => rfl
  | succ n ih => rw [List.replicate_succ, List.flatten_cons, ih, List.replicate_succ, List.map_cons]; rfl
theorem k_rep {x k : Int} (M : Mem B ms H f l) (h : H a = some (.lst [.int x])) (h0 : 0 ≤ k) (h1 : k ≤ 50000) (q : ∀ p H', Mem B ms H' f ((p, .lst ((List.replicate k.toNat x).map V.int)) :: l) → Q (.ref p) H') : rRep (.ref a) (.int k) H Q := by
  refine ⟨a, k, _, rfl, rfl, h, by omega, by omega, ?_, fun p hp => ?_⟩
  · rw [List.length_singleton, Nat.one_mul]
    exact Nat.le_trans (show k.toNat ≤ 50000 by omega) (by decide)
  · rw [rep_ints]
    exact q p _ (M.alloc hp)
theorem k_setI {k : Int} {v : V} {QH : Hp → Prop} (M : Mem B ms H f ((p, .lst xs) :: l)) (h0 : 0 ≤ k) (h1 : k < xs.length) (q : ∀ H', Mem B ms H' f ((p, .lst (xs.set k.toNat v)) :: l) → QH H') : rSetL (.ref p) (.int k) v H QH := by
  refine ⟨p, xs, k, k.toNat, rfl, rfl, M.getL List.mem_cons_self, ?_, q _ (Mem.setL (l1 := []) M)⟩
  unfold ixN
  rw [if_pos h0, if_pos (by omega)]
theorem row_shaped (r : List Int) : SeqAt.shaped (.tuple (r.map PyData.int)) = true := by
  have h := ints_depth r
  unfold SeqAt.shaped
  rw [Bool.and_eq_true, decide_eq_true_eq]
  exact ⟨by simp only [PyData.canLay0]; exact ints_lay r, by simp only [PyData.depth]; omega⟩
theorem k_neRow {r s : List Int} (h1 : SqT K H a (r.map V.int)) (h2 : SqT K H b (s.map V.int)) (q : Q (.bl (!decide (r = s))) H) : rNeD K (.ref a) (.ref b) H Q :=
  ⟨.tuple (r.map PyData.int), .tuple (s.map PyData.int), .tup h1 dp_ints, .tup h2 dp_ints, row_shaped r, row_shaped s, by simp only [PyData.eqv]; rw [ints_eqv]; exact q⟩
theorem k_eqRow {r s : List Int} (h1 : SqT K H a (r.map V.int)) (h2 : SqT K H b (s.map V.int)) (q : Q (.bl (decide (r = s))) H) : rEqD K (.ref a) (.ref b) H Q :=
  ⟨.tuple (r.map PyData.int), .tuple (s.map PyData.int), .tup h1 dp_ints, .tup h2 dp_ints, row_shaped r, row_shaped s, by simp only [PyData.eqv]; rw [ints_eqv]; exact q⟩
theorem rows_any (rows : List (List Int)) (r : List Int) : ((rows.map rd).any fun z => PyData.eqv z (.tuple (r.map PyData.int))) = decide (r ∈ rows) := by
  induction rows with
  | nil => rfl
  | cons s rows ih =>
    rw [List.map_cons, List.any_cons, ih]
    simp only [rd, PyData.eqv]
    rw [ints_eqv, Bool.eq_iff_iff]
    simp only [Bool.or_eq_true, decide_eq_true_eq, List.mem_cons]
    exact or_congr eq_comm Iff.rfl
theorem k_inRows {r : List Int} {rows : List (List Int)} (h1 : SqT K H a (r.map V.int)) (h2 : H b = some (.lst xs)) (p : Rws H xs rows) (q : Q (.bl (decide (r ∈ rows))) H) : rInD K (.ref a) (.ref b) H Q :=
  ⟨.tuple (r.map PyData.int), rows.map rd, .tup h1 dp_ints, .lst (SqL.of h2) p.dp, row_shaped r, rd_shaped rows, by rw [rows_any]; exact q⟩
theorem PX.cons {β : Type} {R : Addr → β → Prop} {xs : List V} {b : β} {bs : List β} {p : Addr} (h : R p b) (t : PX R xs bs) : PX R (.ref p :: xs) (b :: bs) := (PX.one h).append t
theorem pdT_shaped (ss : List Pr) : SeqAt.shaped (.tuple (ss.map pd)) = true := by
  have h := pd_shaped ss
  unfold SeqAt.shaped at h ⊢
  rw [Bool.and_eq_true, decide_eq_true_eq] at h ⊢
  simp only [PyData.canLay0, PyData.depth] at h ⊢
  exact h
theorem k_eqPrsT {ss : List Pr} (h1 : H a = some (.tup xs)) (h2 : H b = some (.tup ys)) (p1 : Prs H xs ss) (p2 : Prs H ys ss) (q : Q (.bl true) H) : rEqD K (.ref a) (.ref b) H Q :=
  ⟨_, _, .tup (SqT.of h1) p1.dp, .tup (SqT.of h2) p2.dp, pdT_shaped ss, pdT_shaped ss, by simp only [PyData.eqv]; rw [pd_eqv]; exact q⟩
theorem k_neRws {rs : List (List Int)} (h1 : H a = some (.lst xs)) (h2 : H b = some (.lst ys)) (p1 : Rws H xs rs) (p2 : Rws H ys rs) (q : Q (.bl false) H) : rNeD K (.ref a) (.ref b) H Q :=
  ⟨_, _, .lst (SqL.of h1) p1.dp, .lst (SqL.of h2) p2.dp, rd_shaped rs, rd_shaped rs, by simp only [PyData.eqv]; rw [rd_eqv]; exact q⟩
/-! ### triples of two numbers and a row -/
abbrev Tr3 := Int × Int × List Int
abbrev trO (t : Tr3) (q : Addr) : HO := .tup [.int t.1, .int t.2.1, .ref q]
abbrev Trs (H : Hp) : List V → List Tr3 → Prop := PX fun p t => ∃ q, H p = some (trO t q) ∧ H q = some (rowO t.2.2)
abbrev TrL (l : List (Addr × HO)) : List V → List Tr3 → Prop := PX fun p t => ∃ q, (p, trO t q) ∈ l ∧ (q, rowO t.2.2) ∈ l
theorem Trs.same {H' : Hp} {ts : List Tr3} (h : Trs H xs ts) (s : Same H H') : Trs H' xs ts := h.mono fun p t ⟨q, e1, e2⟩ => ⟨q, s _ _ e1, s _ _ e2⟩
theorem TrL.trs {ts : List Tr3} (M : Mem B ms H f l) (h : TrL l xs ts) : Trs H xs ts := h.mono fun p t ⟨q, e1, e2⟩ => ⟨q, M.getL e1, M.getL e2⟩
theorem TrL.more {l' : List (Addr × HO)} {ts : List Tr3} (h : TrL l xs ts) (k : ∀ z ∈ l, z ∈ l') : TrL l' xs ts := h.mono fun p t ⟨q, e1, e2⟩ => ⟨q, k _ e1, k _ e2⟩
theorem k_neTr {t : Tr3} {u v : Addr} (h1 : H a = some (trO t u)) (h2 : H u = some (rowO t.2.2)) (h3 : H b = some (trO t v)) (h4 : H v = some (rowO t.2.2)) (q : Q (.bl false) H) : rNeD K (.ref a) (.ref b) H Q := by
  have hs : SeqAt.shaped (.tuple [.int t.1, .int t.2.1, .tuple (t.2.2.map PyData.int)]) = true := by
    have h := ints_depth t.2.2
    unfold SeqAt.shaped
    rw [Bool.and_eq_true, decide_eq_true_eq]
    refine ⟨?_, ?_⟩
    · simp only [PyData.canLay0, PyData.canLayAll0, ints_lay, Bool.and_self]
    · simp only [PyData.depth, PyData.depthAll, h]; omega
  refine ⟨_, _, .tup (SqT.of h1) (.cons (.int _) (.cons (.int _) (.cons (.tup (SqT.of h2) dp_ints) .nil))), .tup (SqT.of h3) (.cons (.int _) (.cons (.int _) (.cons (.tup (SqT.of h4) dp_ints) .nil))), hs, hs, ?_⟩
  have e : PyData.eqv (.tuple [.int t.1, .int t.2.1, .tuple (t.2.2.map PyData.int)]) (.tuple [.int t.1, .int t.2.1, .tuple (t.2.2.map PyData.int)]) = true := by
    simp only [PyData.eqv, PyData.eqvAll, ints_eqv, decide_true, Bool.and_true, beq_self_eq_true]
  rw [e]
  exact q
end
end MyL

set_option Elab.async false
set_option linter.all false
set_option maxRecDepth 100000
set_option maxHeartbeats 4000000
/-! Data in the heap: what stands still is told by data, what changes is listed. -/
namespace MyL
open PySem PySem.Spec PyProof.Rows L2
/-- data -/
inductive D where
  | non | bl (b : Bool) | int (i : Int) | str (s : Str)
  | tup (ds : List D) | lst (ds : List D) | ins (C : Addr) (fs : List (Str × D))
  | dK (kvs : List (Key × D)) | dT (kvs : List (List Key × D))
mutual
inductive At (K : PySem.W.Frag) (G : Hp) : V → D → Prop
  | non : At K G .non .non
  | bl (b : Bool) : At K G (.bl b) (.bl b)
  | int (i : Int) : At K G (.int i) (.int i)
  | str (x : Str) : At K G (.str x) (.str x)
  | tup {a : Addr} {xs : List V} {ds : List D} : G a = some (.tup xs) → AtL K G xs ds → At K G (.ref a) (.tup ds)
  | lst {a : Addr} {xs : List V} {ds : List D} : G a = some (.lst xs) → AtL K G xs ds → At K G (.ref a) (.lst ds)
  | ins {a C dx : Addr} {fs : List (Str × V)} {gs : List (Str × D)} : G a = some (.ins C dx fs) → fs.map (·.1) = gs.map (·.1) → AtL K G (fs.map (·.2)) (gs.map (·.2)) → At K G (.ref a) (.ins C gs)
  | dK {a : Addr} {fs : List (Key × V)} {gs : List (Key × D)} : G a = some (.dK fs) → fs.map (·.1) = gs.map (·.1) → AtL K G (fs.map (·.2)) (gs.map (·.2)) → At K G (.ref a) (.dK gs)
  | dT {a : Addr} {fs : List (List Key × V)} {gs : List (List Key × D)} : G a = some (.dT fs) → fs.map (·.1) = gs.map (·.1) → AtL K G (fs.map (·.2)) (gs.map (·.2)) → At K G (.ref a) (.dT gs)
inductive AtL (K : PySem.W.Frag) (G : Hp) : List V → List D → Prop
  | nil : AtL K G [] []
  | cons {v : V} {vs : List V} {d : D} {ds : List D} : At K G v d → AtL K G vs ds → AtL K G (v :: vs) (d :: ds)
end
theorem sqL_up {K : PySem.W.Frag} {H H' : Hp} {a : Addr} {xs : List V} (h : SqL K H a xs) (s : Same H H') : SqL K H' a xs := h.elim (fun h => .inl (h.elim (fun h => .inl (s _ _ h)) fun ⟨o, h⟩ => .inr ⟨o, s _ _ h⟩)) .inr
theorem sqT_up {K : PySem.W.Frag} {H H' : Hp} {a : Addr} {xs : List V} (h : SqT K H a xs) (s : Same H H') : SqT K H' a xs := h.elim (fun h => .inl (h.elim (fun h => .inl (s _ _ h)) fun ⟨o, h⟩ => .inr ⟨o, s _ _ h⟩)) .inr
section
variable {K : PySem.W.Frag} {G G' : Hp} {v : V} {d : D} {vs ws : List V} {ds es : List D}
theorem At.mono (s : Same G G') (h : At K G v d) : At K G' v d :=
  At.rec (motive_1 := fun v d _ => At K G' v d) (motive_2 := fun vs ds _ => AtL K G' vs ds)
    .non .bl .int .str (fun a _ b => .tup (s _ _ a) b) (fun a _ b => .lst (s _ _ a) b) (fun a e _ b => .ins (s _ _ a) e b) (fun a e _ b => .dK (s _ _ a) e b) (fun a e _ b => .dT (s _ _ a) e b) .nil (fun _ _ a b => .cons a b) h
theorem AtL.mono (s : Same G G') (h : AtL K G vs ds) : AtL K G' vs ds := by
  induction vs generalizing ds with
  | nil => cases h; exact .nil
  | cons v vs ih => cases h with | cons a b => exact .cons (a.mono s) (ih b)
theorem AtL.length (h : AtL K G vs ds) : vs.length = ds.length := by
  induction vs generalizing ds with
  | nil => cases h; rfl
  | cons v vs ih => cases h with | cons a b => rw [List.length_cons, List.length_cons, ih b]
theorem AtL.append (h : AtL K G vs ds) (h' : AtL K G ws es) : AtL K G (vs ++ ws) (ds ++ es) := by
  induction vs generalizing ds with
  | nil => cases h; exact h'
  | cons v vs ih => cases h with | cons a b => exact .cons a (ih b)
theorem AtL.get (h : AtL K G vs ds) {i : Nat} {d : D} (hd : ds[i]? = some d) : ∃ v, vs[i]? = some v ∧ At K G v d := by
  induction vs generalizing ds i with
  | nil => cases h; simp at hd
  | cons v vs ih =>
    cases h with
    | cons a b =>
      cases i with
      | zero => simp at hd; subst hd; exact ⟨v, rfl, a⟩
      | succ i => simpa using ih b (by simpa using hd)
theorem AtL.take (h : AtL K G vs ds) (n : Nat) : AtL K G (vs.take n) (ds.take n) := by
  induction vs generalizing ds n with
  | nil => cases h; simpa using .nil
  | cons v vs ih =>
    cases h with
    | cons a b => cases n with
      | zero => simpa using .nil
      | succ n => simpa using .cons a (ih b n)
theorem AtL.drop (h : AtL K G vs ds) (n : Nat) : AtL K G (vs.drop n) (ds.drop n) := by
  induction vs generalizing ds n with
  | nil => cases h; simpa using .nil
  | cons v vs ih =>
    cases h with
    | cons a b => cases n with
      | zero => simpa using .cons a b
      | succ n => simpa using ih b n
theorem AtL.one (h : At K G v d) : AtL K G [v] [d] := .cons h .nil
theorem AtL.reverse (h : AtL K G vs ds) : AtL K G vs.reverse ds.reverse := by
  induction vs generalizing ds with
  | nil => cases h; exact .nil
  | cons v vs ih => cases h with | cons a b => rw [List.reverse_cons, List.reverse_cons]; exact (ih b).append (.one a)
theorem AtL.eraseIdx (h : AtL K G vs ds) (n : Nat) : AtL K G (vs.eraseIdx n) (ds.eraseIdx n) := by
  rw [List.eraseIdx_eq_take_drop_succ, List.eraseIdx_eq_take_drop_succ]
  exact (h.take n).append (h.drop (n + 1))
theorem AtL.set (h : AtL K G vs ds) (n : Nat) (a : At K G v d) : AtL K G (vs.set n v) (ds.set n d) := by
  induction vs generalizing ds n with
  | nil => cases h; simpa using .nil
  | cons w vs ih =>
    cases h with
    | cons x b => cases n with
      | zero => simpa using .cons a b
      | succ n => simpa using .cons x (ih b n)
theorem AtL.ints : ∀ (ns : List Int), AtL K G (ns.map V.int) (ns.map D.int)
  | [] => .nil
  | n :: ns => .cons (.int n) (AtL.ints ns)
theorem AtL.strs : ∀ (ns : List Str), AtL K G (ns.map V.str) (ns.map D.str)
  | [] => .nil
  | n :: ns => .cons (.str n) (AtL.strs ns)
theorem AtL.intsEq {ns : List Int} (h : AtL K G vs (ns.map D.int)) : vs = ns.map V.int := by
  induction ns generalizing vs with
  | nil => cases h; rfl
  | cons n ns ih => cases h with | cons a b => cases a; rw [ih b]; rfl
theorem AtL.strsEq {ns : List Str} (h : AtL K G vs (ns.map D.str)) : vs = ns.map V.str := by
  induction ns generalizing vs with
  | nil => cases h; rfl
  | cons n ns ih => cases h with | cons a b => cases a; rw [ih b]; rfl
theorem AtL.blsEq {ns : List Bool} (h : AtL K G vs (ns.map D.bl)) : vs = ns.map V.bl := by
  induction ns generalizing vs with
  | nil => cases h; rfl
  | cons n ns ih => cases h with | cons a b => cases a; rw [ih b]; rfl
end
/-- something that changes, told by data -/
def Mt (K : PySem.W.Frag) (G H : Hp) (a : Addr) : D → Prop
  | .lst ds => ∃ vs, H a = some (.lst vs) ∧ AtL K G vs ds
  | .ins C gs => ∃ dx fs, H a = some (.ins C dx fs) ∧ fs.map (·.1) = gs.map (·.1) ∧ AtL K G (fs.map (·.2)) (gs.map (·.2))
  | .dK gs => ∃ fs, H a = some (.dK fs) ∧ fs.map (·.1) = gs.map (·.1) ∧ AtL K G (fs.map (·.2)) (gs.map (·.2))
  | .dT gs => ∃ fs, H a = some (.dT fs) ∧ fs.map (·.1) = gs.map (·.1) ∧ AtL K G (fs.map (·.2)) (gs.map (·.2))
  | _ => False
section
variable {K : PySem.W.Frag} {G G' H H' : Hp} {a : Addr} {d : D}
theorem Mt.mono (h : Mt K G H a d) (s : Same G G') (e : ∀ o, H a = some o → H' a = some o) : Mt K G' H' a d := by
  cases d with
  | lst ds => obtain ⟨vs, h1, h2⟩ := h; exact ⟨vs, e _ h1, h2.mono s⟩
  | ins C gs => obtain ⟨dx, fs, h1, h2, h3⟩ := h; exact ⟨dx, fs, e _ h1, h2, h3.mono s⟩
  | dK gs => obtain ⟨fs, h1, h2, h3⟩ := h; exact ⟨fs, e _ h1, h2, h3.mono s⟩
  | dT gs => obtain ⟨fs, h1, h2, h3⟩ := h; exact ⟨fs, e _ h1, h2, h3.mono s⟩
  | _ => exact h.elim
theorem Mt.some (h : Mt K G H a d) : ∃ o, H a = .some o := by
  cases d with
  | lst ds => obtain ⟨vs, h1, h2⟩ := h; exact ⟨_, h1⟩
  | ins C gs => obtain ⟨dx, fs, h1, h2, h3⟩ := h; exact ⟨_, h1⟩
  | dK gs => obtain ⟨fs, h1, h2, h3⟩ := h; exact ⟨_, h1⟩
  | dT gs => obtain ⟨fs, h1, h2, h3⟩ := h; exact ⟨_, h1⟩
  | _ => exact h.elim
theorem Mt.at (h : Mt K G H a d) (s : Same G G') (e : ∀ o, H a = .some o → G' a = .some o) : At K G' (.ref a) d := by
  cases d with
  | lst ds => obtain ⟨vs, h1, h2⟩ := h; exact .lst (e _ h1) (h2.mono s)
  | ins C gs => obtain ⟨dx, fs, h1, h2, h3⟩ := h; exact .ins (e _ h1) h2 (h3.mono s)
  | dK gs => obtain ⟨fs, h1, h2, h3⟩ := h; exact .dK (e _ h1) h2 (h3.mono s)
  | dT gs => obtain ⟨fs, h1, h2, h3⟩ := h; exact .dT (e _ h1) h2 (h3.mono s)
  | _ => exact h.elim
end
/-- behind B, of which only ms may have changed, and G0, which stands still: X changes, L is known and stands still (in G) -/
structure Mw (K : PySem.W.Frag) (B G0 : Hp) (ms : List Addr) (X : List (Addr × D)) (L : List (V × D)) (G H : Hp) : Prop where
  s0 : Same G0 G
  s1 : Same G H
  new : ∀ a, G a ≠ none → G0 a ≠ none ∨ B a = none ∨ a ∈ ms
  chg : ∀ z ∈ X, Mt K G H z.1 z.2
  off : ∀ z ∈ X, G z.1 = none
  loc : ∀ z ∈ X, z.1 ∈ ms ∨ B z.1 = none
  nd : (X.map (·.1)).Nodup
  keep : ∀ a o, B a = some o → a ∉ ms → H a = some o
  tr : ∀ m ∈ ms, H m ≠ none
  ok : ∀ z ∈ L, At K G z.1 z.2
def Mm (K : PySem.W.Frag) (B G0 : Hp) (ms : List Addr) (X : List (Addr × D)) (L : List (V × D)) (H : Hp) : Prop := ∃ G, Mw K B G0 ms X L G H
/-- known by L -/
def H1 (L : List (V × D)) (v : V) (d : D) : Prop := ∀ (K : PySem.W.Frag) (G : Hp), (∀ z ∈ L, At K G z.1 z.2) → At K G v d
def Hs (L : List (V × D)) (vs : List V) (ds : List D) : Prop := ∀ (K : PySem.W.Frag) (G : Hp), (∀ z ∈ L, At K G z.1 z.2) → AtL K G vs ds
section
variable {L : List (V × D)} {v : V} {d : D} {vs ws : List V} {ds es : List D}
theorem H1.mem (h : (v, d) ∈ L) : H1 L v d := fun K G k => k _ h
theorem H1.int {i : Int} : H1 L (.int i) (.int i) := fun K G k => .int i
theorem H1.str {i : Str} : H1 L (.str i) (.str i) := fun K G k => .str i
theorem H1.bl {i : Bool} : H1 L (.bl i) (.bl i) := fun K G k => .bl i
theorem H1.non : H1 L .non .non := fun K G k => .non
theorem Hs.nil : Hs L [] [] := fun K G k => .nil
theorem Hs.cons (h : H1 L v d) (t : Hs L vs ds) : Hs L (v :: vs) (d :: ds) := fun K G k => .cons (h K G k) (t K G k)
theorem Hs.append (h : Hs L vs ds) (t : Hs L ws es) : Hs L (vs ++ ws) (ds ++ es) := fun K G k => (h K G k).append (t K G k)
theorem Hs.ints (ns : List Int) : Hs L (ns.map V.int) (ns.map D.int) := fun K G k => AtL.ints ns
end
section
variable {K : PySem.W.Frag} {B G0 G H H' : Hp} {ms : List Addr} {X X' : List (Addr × D)} {L L' : List (V × D)} {p a : Addr} {v : V} {d d' : D} {vs ws : List V} {ds es : List D}
theorem Mw.fresh (W : Mw K B G0 ms X L G H) (h : H p = none) : B p = none := by
  cases e : B p with
  | none => rfl
  | some u =>
    by_cases hm : p ∈ ms
    · exact absurd h (W.tr p hm)
    · rw [W.keep p u e hm] at h; cases h
theorem Mw.freshG (W : Mw K B G0 ms X L G H) (h : H p = none) : G p = none := by
  cases e : G p with
  | none => rfl
  | some u => rw [W.s1 _ _ e] at h; cases h
theorem Mw.neX (W : Mw K B G0 ms X L G H) (h : H p = none) : ∀ z ∈ X, z.1 ≠ p := fun z hz e => by
  obtain ⟨o, ho⟩ := (W.chg z hz).some
  rw [e, h] at ho; cases ho
theorem same_upd (h : G p = none) {o : HO} : Same G (upd G p o) := fun a u e => by rw [upd_ne (ne_of_none e h)]; exact e
theorem Mm.start (s : Same G H) (h : ∀ z ∈ L, At K G z.1 z.2) : Mm K H G [] [] L H :=
  ⟨G, fun _ _ e => e, s, fun _ e => .inl e, (fun _ h => nomatch h), (fun _ h => nomatch h), (fun _ h => nomatch h), List.nodup_nil, fun _ _ e _ => e, (fun _ h => nomatch h), h⟩
/-- .. with one thing that changes -/
theorem Mm.start1 (s : Same G H) (hm : Mt K G H p d) (hg : G p = none) (h : ∀ z ∈ L, At K G z.1 z.2) : Mm K H G [p] [(p, d)] L H := by
  refine ⟨G, fun _ _ e => e, s, fun _ e => .inl e, fun z hz => ?_, fun z hz => ?_, fun z hz => ?_, by simp, fun _ _ e _ => e, fun m hm' => ?_, h⟩
  · rw [List.mem_singleton.mp hz]; exact hm
  · rw [List.mem_singleton.mp hz]; exact hg
  · rw [List.mem_singleton.mp hz]; exact .inl (List.mem_singleton.mpr rfl)
  · rw [List.mem_singleton.mp hm']
    obtain ⟨o, ho⟩ := hm.some
    rw [ho]; exact (fun z => nomatch z)
theorem Mm.fresh (M : Mm K B G0 ms X L H) (h : H p = none) : B p = none := M.elim fun _ W => W.fresh h
theorem Mm.sub (M : Mm K B G0 ms X L H) (h : ∀ z ∈ L', z ∈ L) : Mm K B G0 ms X L' H := M.elim fun G W => ⟨G, W.s0, W.s1, W.new, W.chg, W.off, W.loc, W.nd, W.keep, W.tr, fun z hz => W.ok z (h z hz)⟩
theorem Mm.more (M : Mm K B G0 ms X L H) (h : ∀ z ∈ L', H1 L z.1 z.2) : Mm K B G0 ms X L' H := M.elim fun G W => ⟨G, W.s0, W.s1, W.new, W.chg, W.off, W.loc, W.nd, W.keep, W.tr, fun z hz => h z hz K G W.ok⟩
theorem Mm.add (M : Mm K B G0 ms X L H) (h : H1 L v d) : Mm K B G0 ms X ((v, d) :: L) H := M.more fun z hz => by
  rcases List.mem_cons.mp hz with rfl | hz
  · exact h
  · exact H1.mem hz
theorem Mm.subX (M : Mm K B G0 ms X L H) (h : X'.Sublist X) : Mm K B G0 ms X' L H := M.elim fun G W => ⟨G, W.s0, W.s1, W.new, fun z hz => W.chg z (h.subset hz), fun z hz => W.off z (h.subset hz), fun z hz => W.loc z (h.subset hz), (h.map _).nodup W.nd, W.keep, W.tr, W.ok⟩
theorem Mm.permX (M : Mm K B G0 ms X L H) (h : X'.Perm X) : Mm K B G0 ms X' L H := M.elim fun G W => ⟨G, W.s0, W.s1, W.new, fun z hz => W.chg z (h.subset hz), fun z hz => W.off z (h.subset hz), fun z hz => W.loc z (h.subset hz), (h.map _).nodup_iff.mpr W.nd, W.keep, W.tr, W.ok⟩
theorem Mm.noX (M : Mm K B G0 ms X L H) : Mm K B G0 ms [] L H := M.subX (List.nil_sublist X)
theorem Mm.dropX {z : Addr × D} (M : Mm K B G0 ms (z :: X) L H) : Mm K B G0 ms X L H := M.subX (List.sublist_cons_self z X)
theorem Mm.swapX {y z : Addr × D} (M : Mm K B G0 ms (y :: z :: X) L H) : Mm K B G0 ms (z :: y :: X) L H := M.permX (List.Perm.swap y z X)
theorem Mm.midX {z : Addr × D} {X1 : List (Addr × D)} (M : Mm K B G0 ms (X1 ++ z :: X) L H) : Mm K B G0 ms (z :: (X1 ++ X)) L H := M.permX List.perm_middle.symm
theorem Mm.keeps (M : Mm K B G0 ms X L H) {o : HO} (h : B a = some o) (hn : a ∉ ms) : H a = some o := M.elim fun G W => W.keep a o h hn
theorem Mm.same (M : Mm K B G0 [] X L H) : Same B H := fun a o h => M.keeps h (by simp)
/-- a new thing that stands still -/
theorem Mw.newI (W : Mw K B G0 ms X L G H) (h : H p = none) {o : HO} (hv : At K (upd G p o) (.ref p) d) : Mw K B G0 ms X ((.ref p, d) :: L) (upd G p o) (upd H p o) := by
  have hg := W.freshG h
  have hx := W.neX h
  refine ⟨fun a u e => same_upd hg _ _ (W.s0 _ _ e), fun a u e => ?_, fun a e => ?_, fun z hz => (W.chg z hz).mono (same_upd hg) (fun u e => by rw [upd_ne (hx z hz)]; exact e), fun z hz => by rw [upd_ne (hx z hz)]; exact W.off z hz, W.loc, W.nd, fun a u e hn => by rw [upd_ne (ne_of_none (W.keep a u e hn) h)]; exact W.keep a u e hn, fun m hm => ?_, fun z hz => ?_⟩
  · by_cases hap : a = p
    · subst hap; rw [upd_same] at e ⊢; exact e
    · rw [upd_ne hap] at e ⊢; exact W.s1 _ _ e
  · by_cases hap : a = p
    · subst hap; exact .inr (.inl (W.fresh h))
    · rw [upd_ne hap] at e; exact W.new a e
  · by_cases hap : m = p
    · subst hap; rw [upd_same]; exact (fun z => nomatch z)
    · rw [upd_ne hap]; exact W.tr m hm
  · rcases List.mem_cons.mp hz with rfl | hz
    · exact hv
    · exact (W.ok z hz).mono (same_upd hg)
theorem Mm.newT (M : Mm K B G0 ms X L H) (h : H p = none) (ha : Hs L vs ds) : Mm K B G0 ms X ((.ref p, .tup ds) :: L) (upd H p (.tup vs)) := M.elim fun G W =>
  ⟨_, W.newI h (.tup upd_same ((ha K G W.ok).mono (same_upd (W.freshG h))))⟩
theorem Mm.newL (M : Mm K B G0 ms X L H) (h : H p = none) (ha : Hs L vs ds) : Mm K B G0 ms X ((.ref p, .lst ds) :: L) (upd H p (.lst vs)) := M.elim fun G W =>
  ⟨_, W.newI h (.lst upd_same ((ha K G W.ok).mono (same_upd (W.freshG h))))⟩
/-- a new thing that is to change -/
theorem Mm.newX (M : Mm K B G0 ms X L H) (h : H p = none) {o : HO} (hm : ∀ G, (∀ z ∈ L, At K G z.1 z.2) → Mt K G (upd H p o) p d) : Mm K B G0 ms ((p, d) :: X) L (upd H p o) := M.elim fun G W => by
  have hx := W.neX h
  refine ⟨G, W.s0, fun a u e => by rw [upd_ne (ne_of_none (W.s1 _ _ e) h)]; exact W.s1 _ _ e, W.new, fun z hz => ?_, fun z hz => ?_, fun z hz => ?_, ?_, fun a u e hn => by rw [upd_ne (ne_of_none (W.keep a u e hn) h)]; exact W.keep a u e hn, fun m hmm => ?_, W.ok⟩
  · rcases List.mem_cons.mp hz with rfl | hz
    · exact hm G W.ok
    · exact (W.chg z hz).mono (fun _ _ e => e) (fun u e => by rw [upd_ne (hx z hz)]; exact e)
  · rcases List.mem_cons.mp hz with rfl | hz
    · exact W.freshG h
    · exact W.off z hz
  · rcases List.mem_cons.mp hz with rfl | hz
    · exact .inr (W.fresh h)
    · exact W.loc z hz
  · rw [List.map_cons, List.nodup_cons]
    refine ⟨fun z => ?_, W.nd⟩
    obtain ⟨y, hy, e⟩ := List.mem_map.mp z
    exact hx y hy e
  · by_cases hap : m = p
    · subst hap; rw [upd_same]; exact (fun z => nomatch z)
    · rw [upd_ne hap]; exact W.tr m hmm
theorem Mm.newLX (M : Mm K B G0 ms X L H) (h : H p = none) (ha : Hs L vs ds) : Mm K B G0 ms ((p, .lst ds) :: X) L (upd H p (.lst vs)) :=
  M.newX h fun G k => ⟨vs, upd_same, ha K G k⟩
/-- what changes is changed -/
theorem Mw.set {X1 X2 : List (Addr × D)} (W : Mw K B G0 ms (X1 ++ (p, d) :: X2) L G H) {o : HO} (hm : Mt K G (upd H p o) p d') : Mw K B G0 ms (X1 ++ (p, d') :: X2) L G (upd H p o) := by
  have hg : G p = none := W.off (p, d) (by simp)
  have nd := W.nd
  have hne : ∀ z ∈ X1 ++ X2, z.1 ≠ p := by
    have e : ((X1 ++ (p, d) :: X2).map (·.1)) = X1.map (·.1) ++ p :: X2.map (·.1) := by simp
    rw [e, List.nodup_append] at nd
    obtain ⟨_, n2, n3⟩ := nd
    rw [List.nodup_cons] at n2
    intro q hq z
    rcases List.mem_append.mp hq with hq | hq
    · exact n3 _ (List.mem_map_of_mem hq) _ List.mem_cons_self z
    · exact n2.1 (by rw [← z]; exact List.mem_map_of_mem hq)
  have hin : ∀ z ∈ X1 ++ (p, d') :: X2, z = (p, d') ∨ z ∈ X1 ++ X2 := fun z hz => by
    rcases List.mem_append.mp hz with h | h
    · exact .inr (List.mem_append_left _ h)
    · rcases List.mem_cons.mp h with h | h
      · exact .inl h
      · exact .inr (List.mem_append_right _ h)
  have hin2 : ∀ z ∈ X1 ++ X2, z ∈ X1 ++ (p, d) :: X2 := fun z hz => by
    rcases List.mem_append.mp hz with h | h
    · exact List.mem_append_left _ h
    · exact List.mem_append_right _ (List.mem_cons_of_mem _ h)
  refine ⟨W.s0, fun a u e => by rw [upd_ne (ne_of_none e hg)]; exact W.s1 _ _ e, W.new, fun z hz => ?_, fun z hz => ?_, fun z hz => ?_, by simpa using nd, fun a u e hn => ?_, fun m hmm => ?_, W.ok⟩
  · rcases hin z hz with rfl | h
    · exact hm
    · exact (W.chg z (hin2 z h)).mono (fun _ _ e => e) (fun u e => by rw [upd_ne (hne z h)]; exact e)
  · rcases hin z hz with rfl | h
    · exact hg
    · exact W.off z (hin2 z h)
  · rcases hin z hz with rfl | h
    · exact W.loc (p, d) (by simp)
    · exact W.loc z (hin2 z h)
  · rw [upd_ne]
    · exact W.keep a u e hn
    · rintro rfl
      rcases W.loc (a, d) (by simp) with h | h
      · exact hn h
      · rw [h] at e; cases e
  · by_cases hap : m = p
    · subst hap; rw [upd_same]; exact (fun z => nomatch z)
    · rw [upd_ne hap]; exact W.tr m hmm
/-- a list that changes: its values, and what may be made of it -/
theorem Mm.lstX {X1 X2 : List (Addr × D)} (M : Mm K B G0 ms (X1 ++ (p, .lst ds) :: X2) L H) : ∃ vs, H p = some (.lst vs) ∧ vs.length = ds.length ∧ ∀ vs' ds', (∀ G, (∀ z ∈ L, At K G z.1 z.2) → AtL K G vs ds → AtL K G vs' ds') → Mm K B G0 ms (X1 ++ (p, .lst ds') :: X2) L (upd H p (.lst vs')) := by
  obtain ⟨G, W⟩ := M
  obtain ⟨vs, h1, h2⟩ := W.chg (p, .lst ds) (by simp)
  exact ⟨vs, h1, h2.length, fun vs' ds' k => ⟨G, W.set ⟨vs', upd_same, k G W.ok h2⟩⟩⟩
/-- what changed stands still from now on -/
theorem Mm.freeze (M : Mm K B G0 ms ((p, d) :: X) L H) : Mm K B G0 ms X ((.ref p, d) :: L) H := M.elim fun G W => by
  have hg : G p = none := W.off (p, d) List.mem_cons_self
  obtain ⟨o, ho⟩ := (W.chg (p, d) List.mem_cons_self).some
  have nd := W.nd
  rw [List.map_cons, List.nodup_cons] at nd
  have hne : ∀ z ∈ X, z.1 ≠ p := fun z hz e => nd.1 (e ▸ List.mem_map.mpr ⟨z, hz, rfl⟩)
  refine ⟨upd G p o, fun a u e => same_upd hg _ _ (W.s0 _ _ e), fun a u e => ?_, fun a e => ?_, fun z hz => (W.chg z (List.mem_cons_of_mem _ hz)).mono (same_upd hg) (fun _ e => e), fun z hz => by rw [upd_ne (hne z hz)]; exact W.off z (List.mem_cons_of_mem _ hz), fun z hz => W.loc z (List.mem_cons_of_mem _ hz), nd.2, W.keep, W.tr, fun z hz => ?_⟩
  · by_cases hap : a = p
    · subst hap; rw [upd_same] at e; rw [← e]; exact ho
    · rw [upd_ne hap] at e; exact W.s1 _ _ e
  · by_cases hap : a = p
    · subst hap; exact .inr ((W.loc (a, d) List.mem_cons_self).symm)
    · rw [upd_ne hap] at e; exact W.new a e
  · rcases List.mem_cons.mp hz with rfl | hz
    · exact (W.chg (p, d) List.mem_cons_self).at (same_upd hg) (fun u e => by rw [upd_same, ← ho]; exact e)
    · exact (W.ok z hz).mono (same_upd hg)
/-- behind a call that changes nothing -/
theorem Mw.comp (W : Mw K B G0 ms X L G H) {X2 : List (Addr × D)} {L2 : List (V × D)} (M2 : Mm K H G [] X2 L2 H') : Mm K B G0 ms (X2 ++ X) (L2 ++ L) H' := by
  obtain ⟨G2, V⟩ := M2
  have hk : ∀ a o, H a = some o → H' a = some o := fun a o e => V.keep a o e (by simp)
  have hx2 : ∀ z ∈ X2, H z.1 = none := fun z hz => (V.loc z hz).elim (fun h => nomatch h) id
  refine ⟨G2, fun a u e => V.s0 _ _ (W.s0 _ _ e), V.s1, fun a e => ?_, fun z hz => ?_, fun z hz => ?_, fun z hz => ?_, ?_, fun a o e hn => hk _ _ (W.keep a o e hn), fun m hm => ?_, fun z hz => ?_⟩
  · rcases V.new a e with h | h | h
    · exact W.new a h
    · exact .inr (.inl (W.fresh h))
    · exact nomatch h
  · rcases List.mem_append.mp hz with h | h
    · exact V.chg z h
    · exact (W.chg z h).mono V.s0 (fun o e => hk _ _ e)
  · rcases List.mem_append.mp hz with h | h
    · exact V.off z h
    · cases e : G2 z.1 with
      | none => rfl
      | some u =>
        rcases V.new z.1 (by rw [e]; exact fun q => nomatch q) with h1 | h1 | h1
        · exact absurd (W.off z h) h1
        · obtain ⟨o, ho⟩ := (W.chg z h).some
          rw [h1] at ho; cases ho
        · exact nomatch h1
  · rcases List.mem_append.mp hz with h | h
    · exact .inr (W.fresh (hx2 z h))
    · exact W.loc z h
  · rw [List.map_append, List.nodup_append]
    refine ⟨V.nd, W.nd, fun x hx y hy e => ?_⟩
    obtain ⟨q, hq, rfl⟩ := List.mem_map.mp hx
    obtain ⟨r, hr, rfl⟩ := List.mem_map.mp hy
    exact W.neX (hx2 q hq) r hr e.symm
  · cases e : H m with
    | none => exact absurd e (W.tr m hm)
    | some u => rw [hk _ _ e]; exact (fun z => nomatch z)
  · rcases List.mem_append.mp hz with h | h
    · exact V.ok z h
    · exact (W.ok z h).mono V.s0
/-- behind a call that may change the first thing -/
theorem Mw.comp1 (W : Mw K B G0 ms ((p, d) :: X) L G H) {X2 : List (Addr × D)} {L2 : List (V × D)} (M2 : Mm K H G [p] ((p, d') :: X2) L2 H') : Mm K B G0 ms ((p, d') :: (X2 ++ X)) (L2 ++ L) H' := by
  obtain ⟨G2, V⟩ := M2
  have nd := W.nd
  rw [List.map_cons, List.nodup_cons] at nd
  have hne : ∀ z ∈ X, z.1 ≠ p := fun z hz e => nd.1 (e ▸ List.mem_map.mpr ⟨z, hz, rfl⟩)
  have hk : ∀ a o, H a = some o → a ≠ p → H' a = some o := fun a o e hn => V.keep a o e (by simpa using hn)
  have nd2 := V.nd
  rw [List.map_cons, List.nodup_cons] at nd2
  have hne2 : ∀ z ∈ X2, z.1 ≠ p := fun z hz e => nd2.1 (e ▸ List.mem_map.mpr ⟨z, hz, rfl⟩)
  have hx2 : ∀ z ∈ X2, H z.1 = none := fun z hz => (V.loc z (List.mem_cons_of_mem _ hz)).elim (fun h => absurd (List.mem_singleton.mp h) (hne2 z hz)) id
  have hlp := W.loc (p, d) List.mem_cons_self
  have hin : ∀ {z : Addr × D}, z ∈ (p, d') :: (X2 ++ X) → z = (p, d') ∨ z ∈ X2 ∨ z ∈ X := fun {z} hz => by
    rcases List.mem_cons.mp hz with h | h
    · exact .inl h
    · exact .inr (List.mem_append.mp h)
  refine ⟨G2, fun a u e => V.s0 _ _ (W.s0 _ _ e), V.s1, fun a e => ?_, fun z hz => ?_, fun z hz => ?_, fun z hz => ?_, ?_, fun a o e hn => ?_, fun m hm => ?_, fun z hz => ?_⟩
  · rcases V.new a e with h | h | h
    · exact W.new a h
    · exact .inr (.inl (W.fresh h))
    · rw [List.mem_singleton.mp h]; exact .inr hlp.symm
  · rcases hin hz with rfl | h | h
    · exact V.chg _ List.mem_cons_self
    · exact V.chg z (List.mem_cons_of_mem _ h)
    · exact (W.chg z (List.mem_cons_of_mem _ h)).mono V.s0 (fun o e => hk _ _ e (hne z h))
  · rcases hin hz with rfl | h | h
    · exact V.off _ List.mem_cons_self
    · exact V.off z (List.mem_cons_of_mem _ h)
    · cases e : G2 z.1 with
      | none => rfl
      | some u =>
        rcases V.new z.1 (by rw [e]; exact fun q => nomatch q) with h1 | h1 | h1
        · exact absurd (W.off z (List.mem_cons_of_mem _ h)) h1
        · obtain ⟨o, ho⟩ := (W.chg z (List.mem_cons_of_mem _ h)).some
          rw [h1] at ho; cases ho
        · exact absurd (List.mem_singleton.mp h1) (hne z h)
  · rcases hin hz with rfl | h | h
    · exact hlp
    · exact .inr (W.fresh (hx2 z h))
    · exact W.loc z (List.mem_cons_of_mem _ h)
  · rw [List.map_cons, List.map_append, List.nodup_cons, List.nodup_append]
    refine ⟨fun hm => ?_, nd2.2, nd.2, fun x hx y hy e => ?_⟩
    · rcases List.mem_append.mp hm with h | h
      · exact nd2.1 h
      · exact nd.1 h
    · obtain ⟨q, hq, rfl⟩ := List.mem_map.mp hx
      obtain ⟨r, hr, rfl⟩ := List.mem_map.mp hy
      exact W.neX (hx2 q hq) r (List.mem_cons_of_mem _ hr) e.symm
  · refine hk _ _ (W.keep a o e hn) fun z => ?_
    subst z
    rcases hlp with h | h
    · exact hn h
    · rw [h] at e; cases e
  · by_cases hmp : m = p
    · subst hmp; exact V.tr _ (by simp)
    · cases e : H m with
      | none => exact absurd e (W.tr m hm)
      | some u => rw [hk _ _ e hmp]; exact (fun z => nomatch z)
  · rcases List.mem_append.mp hz with h | h
    · exact V.ok z h
    · exact (W.ok z h).mono V.s0
end
end MyL

set_option Elab.async false
set_option linter.all false
set_option maxRecDepth 100000
set_option maxHeartbeats 4000000
/-! Steps over known data. -/
namespace MyL
open PySem PySem.Spec PyProof.Rows L2
/-- a list told by ds, known or changing -/
abbrev InL (X : List (Addr × D)) (L : List (V × D)) (p : Addr) (ds : List D) : Prop := (V.ref p, D.lst ds) ∈ L ∨ (p, D.lst ds) ∈ X
/-- a list or a tuple -/
abbrev sq (t : Bool) (ds : List D) : D := match t with | true => .tup ds | false => .lst ds
section
variable {K : PySem.W.Frag} {B G0 G H H' : Hp} {ms : List Addr} {X X' : List (Addr × D)} {L L' : List (V × D)} {p a C : Addr} {v w : V} {d d' e : D} {vs ws : List V} {ds es : List D} {Q : VK} {n : Int} {z : Str} {b : Bool} {σ : L2.St}
theorem Hs.mem (h : ∀ x ∈ vs.zip ds, H1 L x.1 x.2) (e : vs.length = ds.length) : Hs L vs ds := by
  induction vs generalizing ds with
  | nil => cases ds with
    | nil => exact .nil
    | cons d ds => simp at e
  | cons v vs ih => cases ds with
    | nil => simp at e
    | cons d ds => exact .cons (h (v, d) (by simp)) (ih (fun x hx => h x (by simp [hx])) (by simpa using e))
theorem Hs.zip (e : vs.length = ds.length) : Hs (vs.zip ds ++ L) vs ds := .mem (fun x hx => H1.mem (List.mem_append_left _ hx)) e
theorem AtL.zip (h : AtL K G vs ds) : ∀ x ∈ vs.zip ds, At K G x.1 x.2 := by
  induction vs generalizing ds with
  | nil => intro x hx; simp at hx
  | cons v vs ih => cases h with
    | cons a b =>
      intro x hx
      rw [List.zip_cons_cons] at hx
      rcases List.mem_cons.mp hx with rfl | hx
      · exact a
      · exact ih b x hx
theorem Hs.take (h : Hs L vs ds) (n : Nat) : Hs L (vs.take n) (ds.take n) := fun K G k => (h K G k).take n
theorem Hs.drop (h : Hs L vs ds) (n : Nat) : Hs L (vs.drop n) (ds.drop n) := fun K G k => (h K G k).drop n
theorem Hs.reverse (h : Hs L vs ds) : Hs L vs.reverse ds.reverse := fun K G k => (h K G k).reverse
theorem Hs.mono (h : Hs L vs ds) (k : ∀ z ∈ L, z ∈ L') : Hs L' vs ds := fun K G q => h K G fun z hz => q z (k z hz)
theorem H1.mono (h : H1 L v d) (k : ∀ z ∈ L, z ∈ L') : H1 L' v d := fun K G q => h K G fun z hz => q z (k z hz)
theorem Mw.addL (W : Mw K B G0 ms X L G H) (h : ∀ z ∈ L', At K G z.1 z.2) : Mw K B G0 ms X (L' ++ L) G H := ⟨W.s0, W.s1, W.new, W.chg, W.off, W.loc, W.nd, W.keep, W.tr, fun z hz => (List.mem_append.mp hz).elim (h z) (W.ok z)⟩
theorem Mm.rdL (M : Mm K B G0 ms X L H) (hm : InL X L p ds) : ∃ vs, H p = some (.lst vs) ∧ vs.length = ds.length ∧ Mm K B G0 ms X (vs.zip ds ++ L) H := by
  obtain ⟨G, W⟩ := M
  rcases hm with h | h
  · have h1 := W.ok _ h
    cases h1 with
    | lst a b => exact ⟨_, W.s1 _ _ a, b.length, G, W.addL b.zip⟩
  · obtain ⟨vs, h1, h2⟩ := W.chg _ h
    exact ⟨vs, h1, h2.length, G, W.addL h2.zip⟩
theorem Mm.rdT2 (M : Mm K B G0 ms X L H) (hm : (V.ref p, D.tup ds) ∈ L) : ∃ vs, H p = some (.tup vs) ∧ vs.length = ds.length ∧ Mm K B G0 ms X (vs.zip ds ++ L) H := by
  obtain ⟨G, W⟩ := M
  have h1 := W.ok _ hm
  cases h1 with
  | tup a b => exact ⟨_, W.s1 _ _ a, b.length, G, W.addL b.zip⟩
theorem Mm.rdT (M : Mm K B G0 ms X L H) (hm : (V.ref p, D.tup ds) ∈ L) : ∃ vs, SqT K H p vs ∧ vs.length = ds.length ∧ Mm K B G0 ms X (vs.zip ds ++ L) H := by
  obtain ⟨G, W⟩ := M
  have h1 := W.ok _ hm
  cases h1 with
  | tup a b => exact ⟨_, SqT.of (W.s1 _ _ a), b.length, G, W.addL b.zip⟩
theorem Mm.rdI {gs : List (Str × D)} (M : Mm K B G0 ms X L H) (hm : (V.ref p, D.ins C gs) ∈ L) : ∃ dx fs, H p = some (.ins C dx fs) ∧ fs.map (·.1) = gs.map (·.1) ∧ Mm K B G0 ms X ((fs.map (·.2)).zip (gs.map (·.2)) ++ L) H := by
  obtain ⟨G, W⟩ := M
  have h1 := W.ok _ hm
  cases h1 with
  | ins a e b => exact ⟨_, _, W.s1 _ _ a, e, G, W.addL b.zip⟩
theorem Mm.isI (M : Mm K B G0 ms X ((v, .int n) :: L) H) : v = .int n := M.elim fun G W => by have h := W.ok _ List.mem_cons_self; dsimp only at h; cases h; rfl
theorem Mm.isS (M : Mm K B G0 ms X ((v, .str z) :: L) H) : v = .str z := M.elim fun G W => by have h := W.ok _ List.mem_cons_self; dsimp only at h; cases h; rfl
theorem Mm.isB (M : Mm K B G0 ms X ((v, .bl b) :: L) H) : v = .bl b := M.elim fun G W => by have h := W.ok _ List.mem_cons_self; dsimp only at h; cases h; rfl
theorem Mm.isN (M : Mm K B G0 ms X ((v, .non) :: L) H) : v = .non := M.elim fun G W => by have h := W.ok _ List.mem_cons_self; dsimp only at h; cases h; rfl
theorem Mm.isT (M : Mm K B G0 ms X ((v, .tup ds) :: L) H) : ∃ p, v = .ref p := M.elim fun G W => by have h := W.ok _ List.mem_cons_self; dsimp only at h; cases h; exact ⟨_, rfl⟩
theorem Mm.isL (M : Mm K B G0 ms X ((v, .lst ds) :: L) H) : ∃ p, v = .ref p := M.elim fun G W => by have h := W.ok _ List.mem_cons_self; dsimp only at h; cases h; exact ⟨_, rfl⟩
theorem Mm.isO {gs : List (Str × D)} (M : Mm K B G0 ms X ((v, .ins C gs) :: L) H) : ∃ p, v = .ref p := M.elim fun G W => by have h := W.ok _ List.mem_cons_self; dsimp only at h; cases h; exact ⟨_, rfl⟩
theorem Mm.dropL {x : V × D} (M : Mm K B G0 ms X (x :: L) H) : Mm K B G0 ms X L H := M.sub fun z hz => List.mem_cons_of_mem _ hz
theorem zip_get {i : Nat} (e : vs.length = ds.length) (hd : ds[i]? = some d) : ∃ v, vs[i]? = some v ∧ (v, d) ∈ vs.zip ds := by
  obtain ⟨hi, h1⟩ := List.getElem?_eq_some_iff.mp hd
  have hv : i < vs.length := by omega
  refine ⟨vs[i], List.getElem?_eq_getElem hv, ?_⟩
  have : (vs.zip ds)[i]? = some (vs[i], d) := by rw [List.getElem?_zip_eq_some]; exact ⟨List.getElem?_eq_getElem hv, hd⟩
  exact List.mem_of_getElem? this
theorem Mm.pick {i : Nat} (M : Mm K B G0 ms X (vs.zip ds ++ L) H) (e : vs.length = ds.length) (hd : ds[i]? = some d) : ∃ v, vs[i]? = some v ∧ Mm K B G0 ms X ((v, d) :: L) H := by
  obtain ⟨v, h1, h2⟩ := zip_get e hd
  exact ⟨v, h1, M.sub fun z hz => by
    rcases List.mem_cons.mp hz with rfl | hz
    · exact List.mem_append_left _ h2
    · exact List.mem_append_right _ hz⟩
theorem atI_pick {j : Int} (M : Mm K B G0 ms X (vs.zip ds ++ L) H) (e : vs.length = ds.length) (hd : atI ds j = some d) : ∃ v, atI vs j = some v ∧ Mm K B G0 ms X ((v, d) :: L) H := by
  unfold atI at hd ⊢
  rw [e]
  cases hk : ixN ds.length j with
  | none => rw [hk] at hd; cases hd
  | some k =>
    rw [hk] at hd
    obtain ⟨v, h1, h2⟩ := M.pick e (show ds[k]? = some d from hd)
    exact ⟨v, h1, h2⟩
/-! ### items -/
theorem d_ixL {j : Int} (M : Mm K B G0 ms X L H) (hm : InL X L p ds) (hj : atI ds j = some d) (q : ∀ v, Mm K B G0 ms X ((v, d) :: L) H → Q v H) : rIxL K (.ref p) (.int j) H Q := by
  obtain ⟨vs, h1, h2, M2⟩ := M.rdL hm
  obtain ⟨v, h3, M3⟩ := atI_pick M2 h2 hj
  exact ⟨p, vs, j, v, rfl, rfl, SqL.of h1, h3, q v M3⟩
theorem d_ixT {j : Int} (M : Mm K B G0 ms X L H) (hm : (V.ref p, D.tup ds) ∈ L) (hj : atI ds j = some d) (q : ∀ v, Mm K B G0 ms X ((v, d) :: L) H → Q v H) : rIxT K (.ref p) (.int j) H Q := by
  obtain ⟨vs, h1, h2, M2⟩ := M.rdT hm
  obtain ⟨v, h3, M3⟩ := atI_pick M2 h2 hj
  exact ⟨p, vs, j, v, rfl, rfl, h1, h3, q v M3⟩
theorem d_ixLI {j : Int} (M : Mm K B G0 ms X L H) (hm : InL X L p ds) (hj : atI ds j = some (.int n)) (q : Q (.int n) H) : rIxL K (.ref p) (.int j) H Q := d_ixL M hm hj fun v M' => by obtain rfl := M'.isI; exact q
theorem d_ixTI {j : Int} (M : Mm K B G0 ms X L H) (hm : (V.ref p, D.tup ds) ∈ L) (hj : atI ds j = some (.int n)) (q : Q (.int n) H) : rIxT K (.ref p) (.int j) H Q := d_ixT M hm hj fun v M' => by obtain rfl := M'.isI; exact q
theorem d_ixLS {j : Int} (M : Mm K B G0 ms X L H) (hm : InL X L p ds) (hj : atI ds j = some (.str z)) (q : Q (.str z) H) : rIxL K (.ref p) (.int j) H Q := d_ixL M hm hj fun v M' => by obtain rfl := M'.isS; exact q
theorem d_ixTS {j : Int} (M : Mm K B G0 ms X L H) (hm : (V.ref p, D.tup ds) ∈ L) (hj : atI ds j = some (.str z)) (q : Q (.str z) H) : rIxT K (.ref p) (.int j) H Q := d_ixT M hm hj fun v M' => by obtain rfl := M'.isS; exact q
theorem d_ixLB {j : Int} (M : Mm K B G0 ms X L H) (hm : InL X L p ds) (hj : atI ds j = some (.bl b)) (q : Q (.bl b) H) : rIxL K (.ref p) (.int j) H Q := d_ixL M hm hj fun v M' => by obtain rfl := M'.isB; exact q
theorem d_ixTB {j : Int} (M : Mm K B G0 ms X L H) (hm : (V.ref p, D.tup ds) ∈ L) (hj : atI ds j = some (.bl b)) (q : Q (.bl b) H) : rIxT K (.ref p) (.int j) H Q := d_ixT M hm hj fun v M' => by obtain rfl := M'.isB; exact q
theorem atI_mapD {α : Type} [Inhabited α] {f : α → D} {xs : List α} {j : Int} (h0 : 0 ≤ j) (h1 : j < xs.length) : atI (xs.map f) j = some (f (xs.getD j.toNat default)) := by
  have hk : ixN (xs.map f).length j = some j.toNat := by
    unfold ixN
    rw [if_pos h0, if_pos (by rw [List.length_map]; omega)]
  unfold atI
  rw [hk]
  show (xs.map f)[j.toNat]? = _
  rw [List.getElem?_map, List.getD_eq_getElem?_getD, List.getElem?_eq_getElem (show j.toNat < xs.length by omega)]
  rfl
/-! ### lengths, truth -/
theorem d_lenL (M : Mm K B G0 ms X L H) (hm : InL X L p ds) (q : Q (.int ds.length) H) : rLenQ K [.ref p] H Q := by
  obtain ⟨vs, h1, h2, M2⟩ := M.rdL hm
  exact ⟨p, vs, rfl, .inl (SqL.of h1), by rw [h2]; exact q⟩
theorem d_lenT (M : Mm K B G0 ms X L H) (hm : (V.ref p, D.tup ds) ∈ L) (q : Q (.int ds.length) H) : rLenQ K [.ref p] H Q := by
  obtain ⟨vs, h1, h2, M2⟩ := M.rdT hm
  exact ⟨p, vs, rfl, .inr h1, by rw [h2]; exact q⟩
theorem d_lenQ {t : Bool} (M : Mm K B G0 ms X L H) (hm : (V.ref p, sq t ds) ∈ L) (q : Q (.int ds.length) H) : rLenQ K [.ref p] H Q := by
  cases t with
  | true => exact d_lenT M hm q
  | false => exact d_lenL M (.inl hm) q
/-! ### attributes -/
theorem zipF {fs : List (Str × V)} {gs : List (Str × D)} {f : Str} (e : fs.map (·.1) = gs.map (·.1)) (hl : gs.lookup f = some d) : ∃ v, fs.lookup f = some v ∧ (v, d) ∈ (fs.map (·.2)).zip (gs.map (·.2)) := by
  induction fs generalizing gs with
  | nil => cases gs with
    | nil => cases hl
    | cons g gs => simp at e
  | cons x fs ih => cases gs with
    | nil => simp at e
    | cons g gs =>
      obtain ⟨x1, x2⟩ := x
      obtain ⟨g1, g2⟩ := g
      simp only [List.map_cons, List.cons.injEq] at e
      obtain ⟨e1, e2⟩ := e
      subst e1
      by_cases h : f = x1
      · subst h
        simp only [List.lookup_cons, beq_self_eq_true] at hl ⊢
        cases hl
        exact ⟨x2, rfl, by simp⟩
      · have h2 : (f == x1) = false := by simpa using h
        simp only [List.lookup_cons, h2] at hl ⊢
        obtain ⟨v, a1, a2⟩ := ih e2 hl
        exact ⟨v, a1, by simp [a2]⟩
theorem d_fld {f : Str} {gs : List (Str × D)} {PV : V → Prop} (M : Mm K B G0 ms X L H) (hm : (V.ref p, D.ins C gs) ∈ L) (cl : Cls K C) (na : NoAttr K C f) (hl : gs.lookup f = some d) (q : ∀ v, Mm K B G0 ms X ((v, d) :: L) H → PV v) :
    ∃ a' C' dx' fs' v', V.ref p = .ref a' ∧ H a' = some (.ins C' dx' fs') ∧ Cls K C' ∧ NoAttr K C' f ∧ fs'.lookup f = some v' ∧ PV v' := by
  obtain ⟨dx, fs, h1, h2, M2⟩ := M.rdI hm
  obtain ⟨v, h3, h4⟩ := zipF h2 hl
  refine ⟨p, C, dx, fs, v, rfl, h1, cl, na, h3, q v (M2.sub fun z hz => ?_)⟩
  rcases List.mem_cons.mp hz with rfl | hz
  · exact List.mem_append_left _ h4
  · exact List.mem_append_right _ hz
theorem d_fldI {f : Str} {gs : List (Str × D)} {PV : V → Prop} (M : Mm K B G0 ms X L H) (hm : (V.ref p, D.ins C gs) ∈ L) (cl : Cls K C) (na : NoAttr K C f) (hl : gs.lookup f = some (.int n)) (q : PV (.int n)) :
    ∃ a' C' dx' fs' v', V.ref p = .ref a' ∧ H a' = some (.ins C' dx' fs') ∧ Cls K C' ∧ NoAttr K C' f ∧ fs'.lookup f = some v' ∧ PV v' := d_fld M hm cl na hl fun v M' => by obtain rfl := M'.isI; exact q
/-! ### unpacking -/
theorem d_gT2 {t : TGs} {nn : Nat} {d1 d2 : D} {QG : L2.St → Hp → Prop} (M : Mm K B G0 ms X L H) (hm : (V.ref p, D.tup [d1, d2]) ∈ L) (hn : 2 = nn) (q : ∀ v1 v2, Mm K B G0 ms X ((v1, d1) :: (v2, d2) :: L) H → t [v1, v2] σ H QG) : gTup K nn t (.ref p) σ H QG := by
  subst hn
  obtain ⟨vs, h1, h2, M2⟩ := M.rdT hm
  match vs, h2 with
  | [v1, v2], _ => exact ⟨p, _, rfl, h1, rfl, q v1 v2 M2⟩
theorem d_gT2I {t : TGs} {nn : Nat} {i j : Int} {QG : L2.St → Hp → Prop} (M : Mm K B G0 ms X L H) (hm : (V.ref p, D.tup [.int i, .int j]) ∈ L) (hn : 2 = nn) (q : t [.int i, .int j] σ H QG) : gTup K nn t (.ref p) σ H QG := d_gT2 M hm hn fun v1 v2 M' => by
  obtain rfl := M'.isI
  obtain rfl := M'.dropL.isI
  exact q
theorem d_gT3 {t : TGs} {nn : Nat} {d1 d2 d3 : D} {QG : L2.St → Hp → Prop} (M : Mm K B G0 ms X L H) (hm : (V.ref p, D.tup [d1, d2, d3]) ∈ L) (hn : 3 = nn) (q : ∀ v1 v2 v3, Mm K B G0 ms X ((v1, d1) :: (v2, d2) :: (v3, d3) :: L) H → t [v1, v2, v3] σ H QG) : gTup K nn t (.ref p) σ H QG := by
  subst hn
  obtain ⟨vs, h1, h2, M2⟩ := M.rdT hm
  match vs, h2 with
  | [v1, v2, v3], _ => exact ⟨p, _, rfl, h1, rfl, q v1 v2 v3 M2⟩
/-! ### new things -/
theorem d_tup (M : Mm K B G0 ms X L H) (ha : Hs L vs ds) (hl : vs.length ≤ sizeLine) (q : ∀ p H', Mm K B G0 ms X ((.ref p, .tup ds) :: L) H' → Q (.ref p) H') : newT vs H Q := ⟨hl, fun p hp => q p _ (M.newT hp ha)⟩
theorem d_lst (M : Mm K B G0 ms X L H) (ha : Hs L vs ds) (hl : vs.length ≤ sizeLine) (q : ∀ p H', Mm K B G0 ms X ((.ref p, .lst ds) :: L) H' → Q (.ref p) H') : newL vs H Q := ⟨hl, fun p hp => q p _ (M.newL hp ha)⟩
theorem d_lst0 (M : Mm K B G0 ms X L H) (q : ∀ p H', Mm K B G0 ms ((p, .lst []) :: X) L H' → Q (.ref p) H') : newL [] H Q := ⟨by rw [sizeLine_eq]; decide, fun p hp => q p _ (M.newLX hp .nil)⟩
theorem d_lstX (M : Mm K B G0 ms X L H) (ha : Hs L vs ds) (hl : vs.length ≤ sizeLine) (q : ∀ p H', Mm K B G0 ms ((p, .lst ds) :: X) L H' → Q (.ref p) H') : newL vs H Q := ⟨hl, fun p hp => q p _ (M.newLX hp ha)⟩
theorem Mm.thin {x : V × D} (M : Mm K B G0 ms X (x :: (L' ++ L)) H) : Mm K B G0 ms X (x :: L) H := M.sub fun z hz => by
  rcases List.mem_cons.mp hz with rfl | hz
  · exact List.mem_cons_self
  · exact List.mem_cons_of_mem _ (List.mem_append_right _ hz)
theorem Mm.thin0 (M : Mm K B G0 ms X (L' ++ L) H) : Mm K B G0 ms X L H := M.sub fun z hz => List.mem_append_right _ hz
/-- list(x), tuple(x) -/
theorem d_listOf (M : Mm K B G0 ms X L H) (hm : InL X L p ds ∨ (V.ref p, D.tup ds) ∈ L) (q : ∀ a H', Mm K B G0 ms ((a, .lst ds) :: X) L H' → Q (.ref a) H') : rListOf K [.ref p] H Q := by
  rcases hm with h | h
  · obtain ⟨vs, h1, h2, M2⟩ := M.rdL h
    exact ⟨p, vs, rfl, .inl (SqL.of h1), fun l hl => q l _ (M2.newLX hl (Hs.zip h2)).thin0⟩
  · obtain ⟨vs, h1, h2, M2⟩ := M.rdT h
    exact ⟨p, vs, rfl, .inr h1, fun l hl => q l _ (M2.newLX hl (Hs.zip h2)).thin0⟩
theorem d_listI (M : Mm K B G0 ms X L H) (hm : InL X L p ds ∨ (V.ref p, D.tup ds) ∈ L) (q : ∀ a H', Mm K B G0 ms X ((.ref a, .lst ds) :: L) H' → Q (.ref a) H') : rListOf K [.ref p] H Q := by
  rcases hm with h | h
  · obtain ⟨vs, h1, h2, M2⟩ := M.rdL h
    exact ⟨p, vs, rfl, .inl (SqL.of h1), fun l hl => q l _ (M2.newL hl (Hs.zip h2)).thin⟩
  · obtain ⟨vs, h1, h2, M2⟩ := M.rdT h
    exact ⟨p, vs, rfl, .inr h1, fun l hl => q l _ (M2.newL hl (Hs.zip h2)).thin⟩
theorem d_tupOfL (M : Mm K B G0 ms X L H) (hm : InL X L p ds) (q : ∀ a H', Mm K B G0 ms X ((.ref a, .tup ds) :: L) H' → Q (.ref a) H') : rTupleOf K [.ref p] H Q := by
  obtain ⟨vs, h1, h2, M2⟩ := M.rdL hm
  exact ⟨p, vs, rfl, .inl ⟨SqL.of h1, fun l hl => q l _ (M2.newT hl (Hs.zip h2)).thin⟩⟩
theorem d_tupOfT (M : Mm K B G0 ms X L H) (hm : (V.ref p, D.tup ds) ∈ L) (q : Q (.ref p) H) : rTupleOf K [.ref p] H Q := by
  obtain ⟨vs, h1, h2, M2⟩ := M.rdT hm
  exact ⟨p, vs, rfl, .inr ⟨h1, q⟩⟩
theorem d_tupOfQ {t : Bool} (M : Mm K B G0 ms X L H) (hm : (V.ref p, sq t ds) ∈ L) (q : ∀ a H', Mm K B G0 ms X ((.ref a, .tup ds) :: L) H' → Q (.ref a) H') : rTupleOf K [.ref p] H Q := by
  cases t with
  | true => exact d_tupOfT M hm (q p H (M.add (H1.mem hm)))
  | false => exact d_tupOfL M (.inl hm) q
/-- x[lo:hi] -/
def cutG {α : Type} (xs : List α) (lo hi : Option Int) : List α := (xs.drop (HT.sIx xs.length 0 lo)).take (HT.sIx xs.length xs.length hi - HT.sIx xs.length 0 lo)
theorem Hs.cut (h : Hs L vs ds) (e : vs.length = ds.length) (lo hi : Option Int) : Hs L (cutV vs lo hi) (cutG ds lo hi) := by
  unfold cutV cutG
  rw [e]
  exact (h.drop _).take _
theorem d_slL {lo hi : Option Int} (M : Mm K B G0 ms X L H) (hm : InL X L p ds) (q : ∀ a H', Mm K B G0 ms X ((.ref a, .lst (cutG ds lo hi)) :: L) H' → Q (.ref a) H') : rSlL K (.ref p) lo hi H Q := by
  obtain ⟨vs, h1, h2, M2⟩ := M.rdL hm
  exact ⟨p, vs, rfl, SqL.of h1, fun a ha => q a _ (M2.newL ha ((Hs.zip h2).cut h2 lo hi)).thin⟩
def revN (K : PySem.W.Frag) (x : V) (H : Hp) (Q : VK) : Prop := ∃ a xs, x = .ref a ∧ SqL K H a xs ∧ ∀ p, H p = none → Q (.ref p) (upd H p (.lst xs.reverse))
theorem d_revL {te : TE} (h : te σ H fun x H1 => revN K x H1 Q) : tRevL K te σ H Q := h
theorem d_rev (M : Mm K B G0 ms X L H) (hm : InL X L p ds) (q : ∀ a H', Mm K B G0 ms X ((.ref a, .lst ds.reverse) :: L) H' → Q (.ref a) H') : revN K (.ref p) H Q := by
  obtain ⟨vs, h1, h2, M2⟩ := M.rdL hm
  exact ⟨p, vs, rfl, SqL.of h1, fun a ha => q a _ (M2.newL ha (Hs.zip h2).reverse).thin⟩
theorem d_cat (M : Mm K B G0 ms X L H) (hm : InL X L p ds) (hm2 : InL X L a es) (hz : ds.length + es.length ≤ sizeLine) (q : ∀ r H', Mm K B G0 ms ((r, .lst (ds ++ es)) :: X) L H' → Q (.ref r) H') : rCat (.ref p) (.ref a) H Q := by
  obtain ⟨vs, h1, h2, M2⟩ := M.rdL hm
  have hm3 : InL X (vs.zip ds ++ L) a es := hm2.imp (fun z => List.mem_append_right _ z) id
  obtain ⟨ws, h3, h4, M3⟩ := M2.rdL hm3
  exact ⟨p, a, vs, ws, rfl, rfl, h1, h3, by omega, fun r hr => q r _ (M3.newLX hr (((Hs.zip h2).mono fun z hz => List.mem_append_right _ hz).append (Hs.zip h4))).thin0.thin0⟩
theorem d_rep {k : Int} (M : Mm K B G0 ms X L H) (hm : InL X L p [d]) (h0 : 0 ≤ k) (h1 : k ≤ 50000) (q : ∀ r H', Mm K B G0 ms ((r, .lst (List.replicate k.toNat d)) :: X) L H' → Q (.ref r) H') : rRep (.ref p) (.int k) H Q := by
  obtain ⟨vs, e1, e2, M2⟩ := M.rdL hm
  match vs, e2 with
  | [v], _ =>
    refine ⟨p, k, _, rfl, rfl, e1, by omega, by omega, ?_, fun r hr => q r _ (M2.newLX hr ?_).thin0⟩
    · rw [List.length_singleton, Nat.one_mul]
      exact Nat.le_trans (show k.toNat ≤ 50000 by omega) (by decide)
    · have : ∀ n : Nat, Hs ([(v, d)] ++ L) (List.replicate n [v]).flatten (List.replicate n d) := fun n => by
        induction n with
        | zero => exact .nil
        | succ n ih => rw [List.replicate_succ, List.flatten_cons, List.replicate_succ]; exact .cons (H1.mem (by simp)) ih
      exact this _
/-- tuple + tuple -/
theorem d_catT (M : Mm K B G0 ms X L H) (hm : (V.ref p, D.tup ds) ∈ L) (hm2 : (V.ref a, D.tup es) ∈ L) (hz : ds.length + es.length ≤ sizeLine) (q : ∀ r H', Mm K B G0 ms X ((.ref r, .tup (ds ++ es)) :: L) H' → Q (.ref r) H') : rCatA K (.ref p) (.ref a) H Q := by
  obtain ⟨vs, h1, h2, M2⟩ := M.rdT hm
  obtain ⟨ws, h3, h4, M3⟩ := M2.rdT (List.mem_append_right _ hm2)
  refine ⟨p, a, vs, ws, rfl, rfl, h1, h3, by omega, fun e => ?_, fun _ e => ?_, fun _ _ r hr => q r _ (M3.newT hr (((Hs.zip h2).mono fun z hz => List.mem_append_right _ hz).append (Hs.zip h4))).thin.thin⟩
  · subst e
    have e2 : ds = [] := List.length_eq_zero_iff.mp h2.symm
    subst e2
    exact q a H (M.add (H1.mem hm2))
  · subst e
    have e2 : es = [] := List.length_eq_zero_iff.mp h4.symm
    subst e2
    rw [List.append_nil] at q
    exact q p H (M.add (H1.mem hm))
/-! ### what changes -/
theorem d_app {X1 X2 : List (Addr × D)} (M : Mm K B G0 ms (X1 ++ (p, .lst ds) :: X2) L H) (h : H1 L v d) (hl : ds.length < sizeLine) (q : ∀ H', Mm K B G0 ms (X1 ++ (p, .lst (ds ++ [d])) :: X2) L H' → Q .non H') : rAppend (.ref p) [v] H Q := by
  obtain ⟨vs, h1, h2, k⟩ := M.lstX
  exact ⟨p, vs, v, rfl, rfl, h1, by omega, q _ (k _ _ fun G a b => b.append (.one (h K G a)))⟩
theorem d_pop {X1 X2 : List (Addr × D)} (M : Mm K B G0 ms (X1 ++ (p, .lst ds) :: X2) L H) (hd : ds[ds.length - 1]? = some d) (q : ∀ v H', Mm K B G0 ms (X1 ++ (p, .lst ds.dropLast) :: X2) ((v, d) :: L) H' → Q v H') : rPop (.ref p) [] H Q := by
  obtain ⟨ws, e1, e2, M2⟩ := M.rdL (p := p) (ds := ds) (.inr (by simp))
  obtain ⟨v, e3, M3⟩ := M2.pick e2 hd
  obtain ⟨vs, h1, h2, k⟩ := M3.lstX
  obtain rfl : ws = vs := by rw [h1] at e1; injection e1 with e1; injection e1 with e1; exact e1.symm
  refine ⟨p, ws, v, rfl, rfl, h1, by rw [h2]; exact e3, q v _ (k _ _ fun G a b => ?_)⟩
  rw [List.dropLast_eq_take, List.dropLast_eq_take, h2]
  exact b.take _
theorem d_popAt {X1 X2 : List (Addr × D)} {i : Int} (M : Mm K B G0 ms (X1 ++ (p, .lst ds) :: X2) L H) (h0 : 0 ≤ i) (hi : i < ds.length) (hb : ds.length ≤ 50000) (hd : ds[i.toNat]? = some d) (q : ∀ v H', Mm K B G0 ms (X1 ++ (p, .lst (ds.eraseIdx i.toNat)) :: X2) ((v, d) :: L) H' → Q v H') : rPopAt (.ref p) [.int i] H Q := by
  obtain ⟨ws, e1, e2, M2⟩ := M.rdL (p := p) (ds := ds) (.inr (by simp))
  obtain ⟨v, e3, M3⟩ := M2.pick e2 hd
  obtain ⟨vs, h1, h2, k⟩ := M3.lstX
  obtain rfl : ws = vs := by rw [h1] at e1; injection e1 with e1; injection e1 with e1; exact e1.symm
  exact ⟨p, ws, i, i.toNat, v, rfl, rfl, h1, by omega, by omega, seqIx h0 (by omega), e3, q v _ (k _ _ fun G a b => b.eraseIdx _)⟩
theorem d_ins {X1 X2 : List (Addr × D)} {i : Int} (M : Mm K B G0 ms (X1 ++ (p, .lst ds) :: X2) L H) (h : H1 L v d) (hl : ds.length < sizeLine) (h0 : 0 ≤ i) (hi : i < 2 ^ 63) (q : ∀ H', Mm K B G0 ms (X1 ++ (p, .lst (ds.take i.toNat ++ [d] ++ ds.drop i.toNat)) :: X2) L H' → Q .non H') : rInsert (.ref p) [.int i, v] H Q := by
  obtain ⟨vs, h1, h2, k⟩ := M.lstX
  exact ⟨p, vs, i, v, rfl, rfl, h1, by omega, h0, hi, q _ (k _ _ fun G a b => ((b.take _).append (.one (h K G a))).append (b.drop _))⟩
theorem d_set {X1 X2 : List (Addr × D)} {i : Int} {QH : Hp → Prop} (M : Mm K B G0 ms (X1 ++ (p, .lst ds) :: X2) L H) (h : H1 L v d) (h0 : 0 ≤ i) (hi : i < ds.length) (q : ∀ H', Mm K B G0 ms (X1 ++ (p, .lst (ds.set i.toNat d)) :: X2) L H' → QH H') : rSetL (.ref p) (.int i) v H QH := by
  obtain ⟨vs, h1, h2, k⟩ := M.lstX
  refine ⟨p, vs, i, i.toNat, rfl, rfl, h1, ?_, q _ (k _ _ fun G a b => b.set _ (h K G a))⟩
  unfold ixN
  rw [if_pos h0, if_pos (by omega)]
theorem d_reverse {X1 X2 : List (Addr × D)} (M : Mm K B G0 ms (X1 ++ (p, .lst ds) :: X2) L H) (q : ∀ H', Mm K B G0 ms (X1 ++ (p, .lst ds.reverse) :: X2) L H' → Q .non H') : rReverse (.ref p) [] H Q := by
  obtain ⟨vs, h1, h2, k⟩ := M.lstX
  exact ⟨p, vs, rfl, rfl, h1, q _ (k _ _ fun G a b => b.reverse)⟩
theorem d_clear {X1 X2 : List (Addr × D)} (M : Mm K B G0 ms (X1 ++ (p, .lst ds) :: X2) L H) (q : ∀ H', Mm K B G0 ms (X1 ++ (p, .lst []) :: X2) L H' → Q .non H') : rClear (.ref p) [] H Q := by
  obtain ⟨vs, h1, h2, k⟩ := M.lstX
  exact ⟨p, vs, rfl, rfl, h1, q _ (k _ _ fun G a b => .nil)⟩
theorem d_extend {X1 X2 : List (Addr × D)} (M : Mm K B G0 ms (X1 ++ (p, .lst ds) :: X2) L H) (hm : InL (X1 ++ (p, .lst ds) :: X2) L a es) (hz : ds.length + es.length ≤ sizeLine) (q : ∀ H', Mm K B G0 ms (X1 ++ (p, .lst (ds ++ es)) :: X2) L H' → Q .non H') : rExtend (.ref p) [.ref a] H Q := by
  obtain ⟨ws, e1, e2, M2⟩ := M.rdL hm
  obtain ⟨vs, h1, h2, k⟩ := M2.lstX
  exact ⟨p, a, vs, ws, rfl, rfl, h1, e1, by omega, q _ (k _ _ fun G a b => b.append (Hs.zip e2 K G a)).thin0⟩
/-! ### kinds -/
theorem d_isiT {c : String} (M : Mm K B G0 ms X L H) (hm : (V.ref p, D.tup ds) ∈ L) (e : PySem.W.kitOne K (.type "tuple") (.type c) = some b) (q : Q (.bl b) H) : rIsi K [.ref p, .ty c] H Q := by
  obtain ⟨vs, h1, h2, M2⟩ := M.rdT hm
  have ht : TyX K H (.ref p) (.type "tuple") := by
    rcases h1 with h1 | ⟨o, its, m, h1, h3, _⟩
    · rcases h1 with h1 | ⟨o, h1⟩
      · exact .base (.tup h1)
      · exact .fTuple h1
    · exact .kTuple h1 h3
  exact ⟨_, _, _, _, b, rfl, .ty c, ht, e, q⟩
theorem d_isiL {c : String} (M : Mm K B G0 ms X L H) (hm : InL X L p ds) (e : PySem.W.kitOne K (.type "list") (.type c) = some b) (q : Q (.bl b) H) : rIsi K [.ref p, .ty c] H Q := by
  obtain ⟨vs, h1, h2, M2⟩ := M.rdL hm
  exact ⟨_, _, _, _, b, rfl, .ty c, .base (.lst h1), e, q⟩
theorem d_isiO {gs : List (Str × D)} (M : Mm K B G0 ms X L H) (hm : (V.ref p, D.ins C gs) ∈ L) (cl : Cls K C) (ha : PySem.W.findIn K (.ref C) "__class__" = some (some (.builtin "object.__class__"))) (hn : PySem.W.specialIn K (.builtin "object.__class__") "__get__" = some (some (.builtin "getset_descriptor.__get__")))
    (ht : PySem.W.takesIn K (.builtin "object.__class__") = some true) (hmr : PySem.W.mroIn K C (.type "object") = some true) (q : Q (.bl true) H) : rIsi K [.ref p, .ref C] H Q := by
  obtain ⟨dx, fs, h1, h2, M2⟩ := M.rdI hm
  exact k_isiO h1 cl ha hn ht hmr q
theorem d_tyL (M : Mm K B G0 ms X L H) (hm : InL X L p ds) : tyV K "list" (.ref p) H := by
  obtain ⟨vs, h1, h2, M2⟩ := M.rdL hm
  exact .inl ⟨rfl, vs, SqL.of h1⟩
/-! ### own objects -/
theorem d_insAt {gs : List (Str × D)} (M : Mm K B G0 ms X L H) (hm : (V.ref p, D.ins C gs) ∈ L) : ∃ dx fs, H p = some (.ins C dx fs) ∧ ∀ m : Str, gs.lookup m = none → fs.lookup m = none := by
  obtain ⟨dx, fs, h1, h2, M2⟩ := M.rdI hm
  refine ⟨dx, fs, h1, fun m hl => ?_⟩
  clear M2 h1 hm
  induction fs generalizing gs with
  | nil => rfl
  | cons x fs ih => cases gs with
    | nil => simp at h2
    | cons g gs =>
      obtain ⟨x1, x2⟩ := x
      obtain ⟨g1, g2⟩ := g
      simp only [List.map_cons, List.cons.injEq] at h2
      obtain ⟨e1, e2⟩ := h2
      subst e1
      by_cases h : m = x1
      · subst h
        simp at hl
      · have h3 : (m == x1) = false := by simpa using h
        simp only [List.lookup_cons, h3] at hl ⊢
        exact ih e2 hl
end
end MyL

set_option Elab.async false
set_option linter.all false
set_option maxRecDepth 100000
set_option maxHeartbeats 4000000
/-! Loops and comprehensions over known data; equality of data; own objects. -/
namespace MyL
open PySem PySem.Spec PyProof.Rows L2
/-- what a walk yields: n things, told by e, while ok holds -/
def Src (K : PySem.W.Frag) (B G0 : Hp) (ms : List Addr) (J : It) (n : Nat) (e : Nat → D) (ok : List (Addr × D) → List (V × D) → Prop) : Prop :=
  ∀ X L H, ok X L → Mm K B G0 ms X L H → (∀ i, i < n → J.go i H) ∧ J.stop n H ∧ ∀ i x H', i < n → J.yld i H x H' → Mm K B G0 ms X ((x, e i) :: L) H'
abbrev anyOk : List (Addr × D) → List (V × D) → Prop := fun _ _ => True
section
variable {K : PySem.W.Frag} {B G0 G H H' : Hp} {ms : List Addr} {X X' : List (Addr × D)} {L L' : List (V × D)} {p a C : Addr} {v w : V} {d d' : D} {vs ws : List V} {ds es : List D} {Q : VK} {σ : L2.St}
theorem src_rng {lo : Int} {n : Nat} : Src K B G0 ms (Itr lo n) n (fun i => .int (lo + i)) anyOk := fun X L H _ M =>
  ⟨fun i hi => hi, Nat.le_refl n, fun i x H' hi ⟨e1, e2⟩ => by subst e1 e2; exact M.add H1.int⟩
theorem src_lst : Src K B G0 ms (Itl K p) ds.length (fun i => ds.getD i .non) (fun X L => InL X L p ds) := fun X L H hok M => by
  obtain ⟨vs, h1, h2, M2⟩ := M.rdL hok
  refine ⟨fun i hi => ?_, ⟨vs, SqL.of h1, by omega⟩, fun i x H' hi ⟨e1, e2⟩ => ?_⟩
  · exact ⟨vs, vs[i]'(by omega), SqL.of h1, List.getElem?_eq_getElem _⟩
  · subst e1
    obtain ⟨v, h3, M3⟩ := M2.pick h2 (List.getElem?_eq_getElem hi)
    have h4 := e2 vs (SqL.of h1)
    rw [h3] at h4
    cases h4
    dsimp only
    rw [List.getD_eq_getElem?_getD, List.getElem?_eq_getElem hi]
    exact M3
theorem src_tup : Src K B G0 ms (Itt K p) ds.length (fun i => ds.getD i .non) (fun X L => (V.ref p, D.tup ds) ∈ L) := fun X L H hok M => by
  obtain ⟨vs, h1, h2, M2⟩ := M.rdT hok
  refine ⟨fun i hi => ?_, ⟨vs, h1, by omega⟩, fun i x H' hi ⟨e1, e2⟩ => ?_⟩
  · exact ⟨vs, vs[i]'(by omega), h1, List.getElem?_eq_getElem _⟩
  · subst e1
    obtain ⟨v, h3, M3⟩ := M2.pick h2 (List.getElem?_eq_getElem hi)
    have h4 := e2 vs h1
    rw [h3] at h4
    cases h4
    dsimp only
    rw [List.getD_eq_getElem?_getD, List.getElem?_eq_getElem hi]
    exact M3
theorem src_enum : Src K B G0 ms (Ite K p) ds.length (fun i => .tup [.int (i : Nat), ds.getD i .non]) (fun X L => InL X L p ds) := fun X L H hok M => by
  obtain ⟨vs, h1, h2, M2⟩ := M.rdL hok
  refine ⟨fun i hi => ?_, ⟨vs, SqL.of h1, by omega⟩, ?_⟩
  · exact ⟨vs, vs[i]'(by omega), SqL.of h1, List.getElem?_eq_getElem _⟩
  · rintro i x H' hi ⟨T, y, rfl, hT, rfl, e2⟩
    obtain ⟨v, h3, M3⟩ := M2.pick h2 (List.getElem?_eq_getElem hi)
    have h4 := e2 vs (SqL.of h1)
    rw [h3] at h4
    cases h4
    dsimp only
    rw [List.getD_eq_getElem?_getD, List.getElem?_eq_getElem hi]
    exact (M3.newT hT (.cons H1.int (.cons (H1.mem List.mem_cons_self) .nil))).sub fun z hz => by
      rcases List.mem_cons.mp hz with rfl | hz
      · exact List.mem_cons_self
      · exact List.mem_cons_of_mem _ (List.mem_cons_of_mem _ hz)
theorem src_enumT : Src K B G0 ms (IteT p) ds.length (fun i => .tup [.int (i : Nat), ds.getD i .non]) (fun X L => (V.ref p, D.tup ds) ∈ L) := fun X L H hok M => by
  obtain ⟨vs, h1', h2, M2⟩ := M.rdT2 hok
  refine ⟨fun i hi => ?_, ⟨vs, h1', h2⟩, ?_⟩
  · exact ⟨vs, vs[i]'(by omega), h1', List.getElem?_eq_getElem _⟩
  · rintro i x H' hi ⟨T, y, rfl, hT, rfl, e2⟩
    obtain ⟨v, h3, M3⟩ := M2.pick h2 (List.getElem?_eq_getElem hi)
    have h4 := e2 vs h1'
    rw [h3] at h4
    cases h4
    dsimp only
    rw [List.getD_eq_getElem?_getD, List.getElem?_eq_getElem hi]
    exact (M3.newT hT (.cons H1.int (.cons (H1.mem List.mem_cons_self) .nil))).sub fun z hz => by
      rcases List.mem_cons.mp hz with rfl | hz
      · exact List.mem_cons_self
      · exact List.mem_cons_of_mem _ (List.mem_cons_of_mem _ hz)
/-- what holds between two turns: the slots, what changes, what is known more -/
abbrev LInv := Nat → L2.St → List (Addr × D) → List (V × D) → Prop
theorem forD {J : It} {n : Nat} {e : Nat → D} {ok : List (Addr × D) → List (V × D) → Prop} {g : TG} {tb : TS} {nx bk ct : L2.St → Hp → Prop} {rt : VK} {L0 : List (V × D)} (S : Src K B G0 ms J n e ok) (M : Mm K B G0 ms X L H) (I : LInv) (hok : ∀ i σ' X' L', I i σ' X' L' → ok X' (L' ++ L)) (h0 : I 0 σ X L0) (hl0 : ∀ z ∈ L0, H1 L z.1 z.2)
    (hs : ∀ i x σ' X' L' H', i < n → I i σ' X' L' → Mm K B G0 ms X' ((x, e i) :: (L' ++ L)) H' → g x σ' H' fun σ2 H2 => tb ⟨fun σ3 H3 => ∃ X3 L3, I (i + 1) σ3 X3 L3 ∧ Mm K B G0 ms X3 (L3 ++ L) H3, rt, nx, fun σ3 H3 => ∃ X3 L3, I (i + 1) σ3 X3 L3 ∧ Mm K B G0 ms X3 (L3 ++ L) H3⟩ σ2 H2)
    (hd : ∀ σ' X' L' H', I n σ' X' L' → Mm K B G0 ms X' (L' ++ L) H' → nx σ' H') : tFor (iJ J) g tb ⟨nx, rt, bk, ct⟩ σ H := by
  refine ⟨fun i m σ' H' => m = n - i ∧ i ≤ n ∧ ∃ X' L', I i σ' X' L' ∧ Mm K B G0 ms X' (L' ++ L) H', ⟨n, rfl, Nat.zero_le _, X, L0, h0, M.more fun z hz => (List.mem_append.mp hz).elim (hl0 z) H1.mem⟩, ?_⟩
  rintro i m σ' H' ⟨rfl, hi, X', L', hI, M'⟩
  obtain ⟨s1, s2, s3⟩ := S X' (L' ++ L) H' (hok i σ' X' L' hI) M'
  by_cases hlt : i < n
  · exact .inr ⟨s1 i hlt, _, fun σ3 H3 hN => ⟨n - (i + 1), by omega, rfl, hlt, hN⟩, fun x H2 hy => hs i x σ' X' L' H2 hlt hI (s3 i x H2 hlt hy)⟩
  · have e : i = n := by omega
    subst e
    exact .inl ⟨s2, hd σ' X' L' H' hI M'⟩
/-- a comprehension: what holds between two turns, of the list that is made and of what changes -/
def LcN (K : PySem.W.Frag) (B G0 : Hp) (ms : List Addr) (L : List (V × D)) (A : Addr) (I : Nat → List D → List (Addr × D) → Prop) (i : Nat) (H : Hp) : Prop := ∃ acc X', I i acc X' ∧ Mm K B G0 ms ((A, .lst acc) :: X') L H
theorem lc_put {I : Nat → List D → List (Addr × D) → Prop} {i : Nat} {A : Addr} {y : V} {acc : List D} {L4 : List (V × D)} (M4 : Mm K B G0 ms ((A, .lst acc) :: X) L4 H) (hy : H1 L4 y d) (hL : ∀ z ∈ L, z ∈ L4) (hl : acc.length ≤ 50000) (hI : I i (acc ++ [d]) X) :
    ∃ us, H A = some (.lst us) ∧ us.length < sizeLine ∧ LcN K B G0 ms L A I i (upd H A (.lst (us ++ [y]))) := by
  obtain ⟨us, u1, u2, k⟩ := Mm.lstX (X1 := []) M4
  refine ⟨us, u1, ?_, acc ++ [d], X, hI, ?_⟩
  · rw [u2]; exact Nat.lt_of_le_of_lt hl (by decide)
  · exact (k _ _ fun G q1 q2 => q2.append (.one (hy K G q1))).sub hL
theorem lcD {J : It} {n : Nat} {e : Nat → D} {ok : List (Addr × D) → List (V × D) → Prop} {g : TG} {tt : TT} {te : TE} {ns : List Nat} (S : Src K B G0 ms J n e ok) (M : Mm K B G0 ms X L H) (I : Nat → List D → List (Addr × D) → Prop) (hok : ∀ i acc X' A, I i acc X' → ok ((A, .lst acc) :: X') L) (h0 : I 0 [] X)
    (hs : ∀ i x acc X' A H', i < n → I i acc X' → Mm K B G0 ms ((A, .lst acc) :: X') ((x, e i) :: L) H' → g x (wipe σ ns) H' fun σ2 H2 => wipe σ2 ns = wipe σ ns ∧ tt σ2 H2 fun b H3 =>
      if b = true then te σ2 H3 fun y H4 => ∃ us, H4 A = some (.lst us) ∧ us.length < sizeLine ∧ LcN K B G0 ms L A I (i + 1) (upd H4 A (.lst (us ++ [y]))) else LcN K B G0 ms L A I (i + 1) H3)
    (hd : ∀ A acc X' H', I n acc X' → Mm K B G0 ms ((A, .lst acc) :: X') L H' → Q (.ref A) H') : tLc (iJ J) g tt te ns σ H Q := by
  intro A hA
  refine ⟨fun i m H' => m = n - i ∧ i ≤ n ∧ LcN K B G0 ms L A I i H', ⟨n, rfl, Nat.zero_le _, [], X, h0, M.newLX hA .nil⟩, ?_⟩
  rintro i m H' ⟨rfl, hi, acc, X', hI, M'⟩
  obtain ⟨s1, s2, s3⟩ := S _ L H' (hok i acc X' A hI) M'
  by_cases hlt : i < n
  · exact .inr ⟨s1 i hlt, LcN K B G0 ms L A I (i + 1), fun H3 hN => ⟨n - (i + 1), by omega, rfl, hlt, hN⟩, fun x H2 hy => hs i x acc X' A H2 hlt hI (s3 i x H2 hlt hy)⟩
  · have e : i = n := by omega
    subst e
    exact .inl ⟨s2, hd A acc X' H' hI M'⟩
/-! ### a list or a tuple -/
theorem srcQ {t : Bool} {n : Nat} {tb : TS} {g : TG} {E : Ends} (M : Mm K B G0 ms X L H) (hv : σ[n]? = some (some (.ref p))) (hm : (V.ref p, sq t ds) ∈ L) (k : ∀ J, Src K B G0 ms J ds.length (fun i => ds.getD i .non) (fun _ L' => (V.ref p, sq t ds) ∈ L') → tFor (iJ J) g tb E σ H) : tFor (iOr (iList K (tVar n)) (iTup K (tVar n))) g tb E σ H := by
  cases t with
  | true =>
    obtain ⟨vs, h1, h2, _⟩ := M.rdT hm
    exact .inr ⟨_, hv, p, rfl, ⟨vs, h1⟩, k _ fun X L H hok M => src_tup X L H hok M⟩
  | false =>
    obtain ⟨vs, h1, h2, _⟩ := M.rdL (.inl hm)
    exact .inl ⟨_, hv, p, rfl, ⟨vs, SqL.of h1⟩, k _ fun X L H hok M => src_lst X L H (.inl hok) M⟩
theorem srcQc {t : Bool} {n : Nat} {g : TG} {tt : TT} {te : TE} {ns : List Nat} (M : Mm K B G0 ms X L H) (hv : σ[n]? = some (some (.ref p))) (hm : (V.ref p, sq t ds) ∈ L) (k : ∀ J, Src K B G0 ms J ds.length (fun i => ds.getD i .non) (fun _ L' => (V.ref p, sq t ds) ∈ L') → tLc (iJ J) g tt te ns σ H Q) : tLc (iOr (iList K (tVar n)) (iTup K (tVar n))) g tt te ns σ H Q := by
  cases t with
  | true =>
    obtain ⟨vs, h1, h2, _⟩ := M.rdT hm
    exact .inr ⟨_, hv, p, rfl, ⟨vs, h1⟩, k _ fun X L H hok M => src_tup X L H hok M⟩
  | false =>
    obtain ⟨vs, h1, h2, _⟩ := M.rdL (.inl hm)
    exact .inl ⟨_, hv, p, rfl, ⟨vs, SqL.of h1⟩, k _ fun X L H hok M => src_lst X L H (.inl hok) M⟩
theorem d_lstAt {PR : Addr → Prop} (M : Mm K B G0 ms X L H) (hm : InL X L p ds) (q : PR p) : ∃ a, V.ref p = .ref a ∧ (∃ xs, SqL K H a xs) ∧ PR a := by
  obtain ⟨vs, h1, h2, M2⟩ := M.rdL hm
  exact ⟨p, rfl, ⟨vs, SqL.of h1⟩, q⟩
theorem d_tupAt {PR : Addr → Prop} (M : Mm K B G0 ms X L H) (hm : (V.ref p, D.tup ds) ∈ L) (q : PR p) : ∃ a, V.ref p = .ref a ∧ (∃ xs, SqT K H a xs) ∧ PR a := by
  obtain ⟨vs, h1, h2, M2⟩ := M.rdT hm
  exact ⟨p, rfl, ⟨vs, h1⟩, q⟩
end
/-! ### equality -/
mutual
def D.py : D → PyData
  | .non => .none | .bl b => .bool b | .int i => .int i | .str s => .str s
  | .tup ds => .tuple (D.pyL ds) | .lst ds => .list (D.pyL ds)
  | .ins _ _ | .dK _ | .dT _ => .dict []
def D.pyL : List D → List PyData
  | [] => []
  | d :: ds => D.py d :: D.pyL ds
end
/-- plain data of depth n -/
def Sh : Nat → D → Prop
  | _, .non | _, .bl _ | _, .int _ => True
  | _, .str s => PyData.strOk s = true
  | n + 1, .tup ds | n + 1, .lst ds => ∀ d ∈ ds, Sh n d
  | _, _ => False
def eqd (d e : D) : Bool := PyData.eqv d.py e.py
def eqdL (ds es : List D) : Bool := PyData.eqvAll (D.pyL ds) (D.pyL es)
end MyL

set_option Elab.async false
set_option linter.all false
set_option maxRecDepth 100000
set_option maxHeartbeats 4000000
/-! Equality of data, membership; own objects and their making. -/
namespace MyL
open PySem PySem.Spec PyProof.Rows L2
section
variable {d e : D} {ds es : List D}
theorem pyL_map {ds : List D} : D.pyL ds = ds.map D.py := by
  induction ds with
  | nil => simp only [D.pyL, List.map_nil]
  | cons d ds ih => simp only [D.pyL, List.map_cons, ih]
theorem sh_ok {n : Nat} {d : D} (h : Sh n d) : PyData.canLay0 d.py = true ∧ PyData.depth d.py ≤ n := by
  have all : ∀ (n : Nat), (∀ d : D, Sh n d → PyData.canLay0 d.py = true ∧ PyData.depth d.py ≤ n) → ∀ ds : List D, (∀ d ∈ ds, Sh n d) → PyData.canLayAll0 (D.pyL ds) = true ∧ PyData.depthAll (D.pyL ds) ≤ n := by
    intro n ih ds
    induction ds with
    | nil => intro _; simp [D.pyL, PyData.canLayAll0, PyData.depthAll]
    | cons d ds ih2 =>
      intro h
      obtain ⟨a1, a2⟩ := ih d (h d List.mem_cons_self)
      obtain ⟨b1, b2⟩ := ih2 (fun x hx => h x (List.mem_cons_of_mem _ hx))
      simp only [D.pyL, PyData.canLayAll0, PyData.depthAll, a1, b1, Bool.and_self, true_and]
      omega
  induction n generalizing d with
  | zero =>
    cases d with
    | non => simp [D.py, PyData.canLay0, PyData.depth]
    | bl b => simp [D.py, PyData.canLay0, PyData.depth]
    | int i => simp [D.py, PyData.canLay0, PyData.depth]
    | str s => simp only [Sh] at h; simp [D.py, PyData.canLay0, PyData.depth, h]
    | tup ds => simp [Sh] at h
    | lst ds => simp [Sh] at h
    | ins C gs => simp [Sh] at h
    | dK gs => simp [Sh] at h
    | dT gs => simp [Sh] at h
  | succ n ih =>
    cases d with
    | non => simp [D.py, PyData.canLay0, PyData.depth]
    | bl b => simp [D.py, PyData.canLay0, PyData.depth]
    | int i => simp [D.py, PyData.canLay0, PyData.depth]
    | str s => simp only [Sh] at h; simp [D.py, PyData.canLay0, PyData.depth, h]
    | tup ds =>
      simp only [Sh] at h
      obtain ⟨a, b⟩ := all n (fun d => ih) ds h
      simp only [D.py, PyData.canLay0, PyData.depth]
      exact ⟨a, by omega⟩
    | lst ds =>
      simp only [Sh] at h
      obtain ⟨a, b⟩ := all n (fun d => ih) ds h
      simp only [D.py, PyData.canLay0, PyData.depth]
      exact ⟨a, by omega⟩
    | ins C gs => simp [Sh] at h
    | dK gs => simp [Sh] at h
    | dT gs => simp [Sh] at h
theorem sh_shaped {n : Nat} (h : Sh n d) (hn : n ≤ 64) : SeqAt.shaped d.py = true := by
  obtain ⟨a, b⟩ := sh_ok h
  unfold SeqAt.shaped
  rw [Bool.and_eq_true, decide_eq_true_eq]
  exact ⟨a, by omega⟩
theorem at_dp {K : PySem.W.Frag} {G : Hp} {v : V} {n : Nat} (h : At K G v d) (s : Sh n d) : Dp K G v d.py := by
  have key : ∀ (v : V) (d : D), At K G v d → ∀ n, Sh n d → Dp K G v d.py := fun v d h =>
    At.rec (motive_1 := fun v d _ => ∀ n, Sh n d → Dp K G v d.py) (motive_2 := fun vs ds _ => ∀ n, (∀ d ∈ ds, Sh n d) → DpAll K G vs (D.pyL ds))
      (fun n _ => by simp only [D.py]; exact .non) (fun b n _ => by simp only [D.py]; exact .bl b) (fun i n _ => by simp only [D.py]; exact .int i) (fun x n _ => by simp only [D.py]; exact .str x)
      (fun a _ ih n s => by
        cases n with
        | zero => simp [Sh] at s
        | succ n => simp only [D.py]; exact .tup (SqT.of a) (ih n (by simpa only [Sh] using s)))
      (fun a _ ih n s => by
        cases n with
        | zero => simp [Sh] at s
        | succ n => simp only [D.py]; exact .lst (SqL.of a) (ih n (by simpa only [Sh] using s)))
      (fun a e _ ih n s => by cases n <;> simp [Sh] at s) (fun a e _ ih n s => by cases n <;> simp [Sh] at s) (fun a e _ ih n s => by cases n <;> simp [Sh] at s)
      (fun n _ => by simp only [D.pyL]; exact .nil) (fun _ _ ih1 ih2 n s => by simp only [D.pyL]; exact .cons (ih1 n (s _ List.mem_cons_self)) (ih2 n fun d hd => s d (List.mem_cons_of_mem _ hd))) h
  exact key v d h n s
/-! shapes -/
theorem Sh.int {n : Nat} {i : Int} : Sh n (.int i) := by cases n <;> simp [Sh]
theorem Sh.bl {n : Nat} {i : Bool} : Sh n (.bl i) := by cases n <;> simp [Sh]
theorem Sh.non {n : Nat} : Sh n .non := by cases n <;> simp [Sh]
theorem Sh.str {n : Nat} {s : Str} (h : PyData.strOk s = true) : Sh n (.str s) := by cases n <;> simp [Sh, h]
theorem Sh.tup {n : Nat} (h : ∀ d ∈ ds, Sh n d) : Sh (n + 1) (.tup ds) := by simpa only [Sh] using h
theorem Sh.lst {n : Nat} (h : ∀ d ∈ ds, Sh n d) : Sh (n + 1) (.lst ds) := by simpa only [Sh] using h
theorem Sh.tupM {n : Nat} {α : Type} {f : α → D} {xs : List α} (h : ∀ x ∈ xs, Sh n (f x)) : Sh (n + 1) (.tup (xs.map f)) := .tup fun d hd => by obtain ⟨x, hx, rfl⟩ := List.mem_map.mp hd; exact h x hx
theorem Sh.lstM {n : Nat} {α : Type} {f : α → D} {xs : List α} (h : ∀ x ∈ xs, Sh n (f x)) : Sh (n + 1) (.lst (xs.map f)) := .lst fun d hd => by obtain ⟨x, hx, rfl⟩ := List.mem_map.mp hd; exact h x hx
theorem Sh.nil {n : Nat} : ∀ d ∈ ([] : List D), Sh n d := fun d h => nomatch h
theorem Sh.cons {n : Nat} (h : Sh n d) (t : ∀ d ∈ ds, Sh n d) : ∀ x ∈ d :: ds, Sh n x := fun x hx => (List.mem_cons.mp hx).elim (fun e => e ▸ h) (t x)
/-! equality told -/
theorem eqd_int {i j : Int} : eqd (.int i) (.int j) = decide (i = j) := by simp only [eqd, D.py, PyData.eqv]; exact Bool.eq_iff_iff.mpr (by simp)
theorem eqd_bl {i j : Bool} : eqd (.bl i) (.bl j) = decide (i = j) := by simp only [eqd, D.py, PyData.eqv]; cases i <;> cases j <;> rfl
theorem eqd_str {i j : Str} : eqd (.str i) (.str j) = decide (i = j) := by simp only [eqd, D.py, PyData.eqv]; exact Bool.eq_iff_iff.mpr (by simp)
theorem eqd_non : eqd .non .non = true := by simp only [eqd, D.py, PyData.eqv]
theorem eqd_tup : eqd (.tup ds) (.tup es) = eqdL ds es := by simp only [eqd, eqdL, D.py, PyData.eqv]
theorem eqd_lst : eqd (.lst ds) (.lst es) = eqdL ds es := by simp only [eqd, eqdL, D.py, PyData.eqv]
theorem eqdL_nil : eqdL [] [] = true := by simp only [eqdL, D.pyL, PyData.eqvAll]
theorem eqdL_cons : eqdL (d :: ds) (e :: es) = (eqd d e && eqdL ds es) := by simp only [eqdL, eqd, D.pyL, PyData.eqvAll]
theorem eqdL_cn : eqdL (d :: ds) [] = false := by simp only [eqdL, D.pyL, PyData.eqvAll]
theorem eqdL_nc : eqdL [] (e :: es) = false := by simp only [eqdL, D.pyL, PyData.eqvAll]
theorem eqdL_nil1 : eqdL ds [] = decide (ds = []) := by
  cases ds with
  | nil => rw [eqdL_nil]; simp
  | cons d ds => rw [eqdL_cn]; simp
theorem eqdL_map {α : Type} [DecidableEq α] {f : α → D} (h : ∀ x y, eqd (f x) (f y) = decide (x = y)) (xs ys : List α) : eqdL (xs.map f) (ys.map f) = decide (xs = ys) := by
  induction xs generalizing ys with
  | nil => cases ys with
    | nil => simp [eqdL_nil]
    | cons y ys => rw [List.map_nil, List.map_cons, eqdL_nc]; simp
  | cons x xs ih => cases ys with
    | nil => rw [List.map_nil, List.map_cons, eqdL_cn]; simp
    | cons y ys => rw [List.map_cons, List.map_cons, eqdL_cons, h, ih]; exact Bool.eq_iff_iff.mpr (by simp)
theorem eqdL_ints (xs ys : List Int) : eqdL (xs.map D.int) (ys.map D.int) = decide (xs = ys) := eqdL_map (fun _ _ => eqd_int) xs ys
end
section
variable {K : PySem.W.Frag} {B G0 G H H' : Hp} {ms : List Addr} {X X' : List (Addr × D)} {L L' : List (V × D)} {p a C : Addr} {v w : V} {d d' e : D} {vs ws : List V} {ds es : List D} {Q : VK} {σ : L2.St}
/-- known, or a list that changes -/
abbrev Kn (X : List (Addr × D)) (L : List (V × D)) (v : V) (d : D) : Prop := H1 L v d ∨ ∃ p ds, v = .ref p ∧ d = .lst ds ∧ (p, D.lst ds) ∈ X
theorem Mm.dp {n : Nat} (M : Mm K B G0 ms X L H) (h : Kn X L v d) (s : Sh n d) : Dp K H v d.py := by
  obtain ⟨G, W⟩ := M
  rcases h with h | ⟨p, ds, rfl, rfl, h⟩
  · exact at_dp ((h K G W.ok).mono W.s1) s
  · obtain ⟨vs, h1, h2⟩ := W.chg _ h
    exact at_dp (.lst h1 (h2.mono W.s1)) s
theorem d_eq (M : Mm K B G0 ms X L H) (h : Kn X L v d) (h2 : Kn X L w e) (s : Sh 60 d) (s2 : Sh 60 e) (q : Q (.bl (eqd d e)) H) : rEqD K v w H Q := ⟨_, _, M.dp h s, M.dp h2 s2, sh_shaped s (by decide), sh_shaped s2 (by decide), q⟩
theorem d_ne (M : Mm K B G0 ms X L H) (h : Kn X L v d) (h2 : Kn X L w e) (s : Sh 60 d) (s2 : Sh 60 e) (q : Q (.bl (!eqd d e)) H) : rNeD K v w H Q := ⟨_, _, M.dp h s, M.dp h2 s2, sh_shaped s (by decide), sh_shaped s2 (by decide), q⟩
theorem any_pyL {ds : List D} : ((D.pyL ds).any fun z => PyData.eqv z d.py) = ds.any fun z => eqd z d := by
  rw [pyL_map, List.any_map]; rfl
theorem d_inD (M : Mm K B G0 ms X L H) (h : Kn X L v d) (h2 : Kn X L w (.lst ds)) (s : Sh 60 d) (s2 : Sh 60 (.lst ds)) (q : Q (.bl (ds.any fun z => eqd z d)) H) : rInD K v w H Q := by
  have h3 := M.dp h2 s2
  have h4 := sh_shaped s2 (by decide)
  simp only [D.py] at h3 h4
  exact ⟨_, _, M.dp h s, h3, sh_shaped s (by decide), h4, by rw [any_pyL]; exact q⟩
theorem d_notInD (M : Mm K B G0 ms X L H) (h : Kn X L v d) (h2 : Kn X L w (.lst ds)) (s : Sh 60 d) (s2 : Sh 60 (.lst ds)) (q : Q (.bl (!ds.any fun z => eqd z d)) H) : rNotInD K v w H Q := by
  have h3 := M.dp h2 s2
  have h4 := sh_shaped s2 (by decide)
  simp only [D.py] at h3 h4
  exact ⟨_, _, M.dp h s, h3, sh_shaped s (by decide), h4, by rw [any_pyL]; exact q⟩
/-- n in a row of numbers -/
theorem d_inIL {n : Int} {ns : List Int} (M : Mm K B G0 ms X L H) (hm : InL X L p (ns.map D.int)) (q : Q (.bl (decide (n ∈ ns))) H) : rIn K false (.int n) (.ref p) H Q := by
  obtain ⟨G, W⟩ := M
  rcases hm with h | h
  · have h1 := W.ok _ h
    cases h1 with
    | lst a b => rw [b.intsEq] at a; exact ⟨p, _, rfl, .inl (SqL.of (W.s1 _ _ a)), rfl, flat_ints, by show Q (.bl (inV (.int n) (ns.map V.int))) H; rw [inV_ints]; exact q⟩
  · obtain ⟨vs, h1, h2⟩ := W.chg _ h
    rw [h2.intsEq] at h1
    exact ⟨p, _, rfl, .inl (SqL.of h1), rfl, flat_ints, by show Q (.bl (inV (.int n) (ns.map V.int))) H; rw [inV_ints]; exact q⟩
theorem d_notIL {n : Int} {ns : List Int} (M : Mm K B G0 ms X L H) (hm : InL X L p (ns.map D.int)) (q : Q (.bl (!decide (n ∈ ns))) H) : rIn K true (.int n) (.ref p) H Q := by
  obtain ⟨G, W⟩ := M
  rcases hm with h | h
  · have h1 := W.ok _ h
    cases h1 with
    | lst a b => rw [b.intsEq] at a; exact ⟨p, _, rfl, .inl (SqL.of (W.s1 _ _ a)), rfl, flat_ints, by show Q (.bl (!inV (.int n) (ns.map V.int))) H; rw [inV_ints]; exact q⟩
  · obtain ⟨vs, h1, h2⟩ := W.chg _ h
    rw [h2.intsEq] at h1
    exact ⟨p, _, rfl, .inl (SqL.of h1), rfl, flat_ints, by show Q (.bl (!inV (.int n) (ns.map V.int))) H; rw [inV_ints]; exact q⟩
theorem d_inIT {n : Int} {ns : List Int} (M : Mm K B G0 ms X L H) (hm : (V.ref p, D.tup (ns.map D.int)) ∈ L) (q : Q (.bl (decide (n ∈ ns))) H) : rIn K false (.int n) (.ref p) H Q := by
  obtain ⟨G, W⟩ := M
  have h1 := W.ok _ hm
  cases h1 with
  | tup a b => rw [b.intsEq] at a; exact ⟨p, _, rfl, .inr (SqT.of (W.s1 _ _ a)), rfl, flat_ints, by show Q (.bl (inV (.int n) (ns.map V.int))) H; rw [inV_ints]; exact q⟩
theorem d_notIT {n : Int} {ns : List Int} (M : Mm K B G0 ms X L H) (hm : (V.ref p, D.tup (ns.map D.int)) ∈ L) (q : Q (.bl (!decide (n ∈ ns))) H) : rIn K true (.int n) (.ref p) H Q := by
  obtain ⟨G, W⟩ := M
  have h1 := W.ok _ hm
  cases h1 with
  | tup a b => rw [b.intsEq] at a; exact ⟨p, _, rfl, .inr (SqT.of (W.s1 _ _ a)), rfl, flat_ints, by show Q (.bl (!inV (.int n) (ns.map V.int))) H; rw [inV_ints]; exact q⟩
/-! all, any, min, max of rows -/
theorem Mm.intsL {ns : List Int} (M : Mm K B G0 ms X L H) (hm : InL X L p (ns.map D.int)) : H p = some (.lst (ns.map V.int)) := by
  obtain ⟨G, W⟩ := M
  rcases hm with h | h
  · have h1 := W.ok _ h
    cases h1 with
    | lst a b => rw [b.intsEq] at a; exact W.s1 _ _ a
  · obtain ⟨vs, h1, h2⟩ := W.chg _ h
    rw [h2.intsEq] at h1; exact h1
theorem Mm.blsL {ns : List Bool} (M : Mm K B G0 ms X L H) (hm : InL X L p (ns.map D.bl)) : H p = some (.lst (ns.map V.bl)) := by
  obtain ⟨G, W⟩ := M
  rcases hm with h | h
  · have h1 := W.ok _ h
    cases h1 with
    | lst a b => rw [b.blsEq] at a; exact W.s1 _ _ a
  · obtain ⟨vs, h1, h2⟩ := W.chg _ h
    rw [h2.blsEq] at h1; exact h1
theorem d_all {bs : List Bool} (M : Mm K B G0 ms X L H) (hm : InL X L p (bs.map D.bl)) (q : Q (.bl (bs.all id)) H) : rAll K [.ref p] H Q := ⟨p, bs, rfl, SqL.of (M.blsL hm), q⟩
theorem d_any {bs : List Bool} (M : Mm K B G0 ms X L H) (hm : InL X L p (bs.map D.bl)) (q : Q (.bl (bs.any id)) H) : rAny K [.ref p] H Q := ⟨p, bs, rfl, SqL.of (M.blsL hm), q⟩
theorem d_minL {ns : List Int} (M : Mm K B G0 ms X L H) (hm : InL X L p (ns.map D.int)) (hn : 0 < ns.length) (q : ∀ m, m ∈ ns → (∀ y, y ∈ ns → m ≤ y) → Q (.int m) H) : rMinQ K [.ref p] H Q := ⟨p, ns, rfl, .inl (SqL.of (M.intsL hm)), hn, q⟩
theorem d_maxL {ns : List Int} (M : Mm K B G0 ms X L H) (hm : InL X L p (ns.map D.int)) (hn : 0 < ns.length) (q : ∀ m, m ∈ ns → (∀ y, y ∈ ns → y ≤ m) → Q (.int m) H) : rMaxQ K [.ref p] H Q := ⟨p, ns, rfl, .inl (SqL.of (M.intsL hm)), hn, q⟩
theorem d_tyL2 {PR : Prop} (M : Mm K B G0 ms X L H) (hm : InL X L p ds) (q : PR) : tyV K "list" (.ref p) H ∧ PR := ⟨d_tyL M hm, q⟩
/-! ### own objects -/
theorem d_meth {m : Str} {gs : List (Str × D)} {PQ : Addr → Prop} (M : Mm K B G0 ms X L H) (hm : (V.ref p, D.ins C gs) ∈ L) (hl : gs.lookup m = none) (q : PQ p) : ∃ a' dx' fs', V.ref p = .ref a' ∧ H a' = some (.ins C dx' fs') ∧ fs'.lookup m = none ∧ PQ a' := by
  obtain ⟨dx, fs, h1, h2⟩ := d_insAt M hm
  exact ⟨p, dx, fs, rfl, h1, h2 m hl, q⟩
theorem d_ownN {gs : List (Str × D)} {sp : Sp} {j : Int} {E : XK} (M : Mm K B G0 ms X L H) (hm : (V.ref p, D.ins C gs) ∈ L) (q : sp [.ref p, .int j] H Q E) : ∃ a' dx' fs' j', V.ref p = .ref a' ∧ V.int j = .int j' ∧ H a' = some (.ins C dx' fs') ∧ sp [.ref a', .int j'] H Q E := by
  obtain ⟨dx, fs, h1, h2⟩ := d_insAt M hm
  exact k_ownN h1 q
theorem d_ownO {gs gs' : List (Str × D)} {sp : Sp} {E : XK} (M : Mm K B G0 ms X L H) (hm : (V.ref p, D.ins C gs) ∈ L) (hm2 : (V.ref a, D.ins C gs') ∈ L) (q : sp [.ref p, .ref a] H Q E) : ∃ a' dx' fs' b' dy' gs', V.ref p = .ref a' ∧ V.ref a = .ref b' ∧ H a' = some (.ins C dx' fs') ∧ H b' = some (.ins C dy' gs') ∧ sp [.ref a', .ref b'] H Q E := by
  obtain ⟨dx, fs, h1, h2⟩ := d_insAt M hm
  obtain ⟨dy, fs', h3, h4⟩ := d_insAt M hm2
  exact k_ownO h1 h3 q
theorem d_ownEq {gs gs' : List (Str × D)} {sp : Sp} (M : Mm K B G0 ms X L H) (hm : (V.ref p, D.ins C gs) ∈ L) (hm2 : (V.ref a, D.ins C gs') ∈ L) (q : sp [.ref p, .ref a] H (fun v H' => ∃ c, v = .bl c ∧ Q v H') (fun _ _ _ => False)) : rOwnEq C sp (.ref p) (.ref a) H Q := by
  obtain ⟨dx, fs, h1, h2⟩ := d_insAt M hm
  obtain ⟨dy, fs', h3, h4⟩ := d_insAt M hm2
  exact k_ownEq h1 h3 q
theorem d_ownIn {gs : List (Str × D)} {sp : Sp} {y : V} (M : Mm K B G0 ms X L H) (hm : (V.ref p, D.ins C gs) ∈ L) (q : sp [.ref p, y] H (fun v H' => ∃ c, v = .bl c ∧ Q v H') (fun _ _ _ => False)) : rOwnIn C sp y (.ref p) H Q := by
  obtain ⟨dx, fs, h1, h2⟩ := d_insAt M hm
  exact k_ownIn h1 q
theorem d_ownU {gs : List (Str × D)} {sp : Sp} (M : Mm K B G0 ms X L H) (hm : (V.ref p, D.ins C gs) ∈ L) (q : sp [.ref p] H Q (fun _ _ _ => False)) : rOwnU C sp (.ref p) H Q := by
  obtain ⟨dx, fs, h1, h2⟩ := d_insAt M hm
  exact k_ownU h1 q
theorem d_ownStr {gs : List (Str × D)} {sp : Sp} (M : Mm K B G0 ms X L H) (hm : (V.ref p, D.ins C gs) ∈ L) (q : sp [.ref p] H (fun v H' => ∃ z, v = .str z ∧ Q v H') (fun _ _ _ => False)) : rOwnStr C sp [.ref p] H Q := by
  obtain ⟨dx, fs, h1, h2⟩ := d_insAt M hm
  exact k_ownStr h1 q
theorem d_prop {gs : List (Str × D)} {sp : Sp} {E : XK} (M : Mm K B G0 ms X L H) (hm : (V.ref p, D.ins C gs) ∈ L) (q : sp [.ref p] H Q E) : ∃ a' dx' fs', V.ref p = .ref a' ∧ H a' = some (.ins C dx' fs') ∧ sp [.ref a'] H Q E := by
  obtain ⟨dx, fs, h1, h2⟩ := d_insAt M hm
  exact k_prop h1 q
/-- C(..): the new thing is there, empty; __init__ runs over it -/
theorem d_make {sp : Sp} {E : XK} (M : Mm K B G0 ms X L H) (k : ∀ x H', Mm K B G0 ms ((x, .ins C []) :: X) L H' → sp (.ref x :: vs) H' (fun v H2 => v = .non ∧ Q (.ref x) H2) E) : newO C sp vs H Q E := by
  intro x dx hx hdx hne
  have M1 : Mm K B G0 ms X L (upd H dx (.own x)) := by
    obtain ⟨G, W⟩ := M
    refine ⟨G, W.s0, fun a u e => by rw [upd_ne (ne_of_none (W.s1 _ _ e) hdx)]; exact W.s1 _ _ e, W.new, fun z hz => (W.chg z hz).mono (fun _ _ e => e) (fun u e => by rw [upd_ne (ne_of_none e hdx)]; exact e), W.off, W.loc, W.nd, fun a u e hn => by rw [upd_ne (ne_of_none (W.keep a u e hn) hdx)]; exact W.keep a u e hn, fun m hm => ?_, W.ok⟩
    by_cases hap : m = dx
    · subst hap; rw [upd_same]; exact (fun z => nomatch z)
    · rw [upd_ne hap]; exact W.tr m hm
  have hx' : upd H dx (.own x) x = none := by rw [upd_ne (Ne.symm hne)]; exact hx
  exact k x _ (M1.newX hx' fun G _ => ⟨dx, [], upd_same, rfl, .nil⟩)
/-- self.f = e -/
def setF (K : PySem.W.Frag) (f : Str) (x y : V) (H : Hp) (R : Hp → Prop) : Prop := ∃ a C dx fs, x = .ref a ∧ H a = some (.ins C dx fs) ∧ Cls K C ∧ NoAttr K C f ∧ fs.length < 1000 ∧ R (upd H a (.ins C dx (putF f y fs)))
theorem k_sfldS {n : L2.St → Hp → Prop} {r : VK} {b c : L2.St → Hp → Prop} {te ta : TE} {f : Str} (h : te σ H fun y H1 => ta σ H1 fun x H2 => setF K f x y H2 fun H' => n σ H') : sFld K ta te f ⟨n, r, b, c⟩ σ H := h
def putD (f : Str) (v : D) : List (Str × D) → List (Str × D)
  | [] => [(f, v)]
  | (g, x) :: r => if g = f then (g, v) :: r else (g, x) :: putD f v r
theorem put_put {fs : List (Str × V)} {gs : List (Str × D)} {f : Str} (e : fs.map (·.1) = gs.map (·.1)) (h : AtL K G (fs.map (·.2)) (gs.map (·.2))) (hv : At K G v d) : (putF f v fs).map (·.1) = (putD f d gs).map (·.1) ∧ AtL K G ((putF f v fs).map (·.2)) ((putD f d gs).map (·.2)) := by
  induction fs generalizing gs with
  | nil => cases gs with
    | nil => exact ⟨rfl, .one hv⟩
    | cons g gs => simp at e
  | cons x fs ih => cases gs with
    | nil => simp at e
    | cons g gs =>
      obtain ⟨x1, x2⟩ := x
      obtain ⟨g1, g2⟩ := g
      simp only [List.map_cons, List.cons.injEq] at e
      obtain ⟨e1, e2⟩ := e
      subst e1
      simp only [List.map_cons] at h
      cases h with
      | cons h1 h2 =>
        obtain ⟨a1, a2⟩ := ih e2 h2
        unfold putF putD
        by_cases hx : x1 = f
        · rw [if_pos hx, if_pos hx]
          exact ⟨by simp [e2], by simp only [List.map_cons]; exact .cons hv h2⟩
        · rw [if_neg hx, if_neg hx]
          exact ⟨by simp [a1], by simp only [List.map_cons]; exact .cons h1 a2⟩
theorem Mm.insX {X1 X2 : List (Addr × D)} {gs : List (Str × D)} (M : Mm K B G0 ms (X1 ++ (p, .ins C gs) :: X2) L H) : ∃ dx fs, H p = some (.ins C dx fs) ∧ fs.map (·.1) = gs.map (·.1) ∧ Mm K B G0 ms (X1 ++ (p, .ins C gs) :: X2) ((fs.map (·.2)).zip (gs.map (·.2)) ++ L) H ∧ ∀ f v d, H1 L v d → Mm K B G0 ms (X1 ++ (p, .ins C (putD f d gs)) :: X2) L (upd H p (.ins C dx (putF f v fs))) := by
  obtain ⟨G, W⟩ := M
  obtain ⟨dx, fs, h1, h2, h3⟩ := W.chg (p, .ins C gs) (by simp)
  refine ⟨dx, fs, h1, h2, ⟨G, W.addL h3.zip⟩, fun f v d hv => ⟨G, W.set ?_⟩⟩
  obtain ⟨a1, a2⟩ := put_put (f := f) h2 h3 (hv K G W.ok)
  exact ⟨dx, _, upd_same, a1, a2⟩
theorem d_sfld {X1 X2 : List (Addr × D)} {gs : List (Str × D)} {f : Str} {PQ : Hp → Prop} (M : Mm K B G0 ms (X1 ++ (p, .ins C gs) :: X2) L H) (hv : H1 L v d) (cl : Cls K C) (na : NoAttr K C f) (hl : gs.length < 1000) (q : ∀ H', Mm K B G0 ms (X1 ++ (p, .ins C (putD f d gs)) :: X2) L H' → PQ H') :
    setF K f (.ref p) v H PQ := by
  obtain ⟨dx, fs, h1, h2, M2, k⟩ := M.insX
  have hlen := congrArg List.length h2
  rw [List.length_map, List.length_map] at hlen
  exact ⟨p, C, dx, fs, rfl, h1, cl, na, by omega, q _ (k f v d hv)⟩
theorem d_fldX {X1 X2 : List (Addr × D)} {f : Str} {gs : List (Str × D)} {PV : V → Prop} (M : Mm K B G0 ms (X1 ++ (p, .ins C gs) :: X2) L H) (cl : Cls K C) (na : NoAttr K C f) (hl : gs.lookup f = some d) (q : ∀ v, Mm K B G0 ms (X1 ++ (p, .ins C gs) :: X2) ((v, d) :: L) H → PV v) :
    ∃ a' C' dx' fs' v', V.ref p = .ref a' ∧ H a' = some (.ins C' dx' fs') ∧ Cls K C' ∧ NoAttr K C' f ∧ fs'.lookup f = some v' ∧ PV v' := by
  obtain ⟨dx, fs, h1, h2, M2, _⟩ := M.insX
  obtain ⟨v, h3, h4⟩ := zipF h2 hl
  refine ⟨p, C, dx, fs, v, rfl, h1, cl, na, h3, q v (M2.sub fun z hz => ?_)⟩
  rcases List.mem_cons.mp hz with rfl | hz
  · exact List.mem_append_left _ h4
  · exact List.mem_append_right _ hz
theorem d_app0 (M : Mm K B G0 ms ((p, .lst ds) :: X) L H) (h : H1 L v d) (hl : ds.length < sizeLine) (q : ∀ H', Mm K B G0 ms ((p, .lst (ds ++ [d])) :: X) L H' → Q .non H') : rAppend (.ref p) [v] H Q := d_app (X1 := []) M h hl q
theorem d_app1 {z0 : Addr × D} (M : Mm K B G0 ms (z0 :: (p, .lst ds) :: X) L H) (h : H1 L v d) (hl : ds.length < sizeLine) (q : ∀ H', Mm K B G0 ms (z0 :: (p, .lst (ds ++ [d])) :: X) L H' → Q .non H') : rAppend (.ref p) [v] H Q := d_app (X1 := [z0]) M h hl q
theorem d_app2 {z0 z1 : Addr × D} (M : Mm K B G0 ms (z0 :: z1 :: (p, .lst ds) :: X) L H) (h : H1 L v d) (hl : ds.length < sizeLine) (q : ∀ H', Mm K B G0 ms (z0 :: z1 :: (p, .lst (ds ++ [d])) :: X) L H' → Q .non H') : rAppend (.ref p) [v] H Q := d_app (X1 := [z0, z1]) M h hl q
theorem d_app3 {z0 z1 z2 : Addr × D} (M : Mm K B G0 ms (z0 :: z1 :: z2 :: (p, .lst ds) :: X) L H) (h : H1 L v d) (hl : ds.length < sizeLine) (q : ∀ H', Mm K B G0 ms (z0 :: z1 :: z2 :: (p, .lst (ds ++ [d])) :: X) L H' → Q .non H') : rAppend (.ref p) [v] H Q := d_app (X1 := [z0, z1, z2]) M h hl q
theorem d_pop0 (M : Mm K B G0 ms ((p, .lst ds) :: X) L H) (hd : ds[ds.length - 1]? = some d) (q : ∀ v H', Mm K B G0 ms ((p, .lst ds.dropLast) :: X) ((v, d) :: L) H' → Q v H') : rPop (.ref p) [] H Q := d_pop (X1 := []) M hd q
theorem d_pop1 {z0 : Addr × D} (M : Mm K B G0 ms (z0 :: (p, .lst ds) :: X) L H) (hd : ds[ds.length - 1]? = some d) (q : ∀ v H', Mm K B G0 ms (z0 :: (p, .lst ds.dropLast) :: X) ((v, d) :: L) H' → Q v H') : rPop (.ref p) [] H Q := d_pop (X1 := [z0]) M hd q
theorem d_pop2 {z0 z1 : Addr × D} (M : Mm K B G0 ms (z0 :: z1 :: (p, .lst ds) :: X) L H) (hd : ds[ds.length - 1]? = some d) (q : ∀ v H', Mm K B G0 ms (z0 :: z1 :: (p, .lst ds.dropLast) :: X) ((v, d) :: L) H' → Q v H') : rPop (.ref p) [] H Q := d_pop (X1 := [z0, z1]) M hd q
theorem d_pop3 {z0 z1 z2 : Addr × D} (M : Mm K B G0 ms (z0 :: z1 :: z2 :: (p, .lst ds) :: X) L H) (hd : ds[ds.length - 1]? = some d) (q : ∀ v H', Mm K B G0 ms (z0 :: z1 :: z2 :: (p, .lst ds.dropLast) :: X) ((v, d) :: L) H' → Q v H') : rPop (.ref p) [] H Q := d_pop (X1 := [z0, z1, z2]) M hd q
theorem d_popAt0 {i : Int} (M : Mm K B G0 ms ((p, .lst ds) :: X) L H) (h0 : 0 ≤ i) (hi : i < ds.length) (hb : ds.length ≤ 50000) (hd : ds[i.toNat]? = some d) (q : ∀ v H', Mm K B G0 ms ((p, .lst (ds.eraseIdx i.toNat)) :: X) ((v, d) :: L) H' → Q v H') : rPopAt (.ref p) [.int i] H Q := d_popAt (X1 := []) M h0 hi hb hd q
theorem d_popAt1 {z0 : Addr × D} {i : Int} (M : Mm K B G0 ms (z0 :: (p, .lst ds) :: X) L H) (h0 : 0 ≤ i) (hi : i < ds.length) (hb : ds.length ≤ 50000) (hd : ds[i.toNat]? = some d) (q : ∀ v H', Mm K B G0 ms (z0 :: (p, .lst (ds.eraseIdx i.toNat)) :: X) ((v, d) :: L) H' → Q v H') : rPopAt (.ref p) [.int i] H Q := d_popAt (X1 := [z0]) M h0 hi hb hd q
theorem d_popAt2 {z0 z1 : Addr × D} {i : Int} (M : Mm K B G0 ms (z0 :: z1 :: (p, .lst ds) :: X) L H) (h0 : 0 ≤ i) (hi : i < ds.length) (hb : ds.length ≤ 50000) (hd : ds[i.toNat]? = some d) (q : ∀ v H', Mm K B G0 ms (z0 :: z1 :: (p, .lst (ds.eraseIdx i.toNat)) :: X) ((v, d) :: L) H' → Q v H') : rPopAt (.ref p) [.int i] H Q := d_popAt (X1 := [z0, z1]) M h0 hi hb hd q
theorem d_popAt3 {z0 z1 z2 : Addr × D} {i : Int} (M : Mm K B G0 ms (z0 :: z1 :: z2 :: (p, .lst ds) :: X) L H) (h0 : 0 ≤ i) (hi : i < ds.length) (hb : ds.length ≤ 50000) (hd : ds[i.toNat]? = some d) (q : ∀ v H', Mm K B G0 ms (z0 :: z1 :: z2 :: (p, .lst (ds.eraseIdx i.toNat)) :: X) ((v, d) :: L) H' → Q v H') : rPopAt (.ref p) [.int i] H Q := d_popAt (X1 := [z0, z1, z2]) M h0 hi hb hd q
theorem d_ins0 {i : Int} (M : Mm K B G0 ms ((p, .lst ds) :: X) L H) (h : H1 L v d) (hl : ds.length < sizeLine) (h0 : 0 ≤ i) (hi : i < 2 ^ 63) (q : ∀ H', Mm K B G0 ms ((p, .lst (ds.take i.toNat ++ [d] ++ ds.drop i.toNat)) :: X) L H' → Q .non H') : rInsert (.ref p) [.int i, v] H Q := d_ins (X1 := []) M h hl h0 hi q
theorem d_ins1 {z0 : Addr × D} {i : Int} (M : Mm K B G0 ms (z0 :: (p, .lst ds) :: X) L H) (h : H1 L v d) (hl : ds.length < sizeLine) (h0 : 0 ≤ i) (hi : i < 2 ^ 63) (q : ∀ H', Mm K B G0 ms (z0 :: (p, .lst (ds.take i.toNat ++ [d] ++ ds.drop i.toNat)) :: X) L H' → Q .non H') : rInsert (.ref p) [.int i, v] H Q := d_ins (X1 := [z0]) M h hl h0 hi q
theorem d_ins2 {z0 z1 : Addr × D} {i : Int} (M : Mm K B G0 ms (z0 :: z1 :: (p, .lst ds) :: X) L H) (h : H1 L v d) (hl : ds.length < sizeLine) (h0 : 0 ≤ i) (hi : i < 2 ^ 63) (q : ∀ H', Mm K B G0 ms (z0 :: z1 :: (p, .lst (ds.take i.toNat ++ [d] ++ ds.drop i.toNat)) :: X) L H' → Q .non H') : rInsert (.ref p) [.int i, v] H Q := d_ins (X1 := [z0, z1]) M h hl h0 hi q
theorem d_ins3 {z0 z1 z2 : Addr × D} {i : Int} (M : Mm K B G0 ms (z0 :: z1 :: z2 :: (p, .lst ds) :: X) L H) (h : H1 L v d) (hl : ds.length < sizeLine) (h0 : 0 ≤ i) (hi : i < 2 ^ 63) (q : ∀ H', Mm K B G0 ms (z0 :: z1 :: z2 :: (p, .lst (ds.take i.toNat ++ [d] ++ ds.drop i.toNat)) :: X) L H' → Q .non H') : rInsert (.ref p) [.int i, v] H Q := d_ins (X1 := [z0, z1, z2]) M h hl h0 hi q
theorem d_set0 {i : Int} {QH : Hp → Prop} (M : Mm K B G0 ms ((p, .lst ds) :: X) L H) (h : H1 L v d) (h0 : 0 ≤ i) (hi : i < ds.length) (q : ∀ H', Mm K B G0 ms ((p, .lst (ds.set i.toNat d)) :: X) L H' → QH H') : rSetL (.ref p) (.int i) v H QH := d_set (X1 := []) M h h0 hi q
theorem d_set1 {z0 : Addr × D} {i : Int} {QH : Hp → Prop} (M : Mm K B G0 ms (z0 :: (p, .lst ds) :: X) L H) (h : H1 L v d) (h0 : 0 ≤ i) (hi : i < ds.length) (q : ∀ H', Mm K B G0 ms (z0 :: (p, .lst (ds.set i.toNat d)) :: X) L H' → QH H') : rSetL (.ref p) (.int i) v H QH := d_set (X1 := [z0]) M h h0 hi q
theorem d_set2 {z0 z1 : Addr × D} {i : Int} {QH : Hp → Prop} (M : Mm K B G0 ms (z0 :: z1 :: (p, .lst ds) :: X) L H) (h : H1 L v d) (h0 : 0 ≤ i) (hi : i < ds.length) (q : ∀ H', Mm K B G0 ms (z0 :: z1 :: (p, .lst (ds.set i.toNat d)) :: X) L H' → QH H') : rSetL (.ref p) (.int i) v H QH := d_set (X1 := [z0, z1]) M h h0 hi q
theorem d_set3 {z0 z1 z2 : Addr × D} {i : Int} {QH : Hp → Prop} (M : Mm K B G0 ms (z0 :: z1 :: z2 :: (p, .lst ds) :: X) L H) (h : H1 L v d) (h0 : 0 ≤ i) (hi : i < ds.length) (q : ∀ H', Mm K B G0 ms (z0 :: z1 :: z2 :: (p, .lst (ds.set i.toNat d)) :: X) L H' → QH H') : rSetL (.ref p) (.int i) v H QH := d_set (X1 := [z0, z1, z2]) M h h0 hi q
theorem d_reverse0 (M : Mm K B G0 ms ((p, .lst ds) :: X) L H) (q : ∀ H', Mm K B G0 ms ((p, .lst ds.reverse) :: X) L H' → Q .non H') : rReverse (.ref p) [] H Q := d_reverse (X1 := []) M q
theorem d_reverse1 {z0 : Addr × D} (M : Mm K B G0 ms (z0 :: (p, .lst ds) :: X) L H) (q : ∀ H', Mm K B G0 ms (z0 :: (p, .lst ds.reverse) :: X) L H' → Q .non H') : rReverse (.ref p) [] H Q := d_reverse (X1 := [z0]) M q
theorem d_reverse2 {z0 z1 : Addr × D} (M : Mm K B G0 ms (z0 :: z1 :: (p, .lst ds) :: X) L H) (q : ∀ H', Mm K B G0 ms (z0 :: z1 :: (p, .lst ds.reverse) :: X) L H' → Q .non H') : rReverse (.ref p) [] H Q := d_reverse (X1 := [z0, z1]) M q
theorem d_reverse3 {z0 z1 z2 : Addr × D} (M : Mm K B G0 ms (z0 :: z1 :: z2 :: (p, .lst ds) :: X) L H) (q : ∀ H', Mm K B G0 ms (z0 :: z1 :: z2 :: (p, .lst ds.reverse) :: X) L H' → Q .non H') : rReverse (.ref p) [] H Q := d_reverse (X1 := [z0, z1, z2]) M q
theorem d_clear0 (M : Mm K B G0 ms ((p, .lst ds) :: X) L H) (q : ∀ H', Mm K B G0 ms ((p, .lst []) :: X) L H' → Q .non H') : rClear (.ref p) [] H Q := d_clear (X1 := []) M q
theorem d_clear1 {z0 : Addr × D} (M : Mm K B G0 ms (z0 :: (p, .lst ds) :: X) L H) (q : ∀ H', Mm K B G0 ms (z0 :: (p, .lst []) :: X) L H' → Q .non H') : rClear (.ref p) [] H Q := d_clear (X1 := [z0]) M q
theorem d_clear2 {z0 z1 : Addr × D} (M : Mm K B G0 ms (z0 :: z1 :: (p, .lst ds) :: X) L H) (q : ∀ H', Mm K B G0 ms (z0 :: z1 :: (p, .lst []) :: X) L H' → Q .non H') : rClear (.ref p) [] H Q := d_clear (X1 := [z0, z1]) M q
theorem d_clear3 {z0 z1 z2 : Addr × D} (M : Mm K B G0 ms (z0 :: z1 :: z2 :: (p, .lst ds) :: X) L H) (q : ∀ H', Mm K B G0 ms (z0 :: z1 :: z2 :: (p, .lst []) :: X) L H' → Q .non H') : rClear (.ref p) [] H Q := d_clear (X1 := [z0, z1, z2]) M q
theorem d_sfld0 {gs : List (Str × D)} {f : Str} {PQ : Hp → Prop} (M : Mm K B G0 ms ((p, .ins C gs) :: X) L H) (hv : H1 L v d) (cl : Cls K C) (na : NoAttr K C f) (hl : gs.length < 1000) (q : ∀ H', Mm K B G0 ms ((p, .ins C (putD f d gs)) :: X) L H' → PQ H') : setF K f (.ref p) v H PQ := d_sfld (X1 := []) M hv cl na hl q
theorem d_sfld1 {z0 : Addr × D} {gs : List (Str × D)} {f : Str} {PQ : Hp → Prop} (M : Mm K B G0 ms (z0 :: (p, .ins C gs) :: X) L H) (hv : H1 L v d) (cl : Cls K C) (na : NoAttr K C f) (hl : gs.length < 1000) (q : ∀ H', Mm K B G0 ms (z0 :: (p, .ins C (putD f d gs)) :: X) L H' → PQ H') : setF K f (.ref p) v H PQ := d_sfld (X1 := [z0]) M hv cl na hl q
theorem d_sfld2 {z0 z1 : Addr × D} {gs : List (Str × D)} {f : Str} {PQ : Hp → Prop} (M : Mm K B G0 ms (z0 :: z1 :: (p, .ins C gs) :: X) L H) (hv : H1 L v d) (cl : Cls K C) (na : NoAttr K C f) (hl : gs.length < 1000) (q : ∀ H', Mm K B G0 ms (z0 :: z1 :: (p, .ins C (putD f d gs)) :: X) L H' → PQ H') : setF K f (.ref p) v H PQ := d_sfld (X1 := [z0, z1]) M hv cl na hl q
theorem d_sfld3 {z0 z1 z2 : Addr × D} {gs : List (Str × D)} {f : Str} {PQ : Hp → Prop} (M : Mm K B G0 ms (z0 :: z1 :: z2 :: (p, .ins C gs) :: X) L H) (hv : H1 L v d) (cl : Cls K C) (na : NoAttr K C f) (hl : gs.length < 1000) (q : ∀ H', Mm K B G0 ms (z0 :: z1 :: z2 :: (p, .ins C (putD f d gs)) :: X) L H' → PQ H') : setF K f (.ref p) v H PQ := d_sfld (X1 := [z0, z1, z2]) M hv cl na hl q
theorem d_fldX0 {f : Str} {gs : List (Str × D)} {PV : V → Prop} (M : Mm K B G0 ms ((p, .ins C gs) :: X) L H) (cl : Cls K C) (na : NoAttr K C f) (hl : gs.lookup f = some d) (q : ∀ v, Mm K B G0 ms ((p, .ins C gs) :: X) ((v, d) :: L) H → PV v) :
    ∃ a' C' dx' fs' v', V.ref p = .ref a' ∧ H a' = some (.ins C' dx' fs') ∧ Cls K C' ∧ NoAttr K C' f ∧ fs'.lookup f = some v' ∧ PV v' := d_fldX (X1 := []) M cl na hl q
theorem d_fldX1 {z0 : Addr × D} {f : Str} {gs : List (Str × D)} {PV : V → Prop} (M : Mm K B G0 ms (z0 :: (p, .ins C gs) :: X) L H) (cl : Cls K C) (na : NoAttr K C f) (hl : gs.lookup f = some d) (q : ∀ v, Mm K B G0 ms (z0 :: (p, .ins C gs) :: X) ((v, d) :: L) H → PV v) :
    ∃ a' C' dx' fs' v', V.ref p = .ref a' ∧ H a' = some (.ins C' dx' fs') ∧ Cls K C' ∧ NoAttr K C' f ∧ fs'.lookup f = some v' ∧ PV v' := d_fldX (X1 := [z0]) M cl na hl q
end
end MyL

set_option Elab.async false
set_option linter.all false
set_option maxRecDepth 100000
set_option maxHeartbeats 4000000
/-! Dicts told by data; arguments taken apart; things of no interest. -/
namespace MyL
open PySem PySem.Spec PyProof.Rows L2 LiI
section
variable {K : PySem.W.Frag} {B G0 G H H' : Hp} {ms : List Addr} {X X' : List (Addr × D)} {L L' : List (V × D)} {p a C : Addr} {v w : V} {d d' e : D} {vs ws : List V} {ds es : List D} {Q : VK} {σ : L2.St} {κ : Type} [DecidableEq κ]
theorem At.refT (h : At K G v (.tup ds)) : ∃ p, v = .ref p := by cases h; exact ⟨_, rfl⟩
theorem At.refL (h : At K G v (.lst ds)) : ∃ p, v = .ref p := by cases h; exact ⟨_, rfl⟩
theorem At.refQ {t : Bool} (h : At K G v (sq t ds)) : ∃ p, v = .ref p := by cases t <;> cases h <;> exact ⟨_, rfl⟩
theorem At.refO {gs : List (Str × D)} (h : At K G v (.ins C gs)) : ∃ p, v = .ref p := by cases h; exact ⟨_, rfl⟩
theorem At.refK {gs : List (Key × D)} (h : At K G v (.dK gs)) : ∃ p, v = .ref p := by cases h; exact ⟨_, rfl⟩
theorem At.isI {n : Int} (h : At K G v (.int n)) : v = .int n := by cases h; rfl
theorem At.isS {n : Str} (h : At K G v (.str n)) : v = .str n := by cases h; rfl
theorem At.isB {n : Bool} (h : At K G v (.bl n)) : v = .bl n := by cases h; rfl
theorem At.isN (h : At K G v .non) : v = .non := by cases h; rfl
theorem Mm.raw {o : HO} (M : Mm K B G0 ms X L H) (h : H p = none) : Mm K B G0 ms X L (upd H p o) := M.elim fun G W => by
  have hx := W.neX h
  refine ⟨G, W.s0, fun a u e => by rw [upd_ne (ne_of_none (W.s1 _ _ e) h)]; exact W.s1 _ _ e, W.new, fun z hz => (W.chg z hz).mono (fun _ _ e => e) (fun u e => by rw [upd_ne (hx z hz)]; exact e), W.off, W.loc, W.nd, fun a u e hn => by rw [upd_ne (ne_of_none (W.keep a u e hn) h)]; exact W.keep a u e hn, fun m hm => ?_, W.ok⟩
  by_cases hap : m = p
  · subst hap; rw [upd_same]; exact (fun z => nomatch z)
  · rw [upd_ne hap]; exact W.tr m hm
/-- the heap may grow -/
theorem Mm.grow (M : Mm K B G0 ms X L H) (s : Same H H') : Mm K B G0 ms X L H' := M.elim fun G W =>
  ⟨G, W.s0, fun a u e => s _ _ (W.s1 _ _ e), W.new, fun z hz => (W.chg z hz).mono (fun _ _ e => e) (fun u e => s _ _ e), W.off, W.loc, W.nd, fun a u e hn => s _ _ (W.keep a u e hn), fun m hm => by
    cases e : H m with
    | none => exact absurd e (W.tr m hm)
    | some o => rw [s _ _ e]; exact (fun z => nomatch z), W.ok⟩
theorem d_tupR (M : Mm K B G0 ms X L H) (hl : vs.length ≤ sizeLine) (q : ∀ p H', H' p = some (.tup vs) → Mm K B G0 ms X L H' → Q (.ref p) H') : newT vs H Q := ⟨hl, fun p hp => q p _ upd_same (M.raw hp)⟩
/-! ### dicts -/
def valD (gs : List (κ × D)) (k : κ) : Option D := (gs.find? fun kv => decide (kv.1 = k)).map (·.2)
def putKD (gs : List (κ × D)) (k : κ) (v : D) : List (κ × D) :=
  if (gs.any fun kv => decide (kv.1 = k)) = true then gs.map (fun kv => if kv.1 = k then (kv.1, v) else kv) else gs ++ [(k, v)]
theorem val_val {fs : List (κ × V)} {gs : List (κ × D)} (e : fs.map (·.1) = gs.map (·.1)) (h : AtL K G (fs.map (·.2)) (gs.map (·.2))) (k : κ) : (valV fs k = none ∧ valD gs k = none) ∨ ∃ v d, valV fs k = some v ∧ valD gs k = some d ∧ At K G v d := by
  induction fs generalizing gs with
  | nil => cases gs with
    | nil => exact .inl ⟨rfl, rfl⟩
    | cons g gs => simp at e
  | cons x fs ih => cases gs with
    | nil => simp at e
    | cons g gs =>
      simp only [List.map_cons, List.cons.injEq] at e
      simp only [List.map_cons] at h
      cases h with
      | cons h1 h2 =>
        by_cases hk : x.1 = k
        · exact .inr ⟨x.2, g.2, valV_pos hk, by simp [valD, List.find?_cons, ← e.1, hk], h1⟩
        · have hk2 : ¬ g.1 = k := by rw [← e.1]; exact hk
          rw [valV_neg hk, show valD (g :: gs) k = valD gs k by simp [valD, List.find?_cons, hk2]]
          exact ih e.2 h2
theorem any_any {fs : List (κ × V)} {gs : List (κ × D)} (e : fs.map (·.1) = gs.map (·.1)) (k : κ) : (fs.any fun kv => decide (kv.1 = k)) = (gs.any fun kv => decide (kv.1 = k)) := by
  have h1 : (fs.any fun kv => decide (kv.1 = k)) = ((fs.map (·.1)).any fun x => decide (x = k)) := by rw [List.any_map]; rfl
  have h2 : (gs.any fun kv => decide (kv.1 = k)) = ((gs.map (·.1)).any fun x => decide (x = k)) := by rw [List.any_map]; rfl
  rw [h1, h2, e]
theorem put_map {fs : List (κ × V)} {gs : List (κ × D)} (k : κ) (hv : At K G v d) (e : fs.map (·.1) = gs.map (·.1)) (h : AtL K G (fs.map (·.2)) (gs.map (·.2))) : (fs.map fun kv => if kv.1 = k then (kv.1, v) else kv).map (·.1) = (gs.map fun kv => if kv.1 = k then (kv.1, d) else kv).map (·.1) ∧ AtL K G ((fs.map fun kv => if kv.1 = k then (kv.1, v) else kv).map (·.2)) ((gs.map fun kv => if kv.1 = k then (kv.1, d) else kv).map (·.2)) := by
  induction fs generalizing gs with
  | nil => cases gs with
    | nil => exact ⟨rfl, .nil⟩
    | cons g gs => simp at e
  | cons x fs ih => cases gs with
    | nil => simp at e
    | cons g gs =>
      simp only [List.map_cons, List.cons.injEq] at e
      simp only [List.map_cons] at h
      cases h with
      | cons h1 h2 =>
        obtain ⟨a1, a2⟩ := ih e.2 h2
        by_cases hk : x.1 = k
        · have hk2 : g.1 = k := by rw [← e.1]; exact hk
          simp only [List.map_cons, if_pos hk, if_pos hk2]
          exact ⟨by rw [a1, e.1], .cons hv a2⟩
        · have hk2 : ¬ g.1 = k := by rw [← e.1]; exact hk
          simp only [List.map_cons, if_neg hk, if_neg hk2]
          exact ⟨by rw [a1, e.1], .cons h1 a2⟩
theorem put_putK {fs : List (κ × V)} {gs : List (κ × D)} (e : fs.map (·.1) = gs.map (·.1)) (h : AtL K G (fs.map (·.2)) (gs.map (·.2))) (k : κ) (hv : At K G v d) : (putK fs k v).map (·.1) = (putKD gs k d).map (·.1) ∧ AtL K G ((putK fs k v).map (·.2)) ((putKD gs k d).map (·.2)) := by
  unfold putK putKD
  rw [any_any e k]
  split
  · exact put_map k hv e h
  · rw [List.map_append, List.map_append, List.map_append, List.map_append, e]
    exact ⟨rfl, h.append (.one hv)⟩
abbrev InK (X : List (Addr × D)) (L : List (V × D)) (p : Addr) (gs : List (Key × D)) : Prop := (V.ref p, D.dK gs) ∈ L ∨ (p, D.dK gs) ∈ X
theorem Mm.rdK {gs : List (Key × D)} (M : Mm K B G0 ms X L H) (hm : InK X L p gs) : ∃ fs, H p = some (.dK fs) ∧ fs.map (·.1) = gs.map (·.1) ∧ Mm K B G0 ms X ((fs.map (·.2)).zip (gs.map (·.2)) ++ L) H ∧ ∀ k : Key, (valV fs k = none ∧ valD gs k = none) ∨ ∃ v d, valV fs k = some v ∧ valD gs k = some d ∧ Mm K B G0 ms X ((v, d) :: L) H := by
  obtain ⟨G, W⟩ := M
  have key : ∀ fs : List (Key × V), H p = some (.dK fs) → fs.map (·.1) = gs.map (·.1) → AtL K G (fs.map (·.2)) (gs.map (·.2)) → ∃ fs, H p = some (.dK fs) ∧ fs.map (·.1) = gs.map (·.1) ∧ Mm K B G0 ms X ((fs.map (·.2)).zip (gs.map (·.2)) ++ L) H ∧ ∀ k : Key, (valV fs k = none ∧ valD gs k = none) ∨ ∃ v d, valV fs k = some v ∧ valD gs k = some d ∧ Mm K B G0 ms X ((v, d) :: L) H := fun fs h1 h2 h3 =>
    ⟨fs, h1, h2, ⟨G, W.addL h3.zip⟩, fun k => (val_val h2 h3 k).imp id fun ⟨v, d, e1, e2, e3⟩ => ⟨v, d, e1, e2, G, W.addL (L' := [(v, d)]) fun z hz => by rw [List.mem_singleton.mp hz]; exact e3⟩⟩
  rcases hm with h | h
  · have h1 := W.ok _ h
    cases h1 with
    | dK a e b => exact key _ (W.s1 _ _ a) e b
  · obtain ⟨fs, h1, h2, h3⟩ := W.chg _ h
    exact key fs h1 h2 h3
theorem d_dnew (M : Mm K B G0 ms X L H) (q : ∀ p H', Mm K B G0 ms ((p, .dK []) :: X) L H' → Q (.ref p) H') : tDNewK σ H Q := fun p hp => q p _ (M.newX hp fun G _ => ⟨[], upd_same, rfl, .nil⟩)
theorem d_din0 {ty td : TE} (h : ty σ H fun y H1 => td σ H1 fun x H2 => ∃ a o, x = .ref a ∧ DGet H2 a y o ∧ Q (.bl o.isSome) H2) : tDIn ty td σ H Q := h
theorem d_dnotin0 {ty td : TE} (h : ty σ H fun y H1 => td σ H1 fun x H2 => ∃ a o, x = .ref a ∧ DGet H2 a y o ∧ Q (.bl (!o.isSome)) H2) : tDNotIn ty td σ H Q := h
theorem d_din {gs : List (Key × D)} {k : Key} (M : Mm K B G0 ms X L H) (hm : InK X L p gs) (hk : v = kV k) (q : Q (.bl (valD gs k).isSome) H) : ∃ a o, V.ref p = .ref a ∧ DGet H a v o ∧ Q (.bl o.isSome) H := by
  obtain ⟨fs, h1, h2, M2, h3⟩ := M.rdK hm
  subst hk
  refine ⟨p, valV fs k, rfl, DGet.k h1, ?_⟩
  rcases h3 k with ⟨e1, e2⟩ | ⟨v, d, e1, e2, _⟩ <;> rw [e1] <;> rw [e2] at q <;> exact q
theorem d_dnotin {gs : List (Key × D)} {k : Key} (M : Mm K B G0 ms X L H) (hm : InK X L p gs) (hk : v = kV k) (q : Q (.bl (!(valD gs k).isSome)) H) : ∃ a o, V.ref p = .ref a ∧ DGet H a v o ∧ Q (.bl (!o.isSome)) H := by
  obtain ⟨fs, h1, h2, M2, h3⟩ := M.rdK hm
  subst hk
  refine ⟨p, valV fs k, rfl, DGet.k h1, ?_⟩
  rcases h3 k with ⟨e1, e2⟩ | ⟨v, d, e1, e2, _⟩ <;> rw [e1] <;> rw [e2] at q <;> exact q
theorem d_dget0 {ty td : TE} (h : td σ H fun x H1 => ty σ H1 fun y H2 => ∃ a v, x = .ref a ∧ DGet H2 a y (some v) ∧ Q v H2) : tDGet td ty σ H Q := h
theorem d_dget {gs : List (Key × D)} {k : Key} {PV : V → Prop} (M : Mm K B G0 ms X L H) (hm : InK X L p gs) (hk : w = kV k) (hd : valD gs k = some d) (q : ∀ v, Mm K B G0 ms X ((v, d) :: L) H → PV v) : ∃ a v, V.ref p = .ref a ∧ DGet H a w (some v) ∧ PV v := by
  obtain ⟨fs, h1, h2, M2, h3⟩ := M.rdK hm
  subst hk
  rcases h3 k with ⟨e1, e2⟩ | ⟨v, d', e1, e2, M3⟩
  · rw [e2] at hd; cases hd
  · rw [e2] at hd; cases hd
    exact ⟨p, v, rfl, by rw [← e1]; exact DGet.k h1, q v M3⟩
theorem d_dput0 {n : L2.St → Hp → Prop} {r : VK} {b c : L2.St → Hp → Prop} {td ty tv : TE} (h : tv σ H fun v H1 => td σ H1 fun x H2 => ty σ H2 fun y H3 => ∃ a H4, x = .ref a ∧ DPut H3 a y v H4 ∧ n σ H4) : sDPut td ty tv ⟨n, r, b, c⟩ σ H := h
theorem Mm.dKX {X1 X2 : List (Addr × D)} {gs : List (Key × D)} (M : Mm K B G0 ms (X1 ++ (p, .dK gs) :: X2) L H) : ∃ fs, H p = some (.dK fs) ∧ fs.length = gs.length ∧ ∀ k v d, H1 L v d → Mm K B G0 ms (X1 ++ (p, .dK (putKD gs k d)) :: X2) L (upd H p (.dK (putK fs k v))) := by
  obtain ⟨G, W⟩ := M
  obtain ⟨fs, h1, h2, h3⟩ := W.chg (p, .dK gs) (by simp)
  refine ⟨fs, h1, by simpa using congrArg List.length h2, fun k v d hv => ⟨G, W.set ?_⟩⟩
  obtain ⟨a1, a2⟩ := put_putK h2 h3 k (hv K G W.ok)
  exact ⟨_, upd_same, a1, a2⟩
theorem d_dput {X1 X2 : List (Addr × D)} {gs : List (Key × D)} {k : Key} {PQ : Hp → Prop} (M : Mm K B G0 ms (X1 ++ (p, .dK gs) :: X2) L H) (hv : H1 L v d) (hk : w = kV k) (hl : gs.length < sizeLine) (q : ∀ H', Mm K B G0 ms (X1 ++ (p, .dK (putKD gs k d)) :: X2) L H' → PQ H') : ∃ a H4, V.ref p = .ref a ∧ DPut H a w v H4 ∧ PQ H4 := by
  obtain ⟨fs, h1, h2, k'⟩ := M.dKX
  subst hk
  exact ⟨p, _, rfl, DPut.k h1 (by omega), q _ (k' k v d hv)⟩
/-- list(d.items()) -/
theorem d_items0 {te : TE} (h : te σ H fun x H1 => rItemsL x H1 Q) : tListItems te σ H Q := h
def kD : Key → D
  | .inl i => .int i
  | .inr x => .str x
theorem items_at {G2 H' : Hp} {fs : List (Key × V)} {gs : List (Key × D)} {ts : List Addr} (hkv : ∀ k : Key, At K G2 (kV k) (kD k)) (hsG : Same G G2) (hmem : ∀ t ∈ ts, ∀ o, H' t = some o → G2 t = some o) (h2 : fs.map (·.1) = gs.map (·.1)) (hz : AtL K G (fs.map (·.2)) (gs.map (·.2))) (hp : Paired (fun (t : Addr) (q : Key × V) => H' t = some (.tup [kV q.1, q.2])) ts fs) : AtL K G2 (ts.map V.ref) (gs.map fun g => .tup [kD g.1, g.2]) := by
  induction fs generalizing gs ts with
  | nil => cases hp; cases gs with
    | nil => exact .nil
    | cons g gs => simp at h2
  | cons f fs ih => cases gs with
    | nil => simp at h2
    | cons g gs => cases hp with
      | cons hp1 hp2 =>
        simp only [List.map_cons, List.cons.injEq] at h2
        simp only [List.map_cons] at hz
        cases hz with
        | cons z1 z2 =>
          refine .cons (.tup (hmem _ List.mem_cons_self _ hp1) (.cons ?_ (.cons (z1.mono hsG) .nil))) (ih (fun t ht => hmem t (List.mem_cons_of_mem _ ht)) h2.2 z2 hp2)
          rw [← h2.1]; exact hkv _
theorem d_items {gs : List (Key × D)} (M : Mm K B G0 ms X L H) (hm : InK X L p gs) (q : ∀ r H', Mm K B G0 ms X ((.ref r, .lst (gs.map fun g => .tup [kD g.1, g.2])) :: L) H' → Q (.ref r) H') : rItemsL (.ref p) H Q := by
  obtain ⟨fs, h1, h2, M2, _⟩ := M.rdK hm
  refine ⟨p, fs, rfl, h1, fun H' r ts hs hr hts hnr hr' hp => q r H' ?_⟩
  obtain ⟨G, W⟩ := M2
  -- the heap of what stands still, with the new list and its tuples
  let G2 : Hp := fun b => if b = r ∨ b ∈ ts then H' b else G b
  have hg : ∀ b, b = r ∨ b ∈ ts → G b = none := fun b hb => W.freshG (hb.elim (fun e => e ▸ hr) (hts b))
  have hsG : Same G G2 := fun b o e => by
    show (if b = r ∨ b ∈ ts then H' b else G b) = _
    rw [if_neg (fun z => by rw [hg b z] at e; cases e)]; exact e
  have hkv : ∀ k : Key, At K G2 (kV k) (kD k) := fun k => by cases k with
    | inl i => exact .int i
    | inr x => exact .str x
  have hz : AtL K G (fs.map (·.2)) (gs.map (·.2)) := by
    have hl : (fs.map (·.2)).length = (gs.map (·.2)).length := by simpa using congrArg List.length h2
    exact Hs.zip (L := L) hl K G W.ok
  have hall : AtL K G2 (ts.map V.ref) (gs.map fun g => .tup [kD g.1, g.2]) := by
    refine items_at hkv hsG (fun t ht o e => ?_) h2 hz hp
    show (if t = r ∨ t ∈ ts then H' t else G t) = _
    rw [if_pos (.inr ht)]; exact e
  have hGr : G2 r = some (.lst (ts.map V.ref)) := by
    show (if r = r ∨ r ∈ ts then H' r else G r) = _
    rw [if_pos (.inl rfl)]; exact hr'
  have hx : ∀ z ∈ X, ¬ (z.1 = r ∨ z.1 ∈ ts) := fun z hz hb => by
    obtain ⟨o, ho⟩ := (W.chg z hz).some
    have : H z.1 = none := hb.elim (fun e => e ▸ hr) (hts _)
    rw [this] at ho; cases ho
  refine ⟨G2, fun a u e => hsG _ _ (W.s0 _ _ e), fun a u e => ?_, fun a e => ?_, fun z hz => (W.chg z hz).mono hsG (fun o e => hs _ _ e), fun z hz => ?_, W.loc, W.nd, fun a u e hn => hs _ _ (W.keep a u e hn), fun m hm => ?_, fun z hz => ?_⟩
  · by_cases hb : a = r ∨ a ∈ ts
    · have : G2 a = H' a := by show (if a = r ∨ a ∈ ts then H' a else G a) = _; rw [if_pos hb]
      rw [this] at e; exact e
    · have : G2 a = G a := by show (if a = r ∨ a ∈ ts then H' a else G a) = _; rw [if_neg hb]
      rw [this] at e; exact hs _ _ (W.s1 _ _ e)
  · by_cases hb : a = r ∨ a ∈ ts
    · exact .inr (.inl (W.fresh (hb.elim (fun e => e ▸ hr) (hts a))))
    · have : G2 a = G a := by show (if a = r ∨ a ∈ ts then H' a else G a) = _; rw [if_neg hb]
      rw [this] at e; exact W.new a e
  · show (if z.1 = r ∨ z.1 ∈ ts then H' z.1 else G z.1) = _
    rw [if_neg (hx z hz)]; exact W.off z hz
  · cases e : H m with
    | none => exact absurd e (W.tr m hm)
    | some o => rw [hs _ _ e]; exact (fun z => nomatch z)
  · rcases List.mem_cons.mp hz with rfl | hz
    · exact .lst hGr hall
    · exact (W.ok z (List.mem_append_right _ hz)).mono hsG
end
end MyL

set_option Elab.async false
set_option linter.all false
set_option maxRecDepth 100000
set_option maxHeartbeats 4000000
/-! Short texts: that they may be compared. -/
namespace MyL
open PySem PySem.Spec PyProof.Rows L2
/-- a text of at most n signs that may be told -/
def okS (n : Nat) (s : Str) : Prop := PyData.strOk s = true ∧ s.length ≤ n
section
variable {X : Cx} {H : Hp} {Q : VK} {σ : L2.St}
def rMulS : R2 := fun x y H Q => ∃ (z : Str) (n : Int), x = .str z ∧ y = .int n ∧ MulOk z n ∧ Q (.str (Txt.mul z n)) H
theorem op_mulS : OpR X (binaryOp .Mult) rMulS := by
  intro pins s σ H x y v u Q I rx ry h
  obtain ⟨z, n, rfl, rfl, hok, q⟩ := h
  obtain ⟨t, rfl⟩ := rx
  obtain ⟨t2, rfl⟩ := ry
  exact SB.mul hok fun t' k => ⟨.str _, H, I.tok _, ⟨_, rfl⟩, q⟩
end
theorem all_iff {s : Str} : PyData.strOk s = true ↔ ∀ c ∈ s.cps.toList, c < 0x110000 := by
  unfold PyData.strOk
  rw [← Array.all_toList, List.all_eq_true]
  simp
theorem okS.app {m n k : Nat} {x y : Str} (h : okS m x) (h2 : okS n y) (hk : m + n ≤ k) : okS k (x ++ y) := by
  refine ⟨all_iff.mpr fun c hc => ?_, ?_⟩
  · have : (x ++ y).cps.toList = x.cps.toList ++ y.cps.toList := by
      show (x.cps ++ y.cps).toList = _
      exact Array.toList_append
    rw [this] at hc
    rcases List.mem_append.mp hc with h3 | h3
    · exact all_iff.mp h.1 c h3
    · exact all_iff.mp h2.1 c h3
  · have h3 := h.2
    have h4 := h2.2
    have : (x ++ y).length = x.length + y.length := by
      show (x.cps ++ y.cps).size = _
      exact Array.size_append
    omega
theorem okS.mono {m n : Nat} {x : Str} (h : okS m x) (hk : m ≤ n) : okS n x := ⟨h.1, Nat.le_trans h.2 hk⟩
theorem okS.cut {n : Nat} {x : Str} (h : okS n x) (lo hi : Option Int) : okS n (cutS x lo hi) := by
  refine ⟨all_iff.mpr fun c hc => all_iff.mp h.1 c ?_, ?_⟩
  · unfold cutS at hc
    simp only [List.toList_toArray] at hc
    exact List.drop_subset _ _ (List.take_subset _ _ hc)
  · have h2 := h.2
    unfold cutS Str.length
    simp only [List.size_toArray, List.length_take, List.length_drop]
    have : x.cps.toList.length = x.length := by simp [Str.length]
    omega
theorem okS.one {n : Nat} {x : Str} {c : Nat} {i : Int} (h : PyData.strOk x = true) (hc : atI x.cps.toList i = some c) (hn : 1 ≤ n) : okS n ⟨#[c]⟩ := by
  have hm : c ∈ x.cps.toList := by
    unfold atI at hc
    cases hk : ixN x.cps.toList.length i with
    | none => rw [hk] at hc; cases hc
    | some k => rw [hk] at hc; exact List.mem_of_getElem? hc
  refine ⟨all_iff.mpr fun d hd => ?_, hn⟩
  have : d = c := by simpa using hd
  rw [this]; exact all_iff.mp h c hm
theorem foldl_mem {c : Nat} (a : Array Nat) (n : Nat) (acc : Array Nat) (h : c ∈ ((List.replicate n a).foldl (· ++ ·) acc).toList) : c ∈ acc.toList ∨ c ∈ a.toList := by
  induction n generalizing acc with
  | zero => exact .inl h
  | succ n ih =>
    rw [List.replicate_succ, List.foldl_cons] at h
    rcases ih _ h with h | h
    · rw [Array.toList_append] at h
      exact List.mem_append.mp h
    · exact .inr h
theorem foldl_size (a : Array Nat) (n : Nat) (acc : Array Nat) : ((List.replicate n a).foldl (· ++ ·) acc).size = acc.size + n * a.size := by
  induction n generalizing acc with
  | zero => simp
  | succ n ih => rw [List.replicate_succ, List.foldl_cons, ih, Array.size_append, Nat.add_mul]; omega
theorem okS.mul {m k : Nat} {x : Str} {n : Int} (h : okS m x) (hn : 0 ≤ n) (hk : m * n.toNat ≤ k) (hm : m ≤ k) : okS k (Txt.mul x n) := by
  unfold Txt.mul
  split
  · exact ⟨by simp [PyData.strOk, Str.empty], Nat.zero_le _⟩
  · split
    · exact h.mono hm
    · refine ⟨all_iff.mpr fun c hc => ?_, ?_⟩
      · rcases foldl_mem _ _ _ hc with h1 | h1
        · simp at h1
        · exact all_iff.mp h.1 c h1
      · show ((List.replicate n.toNat x.cps).foldl (· ++ ·) #[]).size ≤ k
        rw [foldl_size]
        have h2 : x.cps.size ≤ m := h.2
        have h3 : n.toNat * x.cps.size ≤ n.toNat * m := Nat.mul_le_mul_left _ h2
        rw [Nat.mul_comm] at hk
        simp
        omega
theorem num_ok : ∀ n : Fin 200, PyData.strOk (Str.ofString (toString ((n.1 : Nat) : Int))) = true ∧ (Str.ofString (toString ((n.1 : Nat) : Int))).length ≤ 3 := by decide +kernel
theorem okS.num {i : Int} (h0 : 0 ≤ i) (h1 : i < 200) : okS 3 (Str.ofString (toString i)) := by
  have h := num_ok ⟨i.toNat, by omega⟩
  have e : ((i.toNat : Nat) : Int) = i := by omega
  simp only [e] at h
  exact h
theorem okS.sh {n k : Nat} {x : Str} (h : okS n x) : Sh k (.str x) := Sh.str h.1
theorem mulOk {z : Str} {n : Int} (hz : z.length ≤ 100) (h0 : 0 ≤ n) (h1 : n ≤ 100) : MulOk z n := by
  refine ⟨?_, fun h2 _ => ?_, fun h2 _ => ?_⟩
  · rw [Bool.or_eq_false_iff]; exact ⟨decide_eq_false (by omega), decide_eq_false (by omega)⟩
  · have : (2 ^ 63 - 1) / n ≥ 100 := by
      rw [ge_iff_le, Int.le_ediv_iff_mul_le (by omega)]
      omega
    omega
  · have h3 : z.length * n.toNat ≤ 100 * 100 := Nat.mul_le_mul hz (by omega)
    unfold PySem.Builtin.Str.tooLong
    exact decide_eq_false (by have : sizeLine ≥ 100 * 100 := by decide
                              omega)
section
variable {H : Hp} {Q : VK}
theorem k_mulS {z : Str} {n : Int} (hz : z.length ≤ 100) (h0 : 0 ≤ n) (h1 : n ≤ 100) (q : Q (.str (Txt.mul z n)) H) : rMulS (.str z) (.int n) H Q := ⟨z, n, rfl, rfl, mulOk hz h0 h1, q⟩
theorem k_slS {z : Str} {lo hi : Option Int} (hz : z.length ≤ 1000) (q : Q (.str (cutS z lo hi)) H) : rSlS (.str z) lo hi H Q := ⟨z, rfl, Nat.le_trans hz (by decide), q⟩
theorem k_ixSt {z : Str} {i : Int} {c : Nat} (hz : z.length ≤ 1000) (hc : atI z.cps.toList i = some c) (q : Q (.str ⟨#[c]⟩) H) : rIxS (.str z) (.int i) H Q := ⟨z, i, c, rfl, rfl, Nat.le_trans hz (by decide), hc, q⟩
/-- z[i] with i within -/
theorem k_ixSo {z : Str} {i : Int} (hz : z.length ≤ 1000) (hs : PyData.strOk z = true) (h0 : 0 ≤ i) (h1 : i < z.length) (q : ∀ s, okS 1 s → Q (.str s) H) : rIxS (.str z) (.int i) H Q := by
  have hk : ixN z.cps.toList.length i = some i.toNat := by
    unfold ixN
    have : z.cps.toList.length = z.length := by simp [Str.length]
    rw [if_pos h0, if_pos (by omega)]
  have hl : i.toNat < z.cps.toList.length := by
    have : z.cps.toList.length = z.length := by simp [Str.length]
    omega
  have hc : atI z.cps.toList i = some (z.cps.toList[i.toNat]) := by
    unfold atI
    rw [hk]
    exact List.getElem?_eq_getElem hl
  exact k_ixSt hz hc (q _ (okS.one hs hc (Nat.le_refl 1)))
end
end MyL

set_option Elab.async false
set_option linter.all false
set_option maxRecDepth 100000
set_option maxHeartbeats 4000000
/-! Comprehensions of two walks; enumerate over a list or a tuple. -/
namespace MyL
open PySem PySem.Spec PyProof.Rows L2
/-- the inner walk of a comprehension of two -/
def In2 (J1 : It) (g1 : TG) (tt1 : TT) (te : TE) (vs1 : List Nat) (A : Addr) (σ2 : L2.St) (Nx : Hp → Prop) (H4 : Hp) : Prop := ∃ W1 : Nat → Nat → Hp → Prop, (∃ m, W1 0 m H4) ∧ ∀ j k H, W1 j k H →
      (J1.stop j H ∧ Nx H) ∨ (J1.go j H ∧ ∃ Nx1 : Hp → Prop, (∀ H', Nx1 H' → ∃ k', k' < k ∧ W1 (j + 1) k' H') ∧ ∀ x H', J1.yld j H x H' → g1 x (wipe σ2 vs1) H' fun σ3 H5 => wipe σ3 vs1 = wipe σ2 vs1 ∧ tt1 σ3 H5 fun b H6 =>
        if b = true then te σ3 H6 fun y H7 => ∃ acc, H7 A = some (.lst acc) ∧ acc.length < sizeLine ∧ Nx1 (upd H7 A (.lst (acc ++ [y]))) else Nx1 H6)
section
variable {K : PySem.W.Frag} {B G0 G H H' : Hp} {ms : List Addr} {X X' : List (Addr × D)} {L L' : List (V × D)} {p a C : Addr} {v w : V} {d d' : D} {vs ws : List V} {ds es : List D} {Q : VK} {σ : L2.St}
theorem lcD2 {J : It} {n : Nat} {e : Nat → D} {ok : List (Addr × D) → List (V × D) → Prop} {g g1 : TG} {tt tt1 : TT} {te : TE} {wi1 : TI} {ns vs1 : List Nat} (S : Src K B G0 ms J n e ok) (M : Mm K B G0 ms X L H) (I : Nat → List D → List (Addr × D) → Prop) (hok : ∀ i acc X' A, I i acc X' → ok ((A, .lst acc) :: X') L) (h0 : I 0 [] X)
    (hs : ∀ i x acc X' A H', i < n → I i acc X' → Mm K B G0 ms ((A, .lst acc) :: X') ((x, e i) :: L) H' → g x (wipe σ ns) H' fun σ2 H2 => wipe σ2 ns = wipe σ ns ∧ tt σ2 H2 fun b H3 =>
      if b = true then wi1 σ2 H3 fun J1 H4 => In2 J1 g1 tt1 te vs1 A σ2 (LcN K B G0 ms L A I (i + 1)) H4 else LcN K B G0 ms L A I (i + 1) H3)
    (hd : ∀ A acc X' H', I n acc X' → Mm K B G0 ms ((A, .lst acc) :: X') L H' → Q (.ref A) H') : tLc2 (iJ J) g tt wi1 g1 tt1 te ns vs1 σ H Q := by
  intro A hA
  refine ⟨fun i m H' => m = n - i ∧ i ≤ n ∧ LcN K B G0 ms L A I i H', ⟨n, rfl, Nat.zero_le _, [], X, h0, M.newLX hA .nil⟩, ?_⟩
  rintro i m H' ⟨rfl, hi, acc, X', hI, M'⟩
  obtain ⟨s1, s2, s3⟩ := S _ L H' (hok i acc X' A hI) M'
  by_cases hlt : i < n
  · exact .inr ⟨s1 i hlt, LcN K B G0 ms L A I (i + 1), fun H3 hN => ⟨n - (i + 1), by omega, rfl, hlt, hN⟩, fun x H2 hy => hs i x acc X' A H2 hlt hI (s3 i x H2 hlt hy)⟩
  · have e : i = n := by omega
    subst e
    exact .inl ⟨s2, hd A acc X' H' hI M'⟩
theorem in2D {J1 : It} {n1 : Nat} {e1 : Nat → D} {ok1 : List (Addr × D) → List (V × D) → Prop} {g1 : TG} {tt1 : TT} {te : TE} {vs1 : List Nat} {A : Addr} {acc : List D} {Nx : Hp → Prop} (S : Src K B G0 ms J1 n1 e1 ok1) (M : Mm K B G0 ms ((A, .lst acc) :: X) L H) (I : Nat → List D → List (Addr × D) → Prop) (hok : ∀ i acc X', I i acc X' → ok1 ((A, .lst acc) :: X') L) (h0 : I 0 acc X)
    (hs : ∀ i x acc X' H', i < n1 → I i acc X' → Mm K B G0 ms ((A, .lst acc) :: X') ((x, e1 i) :: L) H' → g1 x (wipe σ vs1) H' fun σ2 H2 => wipe σ2 vs1 = wipe σ vs1 ∧ tt1 σ2 H2 fun b H3 =>
      if b = true then te σ2 H3 fun y H4 => ∃ us, H4 A = some (.lst us) ∧ us.length < sizeLine ∧ LcN K B G0 ms L A I (i + 1) (upd H4 A (.lst (us ++ [y]))) else LcN K B G0 ms L A I (i + 1) H3)
    (hd : ∀ acc X' H', I n1 acc X' → Mm K B G0 ms ((A, .lst acc) :: X') L H' → Nx H') : In2 J1 g1 tt1 te vs1 A σ Nx H := by
  refine ⟨fun i m H' => m = n1 - i ∧ i ≤ n1 ∧ LcN K B G0 ms L A I i H', ⟨n1, rfl, Nat.zero_le _, acc, X, h0, M⟩, ?_⟩
  rintro i m H' ⟨rfl, hi, acc, X', hI, M'⟩
  obtain ⟨s1, s2, s3⟩ := S _ L H' (hok i acc X' hI) M'
  by_cases hlt : i < n1
  · exact .inr ⟨s1 i hlt, LcN K B G0 ms L A I (i + 1), fun H3 hN => ⟨n1 - (i + 1), by omega, rfl, hlt, hN⟩, fun x H2 hy => hs i x acc X' H2 hlt hI (s3 i x H2 hlt hy)⟩
  · have e : i = n1 := by omega
    subst e
    exact .inl ⟨s2, hd acc X' H' hI M'⟩
/-- enumerate over a list or a tuple that stands still -/
theorem enumQ {t : Bool} {n : Nat} {tb : TS} {g : TG} {E : Ends} (M : Mm K B G0 ms X L H) (hv : σ[n]? = some (some (.ref p))) (hm : (V.ref p, sq t ds) ∈ L) (k : ∀ J, Src K B G0 ms J ds.length (fun i => .tup [.int (i : Nat), ds.getD i .non]) (fun _ L' => (V.ref p, sq t ds) ∈ L') → tFor (iJ J) g tb E σ H) : tFor (iOr (iEnum K (tCons (tVar n) tNil)) (iEnumT (tCons (tVar n) tNil))) g tb E σ H := by
  cases t with
  | true =>
    obtain ⟨vs, h1, h2, _⟩ := M.rdT2 hm
    exact .inr ⟨_, hv, p, vs, rfl, h1, k _ fun X L H hok M => src_enumT X L H hok M⟩
  | false =>
    obtain ⟨vs, h1, h2, _⟩ := M.rdL (.inl hm)
    exact .inl ⟨_, hv, p, vs, rfl, SqL.of h1, k _ fun X L H hok M => src_enum X L H (.inl hok) M⟩
theorem enumL {n : Nat} {tb : TS} {g : TG} {E : Ends} (M : Mm K B G0 ms X L H) (hv : σ[n]? = some (some (.ref p))) (hm : InL X L p ds) (k : tFor (iJ (Ite K p)) g tb E σ H) : tFor (iOr (iEnum K (tCons (tVar n) tNil)) (iEnumT (tCons (tVar n) tNil))) g tb E σ H := by
  obtain ⟨vs, h1, h2, _⟩ := M.rdL hm
  exact .inl ⟨_, hv, p, vs, rfl, SqL.of h1, k⟩
/-- a tuple of numbers of the program's top -/
theorem src_topI {aS : Addr} {ns : List Int} (hq : ∀ H, SqT K H aS (ns.map V.int)) : Src K B G0 ms (Itt K aS) ns.length (fun i => .int (ns.getD i 0)) anyOk := fun X L H _ M => by
  refine ⟨fun i hi => ⟨_, _, hq H, List.getElem?_eq_getElem (by rw [List.length_map]; exact hi)⟩, ⟨_, hq H, by rw [List.length_map]; exact Nat.le_refl _⟩, fun i x H' hi ⟨e1, e2⟩ => ?_⟩
  subst e1
  have h5 := e2 _ (hq _)
  rw [List.getElem?_map, List.getElem?_eq_getElem hi] at h5
  cases h5
  dsimp only
  rw [List.getD_eq_getElem?_getD, List.getElem?_eq_getElem hi]
  exact M.add H1.int
end
end MyL

set_option Elab.async false
set_option linter.all false
set_option maxRecDepth 100000
set_option maxHeartbeats 4000000
/-! x == [], x != [] of any list. -/
namespace MyL
open PySem PySem.Spec PyProof.Rows L2
section
variable {X : Cx}
def rEqE (K : PySem.W.Frag) : R2 := fun x y H Q => ∃ a b xs, x = .ref a ∧ y = .ref b ∧ SqL K H a xs ∧ SqL K H b [] ∧ Q (.bl xs.isEmpty) H
def rNeE (K : PySem.W.Frag) : R2 := fun x y H Q => ∃ a b xs, x = .ref a ∧ y = .ref b ∧ SqL K H a xs ∧ SqL K H b [] ∧ Q (.bl (!xs.isEmpty)) H
theorem op_eqE (hu : X.A.units + 64 < cLine) : OpR X (compareOp .Eq) (rEqE X.K) := by
  intro pins s σ H x y v u Q I rx ry h
  obtain ⟨a, b, xs, rfl, rfl, ha, hb, q⟩ := h
  by_cases hx : xs = []
  · subst hx
    refine op_eqD hu pins s σ H _ _ v u Q I rx ry ⟨.list [], .list [], .lst ha .nil, .lst hb .nil, by decide, by decide, ?_⟩
    have : PyData.eqv (.list []) (.list []) = true := by simp [PyData.eqv, PyData.eqvAll]
    rw [this]; exact q
  · cases rx
    cases ry
    obtain ⟨its, rv, ⟨⟨cls, dd, data, sls⟩, n, ho, hc, hdn, hdt⟩, hlen⟩ := I.list ha
    obtain ⟨its2, rv2, ⟨⟨cls2, dd2, data2, sls2⟩, n2, ho2, hc2, hdn2, hdt2⟩, hlen2⟩ := I.list hb
    simp only at hc hdt hc2 hdt2
    subst hc hdt hc2 hdt2
    have e : xs.isEmpty = false := by cases xs with
      | nil => exact absurd rfl hx
      | cons x xs => rfl
    rw [e] at q
    have hl1 := rv.length
    have hl2 := rv2.length
    have hsz : (its.toArray.size != its2.toArray.size) = true := by
      have : 0 < xs.length := List.length_pos_iff.mpr hx
      simp at hl2 ⊢
      intro z
      rw [z] at hl1
      simp [← hl2] at hl1
      exact hx hl1
    show wpAny _ _ (richCompare .Eq (.ref a) (.ref b)) _ _ _
    exact SeqAt.eq_list_lengthsAt ⟨_, ho, rfl, n, rfl⟩ ⟨_, ho2, rfl, n2, rfl⟩ hsz (by omega) ⟨.bl false, H, I, rfl, q⟩
theorem op_neE (hu : X.A.units + 64 < cLine) : OpR X (compareOp .NotEq) (rNeE X.K) := by
  intro pins s σ H x y v u Q I rx ry h
  obtain ⟨a, b, xs, rfl, rfl, ha, hb, q⟩ := h
  by_cases hx : xs = []
  · subst hx
    refine op_neD hu pins s σ H _ _ v u Q I rx ry ⟨.list [], .list [], .lst ha .nil, .lst hb .nil, by decide, by decide, ?_⟩
    have : PyData.eqv (.list []) (.list []) = true := by simp [PyData.eqv, PyData.eqvAll]
    rw [this]; exact q
  · cases rx
    cases ry
    obtain ⟨its, rv, ⟨⟨cls, dd, data, sls⟩, n, ho, hc, hdn, hdt⟩, hlen⟩ := I.list ha
    obtain ⟨its2, rv2, ⟨⟨cls2, dd2, data2, sls2⟩, n2, ho2, hc2, hdn2, hdt2⟩, hlen2⟩ := I.list hb
    simp only at hc hdt hc2 hdt2
    subst hc hdt hc2 hdt2
    have e : xs.isEmpty = false := by cases xs with
      | nil => exact absurd rfl hx
      | cons x xs => rfl
    rw [e] at q
    have hl1 := rv.length
    have hl2 := rv2.length
    have hsz : (its.toArray.size != its2.toArray.size) = true := by
      have : 0 < xs.length := List.length_pos_iff.mpr hx
      simp at hl2 ⊢
      intro z
      rw [z] at hl1
      simp [← hl2] at hl1
      exact hx hl1
    show wpAny _ _ (richCompare .NotEq (.ref a) (.ref b)) _ _ _
    exact SeqAt.RcNeAt.lists_lengths ⟨_, ho, rfl, n, rfl⟩ ⟨_, ho2, rfl, n2, rfl⟩ hsz (by omega) _ _ _ _ ⟨.bl true, H, I, rfl, q⟩
end
section
variable {K : PySem.W.Frag} {B G0 G H H' : Hp} {ms : List Addr} {X X' : List (Addr × D)} {L L' : List (V × D)} {p a : Addr} {ds es : List D} {Q : VK}
theorem d_eqE (M : Mm K B G0 ms X L H) (hm : InL X L p ds) (hm2 : InL X L a []) (q : Q (.bl ds.isEmpty) H) : rEqE K (.ref p) (.ref a) H Q := by
  obtain ⟨vs, h1, h2, M2⟩ := M.rdL hm
  obtain ⟨ws, h3, h4, M3⟩ := M.rdL hm2
  have e : ws = [] := List.length_eq_zero_iff.mp h4
  subst e
  refine ⟨p, a, vs, rfl, rfl, SqL.of h1, SqL.of h3, ?_⟩
  have : vs.isEmpty = ds.isEmpty := by cases vs <;> cases ds <;> simp at h2 ⊢
  rw [this]; exact q
theorem d_neE (M : Mm K B G0 ms X L H) (hm : InL X L p ds) (hm2 : InL X L a []) (q : Q (.bl (!ds.isEmpty)) H) : rNeE K (.ref p) (.ref a) H Q := by
  obtain ⟨vs, h1, h2, M2⟩ := M.rdL hm
  obtain ⟨ws, h3, h4, M3⟩ := M.rdL hm2
  have e : ws = [] := List.length_eq_zero_iff.mp h4
  subst e
  refine ⟨p, a, vs, rfl, rfl, SqL.of h1, SqL.of h3, ?_⟩
  have : vs.isEmpty = ds.isEmpty := by cases vs <;> cases ds <;> simp at h2 ⊢
  rw [this]; exact q
end
end MyL

set_option Elab.async false
set_option linter.all false
set_option maxRecDepth 100000
set_option maxHeartbeats 4000000
/-! A call that changes one thing, wherever it stands. -/
namespace MyL
open PySem PySem.Spec PyProof.Rows L2
def rRange1 : List V → Hp → VK → Prop := fun vs H Q => ∃ j, vs = [V.int j] ∧ ∀ p, H p = none → Q (.ref p) (upd H p (.rng 0 j))
theorem cr_rangeD {X : Cx} : CallR X (.type "range") rRange1 := cr_range1
section
variable {K : PySem.W.Frag} {B G0 G H H' : Hp} {ms : List Addr} {X X' : List (Addr × D)} {L L' : List (V × D)} {p a : Addr} {d d' : D} {ds es : List D} {Q : VK}
theorem Mw.permX (W : Mw K B G0 ms X L G H) (h : X'.Perm X) : Mw K B G0 ms X' L G H := ⟨W.s0, W.s1, W.new, fun z hz => W.chg z (h.subset hz), fun z hz => W.off z (h.subset hz), fun z hz => W.loc z (h.subset hz), (h.map _).nodup_iff.mpr W.nd, W.keep, W.tr, W.ok⟩
theorem Mw.compAt {X1 X2 : List (Addr × D)} (W : Mw K B G0 ms (X1 ++ (p, d) :: X2) L G H) {Xn : List (Addr × D)} {L2 : List (V × D)} (M2 : Mm K H G [p] ((p, d') :: Xn) L2 H') : Mm K B G0 ms (Xn ++ (X1 ++ (p, d') :: X2)) (L2 ++ L) H' := by
  have W1 : Mw K B G0 ms ((p, d) :: (X1 ++ X2)) L G H := W.permX List.perm_middle.symm
  refine (W1.comp1 M2).permX ?_
  exact (List.Perm.append_left Xn List.perm_middle).trans List.perm_middle
theorem Mm.headI {X1 : List (Addr × D)} {z : Addr × D} (M : Mm K B G0 ms (X1 ++ z :: X) L H) : Mm K B G0 ms (z :: (X1 ++ X)) L H := M.permX List.perm_middle.symm
theorem d_ixc2 {a0 a1 j : Int} (M : Mm K B G0 ms X L H) (hm : InL X L p [.int a0, .int a1]) (h0 : 0 ≤ j) (h1 : j < 2) (q : ∀ n : Int, (n = a0 ∨ n = a1) → Q (.int n) H) : rIxL K (.ref p) (.int j) H Q := by
  have hj : ∃ k : Nat, k < 2 ∧ j = (k : Int) := ⟨j.toNat, by omega, by omega⟩
  obtain ⟨k, hk, rfl⟩ := hj
  match k, hk with
  | 0, _ => exact d_ixLI (n := a0) M hm (by rfl) (q _ (by simp))
  | 1, _ => exact d_ixLI (n := a1) M hm (by rfl) (q _ (by simp))
theorem d_ixc3 {a0 a1 a2 j : Int} (M : Mm K B G0 ms X L H) (hm : InL X L p [.int a0, .int a1, .int a2]) (h0 : 0 ≤ j) (h1 : j < 3) (q : ∀ n : Int, (n = a0 ∨ n = a1 ∨ n = a2) → Q (.int n) H) : rIxL K (.ref p) (.int j) H Q := by
  have hj : ∃ k : Nat, k < 3 ∧ j = (k : Int) := ⟨j.toNat, by omega, by omega⟩
  obtain ⟨k, hk, rfl⟩ := hj
  match k, hk with
  | 0, _ => exact d_ixLI (n := a0) M hm (by rfl) (q _ (by simp))
  | 1, _ => exact d_ixLI (n := a1) M hm (by rfl) (q _ (by simp))
  | 2, _ => exact d_ixLI (n := a2) M hm (by rfl) (q _ (by simp))
theorem d_ixc4 {a0 a1 a2 a3 j : Int} (M : Mm K B G0 ms X L H) (hm : InL X L p [.int a0, .int a1, .int a2, .int a3]) (h0 : 0 ≤ j) (h1 : j < 4) (q : ∀ n : Int, (n = a0 ∨ n = a1 ∨ n = a2 ∨ n = a3) → Q (.int n) H) : rIxL K (.ref p) (.int j) H Q := by
  have hj : ∃ k : Nat, k < 4 ∧ j = (k : Int) := ⟨j.toNat, by omega, by omega⟩
  obtain ⟨k, hk, rfl⟩ := hj
  match k, hk with
  | 0, _ => exact d_ixLI (n := a0) M hm (by rfl) (q _ (by simp))
  | 1, _ => exact d_ixLI (n := a1) M hm (by rfl) (q _ (by simp))
  | 2, _ => exact d_ixLI (n := a2) M hm (by rfl) (q _ (by simp))
  | 3, _ => exact d_ixLI (n := a3) M hm (by rfl) (q _ (by simp))
theorem d_ixc5 {a0 a1 a2 a3 a4 j : Int} (M : Mm K B G0 ms X L H) (hm : InL X L p [.int a0, .int a1, .int a2, .int a3, .int a4]) (h0 : 0 ≤ j) (h1 : j < 5) (q : ∀ n : Int, (n = a0 ∨ n = a1 ∨ n = a2 ∨ n = a3 ∨ n = a4) → Q (.int n) H) : rIxL K (.ref p) (.int j) H Q := by
  have hj : ∃ k : Nat, k < 5 ∧ j = (k : Int) := ⟨j.toNat, by omega, by omega⟩
  obtain ⟨k, hk, rfl⟩ := hj
  match k, hk with
  | 0, _ => exact d_ixLI (n := a0) M hm (by rfl) (q _ (by simp))
  | 1, _ => exact d_ixLI (n := a1) M hm (by rfl) (q _ (by simp))
  | 2, _ => exact d_ixLI (n := a2) M hm (by rfl) (q _ (by simp))
  | 3, _ => exact d_ixLI (n := a3) M hm (by rfl) (q _ (by simp))
  | 4, _ => exact d_ixLI (n := a4) M hm (by rfl) (q _ (by simp))
theorem d_ixc6 {a0 a1 a2 a3 a4 a5 j : Int} (M : Mm K B G0 ms X L H) (hm : InL X L p [.int a0, .int a1, .int a2, .int a3, .int a4, .int a5]) (h0 : 0 ≤ j) (h1 : j < 6) (q : ∀ n : Int, (n = a0 ∨ n = a1 ∨ n = a2 ∨ n = a3 ∨ n = a4 ∨ n = a5) → Q (.int n) H) : rIxL K (.ref p) (.int j) H Q := by
  have hj : ∃ k : Nat, k < 6 ∧ j = (k : Int) := ⟨j.toNat, by omega, by omega⟩
  obtain ⟨k, hk, rfl⟩ := hj
  match k, hk with
  | 0, _ => exact d_ixLI (n := a0) M hm (by rfl) (q _ (by simp))
  | 1, _ => exact d_ixLI (n := a1) M hm (by rfl) (q _ (by simp))
  | 2, _ => exact d_ixLI (n := a2) M hm (by rfl) (q _ (by simp))
  | 3, _ => exact d_ixLI (n := a3) M hm (by rfl) (q _ (by simp))
  | 4, _ => exact d_ixLI (n := a4) M hm (by rfl) (q _ (by simp))
  | 5, _ => exact d_ixLI (n := a5) M hm (by rfl) (q _ (by simp))
theorem d_ixc7 {a0 a1 a2 a3 a4 a5 a6 j : Int} (M : Mm K B G0 ms X L H) (hm : InL X L p [.int a0, .int a1, .int a2, .int a3, .int a4, .int a5, .int a6]) (h0 : 0 ≤ j) (h1 : j < 7) (q : ∀ n : Int, (n = a0 ∨ n = a1 ∨ n = a2 ∨ n = a3 ∨ n = a4 ∨ n = a5 ∨ n = a6) → Q (.int n) H) : rIxL K (.ref p) (.int j) H Q := by
  have hj : ∃ k : Nat, k < 7 ∧ j = (k : Int) := ⟨j.toNat, by omega, by omega⟩
  obtain ⟨k, hk, rfl⟩ := hj
  match k, hk with
  | 0, _ => exact d_ixLI (n := a0) M hm (by rfl) (q _ (by simp))
  | 1, _ => exact d_ixLI (n := a1) M hm (by rfl) (q _ (by simp))
  | 2, _ => exact d_ixLI (n := a2) M hm (by rfl) (q _ (by simp))
  | 3, _ => exact d_ixLI (n := a3) M hm (by rfl) (q _ (by simp))
  | 4, _ => exact d_ixLI (n := a4) M hm (by rfl) (q _ (by simp))
  | 5, _ => exact d_ixLI (n := a5) M hm (by rfl) (q _ (by simp))
  | 6, _ => exact d_ixLI (n := a6) M hm (by rfl) (q _ (by simp))
theorem d_ixc8 {a0 a1 a2 a3 a4 a5 a6 a7 j : Int} (M : Mm K B G0 ms X L H) (hm : InL X L p [.int a0, .int a1, .int a2, .int a3, .int a4, .int a5, .int a6, .int a7]) (h0 : 0 ≤ j) (h1 : j < 8) (q : ∀ n : Int, (n = a0 ∨ n = a1 ∨ n = a2 ∨ n = a3 ∨ n = a4 ∨ n = a5 ∨ n = a6 ∨ n = a7) → Q (.int n) H) : rIxL K (.ref p) (.int j) H Q := by
  have hj : ∃ k : Nat, k < 8 ∧ j = (k : Int) := ⟨j.toNat, by omega, by omega⟩
  obtain ⟨k, hk, rfl⟩ := hj
  match k, hk with
  | 0, _ => exact d_ixLI (n := a0) M hm (by rfl) (q _ (by simp))
  | 1, _ => exact d_ixLI (n := a1) M hm (by rfl) (q _ (by simp))
  | 2, _ => exact d_ixLI (n := a2) M hm (by rfl) (q _ (by simp))
  | 3, _ => exact d_ixLI (n := a3) M hm (by rfl) (q _ (by simp))
  | 4, _ => exact d_ixLI (n := a4) M hm (by rfl) (q _ (by simp))
  | 5, _ => exact d_ixLI (n := a5) M hm (by rfl) (q _ (by simp))
  | 6, _ => exact d_ixLI (n := a6) M hm (by rfl) (q _ (by simp))
  | 7, _ => exact d_ixLI (n := a7) M hm (by rfl) (q _ (by simp))
theorem d_ixc9 {a0 a1 a2 a3 a4 a5 a6 a7 a8 j : Int} (M : Mm K B G0 ms X L H) (hm : InL X L p [.int a0, .int a1, .int a2, .int a3, .int a4, .int a5, .int a6, .int a7, .int a8]) (h0 : 0 ≤ j) (h1 : j < 9) (q : ∀ n : Int, (n = a0 ∨ n = a1 ∨ n = a2 ∨ n = a3 ∨ n = a4 ∨ n = a5 ∨ n = a6 ∨ n = a7 ∨ n = a8) → Q (.int n) H) : rIxL K (.ref p) (.int j) H Q := by
  have hj : ∃ k : Nat, k < 9 ∧ j = (k : Int) := ⟨j.toNat, by omega, by omega⟩
  obtain ⟨k, hk, rfl⟩ := hj
  match k, hk with
  | 0, _ => exact d_ixLI (n := a0) M hm (by rfl) (q _ (by simp))
  | 1, _ => exact d_ixLI (n := a1) M hm (by rfl) (q _ (by simp))
  | 2, _ => exact d_ixLI (n := a2) M hm (by rfl) (q _ (by simp))
  | 3, _ => exact d_ixLI (n := a3) M hm (by rfl) (q _ (by simp))
  | 4, _ => exact d_ixLI (n := a4) M hm (by rfl) (q _ (by simp))
  | 5, _ => exact d_ixLI (n := a5) M hm (by rfl) (q _ (by simp))
  | 6, _ => exact d_ixLI (n := a6) M hm (by rfl) (q _ (by simp))
  | 7, _ => exact d_ixLI (n := a7) M hm (by rfl) (q _ (by simp))
  | 8, _ => exact d_ixLI (n := a8) M hm (by rfl) (q _ (by simp))
theorem Mm.noL (M : Mm K B G0 ms X L H) : Mm K B G0 ms X [] H := M.sub fun z hz => nomatch hz
theorem Mm.none (M : Mm K B G0 ms X L H) : Mm K B G0 ms [] [] H := M.noX.noL
theorem Mm.oneL {z : V × D} (M : Mm K B G0 ms X L H) (h : z ∈ L) : Mm K B G0 ms X [z] H := M.sub fun y hy => by rw [List.mem_singleton.mp hy]; exact h
theorem Mm.lastX {z0 z : Addr × D} (M : Mm K B G0 ms [z0, z] L H) : Mm K B G0 ms [z] L H := M.dropX
/-- a loop that knows nothing more from turn to turn, and what changes by the turn alone -/
theorem forS {J : It} {n : Nat} {e : Nat → D} {ok : List (Addr × D) → List (V × D) → Prop} {g : TG} {tb : TS} {nx bk ct : L2.St → Hp → Prop} {rt : VK} {σ : L2.St} (S : Src K B G0 ms J n e ok) (Xf : Nat → List (Addr × D)) (M : Mm K B G0 ms (Xf 0) L H) (σf : Nat → L2.St → Prop) (hok : ∀ i, ok (Xf i) L) (h0 : σf 0 σ)
    (hs : ∀ i x σ' H', i < n → σf i σ' → Mm K B G0 ms (Xf i) ((x, e i) :: L) H' → g x σ' H' fun σ2 H2 => tb ⟨fun σ3 H3 => σf (i + 1) σ3 ∧ Mm K B G0 ms (Xf (i + 1)) L H3, rt, nx, fun σ3 H3 => σf (i + 1) σ3 ∧ Mm K B G0 ms (Xf (i + 1)) L H3⟩ σ2 H2)
    (hd : ∀ σ' H', σf n σ' → Mm K B G0 ms (Xf n) L H' → nx σ' H') : tFor (iJ J) g tb ⟨nx, rt, bk, ct⟩ σ H := by
  refine ⟨fun i m σ' H' => m = n - i ∧ i ≤ n ∧ σf i σ' ∧ Mm K B G0 ms (Xf i) L H', ⟨n, rfl, Nat.zero_le _, h0, M⟩, ?_⟩
  rintro i m σ' H' ⟨rfl, hi, hI, M'⟩
  obtain ⟨s1, s2, s3⟩ := S _ L H' (hok i) M'
  by_cases hlt : i < n
  · exact .inr ⟨s1 i hlt, _, fun σ3 H3 hN => ⟨n - (i + 1), by omega, rfl, hlt, hN⟩, fun x H2 hy => hs i x σ' H2 hlt hI (s3 i x H2 hlt hy)⟩
  · have e : i = n := by omega
    subst e
    exact .inl ⟨s2, hd σ' H' hI M'⟩
/-- .. with what changes told by the turns' own word -/
theorem forX {J : It} {n : Nat} {e : Nat → D} {ok : List (Addr × D) → List (V × D) → Prop} {g : TG} {tb : TS} {nx bk ct : L2.St → Hp → Prop} {rt : VK} {σ : L2.St} (S : Src K B G0 ms J n e ok) (M : Mm K B G0 ms X L H) (I : Nat → L2.St → List (Addr × D) → Prop) (hok : ∀ i σ' X', I i σ' X' → ok X' L) (h0 : I 0 σ X)
    (hs : ∀ i x σ' X' H', i < n → I i σ' X' → Mm K B G0 ms X' ((x, e i) :: L) H' → g x σ' H' fun σ2 H2 => tb ⟨fun σ3 H3 => ∃ X3, I (i + 1) σ3 X3 ∧ Mm K B G0 ms X3 L H3, rt, nx, fun σ3 H3 => ∃ X3, I (i + 1) σ3 X3 ∧ Mm K B G0 ms X3 L H3⟩ σ2 H2)
    (hd : ∀ σ' X' H', I n σ' X' → Mm K B G0 ms X' L H' → nx σ' H') : tFor (iJ J) g tb ⟨nx, rt, bk, ct⟩ σ H := by
  refine ⟨fun i m σ' H' => m = n - i ∧ i ≤ n ∧ ∃ X', I i σ' X' ∧ Mm K B G0 ms X' L H', ⟨n, rfl, Nat.zero_le _, X, h0, M⟩, ?_⟩
  rintro i m σ' H' ⟨rfl, hi, X', hI, M'⟩
  obtain ⟨s1, s2, s3⟩ := S _ L H' (hok i σ' X' hI) M'
  by_cases hlt : i < n
  · exact .inr ⟨s1 i hlt, _, fun σ3 H3 hN => ⟨n - (i + 1), by omega, rfl, hlt, hN⟩, fun x H2 hy => hs i x σ' X' H2 hlt hI (s3 i x H2 hlt hy)⟩
  · have e : i = n := by omega
    subst e
    exact .inl ⟨s2, hd σ' X' H' hI M'⟩
/-- a comprehension that changes nothing else: the list that is made by the turns -/
theorem lcS {J : It} {n : Nat} {e : Nat → D} {ok : List (Addr × D) → List (V × D) → Prop} {g : TG} {tt : TT} {te : TE} {ns : List Nat} {σ : L2.St} (S : Src K B G0 ms J n e ok) (M : Mm K B G0 ms X L H) (acc : Nat → List D) (hok : ∀ i A, ok ((A, .lst (acc i)) :: X) L) (h0 : acc 0 = [])
    (hs : ∀ i x A H', i < n → Mm K B G0 ms ((A, .lst (acc i)) :: X) ((x, e i) :: L) H' → g x (wipe σ ns) H' fun σ2 H2 => wipe σ2 ns = wipe σ ns ∧ tt σ2 H2 fun b H3 =>
      if b = true then te σ2 H3 fun y H4 => ∃ us, H4 A = some (.lst us) ∧ us.length < sizeLine ∧ Mm K B G0 ms ((A, .lst (acc (i + 1))) :: X) L (upd H4 A (.lst (us ++ [y]))) else Mm K B G0 ms ((A, .lst (acc (i + 1))) :: X) L H3)
    (hd : ∀ A H', Mm K B G0 ms ((A, .lst (acc n)) :: X) L H' → Q (.ref A) H') : tLc (iJ J) g tt te ns σ H Q := by
  intro A hA
  refine ⟨fun i m H' => m = n - i ∧ i ≤ n ∧ Mm K B G0 ms ((A, .lst (acc i)) :: X) L H', ⟨n, rfl, Nat.zero_le _, by rw [h0]; exact M.newLX hA .nil⟩, ?_⟩
  rintro i m H' ⟨rfl, hi, M'⟩
  obtain ⟨s1, s2, s3⟩ := S _ L H' (hok i A) M'
  by_cases hlt : i < n
  · exact .inr ⟨s1 i hlt, _, fun H3 hN => ⟨n - (i + 1), by omega, rfl, hlt, hN⟩, fun x H2 hy => hs i x A H2 hlt (s3 i x H2 hlt hy)⟩
  · have e : i = n := by omega
    subst e
    exact .inl ⟨s2, hd A H' M'⟩
theorem lc_add {A : Addr} {y : V} {acc acc' : List D} {L4 : List (V × D)} (M4 : Mm K B G0 ms ((A, .lst acc) :: X) L4 H) (hy : H1 L4 y d) (hL : ∀ z ∈ L, z ∈ L4) (hl : acc.length ≤ 50000) (e : acc' = acc ++ [d]) :
    ∃ us, H A = some (.lst us) ∧ us.length < sizeLine ∧ Mm K B G0 ms ((A, .lst acc') :: X) L (upd H A (.lst (us ++ [y]))) := by
  obtain ⟨us, u1, u2, k⟩ := Mm.lstX (X1 := []) M4
  subst e
  refine ⟨us, u1, ?_, ?_⟩
  · rw [u2]; exact Nat.lt_of_le_of_lt hl (by decide)
  · exact (k _ _ fun G q1 q2 => q2.append (.one (hy K G q1))).sub hL
theorem take_map {α : Type} [Inhabited α] {f : α → D} {xs : List α} {i : Nat} (h : i < xs.length) : (xs.take (i + 1)).map f = (xs.take i).map f ++ [f (xs.getD i default)] := by
  rw [List.take_add_one, List.getElem?_eq_getElem h, List.getD_eq_getElem?_getD, List.getElem?_eq_getElem h, List.map_append]; rfl
theorem getD_map {α : Type} [Inhabited α] {f : α → D} {xs : List α} {i : Nat} (h : i < xs.length) : (xs.map f).getD i .non = f (xs.getD i default) := by
  rw [List.getD_eq_getElem?_getD, List.getElem?_map, List.getElem?_eq_getElem h, List.getD_eq_getElem?_getD, List.getElem?_eq_getElem h]; rfl
theorem getD_at {α : Type} [Inhabited α] {xs : List α} {i : Nat} (h : i < xs.length) : xs[i]? = some (xs.getD i default) := by
  rw [List.getD_eq_getElem?_getD, List.getElem?_eq_getElem h]; rfl
theorem atI_mapI {xs : List Int} {j : Int} (h0 : 0 ≤ j) (h1 : j < xs.length) : atI (xs.map D.int) j = some (.int (xs.getD j.toNat 0)) := atI_mapD h0 h1
theorem atI_mapL {α : Type} {f : List α → D} {xs : List (List α)} {j : Int} (h0 : 0 ≤ j) (h1 : j < xs.length) : atI (xs.map f) j = some (f (xs.getD j.toNat [])) := atI_mapD h0 h1
theorem k_yes {σ : L2.St} {QB : Bool → Hp → Prop} (h : QB true H) : tYes σ H QB := h
/-- while, at most N turns -/
def WhW (K : PySem.W.Frag) (B G0 : Hp) (ms : List Addr) (L : List (V × D)) (N : Nat) (I : LInv) (m : Nat) (σ : L2.St) (H : Hp) : Prop := ∃ n, m = N - n ∧ n ≤ N ∧ ∃ X' L', I n σ X' L' ∧ Mm K B G0 ms X' (L' ++ L) H
theorem whileD {tc : TT} {tb : TS} {nx bk ct : L2.St → Hp → Prop} {rt : VK} {σ : L2.St} {L0 : List (V × D)} (N : Nat) (M : Mm K B G0 ms X L H) (I : LInv) (h0 : I 0 σ X L0) (hl0 : ∀ z ∈ L0, H1 L z.1 z.2)
    (hs : ∀ n σ' X' L' H', n ≤ N → I n σ' X' L' → Mm K B G0 ms X' (L' ++ L) H' → tc σ' H' fun b H1 => if b = true then ∃ Nx : L2.St → Hp → Prop, (∀ σ3 H3, Nx σ3 H3 → ∃ m', m' < N - n ∧ WhW K B G0 ms L N I m' σ3 H3) ∧ tb ⟨Nx, rt, nx, Nx⟩ σ' H1 else nx σ' H1) : tWhile tc tb ⟨nx, rt, bk, ct⟩ σ H := by
  refine ⟨WhW K B G0 ms L N I, ⟨N, 0, rfl, Nat.zero_le _, X, L0, h0, M.more fun z hz => (List.mem_append.mp hz).elim (hl0 z) H1.mem⟩, ?_⟩
  rintro m σ' H' ⟨n, rfl, hn, X', L', hI, M'⟩
  exact hs n σ' X' L' H' hn hI M'
theorem wh_turn {tb : TS} {nx : L2.St → Hp → Prop} {rt : VK} {σ : L2.St} {N n : Nat} {I : LInv} (hn : n < N) (h : tb ⟨fun σ3 H3 => ∃ X3 L3, I (n + 1) σ3 X3 L3 ∧ Mm K B G0 ms X3 (L3 ++ L) H3, rt, nx, fun σ3 H3 => ∃ X3 L3, I (n + 1) σ3 X3 L3 ∧ Mm K B G0 ms X3 (L3 ++ L) H3⟩ σ H) :
    ∃ Nx : L2.St → Hp → Prop, (∀ σ3 H3, Nx σ3 H3 → ∃ m', m' < N - n ∧ WhW K B G0 ms L N I m' σ3 H3) ∧ tb ⟨Nx, rt, nx, Nx⟩ σ H := ⟨_, fun σ3 H3 ⟨X3, L3, a, b⟩ => ⟨N - (n + 1), by omega, n + 1, rfl, hn, X3, L3, a, b⟩, h⟩
section
variable {σ : L2.St} {wi1 : TI} {g g1 : TG} {tt tt1 : TT} {te tl : TE} {ns vs1 : List Nat} {tA : TA} {R : It → Hp → Prop}
theorem k_lc2R1 (h : tA σ H fun zs H1 => ∃ j : Int, zs = [.int j] ∧ -(2 ^ 62) ≤ j ∧ j < 2 ^ 62 ∧ tLc2 (iJ (Itr 0 j.toNat)) g tt wi1 g1 tt1 te ns vs1 σ H1 Q) : tLc2 (iRng1 tA) g tt wi1 g1 tt1 te ns vs1 σ H Q := h
theorem k_lc2L (h : tl σ H fun x H1 => ∃ a, x = .ref a ∧ (∃ xs, SqL K H1 a xs) ∧ tLc2 (iJ (Itl K a)) g tt wi1 g1 tt1 te ns vs1 σ H1 Q) : tLc2 (iList K tl) g tt wi1 g1 tt1 te ns vs1 σ H Q := h
theorem k_lc2T (h : tl σ H fun x H1 => ∃ a, x = .ref a ∧ (∃ xs, SqT K H1 a xs) ∧ tLc2 (iJ (Itt K a)) g tt wi1 g1 tt1 te ns vs1 σ H1 Q) : tLc2 (iTup K tl) g tt wi1 g1 tt1 te ns vs1 σ H Q := h
theorem k_iR1 (h : tA σ H fun zs H1 => ∃ j : Int, zs = [.int j] ∧ -(2 ^ 62) ≤ j ∧ j < 2 ^ 62 ∧ R (Itr 0 j.toNat) H1) : iRng1 tA σ H R := h
theorem k_iR2 (h : tA σ H fun zs H1 => ∃ i j : Int, zs = [.int i, .int j] ∧ (-(2 ^ 62) ≤ i ∧ i < 2 ^ 62 ∧ -(2 ^ 62) ≤ j ∧ j < 2 ^ 62) ∧ R (Itr i (j - i).toNat) H1) : iRng2 tA σ H R := h
theorem k_iL (h : tl σ H fun x H1 => ∃ a, x = .ref a ∧ (∃ xs, SqL K H1 a xs) ∧ R (Itl K a) H1) : iList K tl σ H R := h
theorem k_iT (h : tl σ H fun x H1 => ∃ a, x = .ref a ∧ (∃ xs, SqT K H1 a xs) ∧ R (Itt K a) H1) : iTup K tl σ H R := h
end
theorem sub_nil {α : Type} {L2 : List α} : ∀ z ∈ ([] : List α), z ∈ L2 := fun z h => nomatch h
theorem sub_cons {α : Type} {x : α} {L1 L2 : List α} (h : x ∈ L2) (t : ∀ z ∈ L1, z ∈ L2) : ∀ z ∈ x :: L1, z ∈ L2 := fun z hz => (List.mem_cons.mp hz).elim (fun e => e ▸ h) (t z)
theorem sub_app {α : Type} {L0 L1 L2 : List α} (h : ∀ z ∈ L0, z ∈ L2) (t : ∀ z ∈ L1, z ∈ L2) : ∀ z ∈ L0 ++ L1, z ∈ L2 := fun z hz => (List.mem_append.mp hz).elim (h z) (t z)
theorem sub_self {α : Type} {L2 : List α} : ∀ z ∈ L2, z ∈ L2 := fun z h => h
theorem sub_tail {α : Type} {x : α} {L1 L2 : List α} (h : ∀ z ∈ L1, z ∈ L2) : ∀ z ∈ L1, z ∈ x :: L2 := fun z hz => List.mem_cons_of_mem _ (h z hz)
theorem fd_hd {g : Str} {d : D} {r : List (Str × D)} : List.lookup g ((g, d) :: r) = some d := by simp [List.lookup]
theorem fd_tl {g h : Str} {d : D} {o : Option D} {r : List (Str × D)} (n : (g == h) = false) (e : List.lookup g r = o) : List.lookup g ((h, d) :: r) = o := by rw [List.lookup_cons, n]; exact e
theorem fd_nil {g : Str} : List.lookup g ([] : List (Str × D)) = none := rfl
theorem d_range1 {j : Int} (M : Mm K B G0 ms X L H) (q : ∀ p H', H' p = some (.rng 0 j) → Mm K B G0 ms X L H' → Q (.ref p) H') : rRange1 [.int j] H Q := ⟨j, rfl, fun p hp => q p _ upd_same (M.raw hp)⟩
theorem rng_small {j : Int} (h0 : 0 ≤ j) (h1 : j ≤ 1000) : Builtin.Range.small 0 j 1 = true := by
  have e : Builtin.Range.rangeSize 0 j 1 = j := by
    unfold Builtin.Range.rangeSize
    rw [if_pos (by decide)]
    split <;> omega
  unfold Builtin.Range.small
  rw [e]
  simp [Builtin.Range.rangeFitsLong]
  omega
theorem d_listRng {j : Int} (M : Mm K B G0 ms X L H) (h : H p = some (.rng 0 j)) (h0 : 0 ≤ j) (h1 : j ≤ 1000) (q : ∀ a H', Mm K B G0 ms ((a, .lst (((List.range j.toNat).map fun (i : Nat) => (i : Int)).map D.int)) :: X) L H' → Q (.ref a) H') : rListRng [.ref p] H Q := by
  refine ⟨p, 0, j, rfl, h, rng_small h0 h1, by omega, fun a ha => q a _ (M.newLX ha ?_)⟩
  have e : ((List.range (j - 0).toNat).map fun (i : Nat) => V.int (0 + i)) = ((List.range j.toNat).map fun (i : Nat) => (i : Int)).map V.int := by rw [List.map_map, Int.sub_zero]; simp only [Int.zero_add]; rfl
  rw [e]
  exact Hs.ints _
/-- freeze the second, the third -/
theorem Mm.freeze1 {z0 : Addr × D} (M : Mm K B G0 ms (z0 :: (p, d) :: X) L H) : Mm K B G0 ms (z0 :: X) ((.ref p, d) :: L) H := M.swapX.freeze
theorem Mm.freeze2 {z0 z1 : Addr × D} (M : Mm K B G0 ms (z0 :: z1 :: (p, d) :: X) L H) : Mm K B G0 ms (z0 :: z1 :: X) ((.ref p, d) :: L) H := (Mm.headI (X1 := [z0, z1]) M).freeze
end
end MyL

set_option Elab.async false
set_option linter.all false
set_option maxRecDepth 100000
set_option maxHeartbeats 4000000
/-! A caught error handed to a plain helper def. -/
namespace MyL
open PySem PySem.Spec PyProof.Rows L2
/-- a promise about a caught error: its place, its class, its dict -/
abbrev SpX := Addr → Value → Option Addr → Sp
structure XAt (s : Shared) (H : Hp) (outer : List Env) (a : Addr) (oe : Obj) (cls : Value) (d : Option Addr) : Prop where
  get : s.heap.get? a = some oe
  free : H a = none
  out : a ∉ frs outer
  fld : ∃ vs, oe.data = .fields vs
  zc : Zc cls d oe
def FnX (P : Program) (w : World) (K : PySem.W.Frag) (mg : Str → Option Value) (base : Heap) (k : Nat) (f : Addr) (sp : SpX) : Prop :=
  ∀ (A : Around) (outer : List Env) (s : Shared) (H : Hp) (a : Addr) (oe : Obj) (cls : Value) (d : Option Addr) (us : List Value) (vs : List V) (Q : VK), L2H.RoomH k A → Env0 P w K mg base A outer s H → XAt s H outer a oe cls d → Vals vs us → sp a cls d vs H Q (fun _ _ _ => False) →
    codeAny (model P w) A (.call (.ref f) ⟨us, []⟩) (CR (fun _ _ _ _ _ _ => False) outer P w H s Q (fun _ _ _ => False)) s
structure CalX (P : Program) (w : World) (K : PySem.W.Frag) (mg : Str → Option Value) (base : Heap) (k : Nat) (x : Str) (sp : SpX) : Prop where
  ex : ∃ f : Addr, mg x = some (.ref f) ∧ PySem.W.keepIn K (.ref f) = true ∧ FnX P w K mg base k f sp
def cxX (P : Program) (w : World) (K : PySem.W.Frag) (mg : Str → Option Value) (base : Heap) (N : List Str) (qual : Str) (scope : Scope) (f : Addr) (cd : Value) (A : Around) (outer : List Env) (s : Shared) (H : Hp) (p : Addr × Obj) : Cx :=
  { cxQ P w K mg base N qual scope f cd A outer s H with pn := [p] }
theorem inv_startX {P : Program} {w : World} {K : PySem.W.Frag} {mg : Str → Option Value} {base : Heap} {N ps : List Str} {qual : Str} {scope : Scope} {f : Addr} {cd : Value} {A : Around} {outer : List Env} {s s1 : Shared} {H : Hp} {us : List Value} {vs : List V} {a : Addr} {oe : Obj} {cls : Value} {d : Option Addr}
    (S : FnScope N ps scope) (e0 : Env0 P w K mg base A outer s H) (x0 : XAt s H outer a oe cls d) (hl : vs.length = ps.length) (r : Vals vs us)
    (x : InCallC s s.heap.objs.size (bindL (envOfC qual scope s.heap.objs.size f cd).kindOf (ps.zip us) fun _ => none) (cellsFrom (s.heap.objs.size + 1) scope.names []) (bindC (envOfC qual scope s.heap.objs.size f cd).kindOf (ps.zip us) fun _ => none) s1) :
    Inv (cxX P w K mg base N qual scope f cd A outer s H (a, oe)) [] (start N vs) H s1 := by
  have I := inv_startQ S e0 hl r x
  refine ⟨⟨I.ok.mod, I.ok.kind, I.ok.glob, I.ok.blt, I.ok.above, I.ok.inj, I.ok.has, I.ok.cab, I.ok.hd, I.ok.frames, I.ok.stk, I.ok.exf, I.ok.bs, I.ok.bsz, I.ok.noex, I.ok.exfs, I.ok.funs, I.ok.frf⟩,
    I.os, I.bare, I.base, I.loc, I.cell, I.free, I.freeC, fun p hp => ?_, I.hok, I.len⟩
  have hp : p = (a, oe) := by simpa [cxX] using hp
  subst hp
  refine ⟨x.toInCall.keep _ _ x0.get, x0.free, fun z => ?_, x0.out, fun v z => ?_⟩
  · have := Heap.lt_size x0.get
    have z : a = s.heap.objs.size := z
    rw [z] at this
    exact Nat.lt_irrefl _ this
  · obtain ⟨vs, h⟩ := x0.fld
    have z : oe.data = .cell v := z
    rw [h] at z
    cases z
section
variable {P : Program} {w : World} {K : PySem.W.Frag} {mg : Str → Option Value} {base : Heap}
theorem Fun.okX {x qual : Str} {st : Stmt} {f : Addr} {fd : FuncData} {N ps : List Str} {k : Nat} {sp : SpX} (F : L2.Fun K x qual st f fd) (S : FnScope N ps (defScope st)) (hb : Binds K fd ps []) (len : ∀ a cls d vs H Q E, sp a cls d vs H Q E → vs.length = ps.length)
    (hbody : ∀ (cdv : Value) (A : Around) (outer : List Env) (s : Shared) (H : Hp) (a : Addr) (oe : Obj) (cls : Value) (d : Option Addr) (vs : List V) (Q : VK), L2H.RoomH k (A.deeper (envOfC qual (defScope st) s.heap.objs.size f cdv)) → Zc cls d oe → (∃ vs, oe.data = .fields vs) → sp a cls d vs H Q (fun _ _ _ => False) →
      ∃ t, PSs (cxX P w K mg base N qual (defScope st) f cdv A outer s H (a, oe)) (defBody st) t ∧ t { nx := fun _ H' => Q .non H', rt := Q } (start N vs) H) : FnX P w K mg base (k + 1) f sp := by
  obtain ⟨oc, od, kV, doc, pm, an, cdv, ct, osl, rfl, lk, hcd⟩ := F.ex
  intro A outer s H a oe cls d us vs Q hr e0 x0 r hsp
  have hl := len _ _ _ _ _ _ _ hsp
  have KX : K.In s.heap := e0.mod.kin.keeps fun b o e => (e0.bs b o e).1
  have lim : s.heap.NoLimit := e0.mod.nolimit.keeps fun b o e => (e0.bs b o e).1
  have hb' := hb s us KX (by rw [List.append_nil, ← r.length]; exact hl)
  rw [List.append_nil] at hb'
  refine codeAny_call_function hr.depth (KX _ _ lk) rfl S.co S.gen rfl (PySem.W.codeRec_of KX hcd) (hb' _ _ _ _ ?_)
  refine wpAny_newFunctionEnv_cells S.kind (fun y hy => ?_) fun env he s1 x => ?_
  · rcases S.par y.1 (List.of_mem_zip (show (y.1, y.2) ∈ _ from hy)).1 with q | q
    · exact .inl q
    · exact .inr ⟨q, PySem.W.cellsFrom_some _ _ _ (.inl q)⟩
  subst he
  refine ⟨lim.keeps x.toInCall.keep, codeAny_func ?_⟩
  obtain ⟨t, ht, hq⟩ := hbody cdv A outer s H a oe cls d vs Q (hr.deeper _) x0.zc x0.fld hsp
  have I : Inv (cxX P w K mg base N qual (defScope st) f cdv A outer s H (a, oe)) [] (start N vs) H s1 := inv_startX S e0 x0 hl r x
  refine wpAny_mono (ht.run [] s1 (start N vs) H _ I hq) (fun fl s' hs => ?_) fun e s' hs => (show False from hs).elim
  match fl, hs with
  | .ret u, hs =>
    obtain ⟨v, σ', H', J, rv, q⟩ := hs
    exact ⟨v, H', J.os, J.bare, J.base, J.hok, rv, q⟩
  | .next, hs =>
    obtain ⟨σ', H', J, q⟩ := hs
    exact ⟨.non, H', J.os, J.bare, J.base, J.hok, rfl, q⟩
  | .brk, hs =>
    obtain ⟨_, _, _, q⟩ := hs
    exact q.elim
  | .cont, hs =>
    obtain ⟨_, _, _, q⟩ := hs
    exact q.elim
end
section
variable {X : Cx} {k j : Nat} {sp : SpX} {x : Str} {p pos : Pos} {e : Expr} {es : List Expr} {t : TA} {a : Addr} {oe : Obj} {cls : Value} {d : Option Addr} {pn : List (Addr × Obj)}
/-- a helper def asked about the caught error, within the suite -/
theorem q_callX (hz : Zc cls d oe) (hf : ∃ vs, oe.data = .fields vs) (c : CalX X.prog X.w X.K X.mg X.base k x sp) (hr : L2H.RoomH j (X.suite a ((a, oe) :: pn)).A) (hk : k ≤ j) (ha : PA (X.suite a ((a, oe) :: pn)) (e :: es) t) (hg : Gl X x := by rfl)
    (hdb : (x == ("__debug__" : Str)) = false := by decide) (he : starEach (e :: es) X.env = (false, eval e X.env) :: starEach es X.env := by rfl) (hpl : (backTo pos (starEach es X.env)).any (·.1) = false := by rfl) :
    PE (X.suite a ((a, oe) :: pn)) (.Call (.Name x p) (e :: es) [] pos) (tCallS (sp a cls d) (fun _ _ _ _ => False) t) := by
  obtain ⟨f, hm, kp, F⟩ := c.ex
  refine ⟨fun pins s σ H Q I h => ?_⟩
  refine wpAny_Call_Name_kw (ld_glob I hg hm ?_ hdb)
  refine PySem.W.callWith_K (h₀ := X.base) I.ok.mod.kin kp (thn (ha.run pos pins s σ H _ I h) fun us s1 hh => ?_) he hpl
  obtain ⟨vs, H1, I1, r, q⟩ := hh
  obtain ⟨p1, p2, p3, p4, p5⟩ := I1.pin (a, oe) (List.mem_append_left _ List.mem_cons_self)
  have x0 : XAt s1 H1 X.stack a oe cls d := ⟨p1, p2, fun z => by
    rcases List.mem_cons.mp (I1.stkSub a z) with e | e
    · exact p3 e
    · exact p4 e, hf, hz⟩
  refine ⟨I1.kIn, wpAny_call (codeAny_mono (F _ X.stack s1 H1 a oe cls d us vs Q (hr.mono hk) I1.env0 x0 r q) fun r s' hq => ?_)⟩
  match r, hq with
  | .error e, hq => exact (show False from hq).elim
  | .ok (.ret u), hq => exact I1.after hq
  | .ok .next, hq => exact hq.elim
  | .ok .brk, hq => exact hq.elim
  | .ok .cont, hq => exact hq.elim
end
section
variable {X : Cx} {a D : Addr} {oe : Obj} {cls : Value} {d : Option Addr} {pn pins : List (Addr × Obj)} {σ : L2.St} {H : Hp} {s : Shared}
theorem exc_instP (hp : (a, oe) ∈ X.pn) (hz : Zc (.ref D) d oe) (hf : ∃ vs, oe.data = .fields vs) (hd : DOk H d) (I : Inv X pins σ H s) : ∃ od, PySem.W.InstAt s.heap a oe D od := by
  obtain ⟨hget, _⟩ := I.pin (a, oe) (List.mem_append_left _ hp)
  obtain ⟨vs, hv⟩ := hf
  have hnc : PySem.W.notCls oe = true := by
    unfold PySem.W.notCls
    rw [hv]
  cases d with
  | none =>
    refine ⟨none, hget, hz.1, hnc, ?_⟩
    rw [hz.2]
    trivial
  | some dd =>
    obtain ⟨fs, hx⟩ := hd
    have hx : ObjOk X.prog X.w H s.heap dd (.xd fs) := I.hok dd _ hx
    obtain ⟨mA, hns, _⟩ := hx
    obtain ⟨od, ho, _⟩ := lookIn_ns hns
    refine ⟨some od, hget, hz.1, hnc, ?_⟩
    rw [hz.2]
    exact ho
/-- isinstance of the handed error, in the helper def -/
theorem call_isXh {P : Program} {w : World} {K : PySem.W.Frag} {mg : Str → Option Value} {base : Heap} {N : List Str} {qual : Str} {scope : Scope} {f : Addr} {cd : Value} {A : Around} {outer : List Env} {s : Shared} {H : Hp} (hz : Zc cls d oe) (hf : ∃ vs, oe.data = .fields vs) :
    CallR (cxX P w K mg base N qual scope f cd A outer s H (a, oe)) (.builtin "isinstance") (rIsX K cls d a) := by
  intro pins s σ H xs us Q I r h
  obtain ⟨D, c, cv, b, rfl, C, hd, rfl, hc, e, q⟩ := h
  obtain ⟨od, J⟩ := exc_instP (List.mem_singleton.mpr rfl) hz hf hd I
  match us, r with
  | [u1, u2], .cons r1 (.cons r2 .nil) =>
    obtain rfl : u1 = Value.ref a := r1
    have e2 := hc.eq r2
    subst e2
    exact PySem.W.kia_one (PySem.W.kitx_exc C.cl C.ga C.gg C.sb C.ca C.cn C.ct C.cm) I.kIn J e (fun z => nomatch z) fun tk => ⟨.bl b, H, I.tok tk, rfl, q⟩
end
section
variable {P : Program} {w : World} {K : PySem.W.Frag} {mg : Str → Option Value} {base : Heap}
theorem calX_of {x qual : Str} {st : Stmt} {ps : List Str} {k : Nat} {sp : SpX} (D : DefAt K mg x qual st) (hb : BindsSt x qual st ps) (ok : ∀ {f : Addr} {fd : FuncData}, Fun K x qual st f fd → Binds K fd ps [] → FnX P w K mg base k f sp) : CalX P w K mg base k x sp := by
  obtain ⟨f, fd, a, F⟩ := D
  exact ⟨f, a, F.kp, ok F (F.binds hb)⟩
end
end MyL

set_option Elab.async false
set_option linter.all false
set_option maxRecDepth 100000
set_option maxHeartbeats 4000000
/-! A def of one's own called by keywords alone. -/
namespace MyL
open PySem PySem.Spec PyProof.Rows L2
/-- the items at these places -/
def pickL {α : Type} (js : List Nat) (l : List α) : List α := js.filterMap fun j => l[j]?
theorem vals_at {zs : List V} {ws : List Value} (r : Vals zs ws) : ∀ j : Nat, (zs[j]? = none ∧ ws[j]? = none) ∨ ∃ z w, zs[j]? = some z ∧ ws[j]? = some w ∧ RelV z w := by
  induction r with
  | nil => exact fun j => .inl ⟨rfl, rfl⟩
  | cons h t ih =>
    intro j
    cases j with
    | zero => exact .inr ⟨_, _, rfl, rfl, h⟩
    | succ j => exact ih j
theorem vals_pick {zs : List V} {ws : List Value} (r : Vals zs ws) : ∀ js : List Nat, Vals (pickL js zs) (pickL js ws)
  | [] => .nil
  | j :: js => by
    unfold pickL
    rw [List.filterMap_cons, List.filterMap_cons]
    rcases vals_at r j with ⟨h1, h2⟩ | ⟨z, w, h1, h2, h3⟩
    · rw [h1, h2]; exact vals_pick r js
    · rw [h1, h2]; exact .cons h3 (vals_pick r js)
structure CalK (P : Program) (w : World) (K : PySem.W.Frag) (mg : Str → Option Value) (base : Heap) (k : Nat) (x : Str) (ks : List Str) (js : List Nat) (sp : Sp) : Prop where
  ex : ∃ (f : Addr) (fd : FuncData) (ps : List Str), mg x = some (.ref f) ∧ PySem.W.keepIn K (.ref f) = true ∧ (∀ (s : Shared) (ws : List Value), K.In s.heap → ws.length = ks.length → BindsTo s fd ⟨[], ks.zip ws⟩ (ps.zip (pickL js ws))) ∧ FnOk P w K mg base (L2.CX P w) k f fd ps sp
def tCallKw (sp : Sp) (js : List Nat) (n : Nat) (W : WX) (tk : TA) : TE := fun σ H Q => tk σ H fun zs H1 => zs.length = n ∧ sp (pickL js zs) H1 Q (WE W σ)
section
variable {X : Cx} {W : WX} {k j : Nat} {sp : Sp} {x : Str} {p pos : Pos} {kws : List Keyword} {ks : List Str} {t : TA} {js : List Nat}
theorem c_callKw (c : CalK X.prog X.w X.K X.mg X.base k x ks js sp) (tk : Takes X W) (hr : Room j X.A) (hk : k ≤ j) (hkw : PK X kws t) (hg : Gl X x := by rfl) (hall : (backToKw pos (keywordEach kws X.env)).all (·.1.isSome) = true := by rfl)
    (hks : (backToKw pos (keywordEach kws X.env)).filterMap (·.1) = ks := by rfl) (hdb : (x == ("__debug__" : Str)) = false := by decide)
    (hpl : ((backTo pos (starEach [] X.env)).any (·.1) || (backToKw pos (keywordEach kws X.env)).any (·.1.isNone)) = false := by rfl) :
    PE X (.Call (.Name x p) [] kws pos) (tCallKw sp js ks.length W t) := by
  obtain ⟨f, fd, ps, hm, kp, hb, F⟩ := c.ex
  refine ⟨fun pins s σ H Q I h => ?_⟩
  refine wpAny_Call_Name_kw (ld_glob I hg hm ?_ hdb)
  refine PySem.W.callWith_KW0 (first := []) (h₀ := X.base) I.ok.mod.kin kp hall (thn (hkw.run pos pins s σ H _ I h) fun ws s1 hh => ?_) hpl
  obtain ⟨zs, H1, I1, rz, hl, q⟩ := hh
  refine ⟨I1.kIn, ?_⟩
  rw [hks]
  have hwl : ws.length = ks.length := by rw [← rz.length]; exact hl
  show wpAny _ _ (call (.ref f) [] (ks.zip ws)) _ _ _
  have h9 := F.run X.A X.stack s1 H1 ⟨[], ks.zip ws⟩ (pickL js ws) (pickL js zs) Q (WE W σ) (hr.mono hk) I1.env0 (hb s1 ws I1.kIn hwl) (vals_pick rz js) q
  refine wpAny_call (codeAny_mono h9 fun r s' hq => ?_)
  match r, hq with
  | .error e, hq => exact passAt tk σ pins _ _ e s' I1 hq
  | .ok (.ret u), hq => exact I1.after hq
  | .ok .next, hq => exact hq.elim
  | .ok .brk, hq => exact hq.elim
  | .ok .cont, hq => exact hq.elim
theorem k_callKw {σ : L2.St} {H : Hp} {Q : VK} {n : Nat} (h : t σ H fun zs H1 => zs.length = n ∧ sp (pickL js zs) H1 Q (WE W σ)) : tCallKw sp js n W t σ H Q := h
theorem k_pick {H : Hp} {Q : VK} {E : XK} {n : Nat} {zs ys : List V} (h1 : zs.length = n) (h2 : pickL js zs = ys) (q : sp ys H Q E) : zs.length = n ∧ sp (pickL js zs) H Q E := ⟨h1, by rw [h2]; exact q⟩
end
def KwDef (x qual : Str) (st : Stmt) (ps ks : List Str) (js : List Nat) : Prop := ∀ (kV doc pm' : Value) (an : Option Addr) (cdv ct : Value) (ws : List Value), ws.length = ks.length → bindArgs (PySem.W.fnOf x qual (defArgs st) (defBody st) (defScope st) .none kV doc pm' an cdv ct) ⟨[], ks.zip ws⟩ = pure (ps.zip (pickL js ws))
theorem calK_of {P : Program} {w : World} {K : PySem.W.Frag} {mg : Str → Option Value} {base : Heap} {x qual : Str} {st : Stmt} {ps ks : List Str} {js : List Nat} {k : Nat} {sp : Sp} (D : DefAt K mg x qual st) (hb : KwDef x qual st ps ks js) (ok : ∀ {f : Addr} {fd : FuncData}, Fun K x qual st f fd → FnOk P w K mg base (L2.CX P w) k f fd ps sp) : CalK P w K mg base k x ks js sp := by
  obtain ⟨f, fd, a, F⟩ := D
  obtain ⟨oc, od, kV, doc, pm', an, cdv, ct, osl, rfl, lk, hcd⟩ := id F.ex
  exact ⟨f, _, ps, a, F.kp, fun s ws _ hl => .of_eq (hb kV doc pm' an cdv ct ws hl), ok F⟩
end MyL

set_option Elab.async false
set_option linter.all false
set_option maxRecDepth 100000
set_option maxHeartbeats 4000000
/-! Dicts whose keys are pairs of whole numbers, all with the value True. -/
namespace MyL
open PySem PySem.Spec PyProof.Rows L2 LiI
theorem k_iteT0 {b : Bool} {A Z : Prop} (e : b = true) (h : A) : if b = true then A else Z := by rw [if_pos e]; exact h
theorem k_iteF0 {b : Bool} {A Z : Prop} (e : b = false) (h : Z) : if b = true then A else Z := by rw [if_neg (by rw [e]; decide)]; exact h
theorem k_isiS {K : PySem.W.Frag} {H : Hp} {Q : VK} {z : Str} {c : String} {b : Bool} (e : PySem.W.kitOne K (.type "str") (.type c) = some b) (q : Q (.bl b) H) : rIsi K [.str z, .ty c] H Q := ⟨_, _, _, _, b, rfl, .ty c, .base (.str z), e, q⟩
/-- where the ways come together again: what is known there -/
theorem join {A : TS} {nx bk ct : L2.St → Hp → Prop} {rt : VK} {σ : L2.St} {H : Hp} (P : L2.St → Hp → Prop) (h1 : ∀ nx', (∀ σ' H', P σ' H' → nx' σ' H') → A ⟨nx', rt, bk, ct⟩ σ H) (h2 : ∀ σ' H', P σ' H' → nx σ' H') : A ⟨nx, rt, bk, ct⟩ σ H := h1 nx h2
abbrev keyP (k : Int × Int) : List Key := [Sum.inl k.1, Sum.inl k.2]
/-- the pairs that are keys -/
abbrev setD (ks : List (Int × Int)) : D := .dT (ks.map fun k => (keyP k, D.bl true))
section
variable {K : PySem.W.Frag} {B G0 G H H' : Hp} {ms : List Addr} {X X1 X2 : List (Addr × D)} {L : List (V × D)} {p a : Addr} {v w : V} {ks : List (Int × Int)} {x y : Int} {Q : VK} {σ : L2.St}
theorem keyP_inj {k l : Int × Int} (h : keyP k = keyP l) : k = l := by
  obtain ⟨a, b⟩ := k; obtain ⟨c, d⟩ := l
  simp only [List.cons.injEq, Sum.inl.injEq, and_true] at h
  rw [h.1, h.2]
theorem valP {k : Int × Int} : (valD (ks.map fun k => (keyP k, D.bl true)) (keyP k)).isSome = decide (k ∈ ks) := by
  unfold valD
  rw [Option.isSome_map, Bool.eq_iff_iff, List.find?_isSome, decide_eq_true_eq]
  constructor
  · rintro ⟨z, hz, e⟩
    obtain ⟨l, hl, rfl⟩ := List.mem_map.mp hz
    rw [← keyP_inj (of_decide_eq_true e)]; exact hl
  · intro h
    exact ⟨_, List.mem_map.mpr ⟨k, h, rfl⟩, decide_eq_true rfl⟩
theorem valVP {k : Int × Int} {fs : List (List Key × V)} (e : fs.map (·.1) = (ks.map fun k => (keyP k, D.bl true)).map (·.1)) : (valV fs (keyP k)).isSome = decide (k ∈ ks) := by
  have h : ∀ (fs : List (List Key × V)), (valV fs (keyP k)).isSome = true ↔ keyP k ∈ fs.map (fun f : List Key × V => f.1) := by
    intro fs
    induction fs with
    | nil => exact ⟨fun z => (nomatch z), fun z => (nomatch z)⟩
    | cons f fs ih =>
      by_cases hk : f.1 = keyP k
      · rw [valV_pos hk]
        exact ⟨fun _ => by rw [List.map_cons, hk]; exact List.mem_cons_self, fun _ => rfl⟩
      · rw [valV_neg hk, ih, List.map_cons, List.mem_cons]
        exact ⟨Or.inr, fun z => z.elim (fun e => absurd e.symm hk) id⟩
  rw [Bool.eq_iff_iff, h, e, List.map_map]
  simp only [decide_eq_true_eq, List.mem_map]
  constructor
  · rintro ⟨l, hl, e2⟩
    rw [← keyP_inj e2]; exact hl
  · intro hk
    exact ⟨k, hk, rfl⟩
abbrev InT (X : List (Addr × D)) (L : List (V × D)) (p : Addr) (ks : List (Int × Int)) : Prop := (V.ref p, setD ks) ∈ L ∨ (p, setD ks) ∈ X
theorem Mm.rdSet (M : Mm K B G0 ms X L H) (hm : InT X L p ks) : ∃ fs, H p = some (.dT fs) ∧ fs.map (·.1) = (ks.map fun k => (keyP k, D.bl true)).map (·.1) := by
  obtain ⟨G, W⟩ := M
  rcases hm with h | h
  · have h1 := W.ok _ h
    cases h1 with
    | dT a e b => exact ⟨_, W.s1 _ _ a, e⟩
  · obtain ⟨fs, h1, h2, h3⟩ := W.chg _ h
    exact ⟨fs, h1, h2⟩
theorem Mm.pairAt (M : Mm K B G0 ms X L H) (hm : (V.ref a, D.tup [.int x, .int y]) ∈ L) : H a = some (.tup ((keyP (x, y)).map kV)) := by
  obtain ⟨G, W⟩ := M
  have h := W.ok _ hm
  cases h with
  | tup e b =>
    rcases b with _ | ⟨b1, b⟩
    rcases b with _ | ⟨b2, b⟩
    cases b
    obtain rfl := b1.isI
    obtain rfl := b2.isI
    exact W.s1 _ _ e
theorem d_tnew (M : Mm K B G0 ms X L H) (q : ∀ p H', Mm K B G0 ms ((p, setD []) :: X) L H' → Q (.ref p) H') : tDNewT σ H Q := fun p hp => q p _ (M.newX hp fun G _ => ⟨[], upd_same, rfl, .nil⟩)
theorem d_tin {PB : Bool → Prop} (M : Mm K B G0 ms X L H) (hm : InT X L p ks) (hk : (V.ref a, D.tup [.int x, .int y]) ∈ L) (q : Q (.bl (decide ((x, y) ∈ ks))) H) : ∃ a' o, V.ref p = .ref a' ∧ DGet H a' (.ref a) o ∧ Q (.bl o.isSome) H := by
  obtain ⟨fs, h1, h2⟩ := M.rdSet hm
  refine ⟨p, _, rfl, DGet.t h1 (M.pairAt hk), ?_⟩
  rw [valVP h2]; exact q
theorem d_tnotin (M : Mm K B G0 ms X L H) (hm : InT X L p ks) (hk : (V.ref a, D.tup [.int x, .int y]) ∈ L) {PB : Bool → Prop} (q : PB (!decide ((x, y) ∈ ks))) : ∃ a' o, V.ref p = .ref a' ∧ DGet H a' (.ref a) o ∧ ∃ k, (V.bl (!o.isSome)) = .bl k ∧ PB k := by
  obtain ⟨fs, h1, h2⟩ := M.rdSet hm
  refine ⟨p, _, rfl, DGet.t h1 (M.pairAt hk), _, rfl, ?_⟩
  rw [valVP h2]; exact q
theorem Mm.dTX {gs : List (List Key × D)} (M : Mm K B G0 ms (X1 ++ (p, .dT gs) :: X2) L H) : ∃ fs, H p = some (.dT fs) ∧ fs.length = gs.length ∧ ∀ k v d, H1 L v d → Mm K B G0 ms (X1 ++ (p, .dT (putKD gs k d)) :: X2) L (upd H p (.dT (putK fs k v))) := by
  obtain ⟨G, W⟩ := M
  obtain ⟨fs, h1, h2, h3⟩ := W.chg (p, .dT gs) (by simp)
  refine ⟨fs, h1, by simpa using congrArg List.length h2, fun k v d hv => ⟨G, W.set ?_⟩⟩
  obtain ⟨a1, a2⟩ := put_putK h2 h3 k (hv K G W.ok)
  exact ⟨_, upd_same, a1, a2⟩
theorem d_tput {PQ : Hp → Prop} (M : Mm K B G0 ms ((p, setD ks) :: X) L H) (hk : (V.ref a, D.tup [.int x, .int y]) ∈ L) (hn : (x, y) ∉ ks) (hl : ks.length ≤ 50000) (q : ∀ H', Mm K B G0 ms ((p, setD (ks ++ [(x, y)])) :: X) L H' → PQ H') : ∃ a' H4, V.ref p = .ref a' ∧ DPut H a' (.ref a) (.bl true) H4 ∧ PQ H4 := by
  obtain ⟨fs, h1, h2, h3⟩ := Mm.dTX (X1 := []) M
  refine ⟨p, _, rfl, DPut.t h1 (M.pairAt hk) (Nat.lt_of_le_of_lt (m := 50000) (by rw [h2, List.length_map]; exact hl) (by decide)), q _ ?_⟩
  have h4 := h3 (keyP (x, y)) (.bl true) (.bl true) H1.bl
  unfold putKD at h4
  rw [if_neg] at h4
  · unfold setD
    rw [List.map_append]
    exact h4
  · intro z
    obtain ⟨l, hl, e⟩ := List.any_eq_true.mp z
    obtain ⟨m, hm, rfl⟩ := List.mem_map.mp hl
    exact hn (by rw [← keyP_inj (of_decide_eq_true e)]; exact hm)
end
end MyL

set_option Elab.async false
set_option linter.all false
set_option maxRecDepth 100000
set_option maxHeartbeats 8000000
namespace K20
open PySem L2 MyL
def top (i : Nat) : Stmt := PySem.Challenge.pw_fittingpasts_k20_stays_asked.main.body.getD i (.Pass ⟨0, 0, 0, 0⟩)
abbrev s_Stay_init : Stmt := inClass (top 7) 0
abbrev N_Stay_init : List Str := ["self", "come", "go"]
theorem sc_Stay_init : FnScope N_Stay_init ["self", "come", "go"] (defScope s_Stay_init) := ⟨rfl, rfl, rfl, by decide +kernel, rfl, by decide +kernel, by decide +kernel⟩
theorem st_Stay_init (a0 a1 a2 : V) : start N_Stay_init [a0, a1, a2] = [some a0, some a1, some a2] := rfl
abbrev s_Stay_contains : Stmt := inClass (top 7) 4
abbrev N_Stay_contains : List Str := ["self", "day"]
theorem sc_Stay_contains : FnScope N_Stay_contains ["self", "day"] (defScope s_Stay_contains) := ⟨rfl, rfl, rfl, by decide +kernel, rfl, by decide +kernel, by decide +kernel⟩
theorem st_Stay_contains (a0 a1 : V) : start N_Stay_contains [a0, a1] = [some a0, some a1] := rfl
abbrev s_Stay_meets : Stmt := inClass (top 7) 10
abbrev N_Stay_meets : List Str := ["self", "other"]
theorem sc_Stay_meets : FnScope N_Stay_meets ["self", "other"] (defScope s_Stay_meets) := ⟨rfl, rfl, rfl, by decide +kernel, rfl, by decide +kernel, by decide +kernel⟩
theorem st_Stay_meets (a0 a1 : V) : start N_Stay_meets [a0, a1] = [some a0, some a1] := rfl
abbrev s_check_notes : Stmt := top 9
abbrev N_check_notes : List Str := ["notes", "last", "note"]
theorem sc_check_notes : FnScope N_check_notes ["notes", "last"] (defScope s_check_notes) := ⟨rfl, rfl, rfl, by decide +kernel, rfl, by decide +kernel, by decide +kernel⟩
theorem st_check_notes (a0 a1 : V) : start N_check_notes [a0, a1] = [some a0, some a1, none] := rfl
abbrev s_seen_ends : Stmt := top 10
abbrev N_seen_ends : List Str := ["notes", "days", "day", "seen"]
theorem sc_seen_ends : FnScope N_seen_ends ["notes"] (defScope s_seen_ends) := ⟨rfl, rfl, rfl, by decide +kernel, rfl, by decide +kernel, by decide +kernel⟩
theorem st_seen_ends (a0 : V) : start N_seen_ends [a0] = [some a0, none, none, none] := rfl
abbrev s_free_runs : Stmt := top 11
abbrev N_free_runs : List Str := ["notes", "last", "denied", "day", "seen", "runs", "low"]
theorem sc_free_runs : FnScope N_free_runs ["notes", "last"] (defScope s_free_runs) := ⟨rfl, rfl, rfl, by decide +kernel, rfl, by decide +kernel, by decide +kernel⟩
theorem st_free_runs (a0 a1 : V) : start N_free_runs [a0, a1] = [some a0, some a1, none, none, none, none, none] := rfl
abbrev s_fitting_runs : Stmt := top 12
abbrev N_fitting_runs : List Str := ["notes", "last", "runs", "ends", "first", "final", "low", "high"]
theorem sc_fitting_runs : FnScope N_fitting_runs ["notes", "last"] (defScope s_fitting_runs) := ⟨rfl, rfl, rfl, by decide +kernel, rfl, by decide +kernel, by decide +kernel⟩
theorem st_fitting_runs (a0 a1 : V) : start N_fitting_runs [a0, a1] = [some a0, some a1, none, none, none, none, none, none] := rfl
abbrev s_least_stays : Stmt := top 13
abbrev N_least_stays : List Str := ["notes", "last", "runs", "ends", "first", "final", "low", "high", "day"]
theorem sc_least_stays : FnScope N_least_stays ["notes", "last"] (defScope s_least_stays) := ⟨rfl, rfl, rfl, by decide +kernel, rfl, by decide +kernel, by decide +kernel⟩
theorem st_least_stays (a0 a1 : V) : start N_least_stays [a0, a1] = [some a0, some a1, none, none, none, none, none, none, none] := rfl
abbrev s_greatest_stays : Stmt := top 14
abbrev N_greatest_stays : List Str := ["notes", "last", "low", "high"]
theorem sc_greatest_stays : FnScope N_greatest_stays ["notes", "last"] (defScope s_greatest_stays) := ⟨rfl, rfl, rfl, by decide +kernel, rfl, by decide +kernel, by decide +kernel⟩
theorem st_greatest_stays (a0 a1 : V) : start N_greatest_stays [a0, a1] = [some a0, some a1, none, none] := rfl
abbrev s_surely_on : Stmt := top 15
abbrev N_surely_on : List Str := ["notes", "last", "day", "least", "stay"]
theorem sc_surely_on : FnScope N_surely_on ["notes", "last", "day"] (defScope s_surely_on) := ⟨rfl, rfl, rfl, by decide +kernel, rfl, by decide +kernel, by decide +kernel⟩
theorem st_surely_on (a0 a1 a2 : V) : start N_surely_on [a0, a1, a2] = [some a0, some a1, some a2, none, none] := rfl
abbrev s_first_pair : Stmt := top 16
abbrev N_first_pair : List Str := ["stays", "others", "common", "stay", "other"]
theorem sc_first_pair : FnScope N_first_pair ["stays", "others", "common"] (defScope s_first_pair) := ⟨rfl, rfl, rfl, by decide +kernel, rfl, by decide +kernel, by decide +kernel⟩
theorem st_first_pair (a0 a1 a2 : V) : start N_first_pair [a0, a1, a2] = [some a0, some a1, some a2, none, none] := rfl
abbrev s_meeting_pairs : Stmt := top 17
abbrev N_meeting_pairs : List Str := ["notes", "other", "last", "apart", "common"]
theorem sc_meeting_pairs : FnScope N_meeting_pairs ["notes", "other", "last"] (defScope s_meeting_pairs) := ⟨rfl, rfl, rfl, by decide +kernel, rfl, by decide +kernel, by decide +kernel⟩
theorem st_meeting_pairs (a0 a1 a2 : V) : start N_meeting_pairs [a0, a1, a2] = [some a0, some a1, some a2, none, none] := rfl
abbrev s__law_draws : Stmt := top 19
abbrev N__law_draws : List Str := ["_law_script", "_law_cells", "_law_state", "_law_cell"]
theorem sc__law_draws : FnScope N__law_draws ["_law_script"] (defScope s__law_draws) := ⟨rfl, rfl, rfl, by decide +kernel, rfl, by decide +kernel, by decide +kernel⟩
theorem st__law_draws (a0 : V) : start N__law_draws [a0] = [some a0, none, none, none] := rfl
abbrev s__law_take : Stmt := top 20
abbrev N__law_take : List Str := ["_law_box", "_law_limit", "_law_cell", "_law_digit", "_law_twice"]
theorem sc__law_take : FnScope N__law_take ["_law_box", "_law_limit"] (defScope s__law_take) := ⟨rfl, rfl, rfl, by decide +kernel, rfl, by decide +kernel, by decide +kernel⟩
theorem st__law_take (a0 a1 : V) : start N__law_take [a0, a1] = [some a0, some a1, none, none, none] := rfl
abbrev s__law_number : Stmt := top 21
abbrev N__law_number : List Str := ["_law_actual", "_law_due"]
theorem sc__law_number : FnScope N__law_number ["_law_actual", "_law_due"] (defScope s__law_number) := ⟨rfl, rfl, rfl, by decide +kernel, rfl, by decide +kernel, by decide +kernel⟩
theorem st__law_number (a0 a1 : V) : start N__law_number [a0, a1] = [some a0, some a1] := rfl
abbrev s__law_is : Stmt := top 22
abbrev N__law_is : List Str := ["_law_stay", "_law_days"]
theorem sc__law_is : FnScope N__law_is ["_law_stay", "_law_days"] (defScope s__law_is) := ⟨rfl, rfl, rfl, by decide +kernel, rfl, by decide +kernel, by decide +kernel⟩
theorem st__law_is (a0 a1 : V) : start N__law_is [a0, a1] = [some a0, some a1] := rfl
abbrev s__law_true_notes : Stmt := top 23
abbrev N__law_true_notes : List Str := ["_law_box", "_law_last", "_law_low", "_law_high", "_law_most", "_law_notes_here", "_law_k", "_law_day"]
theorem sc__law_true_notes : FnScope N__law_true_notes ["_law_box", "_law_last", "_law_low", "_law_high", "_law_most"] (defScope s__law_true_notes) := ⟨rfl, rfl, rfl, by decide +kernel, rfl, by decide +kernel, by decide +kernel⟩
theorem st__law_true_notes (a0 a1 a2 a3 a4 : V) : start N__law_true_notes [a0, a1, a2, a3, a4] = [some a0, some a1, some a2, some a3, some a4, none, none, none] := rfl
abbrev s__law_empty_days : Stmt := top 24
abbrev N__law_empty_days : List Str := ["_law_box", "_law_last", "_law_notes_here", "_law_left_out", "_law_day"]
theorem sc__law_empty_days : FnScope N__law_empty_days ["_law_box", "_law_last"] (defScope s__law_empty_days) := ⟨rfl, rfl, rfl, by decide +kernel, rfl, by decide +kernel, by decide +kernel⟩
theorem st__law_empty_days (a0 a1 : V) : start N__law_empty_days [a0, a1] = [some a0, some a1, none, none, none] := rfl
abbrev s__law_notes : Stmt := top 25
abbrev N__law_notes : List Str := ["_law_box", "_law_last", "_law_low", "_law_high", "_law_way", "_law_notes_here", "_law_at", "_law_note"]
theorem sc__law_notes : FnScope N__law_notes ["_law_box", "_law_last", "_law_low", "_law_high"] (defScope s__law_notes) := ⟨rfl, rfl, rfl, by decide +kernel, rfl, by decide +kernel, by decide +kernel⟩
theorem st__law_notes (a0 a1 a2 a3 : V) : start N__law_notes [a0, a1, a2, a3] = [some a0, some a1, some a2, some a3, none, none, none, none] := rfl
abbrev s__law_fences : Stmt := top 26
abbrev N__law_fences : List Str := ["_law_box", "_law_last", "_law_low", "_law_high", "_law_rest", "_law_room", "_law_notes_here", "_law_day"]
theorem sc__law_fences : FnScope N__law_fences ["_law_box", "_law_last", "_law_low", "_law_high"] (defScope s__law_fences) := ⟨rfl, rfl, rfl, by decide +kernel, rfl, by decide +kernel, by decide +kernel⟩
theorem st__law_fences (a0 a1 a2 a3 : V) : start N__law_fences [a0, a1, a2, a3] = [some a0, some a1, some a2, some a3, none, none, none, none] := rfl
abbrev s__law_fitting : Stmt := top 27
abbrev N__law_fitting : List Str := ["_law_notes_here", "_law_last", "_law_shut", "_law_seen", "_law_low", "_law_high", "_law_rows", "_law_come", "_law_go", "_law_note"]
theorem sc__law_fitting : FnScope N__law_fitting ["_law_notes_here", "_law_last"] (defScope s__law_fitting) := ⟨rfl, rfl, rfl, by decide +kernel, rfl, by decide +kernel, by decide +kernel⟩
theorem st__law_fitting (a0 a1 : V) : start N__law_fitting [a0, a1] = [some a0, some a1, none, none, none, none, none, none, none, none] := rfl
abbrev s__law_least : Stmt := top 28
abbrev N__law_least : List Str := ["_law_rows", "_law_known", "_law_row"]
theorem sc__law_least : FnScope N__law_least ["_law_rows"] (defScope s__law_least) := ⟨rfl, rfl, rfl, by decide +kernel, rfl, by decide +kernel, by decide +kernel⟩
theorem st__law_least (a0 : V) : start N__law_least [a0] = [some a0, none, none] := rfl
abbrev s__law_greatest : Stmt := top 29
abbrev N__law_greatest : List Str := ["_law_rows", "_law_known", "_law_row"]
theorem sc__law_greatest : FnScope N__law_greatest ["_law_rows"] (defScope s__law_greatest) := ⟨rfl, rfl, rfl, by decide +kernel, rfl, by decide +kernel, by decide +kernel⟩
theorem st__law_greatest (a0 : V) : start N__law_greatest [a0] = [some a0, none, none] := rfl
abbrev s__law_person : Stmt := top 30
abbrev N__law_person : List Str := ["_law_box", "_law_last", "_law_wide", "_law_low", "_law_high", "_law_notes_here"]
theorem sc__law_person : FnScope N__law_person ["_law_box", "_law_last", "_law_wide"] (defScope s__law_person) := ⟨rfl, rfl, rfl, by decide +kernel, rfl, by decide +kernel, by decide +kernel⟩
theorem st__law_person (a0 a1 a2 : V) : start N__law_person [a0, a1, a2] = [some a0, some a1, some a2, none, none, none] := rfl
abbrev s__law_word : Stmt := top 31
abbrev N__law_word : List Str := ["_law_rows", "_law_day", "_law_there", "_law_row"]
theorem sc__law_word : FnScope N__law_word ["_law_rows", "_law_day"] (defScope s__law_word) := ⟨rfl, rfl, rfl, by decide +kernel, rfl, by decide +kernel, by decide +kernel⟩
theorem st__law_word (a0 a1 : V) : start N__law_word [a0, a1] = [some a0, some a1, none, none] := rfl
abbrev s__law_words : Stmt := top 32
abbrev N__law_words : List Str := ["_law_box", "_law_notes_here", "_law_last", "_law_rows", "_law_days", "_law_far", "_law_day", "_law_actual"]
theorem sc__law_words : FnScope N__law_words ["_law_box", "_law_notes_here", "_law_last", "_law_rows"] (defScope s__law_words) := ⟨rfl, rfl, rfl, by decide +kernel, rfl, by decide +kernel, by decide +kernel⟩
theorem st__law_words (a0 a1 a2 a3 : V) : start N__law_words [a0, a1, a2, a3] = [some a0, some a1, some a2, some a3, none, none, none, none] := rfl
abbrev s__law_common : Stmt := top 33
abbrev N__law_common : List Str := ["_law_one", "_law_other"]
theorem sc__law_common : FnScope N__law_common ["_law_one", "_law_other"] (defScope s__law_common) := ⟨rfl, rfl, rfl, by decide +kernel, rfl, by decide +kernel, by decide +kernel⟩
theorem st__law_common (a0 a1 : V) : start N__law_common [a0, a1] = [some a0, some a1] := rfl
abbrev s__law_first_pair : Stmt := top 34
abbrev N__law_first_pair : List Str := ["_law_rows", "_law_others", "_law_common_here", "_law_one", "_law_other"]
theorem sc__law_first_pair : FnScope N__law_first_pair ["_law_rows", "_law_others", "_law_common_here"] (defScope s__law_first_pair) := ⟨rfl, rfl, rfl, by decide +kernel, rfl, by decide +kernel, by decide +kernel⟩
theorem st__law_first_pair (a0 a1 a2 : V) : start N__law_first_pair [a0, a1, a2] = [some a0, some a1, some a2, none, none] := rfl
abbrev s__law_item : Stmt := top 35
abbrev N__law_item : List Str := ["_law_actual", "_law_due"]
theorem sc__law_item : FnScope N__law_item ["_law_actual", "_law_due"] (defScope s__law_item) := ⟨rfl, rfl, rfl, by decide +kernel, rfl, by decide +kernel, by decide +kernel⟩
theorem st__law_item (a0 a1 : V) : start N__law_item [a0, a1] = [some a0, some a1] := rfl
abbrev s__law_pairs : Stmt := top 36
abbrev N__law_pairs : List Str := ["_law_actual", "_law_mine", "_law_others"]
theorem sc__law_pairs : FnScope N__law_pairs ["_law_actual", "_law_mine", "_law_others"] (defScope s__law_pairs) := ⟨rfl, rfl, rfl, by decide +kernel, rfl, by decide +kernel, by decide +kernel⟩
theorem st__law_pairs (a0 a1 a2 : V) : start N__law_pairs [a0, a1, a2] = [some a0, some a1, some a2] := rfl
abbrev s_law : Stmt := top 37
abbrev N_law : List Str := ["_law_script", "_law_box", "_law_last", "_law_wide", "_law_notes_here", "_law_other", "_law_mine", "_law_others", "_law_first", "_law_second"]
theorem sc_law : FnScope N_law ["_law_script"] (defScope s_law) := ⟨rfl, rfl, rfl, by decide +kernel, rfl, by decide +kernel, by decide +kernel⟩
theorem st_law (a0 : V) : start N_law [a0] = [some a0, none, none, none, none, none, none, none, none, none] := rfl
local macro_rules | `(tactic| walk_at "sub") => `(tactic| first | exact sub_nil | exact sub_self | (refine' sub_cons ?k1 ?k2; (case k1 => walk_at "mem"); (case k2 => walk_at "sub")) | (refine' sub_app ?k1 ?k2; (case k1 => walk_at "sub"); (case k2 => walk_at "sub")) | (refine sub_tail ?_; walk_at "sub") | fail)
local macro_rules | `(tactic| walk_at "mem") => `(tactic| first | exact List.mem_cons_self | (refine List.mem_cons_of_mem _ ?_; walk_at "mem") | (refine List.mem_append_right _ ?_; walk_at "mem") | (refine List.mem_append_left _ ?_; walk_at "mem") | assumption | fail)
local macro_rules | `(tactic| walk_at "inl") => `(tactic| first | (refine Or.inl ?_; walk_at "mem") | (refine Or.inr ?_; walk_at "mem") | fail)
local macro_rules | `(tactic| walk_at "has1") => `(tactic| first | exact H1.int | exact H1.str | exact H1.bl | exact H1.non | exact H1.mem (by walk_at "mem") | assumption | fail)
local macro_rules | `(tactic| walk_at "hass") => `(tactic| first | exact Hs.nil | (refine' Hs.cons ?k1 ?k2; (case k1 => walk_at "has1"); (case k2 => walk_at "hass")) | exact Hs.ints _ | assumption | fail)
local macro_rules | `(tactic| walk_at "kn") => `(tactic| first | (refine Or.inl ?_; walk_at "has1") | (refine Or.inr ⟨_, _, rfl, rfl, ?_⟩; walk_at "mem") | fail)
local macro_rules | `(tactic| walk_at "sh") => `(tactic| first | exact Sh.int | exact Sh.bl | exact Sh.non | exact Sh.str (by decide) | assumption | (refine Sh.tupM ?_; intro x' hx'; walk_at "sh") | (refine Sh.lstM ?_; intro x' hx'; walk_at "sh") | (refine Sh.tup ?_; walk_at "shs") | (refine Sh.lst ?_; walk_at "shs") | fail)
local macro_rules | `(tactic| walk_at "shs") => `(tactic| first | exact Sh.nil | (refine' Sh.cons ?k1 ?k2; (case k1 => walk_at "sh"); (case k2 => walk_at "shs")) | fail)
local macro_rules | `(tactic| walk_at "lt") => `(tactic| first | omega | (simp only [List.length_map, List.length_range, List.length_append, List.length_cons, List.length_nil, List.length_replicate, List.length_set]; omega) | fail)
local macro_rules | `(tactic| walk_at "few") => `(tactic| first | decide | simp | fail)
local macro_rules | `(tactic| walk_at "lof") => `(tactic| (refine' d_listI ?k1 ?k2 ?_; (case k1 => assumption); (case k2 => first | (refine Or.inl ?_; walk_at "inl") | (refine Or.inr ?_; walk_at "mem") | fail); intro p' H' M'))
local macro_rules | `(tactic| walk_at "lst") => `(tactic| (refine' d_lst ?k1 ?k2 ?k3 ?_; (case k1 => assumption); (case k2 => walk_at "hass"); (case k3 => walk_at "size"); intro p' H' M'))
local macro_rules | `(tactic| walk_at "cond") => `(tactic| first | omega | assumption | exact mulR (by omega) (by omega) | exact mulL (by omega) (by omega) | exact divW (by omega) (by omega) | decide)
local macro_rules | `(tactic| walk_at "look") => `(tactic| first | assumption | with_unfolding_all rfl | exact atI_mapI (by omega) (by omega) | exact atI_mapL (by omega) (by omega) | exact atI_mapD (by omega) (by omega) | fail)
local macro_rules | `(tactic| walk_at "go1") => `(tactic| with_reducible first
  | refine k_yes ?_ | refine k_seq ?_ | refine k_gName ?_ | refine k_asg ?_ | refine k_ret ?_ | refine k_ifS ?_ | refine k_drop ?_ | refine k_next ?_ | refine k_break ?_ | refine k_cont ?_ | refine k_retN ?_
  | (refine' k_var ?k1 ?_; (case k1 => with_unfolding_all rfl)) | refine k_c ?_ | refine k_op ?_ | refine k_un ?_ | refine k_test ?_ | refine k_B ?_ | refine k_bl ?_ | refine k_and ?_ | refine k_or ?_ | refine k_not ?_
  | refine k_andV ?_ | refine k_orV ?_ | refine k_notV ?_ | refine k_ifE ?_ | refine k_nil ?_ | refine k_cons ?_ | refine k_cb ?_ | refine k_callS ?_ | refine k_lst0 ?_ | refine k_tup0 ?_ | refine k_fld0 ?_ | refine k_sub0 ?_ | refine k_make0 ?_ | refine k_prop0 ?_ | refine k_sta0 ?_ | refine k_sta ?_ | refine k_bm ?_ | refine k_bm0 ?_ | refine k_chain ?_ | refine k_makeK0 ?_ | refine k_swapK ?_ | refine k_meth0 ?_ | refine k_ownN0 ?_ | refine k_ownO0 ?_ | refine k_sfldS ?_ | refine k_jnil ?_ | refine k_jcons ?_ | refine k_fmt0 ?_ | refine k_sl0 ?_ | refine k_nopart ?_ | refine k_part ?_ | refine k_forR1 ?_ | refine k_forR2 ?_ | refine k_forL ?_ | refine k_forT ?_ | refine k_lcR1 ?_ | refine k_lc2R1 ?_ | refine k_lc2R2 ?_ | refine k_lc2L ?_ | refine k_lc2T ?_ | refine k_iR1 ?_ | refine k_iR2 ?_ | refine k_iL ?_ | refine k_iT ?_ | refine k_lcR2 ?_ | refine k_lcL ?_ | refine k_lcT ?_ | refine k_err0 ?_ | refine k_xf0 ?_ | refine k_errQ1 ?_ | refine k_errQ0 ?_ | refine k_errQ2 ?_ | refine k_errQ3 ?_
  | refine k_I0 ?_ | (refine k_I ?k1 ?_; (case k1 => walk_at "cond")) | refine k_U ?_ | refine k_eqI ?_ | refine k_neI ?_ | refine k_eqB ?_ | refine k_neB ?_ | refine k_eqS ?_ | refine k_neS ?_
  | refine k_int1 ?_ | refine k_abs1 ?_ | refine k_min2 ?_ | refine k_max2 ?_
  | (refine' k_lenS ?k1 ?_; (case k1 => assumption)) | (refine' k_ixS ?k1 ?k2 ?_; (case k1 => assumption); (case k2 => walk_at "look"))
  | refine iteT ?_ | refine iteF ?_ | refine k_iteNE ?_ | refine k_iteNS ?_ | refine k_iteNT ?_ | refine k_iteNF ?_
  | (refine k_iteD ?_ ?_ <;> intro hc <;> first | (exfalso; omega) | skip)
  | (refine k_iteN ?_ ?_ <;> intro hc <;> first | (exfalso; omega) | skip)
  | (refine' k_isiI ?k1 ?_; (case k1 => assumption))
  | (refine' k_jst ?k1 ?_; (case k1 => walk_at "size")) | (refine' k_fmtI ?k1 ?_; (case k1 => exact log2_64 (by omega) (by omega))) | (refine' k_strI ?k1 ?_; (case k1 => exact log2_64 (by omega) (by omega)))
  | (refine k_addS ?k1 ?_; (case k1 => walk_at "size")) | refine k_st ?_ | refine k_parti ?_
  | (refine k_rng1 ?k1 ?k2 ?_; (case k1 => omega); (case k2 => omega)) | (refine k_rng2 ?k1 ?k2 ?k3 ?k4 ?_; (case k1 => omega); (case k2 => omega); (case k3 => omega); (case k4 => omega))
  | (refine' k_isXs ?k1 ?k2 ?_; (case k1 => assumption); (case k2 => walk_at "hp")) | (refine' k_isXo ?k1 ?k2 ?k3 ?_; (case k1 => assumption); (case k2 => walk_at "hp"); (case k3 => assumption)) | (refine' k_isXt ?k1 ?k2 ?k3 ?_; (case k1 => assumption); (case k2 => walk_at "hp"); (case k3 => assumption))
  | (refine' k_isX3 ?k1 ?k2 ?k3 ?k4 ?_; (case k1 => assumption); (case k2 => walk_at "hp"); (case k3 => walk_at "hp"); (case k4 => assumption)) | (refine' k_isX2 ?k1 ?k2 ?k3 ?k4 ?_; (case k1 => assumption); (case k2 => walk_at "hp"); (case k3 => walk_at "hp"); (case k4 => assumption))
  | (refine' k_isX0s ?k1 ?_; (case k1 => assumption)) | (refine' k_isX0o ?k1 ?k2 ?_; (case k1 => assumption); (case k2 => assumption)) | (refine' k_isX0t ?k1 ?k2 ?_; (case k1 => assumption); (case k2 => assumption)) | (refine' k_isX04 ?k1 ?k2 ?k3 ?_; (case k1 => assumption); (case k2 => walk_at "hp"); (case k3 => assumption))
  | (refine' k_isX4 ?k1 ?k2 ?k3 ?k4 ?_; (case k1 => assumption); (case k2 => walk_at "hp"); (case k3 => walk_at "hp"); (case k4 => assumption)) | (refine' k_ixT2 ?k1 ?k2 ?k3 ?_; (case k1 => walk_at "hp"); (case k2 => omega); (case k3 => omega); intro n' hn')
  | (refine k_iteNEq ?k1 ?_; (case k1 => (rw [Bool.eq_iff_iff]; first | (simp; done) | (simp; omega))))
  | (refine' k_xf ?k1 ?k2 ?_; (case k1 => walk_at "hp"); (case k2 => first | exact xd1 | exact xdH | exact xd2 (by decide +kernel)))
  | (refine' k_caught ?k1 ?_; (case k1 => assumption); intro a' ha')
  | refine k_asgT ?_ | refine k_gCons ?_ | refine k_gNil ?_ | refine k_par ?_ | refine k_two ?_ | refine k_isNn ?_ | refine k_isNi ?_ | refine k_notNn ?_ | refine k_notNi ?_ | refine k_isN ?_ | refine k_notN ?_
  | (refine' k_xfB ?k1 ?k2 ?_; (case k1 => walk_at "hp"); (case k2 => first | exact xd1 | exact xdH | exact xd2 (by decide +kernel)))
  | (refine' d_ixLI ?k1 ?k2 ?k3 ?_; (case k1 => assumption); (case k2 => walk_at "inl"); (case k3 => walk_at "look"))
  | (refine' d_ixLS ?k1 ?k2 ?k3 ?_; (case k1 => assumption); (case k2 => walk_at "inl"); (case k3 => walk_at "look"))
  | (refine' d_ixLB ?k1 ?k2 ?k3 ?_; (case k1 => assumption); (case k2 => walk_at "inl"); (case k3 => walk_at "look"))
  | (refine' d_ixL ?k1 ?k2 ?k3 ?_; (case k1 => assumption); (case k2 => walk_at "inl"); (case k3 => walk_at "look"); intro v' M'; first | (have e' := Mm.isI M'; subst e') | (have e' := Mm.isS M'; subst e') | (have e' := Mm.isB M'; subst e') | (have e' := Mm.isN M'; subst e') | (obtain ⟨p', e'⟩ := Mm.isT M'; subst e') | (obtain ⟨p', e'⟩ := Mm.isL M'; subst e') | (obtain ⟨p', e'⟩ := Mm.isO M'; subst e') | skip)
  | (refine' d_ixTI ?k1 ?k2 ?k3 ?_; (case k1 => assumption); (case k2 => walk_at "mem"); (case k3 => walk_at "look"))
  | (refine' d_ixTS ?k1 ?k2 ?k3 ?_; (case k1 => assumption); (case k2 => walk_at "mem"); (case k3 => walk_at "look"))
  | (refine' d_ixTB ?k1 ?k2 ?k3 ?_; (case k1 => assumption); (case k2 => walk_at "mem"); (case k3 => walk_at "look"))
  | (refine' d_ixT ?k1 ?k2 ?k3 ?_; (case k1 => assumption); (case k2 => walk_at "mem"); (case k3 => walk_at "look"); intro v' M'; first | (have e' := Mm.isI M'; subst e') | (have e' := Mm.isS M'; subst e') | (have e' := Mm.isB M'; subst e') | (have e' := Mm.isN M'; subst e') | (obtain ⟨p', e'⟩ := Mm.isT M'; subst e') | (obtain ⟨p', e'⟩ := Mm.isL M'; subst e') | (obtain ⟨p', e'⟩ := Mm.isO M'; subst e') | skip)
  | (refine' d_ixc2 ?k1 ?k2 ?k3 ?k4 ?_; (case k1 => assumption); (case k2 => walk_at "inl"); (case k3 => omega); (case k4 => omega); intro n' hn')
  | (refine' d_ixc3 ?k1 ?k2 ?k3 ?k4 ?_; (case k1 => assumption); (case k2 => walk_at "inl"); (case k3 => omega); (case k4 => omega); intro n' hn')
  | (refine' d_ixc4 ?k1 ?k2 ?k3 ?k4 ?_; (case k1 => assumption); (case k2 => walk_at "inl"); (case k3 => omega); (case k4 => omega); intro n' hn')
  | (refine' d_ixc5 ?k1 ?k2 ?k3 ?k4 ?_; (case k1 => assumption); (case k2 => walk_at "inl"); (case k3 => omega); (case k4 => omega); intro n' hn')
  | (refine' d_ixc6 ?k1 ?k2 ?k3 ?k4 ?_; (case k1 => assumption); (case k2 => walk_at "inl"); (case k3 => omega); (case k4 => omega); intro n' hn')
  | (refine' d_ixc7 ?k1 ?k2 ?k3 ?k4 ?_; (case k1 => assumption); (case k2 => walk_at "inl"); (case k3 => omega); (case k4 => omega); intro n' hn')
  | (refine' d_ixc8 ?k1 ?k2 ?k3 ?k4 ?_; (case k1 => assumption); (case k2 => walk_at "inl"); (case k3 => omega); (case k4 => omega); intro n' hn')
  | (refine' d_ixc9 ?k1 ?k2 ?k3 ?k4 ?_; (case k1 => assumption); (case k2 => walk_at "inl"); (case k3 => omega); (case k4 => omega); intro n' hn')
  | (refine' d_lenL ?k1 ?k2 ?_; (case k1 => assumption); (case k2 => walk_at "inl"))
  | (refine' d_lenT ?k1 ?k2 ?_; (case k1 => assumption); (case k2 => walk_at "mem"))
  | (refine' d_lenQ ?k1 ?k2 ?_; (case k1 => assumption); (case k2 => walk_at "mem"))
  | (refine' d_lst0 ?k1 ?_; (case k1 => assumption); intro p' H' M')
  | (refine' d_tup ?k1 ?k2 ?k3 ?_; (case k1 => assumption); (case k2 => walk_at "hass"); (case k3 => walk_at "size"); intro p' H' M')
  | (refine' d_tupR ?k1 ?k2 ?_; (case k1 => assumption); (case k2 => walk_at "size"); intro p' H' hp' M')
  | walk_at "lst"
  | (refine' d_fldI ?k1 ?k2 ?k3 ?k4 ?k5 ?_; (case k1 => assumption); (case k2 => walk_at "mem"); (case k3 => assumption); (case k4 => assumption); (case k5 => walk_at "fld"))
  | (refine' d_fld ?k1 ?k2 ?k3 ?k4 ?k5 ?_; (case k1 => assumption); (case k2 => walk_at "mem"); (case k3 => assumption); (case k4 => assumption); (case k5 => walk_at "fld"); intro v' M'; first | (have e' := Mm.isI M'; subst e') | (have e' := Mm.isS M'; subst e') | (have e' := Mm.isB M'; subst e') | (have e' := Mm.isN M'; subst e') | (obtain ⟨p', e'⟩ := Mm.isT M'; subst e') | (obtain ⟨p', e'⟩ := Mm.isL M'; subst e') | (obtain ⟨p', e'⟩ := Mm.isO M'; subst e') | skip)
  | (refine' d_fldX0 ?k1 ?k2 ?k3 ?k4 ?_; (case k1 => assumption); (case k2 => assumption); (case k3 => assumption); (case k4 => walk_at "fld"); intro v' M'; first | (have e' := Mm.isI M'; subst e') | (have e' := Mm.isS M'; subst e') | (have e' := Mm.isB M'; subst e') | (have e' := Mm.isN M'; subst e') | (obtain ⟨p', e'⟩ := Mm.isT M'; subst e') | (obtain ⟨p', e'⟩ := Mm.isL M'; subst e') | (obtain ⟨p', e'⟩ := Mm.isO M'; subst e') | skip)
  | (refine' d_fldX1 ?k1 ?k2 ?k3 ?k4 ?_; (case k1 => assumption); (case k2 => assumption); (case k3 => assumption); (case k4 => walk_at "fld"); intro v' M'; first | (have e' := Mm.isI M'; subst e') | (have e' := Mm.isS M'; subst e') | (have e' := Mm.isB M'; subst e') | (have e' := Mm.isN M'; subst e') | (obtain ⟨p', e'⟩ := Mm.isT M'; subst e') | (obtain ⟨p', e'⟩ := Mm.isL M'; subst e') | (obtain ⟨p', e'⟩ := Mm.isO M'; subst e') | skip)
  | (refine' d_gT2I ?k1 ?k2 ?k3 ?_; (case k1 => assumption); (case k2 => walk_at "mem"); (case k3 => with_unfolding_all rfl))
  | (refine' d_gT2 ?k1 ?k2 ?k3 ?_; (case k1 => assumption); (case k2 => walk_at "mem"); (case k3 => with_unfolding_all rfl); intro v1' v2' M'; (first | (have e' := Mm.isI M'; subst e') | (have e' := Mm.isS M'; subst e') | (have e' := Mm.isB M'; subst e') | (have e' := Mm.isN M'; subst e') | (obtain ⟨p', e'⟩ := Mm.isT M'; subst e') | (obtain ⟨p', e'⟩ := Mm.isL M'; subst e') | (obtain ⟨p', e'⟩ := Mm.isO M'; subst e') | skip); (first | (have e' := Mm.isI (Mm.dropL M'); subst e') | (have e' := Mm.isS (Mm.dropL M'); subst e') | (have e' := Mm.isB (Mm.dropL M'); subst e') | (have e' := Mm.isN (Mm.dropL M'); subst e') | (obtain ⟨p2', e'⟩ := Mm.isT (Mm.dropL M'); subst e') | (obtain ⟨p2', e'⟩ := Mm.isL (Mm.dropL M'); subst e') | (obtain ⟨p2', e'⟩ := Mm.isO (Mm.dropL M'); subst e') | skip))
  | (refine' d_gT3 ?k1 ?k2 ?k3 ?_; (case k1 => assumption); (case k2 => walk_at "mem"); (case k3 => with_unfolding_all rfl); intro v1' v2' v3' M'; (first | (have e' := Mm.isI M'; subst e') | (have e' := Mm.isS M'; subst e') | (have e' := Mm.isB M'; subst e') | (have e' := Mm.isN M'; subst e') | (obtain ⟨p', e'⟩ := Mm.isT M'; subst e') | (obtain ⟨p', e'⟩ := Mm.isL M'; subst e') | (obtain ⟨p', e'⟩ := Mm.isO M'; subst e') | skip); (first | (have e' := Mm.isI (Mm.dropL M'); subst e') | (have e' := Mm.isS (Mm.dropL M'); subst e') | (have e' := Mm.isB (Mm.dropL M'); subst e') | (have e' := Mm.isN (Mm.dropL M'); subst e') | (obtain ⟨p2', e'⟩ := Mm.isT (Mm.dropL M'); subst e') | (obtain ⟨p2', e'⟩ := Mm.isL (Mm.dropL M'); subst e') | (obtain ⟨p2', e'⟩ := Mm.isO (Mm.dropL M'); subst e') | skip); (first | (have e' := Mm.isI (Mm.dropL (Mm.dropL M')); subst e') | (have e' := Mm.isS (Mm.dropL (Mm.dropL M')); subst e') | (have e' := Mm.isB (Mm.dropL (Mm.dropL M')); subst e') | (have e' := Mm.isN (Mm.dropL (Mm.dropL M')); subst e') | (obtain ⟨p3', e'⟩ := Mm.isT (Mm.dropL (Mm.dropL M')); subst e') | (obtain ⟨p3', e'⟩ := Mm.isL (Mm.dropL (Mm.dropL M')); subst e') | (obtain ⟨p3', e'⟩ := Mm.isO (Mm.dropL (Mm.dropL M')); subst e') | skip))
  | (refine' d_app0 ?k1 ?k2 ?k3 ?_; (case k1 => assumption); (case k2 => walk_at "has1"); (case k3 => walk_at "size"); intro H' M')
  | (refine' d_app1 ?k1 ?k2 ?k3 ?_; (case k1 => assumption); (case k2 => walk_at "has1"); (case k3 => walk_at "size"); intro H' M')
  | (refine' d_app2 ?k1 ?k2 ?k3 ?_; (case k1 => assumption); (case k2 => walk_at "has1"); (case k3 => walk_at "size"); intro H' M')
  | (refine' d_app3 ?k1 ?k2 ?k3 ?_; (case k1 => assumption); (case k2 => walk_at "has1"); (case k3 => walk_at "size"); intro H' M')
  | (refine' d_set0 ?k1 ?k2 ?k3 ?k4 ?_; (case k1 => assumption); (case k2 => walk_at "has1"); (case k3 => omega); (case k4 => walk_at "lt"); intro H' M')
  | (refine' d_set1 ?k1 ?k2 ?k3 ?k4 ?_; (case k1 => assumption); (case k2 => walk_at "has1"); (case k3 => omega); (case k4 => walk_at "lt"); intro H' M')
  | (refine' d_set2 ?k1 ?k2 ?k3 ?k4 ?_; (case k1 => assumption); (case k2 => walk_at "has1"); (case k3 => omega); (case k4 => walk_at "lt"); intro H' M')
  | (refine' d_set3 ?k1 ?k2 ?k3 ?k4 ?_; (case k1 => assumption); (case k2 => walk_at "has1"); (case k3 => omega); (case k4 => walk_at "lt"); intro H' M')
  | (refine' d_reverse0 ?k1 ?_; (case k1 => assumption); intro H' M')
  | (refine' d_reverse1 ?k1 ?_; (case k1 => assumption); intro H' M')
  | (refine' d_reverse2 ?k1 ?_; (case k1 => assumption); intro H' M')
  | (refine' d_clear0 ?k1 ?_; (case k1 => assumption); intro H' M')
  | (refine' d_clear1 ?k1 ?_; (case k1 => assumption); intro H' M')
  | (refine' d_clear2 ?k1 ?_; (case k1 => assumption); intro H' M')
  | (refine' d_sfld0 ?k1 ?k2 ?k3 ?k4 ?k5 ?_; (case k1 => assumption); (case k2 => walk_at "has1"); (case k3 => assumption); (case k4 => assumption); (case k5 => walk_at "few"); intro H' M')
  | (refine' d_sfld1 ?k1 ?k2 ?k3 ?k4 ?k5 ?_; (case k1 => assumption); (case k2 => walk_at "has1"); (case k3 => assumption); (case k4 => assumption); (case k5 => walk_at "few"); intro H' M')
  | (refine' d_tyL2 ?k1 ?k2 ?_; (case k1 => assumption); (case k2 => walk_at "inl"))
  | (refine' d_inIL ?k1 ?k2 ?_; (case k1 => assumption); (case k2 => walk_at "inl"))
  | (refine' d_notIL ?k1 ?k2 ?_; (case k1 => assumption); (case k2 => walk_at "inl"))
  | (refine' d_inIT ?k1 ?k2 ?_; (case k1 => assumption); (case k2 => walk_at "mem"))
  | (refine' d_notIT ?k1 ?k2 ?_; (case k1 => assumption); (case k2 => walk_at "mem"))
  | (refine' d_eqE ?k1 ?k2 ?k3 ?_; (case k1 => assumption); (case k2 => walk_at "inl"); (case k3 => walk_at "inl"))
  | (refine' d_neE ?k1 ?k2 ?k3 ?_; (case k1 => assumption); (case k2 => walk_at "inl"); (case k3 => walk_at "inl"))
  | (refine' d_eq ?k1 ?k2 ?k3 ?k4 ?k5 ?_; (case k1 => assumption); (case k2 => walk_at "kn"); (case k3 => walk_at "kn"); (case k4 => walk_at "sh"); (case k5 => walk_at "sh"))
  | (refine' d_ne ?k1 ?k2 ?k3 ?k4 ?k5 ?_; (case k1 => assumption); (case k2 => walk_at "kn"); (case k3 => walk_at "kn"); (case k4 => walk_at "sh"); (case k5 => walk_at "sh"))
  | (refine' d_inD ?k1 ?k2 ?k3 ?k4 ?k5 ?_; (case k1 => assumption); (case k2 => walk_at "kn"); (case k3 => walk_at "kn"); (case k4 => walk_at "sh"); (case k5 => walk_at "sh"))
  | (refine' d_notInD ?k1 ?k2 ?k3 ?k4 ?k5 ?_; (case k1 => assumption); (case k2 => walk_at "kn"); (case k3 => walk_at "kn"); (case k4 => walk_at "sh"); (case k5 => walk_at "sh"))
  | (refine' d_isiT ?k1 ?k2 ?k3 ?_; (case k1 => assumption); (case k2 => walk_at "mem"); (case k3 => assumption))
  | (refine' d_isiL ?k1 ?k2 ?k3 ?_; (case k1 => assumption); (case k2 => walk_at "inl"); (case k3 => assumption))
  | (refine' d_isiO ?k1 ?k2 ?k3 ?k4 ?k5 ?k6 ?k7 ?_; (case k1 => assumption); (case k2 => walk_at "mem"); (case k3 => assumption); (case k4 => assumption); (case k5 => assumption); (case k6 => assumption); (case k7 => assumption))
  | walk_at "lof"
  | (refine' d_tupOfL ?k1 ?k2 ?_; (case k1 => assumption); (case k2 => walk_at "inl"); intro p' H' M')
  | (refine' d_tupOfT ?k1 ?k2 ?_; (case k1 => assumption); (case k2 => walk_at "mem"))
  | (refine' d_tupOfQ ?k1 ?k2 ?_; (case k1 => assumption); (case k2 => walk_at "mem"); intro p' H' M')
  | (refine' d_catT ?k1 ?k2 ?k3 ?k4 ?_; (case k1 => assumption); (case k2 => walk_at "mem"); (case k3 => walk_at "mem"); (case k4 => walk_at "size"); intro p' H' M')
  | (refine' d_slL ?k1 ?k2 ?_; (case k1 => assumption); (case k2 => walk_at "inl"); intro p' H' M')
  | refine d_revL ?_
  | (refine' d_rev ?k1 ?k2 ?_; (case k1 => assumption); (case k2 => walk_at "inl"); intro p' H' M')
  | (refine' d_cat ?k1 ?k2 ?k3 ?k4 ?_; (case k1 => assumption); (case k2 => walk_at "inl"); (case k3 => walk_at "inl"); (case k4 => walk_at "size"); intro p' H' M')
  | (refine' d_all ?k1 ?k2 ?_; (case k1 => assumption); (case k2 => walk_at "inl"))
  | (refine' d_any ?k1 ?k2 ?_; (case k1 => assumption); (case k2 => walk_at "inl"))
  | (refine' d_lstAt ?k1 ?k2 ?_; (case k1 => assumption); (case k2 => walk_at "inl"))
  | (refine' d_tupAt ?k1 ?k2 ?_; (case k1 => assumption); (case k2 => walk_at "mem"))
  | (refine' d_meth ?k1 ?k2 ?k3 ?_; (case k1 => assumption); (case k2 => walk_at "mem"); (case k3 => walk_at "fld"))
  | (refine' d_ownN ?k1 ?k2 ?_; (case k1 => assumption); (case k2 => walk_at "mem"))
  | (refine' d_ownO ?k1 ?k2 ?k3 ?_; (case k1 => assumption); (case k2 => walk_at "mem"); (case k3 => walk_at "mem"))
  | (refine' d_ownEq ?k1 ?k2 ?k3 ?_; (case k1 => assumption); (case k2 => walk_at "mem"); (case k3 => walk_at "mem"))
  | (refine' d_ownIn ?k1 ?k2 ?_; (case k1 => assumption); (case k2 => walk_at "mem"))
  | (refine' d_ownU ?k1 ?k2 ?_; (case k1 => assumption); (case k2 => walk_at "mem"))
  | (refine' d_ownStr ?k1 ?k2 ?_; (case k1 => assumption); (case k2 => walk_at "mem"))
  | (refine' d_prop ?k1 ?k2 ?_; (case k1 => assumption); (case k2 => walk_at "mem"))
  | (refine' d_dnew ?k1 ?_; (case k1 => assumption); intro p' H' M')
  | refine d_din0 ?_ | refine d_dnotin0 ?_ | refine d_dget0 ?_ | refine d_dput0 ?_ | refine d_items0 ?_
  | (refine' d_din ?k1 ?k2 ?k3 ?_; (case k1 => assumption); (case k2 => walk_at "inl"); (case k3 => first | exact (rfl : V.str _ = kV (Sum.inr _)) | exact (rfl : V.int _ = kV (Sum.inl _)) | fail))
  | (refine' d_dnotin ?k1 ?k2 ?k3 ?_; (case k1 => assumption); (case k2 => walk_at "inl"); (case k3 => first | exact (rfl : V.str _ = kV (Sum.inr _)) | exact (rfl : V.int _ = kV (Sum.inl _)) | fail))
  | (refine' d_items ?k1 ?k2 ?_; (case k1 => assumption); (case k2 => walk_at "inl"); intro p' H' M')
  | (refine' d_range1 ?k1 ?_; (case k1 => assumption); intro p' H' hp' M')
  | (refine' d_listRng ?k1 ?k2 ?k3 ?k4 ?_; (case k1 => assumption); (case k2 => assumption); (case k3 => omega); (case k4 => omega); intro p' H' M')
  | walk_at "use")
local macro_rules | `(tactic| walk_at "go") => `(tactic| repeat' (walk_at "go1"))

local macro_rules | `(tactic| walk_at "hp") => `(tactic| first | assumption | fail)
local macro_rules | `(tactic| walk_at "fld") => `(tactic| first | exact fd_nil | exact fd_hd | (refine' fd_tl ?k1 ?k2; (case k1 => decide +kernel); (case k2 => walk_at "fld")) | fail)
local macro_rules | `(tactic| walk_at "size") => `(tactic| first | exact Nat.lt_of_le_of_lt (m := 50000) (by first | omega | (simp only [List.length_map, List.length_range, List.length_append, List.length_cons, List.length_nil, List.length_replicate, List.length_set, List.length_reverse]; omega)) (by decide) | exact Nat.le_trans (m := 50000) (by first | omega | (simp only [List.length_map, List.length_range, List.length_append, List.length_cons, List.length_nil, List.length_replicate, List.length_set, List.length_reverse]; omega)) (by decide) | fail)
abbrev Pr := Int × Int
abbrev Nt := Int × Bool
structure Txt (prog : Program) (K : PySem.W.Frag) (mg : Str → Option Value) (C CO fO CE fE : Addr) : Prop where
  cl : Cls K C
  nc : NoAttr K C "come"
  ng : NoAttr K C "go"
  b_isinstance : mg "isinstance" = none
  b_int : mg "int" = none
  b_bool : mg "bool" = none
  b_str : mg "str" = none
  b_len : mg "len" = none
  b_min : mg "min" = none
  b_max : mg "max" = none
  b_list : mg "list" = none
  b_tuple : mg "tuple" = none
  b_range : mg "range" = none
  b_all : mg "all" = none
  b_any : mg "any" = none
  b_enumerate : mg "enumerate" = none
  g_Stay : mg "Stay" = some (.ref C)
  e_OutOfRange : PySem.ErrX.ErrTxt prog K mg "OutOfRange" CO fO ["value"]
  e_EmptyStay : PySem.ErrX.ErrTxt prog K mg "EmptyStay" CE fE ["come", "go"]
  i1 : PySem.W.kitOne K (.type "int") (.type "int") = some true
  i2 : PySem.W.kitOne K (.type "int") (.type "bool") = some false
  i3 : PySem.W.kitOne K (.type "tuple") (.type "tuple") = some true
  i4 : PySem.W.kitOne K (.type "list") (.type "list") = some true
  i5 : PySem.W.kitOne K (.type "str") (.type "str") = some true
  oa : PySem.W.findIn K (.ref C) "__class__" = some (some (.builtin "object.__class__"))
  on : PySem.W.specialIn K (.builtin "object.__class__") "__get__" = some (some (.builtin "getset_descriptor.__get__"))
  ot : PySem.W.takesIn K (.builtin "object.__class__") = some true
  om : PySem.W.mroIn K C (.type "object") = some true
section
variable {P : Program} {w : World} {K : PySem.W.Frag} {mg : Str → Option Value} {base : Heap} {C CO fO CE fE : Addr}
/-- a stay, a pair of days, a note -/
abbrev stD (C : Addr) (x : Pr) : D := .ins C [("come", .int x.1), ("go", .int x.2)]
abbrev prD (x : Pr) : D := .tup [.int x.1, .int x.2]
abbrev ntD (n : Nt) : D := .tup [.int n.1, .bl n.2]
theorem put_two {u v : D} : putD "go" v (putD "come" u []) = [(Str.ofString "come", u), (Str.ofString "go", v)] := by
  have e : ((Str.ofString "come") = (Str.ofString "go")) = False := by rw [eq_iff_iff]; exact ⟨fun z => absurd z (by decide +kernel), False.elim⟩
  simp only [putD, e, if_false]
local macro_rules | `(tactic| walk_at "few") => `(tactic| first | decide | (simp only [putD, List.length_cons, List.length_nil]; decide) | simp | fail)
def sp_stay (K : PySem.W.Frag) (C : Addr) : Sp := fun vs H Q E => ∃ (G : Hp) (bg : Addr) (ws : List V) (x : Pr), vs = .ref bg :: ws ∧ Same G H ∧ Mt K G H bg (.ins C []) ∧ G bg = none ∧ AtL K G ws [.int x.1, .int x.2] ∧ (x.1 ≤ x.2) ∧ (∀ H', Mm K H G [bg] ((bg, stD C x) :: []) [] H' → Q (.non) H')
theorem ok_stay {f : Addr} {fd : FuncData} (F : Fun K "__init__" "Stay.__init__" s_Stay_init f fd) (T : Txt P K mg C CO fO CE fE)  :
    FnOk P w K mg base (L2.CX P w) (0 + 1) f fd ["self", "come", "go"] (sp_stay K C) := by
  refine okT F sc_Stay_init (fun vs H Q E h => ?_) (fun cdv A outer s H vs Q E hr tk h => ?_)
  · obtain ⟨G, bg, ws, x, rfl, _, _, _, hA, _⟩ := h
    rcases hA with _ | ⟨ha0, hA0⟩
    rcases hA0 with _ | ⟨ha1, hA1⟩
    cases hA1
    rfl
  obtain ⟨G, bg, ws, x, rfl, hsG, hmt, hgb, hA, p0, k⟩ := h
  have f1 := T.i1; have f2 := T.i2; have f3 := T.i3; have f4 := T.i4; have f5 := T.i5; have f6 := T.cl; have f7 := T.nc; have f8 := T.ng; have f9 := T.oa; have f10 := T.on; have f11 := T.ot; have f12 := T.om
  rcases hA with _ | ⟨ha0, hA0⟩
  rcases hA0 with _ | ⟨ha1, hA1⟩
  cases hA1
  obtain rfl := ha0.isI
  obtain rfl := ha1.isI
  have M : Mm K H G [bg] [(bg, .ins C [])] [] H := Mm.start1 hsG hmt hgb (fun z hz => nomatch hz)
  refine ⟨_, (pss_cons (ps_if (pt_cmpR op_lt (pv 2) (pv 1) (nomark _)) (pss_one (ps_raise rfl tk (pmk_err T.e_EmptyStay (by decide) hr (pa_cons (pv 1) (pa_cons (pv 2) pa_nil))))) pss_nil)
      (pss_cons (ps_fld (pv 0) (pv 1) rfl)
      (pss_one (ps_fld (pv 0) (pv 2) rfl)))), ?_⟩
  simp only [cxK, st_Stay_init]
  walk_at "go"
  rename_i M9
  rw [put_two] at M9
  exact k _ M9
theorem use_stay {B G0 H : Hp} {ms : List Addr} {X : List (Addr × D)} {L : List (V × D)} {Q : VK} {E : XK} {ws : List V} {bg : Addr} {x : Pr} (M : Mm K B G0 ms ((bg, .ins C []) :: X) L H) (ha : Hs L ws [.int x.1, .int x.2]) (p0 : x.1 ≤ x.2) (k0 : ∀ H', Mm K B G0 ms ((bg, stD C x) :: X) L H' → Q (.non) H') : sp_stay K C (.ref bg :: ws) H Q E := by
  obtain ⟨G, W⟩ := M
  exact ⟨G, bg, ws, x, rfl, W.s1, W.chg (bg, .ins C []) List.mem_cons_self, W.off (bg, .ins C []) List.mem_cons_self, ha K G W.ok, p0, fun H' M2 => k0 H' (W.compAt (X1 := []) M2)⟩
theorem use_stay1 {B G0 H : Hp} {ms : List Addr} {X : List (Addr × D)} {L : List (V × D)} {Q : VK} {E : XK} {ws : List V} {z0 : Addr × D} {bg : Addr} {x : Pr} (M : Mm K B G0 ms (z0 :: (bg, .ins C []) :: X) L H) (ha : Hs L ws [.int x.1, .int x.2]) (p0 : x.1 ≤ x.2) (k0 : ∀ H', Mm K B G0 ms (z0 :: (bg, stD C x) :: X) L H' → Q (.non) H') : sp_stay K C (.ref bg :: ws) H Q E := by
  obtain ⟨G, W⟩ := M
  exact ⟨G, bg, ws, x, rfl, W.s1, W.chg (bg, .ins C []) (by simp), W.off (bg, .ins C []) (by simp), ha K G W.ok, p0, fun H' M2 => k0 H' (W.compAt (X1 := [z0]) M2)⟩
theorem use_stay2 {B G0 H : Hp} {ms : List Addr} {X : List (Addr × D)} {L : List (V × D)} {Q : VK} {E : XK} {ws : List V} {z0 z1 : Addr × D} {bg : Addr} {x : Pr} (M : Mm K B G0 ms (z0 :: z1 :: (bg, .ins C []) :: X) L H) (ha : Hs L ws [.int x.1, .int x.2]) (p0 : x.1 ≤ x.2) (k0 : ∀ H', Mm K B G0 ms (z0 :: z1 :: (bg, stD C x) :: X) L H' → Q (.non) H') : sp_stay K C (.ref bg :: ws) H Q E := by
  obtain ⟨G, W⟩ := M
  exact ⟨G, bg, ws, x, rfl, W.s1, W.chg (bg, .ins C []) (by simp), W.off (bg, .ins C []) (by simp), ha K G W.ok, p0, fun H' M2 => k0 H' (W.compAt (X1 := [z0, z1]) M2)⟩
theorem use_stay3 {B G0 H : Hp} {ms : List Addr} {X : List (Addr × D)} {L : List (V × D)} {Q : VK} {E : XK} {ws : List V} {z0 z1 z2 : Addr × D} {bg : Addr} {x : Pr} (M : Mm K B G0 ms (z0 :: z1 :: z2 :: (bg, .ins C []) :: X) L H) (ha : Hs L ws [.int x.1, .int x.2]) (p0 : x.1 ≤ x.2) (k0 : ∀ H', Mm K B G0 ms (z0 :: z1 :: z2 :: (bg, stD C x) :: X) L H' → Q (.non) H') : sp_stay K C (.ref bg :: ws) H Q E := by
  obtain ⟨G, W⟩ := M
  exact ⟨G, bg, ws, x, rfl, W.s1, W.chg (bg, .ins C []) (by simp), W.off (bg, .ins C []) (by simp), ha K G W.ok, p0, fun H' M2 => k0 H' (W.compAt (X1 := [z0, z1, z2]) M2)⟩
theorem mk_stay {B G0 H : Hp} {ms : List Addr} {X : List (Addr × D)} {L : List (V × D)} {Q : VK} {E : XK} {a b : Int} (M : Mm K B G0 ms X L H) (h : a ≤ b) (k : ∀ x H', Mm K B G0 ms X ((.ref x, stD C (a, b)) :: L) H' → Q (.ref x) H') : newO C (sp_stay K C) [.int a, .int b] H Q E :=
  d_make M fun x H' M' => use_stay (x := (a, b)) M' (.cons H1.int (.cons H1.int .nil)) h fun H2 M2 => ⟨rfl, k x H2 M2.freeze⟩
def sp_has (K : PySem.W.Frag) (C : Addr) : Sp := fun vs H Q E => ∃ (G : Hp) (x : Pr) (d : Int), Same G H ∧ AtL K G vs [stD C x, .int d] ∧ (∀ H', Mm K H G [] ([]) [] H' → Q (.bl (decide (x.1 ≤ d ∧ d ≤ x.2))) H')
theorem ok_has {f : Addr} {fd : FuncData} (F : Fun K "__contains__" "Stay.__contains__" s_Stay_contains f fd) (T : Txt P K mg C CO fO CE fE)  :
    FnOk P w K mg base (L2.CX P w) (0 + 1) f fd ["self", "day"] (sp_has K C) := by
  refine okT F sc_Stay_contains (fun vs H Q E h => ?_) (fun cdv A outer s H vs Q E hr tk h => ?_)
  · obtain ⟨G, x, d, _, hA, _⟩ := h
    rcases hA with _ | ⟨ha0, hA0⟩
    rcases hA0 with _ | ⟨ha1, hA1⟩
    cases hA1
    rfl
  obtain ⟨G, x, d, hsG, hA, k⟩ := h
  have f1 := T.i1; have f2 := T.i2; have f3 := T.i3; have f4 := T.i4; have f5 := T.i5; have f6 := T.cl; have f7 := T.nc; have f8 := T.ng; have f9 := T.oa; have f10 := T.on; have f11 := T.ot; have f12 := T.om
  rcases hA with _ | ⟨ha0, hA0⟩
  rcases hA0 with _ | ⟨ha1, hA1⟩
  cases hA1
  obtain ⟨a0, rfl⟩ := ha0.refO
  obtain rfl := ha1.isI
  have M : Mm K H G [] [] [(.ref a0, stD C x)] H := Mm.start hsG (fun z hz => by
    simp only [List.mem_cons, List.not_mem_nil, or_false] at hz
    rcases hz with rfl
    · exact ha0)
  refine ⟨_, (pss_one (ps_ret (pe_chain op_le op_le (pe_fld (pv 0) rfl) (pv 1) (pe_fld (pv 0) rfl)))), ?_⟩
  simp only [cxK, st_Stay_contains]
  walk_at "go"
  · rename_i hc
    have e : decide (x.1 ≤ d ∧ d ≤ x.2) = decide (d ≤ x.2) := by simp [hc]
    rw [e] at k
    exact k _ M.none
  · rename_i hc
    have e : decide (x.1 ≤ d ∧ d ≤ x.2) = false := by simp [hc]
    rw [e] at k
    exact k _ M.none
theorem use_has {B G0 H : Hp} {ms : List Addr} {X : List (Addr × D)} {L : List (V × D)} {Q : VK} {E : XK} {ws : List V} {x : Pr} {d : Int} (M : Mm K B G0 ms X L H) (ha : Hs L ws [stD C x, .int d]) (k0 : ∀ H', Mm K B G0 ms (X) L H' → Q (.bl (decide (x.1 ≤ d ∧ d ≤ x.2))) H') : sp_has K C ws H Q E := by
  obtain ⟨G, W⟩ := M
  exact ⟨G, x, d, W.s1, ha K G W.ok, fun H' M2 => k0 H' (W.comp M2)⟩
abbrev mt (x y : Pr) : Bool := decide (x.1 ≤ y.2 ∧ y.1 ≤ x.2)
def sp_meets (K : PySem.W.Frag) (C : Addr) : Sp := fun vs H Q E => ∃ (G : Hp) (x y : Pr), Same G H ∧ AtL K G vs [stD C x, stD C y] ∧ (∀ H', Mm K H G [] ([]) [] H' → Q (.bl (mt x y)) H')
theorem ok_meets {f : Addr} {fd : FuncData} (F : Fun K "meets" "Stay.meets" s_Stay_meets f fd) (T : Txt P K mg C CO fO CE fE)  :
    FnOk P w K mg base (L2.CX P w) (0 + 1) f fd ["self", "other"] (sp_meets K C) := by
  refine okT F sc_Stay_meets (fun vs H Q E h => ?_) (fun cdv A outer s H vs Q E hr tk h => ?_)
  · obtain ⟨G, x, y, _, hA, _⟩ := h
    rcases hA with _ | ⟨ha0, hA0⟩
    rcases hA0 with _ | ⟨ha1, hA1⟩
    cases hA1
    rfl
  obtain ⟨G, x, y, hsG, hA, k⟩ := h
  have f1 := T.i1; have f2 := T.i2; have f3 := T.i3; have f4 := T.i4; have f5 := T.i5; have f6 := T.cl; have f7 := T.nc; have f8 := T.ng; have f9 := T.oa; have f10 := T.on; have f11 := T.ot; have f12 := T.om
  rcases hA with _ | ⟨ha0, hA0⟩
  rcases hA0 with _ | ⟨ha1, hA1⟩
  cases hA1
  obtain ⟨a0, rfl⟩ := ha0.refO
  obtain ⟨a1, rfl⟩ := ha1.refO
  have M : Mm K H G [] [] [(.ref a0, stD C x), (.ref a1, stD C y)] H := Mm.start hsG (fun z hz => by
    simp only [List.mem_cons, List.not_mem_nil, or_false] at hz
    rcases hz with rfl | rfl
    · exact ha0
    · exact ha1)
  refine ⟨_, (pss_one (ps_ret (pe_and (pe_cmpR op_le (pe_fld (pv 0) rfl) (pe_fld (pv 1) rfl) (nomark _)) (pe_one (pe_cmpR op_le (pe_fld (pv 1) rfl) (pe_fld (pv 0) rfl) (nomark _)))))), ?_⟩
  simp only [cxK, st_Stay_meets]
  walk_at "go"
  all_goals
    rename_i hc
    simp only [mt, hc, true_and, false_and, decide_false] at k
    exact k _ (Mm.none (by assumption))
theorem use_meets {B G0 H : Hp} {ms : List Addr} {X : List (Addr × D)} {L : List (V × D)} {Q : VK} {E : XK} {ws : List V} {x y : Pr} (M : Mm K B G0 ms X L H) (ha : Hs L ws [stD C x, stD C y]) (k0 : ∀ H', Mm K B G0 ms (X) L H' → Q (.bl (mt x y)) H') : sp_meets K C ws H Q E := by
  obtain ⟨G, W⟩ := M
  exact ⟨G, x, y, W.s1, ha K G W.ok, fun H' M2 => k0 H' (W.comp M2)⟩
def sp_num (K : PySem.W.Frag) : Sp := fun vs H Q E => ∃ (G : Hp) (i j : Int), Same G H ∧ AtL K G vs [.int i, .int j] ∧ (∀ H', Mm K H G [] ([]) [] H' → Q (.bl (decide (i = j))) H')
theorem ok_num {f : Addr} {fd : FuncData} (F : Fun K "_law_number" "_law_number" s__law_number f fd) (T : Txt P K mg C CO fO CE fE)  :
    FnOk P w K mg base (L2.CX P w) (0 + 1) f fd ["_law_actual", "_law_due"] (sp_num K) := by
  refine okT F sc__law_number (fun vs H Q E h => ?_) (fun cdv A outer s H vs Q E hr tk h => ?_)
  · obtain ⟨G, i, j, _, hA, _⟩ := h
    rcases hA with _ | ⟨ha0, hA0⟩
    rcases hA0 with _ | ⟨ha1, hA1⟩
    cases hA1
    rfl
  obtain ⟨G, i, j, hsG, hA, k⟩ := h
  have f1 := T.i1; have f2 := T.i2; have f3 := T.i3; have f4 := T.i4; have f5 := T.i5; have f6 := T.cl; have f7 := T.nc; have f8 := T.ng; have f9 := T.oa; have f10 := T.on; have f11 := T.ot; have f12 := T.om
  rcases hA with _ | ⟨ha0, hA0⟩
  rcases hA0 with _ | ⟨ha1, hA1⟩
  cases hA1
  obtain rfl := ha0.isI
  obtain rfl := ha1.isI
  have M : Mm K H G [] [] [] H := Mm.start hsG (fun z hz => nomatch hz)
  refine ⟨_, (pss_one (ps_ret (pe_and (pe_callB call_isi (by rfl) T.b_isinstance (by decide +kernel) (pa_cons (pv 0) (pa_cons (g_ty (n := "int") T.b_int (by decide +kernel)) pa_nil))) (pe_and (pe_not (pe_callB call_isi (by rfl) T.b_isinstance (by decide +kernel) (pa_cons (pv 0) (pa_cons (g_ty (n := "bool") T.b_bool (by decide +kernel)) pa_nil)))) (pe_one (pe_cmpR op_eq (pv 0) (pv 1) (nomark _))))))), ?_⟩
  simp only [cxK, st__law_number]
  walk_at "go"
  exact k _ M
theorem use_num {B G0 H : Hp} {ms : List Addr} {X : List (Addr × D)} {L : List (V × D)} {Q : VK} {E : XK} {ws : List V} {i j : Int} (M : Mm K B G0 ms X L H) (ha : Hs L ws [.int i, .int j]) (k0 : ∀ H', Mm K B G0 ms (X) L H' → Q (.bl (decide (i = j))) H') : sp_num K ws H Q E := by
  obtain ⟨G, W⟩ := M
  exact ⟨G, i, j, W.s1, ha K G W.ok, fun H' M2 => k0 H' (W.comp M2)⟩
local macro_rules | `(tactic| walk_at "use") => `(tactic| with_reducible first
  | (refine' use_num ?k1 ?k2 ?_; (case k1 => assumption); (case k2 => walk_at "hass"); intro H' M')
  | fail)
def sp_is (K : PySem.W.Frag) (C : Addr) : Sp := fun vs H Q E => ∃ (G : Hp) (x y : Pr), Same G H ∧ AtL K G vs [stD C x, prD y] ∧ (∀ H', Mm K H G [] ([]) [] H' → Q (.bl (decide (x = y))) H')
theorem ok_is {f : Addr} {fd : FuncData} (F : Fun K "_law_is" "_law_is" s__law_is f fd) (T : Txt P K mg C CO fO CE fE) (c__law_number : Cal P w K mg base 1 "_law_number" (sp_num K)) :
    FnOk P w K mg base (L2.CX P w) (1 + 1) f fd ["_law_stay", "_law_days"] (sp_is K C) := by
  refine okT F sc__law_is (fun vs H Q E h => ?_) (fun cdv A outer s H vs Q E hr tk h => ?_)
  · obtain ⟨G, x, y, _, hA, _⟩ := h
    rcases hA with _ | ⟨ha0, hA0⟩
    rcases hA0 with _ | ⟨ha1, hA1⟩
    cases hA1
    rfl
  obtain ⟨G, x, y, hsG, hA, k⟩ := h
  have f1 := T.i1; have f2 := T.i2; have f3 := T.i3; have f4 := T.i4; have f5 := T.i5; have f6 := T.cl; have f7 := T.nc; have f8 := T.ng; have f9 := T.oa; have f10 := T.on; have f11 := T.ot; have f12 := T.om
  rcases hA with _ | ⟨ha0, hA0⟩
  rcases hA0 with _ | ⟨ha1, hA1⟩
  cases hA1
  obtain ⟨a0, rfl⟩ := ha0.refO
  obtain ⟨a1, rfl⟩ := ha1.refT
  have M : Mm K H G [] [] [(.ref a0, stD C x), (.ref a1, prD y)] H := Mm.start hsG (fun z hz => by
    simp only [List.mem_cons, List.not_mem_nil, or_false] at hz
    rcases hz with rfl | rfl
    · exact ha0
    · exact ha1)
  refine ⟨_, (pss_cons (ps_if (pt_not (pt_val (pe_callB call_isi (by rfl) T.b_isinstance (by decide +kernel) (pa_cons (pv 0) (pa_cons (g_ref T.g_Stay) pa_nil))))) (pss_one (ps_ret pe_bl)) pss_nil)
      (pss_one (ps_ret (pe_and (c_call c__law_number tk hr (by decide) (pa_cons (pe_fld (pv 0) rfl) (pa_cons (pe_ix ix_tup (pv 1) pe_int (fun _ _ => rfl)) pa_nil))) (pe_one (c_call c__law_number tk hr (by decide) (pa_cons (pe_fld (pv 0) rfl) (pa_cons (pe_ix ix_tup (pv 1) pe_int (fun _ _ => rfl)) pa_nil)))))))), ?_⟩
  simp only [cxK, st__law_is]
  walk_at "go"
  · rename_i h1 H9 M9
    have e : decide (x = y) = decide (x.2 = y.2) := by rw [Bool.eq_iff_iff]; simp [Prod.ext_iff, h1]
    rw [e] at k
    exact k _ M9.none
  · rename_i M9 h1
    have e : decide (x = y) = false := by simp [Prod.ext_iff, h1]
    rw [e] at k
    exact k _ M9.none
theorem use_is {B G0 H : Hp} {ms : List Addr} {X : List (Addr × D)} {L : List (V × D)} {Q : VK} {E : XK} {ws : List V} {x y : Pr} (M : Mm K B G0 ms X L H) (ha : Hs L ws [stD C x, prD y]) (k0 : ∀ H', Mm K B G0 ms (X) L H' → Q (.bl (decide (x = y))) H') : sp_is K C ws H Q E := by
  obtain ⟨G, W⟩ := M
  exact ⟨G, x, y, W.s1, ha K G W.ok, fun H' M2 => k0 H' (W.comp M2)⟩
/-- the box of draws -/
abbrev boxD (cs : List Int) (a b c : Int) : D := .lst [.lst (cs.map D.int), .int a, .int b, .int c]
structure Box (cs : List Int) (a b c : Int) : Prop where
  l : cs.length ≤ 63
  a0 : 0 ≤ a
  b0 : 0 ≤ b
  c0 : 0 ≤ c
  c1 : c < 2147483647
local macro_rules | `(tactic| walk_at "look") => `(tactic| first | assumption | with_unfolding_all rfl | exact atI_mapI (by omega) (by omega) | fail)
def sp_take (K : PySem.W.Frag) : Sp := fun vs H Q E => ∃ (G : Hp) (bg : Addr) (ws : List V) (cs : List Int) (a b c : Int) (m : Int), vs = .ref bg :: ws ∧ Same G H ∧ Mt K G H bg (boxD cs a b c) ∧ G bg = none ∧ AtL K G ws [.int m] ∧ (Box cs a b c) ∧ (1 ≤ m) ∧ (m < 2 ^ 60) ∧ (∀ (d a' b' c' : Int) H', (0 ≤ d ∧ d < m ∧ Box cs a' b' c') → Mm K H G [bg] ((bg, boxD cs a' b' c') :: []) [] H' → Q (.int d) H')
theorem ok_take {f : Addr} {fd : FuncData} (F : Fun K "_law_take" "_law_take" s__law_take f fd) (T : Txt P K mg C CO fO CE fE)  :
    FnOk P w K mg base (L2.CX P w) (0 + 1) f fd ["_law_box", "_law_limit"] (sp_take K) := by
  refine okT F sc__law_take (fun vs H Q E h => ?_) (fun cdv A outer s H vs Q E hr tk h => ?_)
  · obtain ⟨G, bg, ws, cs, a, b, c, m, rfl, _, _, _, hA, _⟩ := h
    rcases hA with _ | ⟨ha0, hA0⟩
    cases hA0
    rfl
  obtain ⟨G, bg, ws, cs, a, b, c, m, rfl, hsG, hmt, hgb, hA, p0, p1, p2, k⟩ := h
  have f1 := T.i1; have f2 := T.i2; have f3 := T.i3; have f4 := T.i4; have f5 := T.i5; have f6 := T.cl; have f7 := T.nc; have f8 := T.ng; have f9 := T.oa; have f10 := T.on; have f11 := T.ot; have f12 := T.om
  rcases hA with _ | ⟨ha0, hA0⟩
  cases hA0
  obtain rfl := ha0.isI
  have M : Mm K H G [bg] [(bg, boxD cs a b c)] [] H := Mm.start1 hsG hmt hgb (fun z hz => nomatch hz)
  refine ⟨_, (pss_cons (ps_set (i := 2) sc__law_take.nd rfl (Or.inl rfl) pe_int)
      (pss_cons (ps_if (PW.pt (pw_and (pt_cmpR op_eq (pe_ix ix_list (pv 0) pe_int (fun _ _ => rfl)) pe_int (nomark _)) (pw_and1 (pt_cmpR op_lt (pe_ix ix_list (pv 0) pe_int (fun _ _ => rfl)) (pe_callB b_len (by rfl) T.b_len (by decide +kernel) (pa_cons (pe_ix ix_list (pv 0) pe_int (fun _ _ => rfl)) pa_nil)) (nomark _))))) (pss_cons (ps_set (i := 2) sc__law_take.nd rfl (Or.inl rfl) (pe_ix ix_list (pe_ix ix_list (pv 0) pe_int (fun _ _ => rfl)) (pe_ix ix_list (pv 0) pe_int (fun _ _ => rfl)) (fun _ _ => rfl)))
      (pss_one (ps_asg (pe_op op_add (pe_ix ix_list (pv 0) pe_int (fun _ _ => rfl)) pe_int) (pg_sub (pv 0) pe_int set_list)))) pss_nil)
      (pss_cons (ps_if (PW.pt (pw_and (pt_cmpR op_eq (pe_ix ix_list (pv 0) pe_int (fun _ _ => rfl)) pe_int (nomark _)) (pw_and1 (pt_cmpR op_ge (pv 2) (pe_powC (n := 1000000000000000000)) (nomark _))))) (pss_one (ps_asg (pv 2) (pg_sub (pv 0) pe_int set_list))) pss_nil)
      (pss_cons (ps_if (pt_cmpR op_gt (pe_ix ix_list (pv 0) pe_int (fun _ _ => rfl)) pe_int (nomark _)) (pss_cons (ps_set (i := 3) sc__law_take.nd rfl (Or.inl rfl) (pe_op op_mod (pe_callTy b_int (by rfl) T.b_int (by decide +kernel) (pa_cons (pe_ix ix_list (pv 0) pe_int (fun _ _ => rfl)) pa_nil)) (pv 1)))
      (pss_cons (ps_asg (pe_op op_fdivW (pe_ix ix_list (pv 0) pe_int (fun _ _ => rfl)) (pv 1)) (pg_sub (pv 0) pe_int set_list))
      (pss_one (ps_ret (pv 3))))) pss_nil)
      (pss_cons (ps_asg (pe_op op_mod (pe_callTy b_int (by rfl) T.b_int (by decide +kernel) (pa_cons (pe_op op_add (pe_op op_mulU (pe_ix ix_list (pv 0) pe_int (fun _ _ => rfl)) pe_int) (pe_op op_mulU (pv 2) pe_int)) pa_nil)) pe_int) (pg_sub (pv 0) pe_int set_list))
      (pss_cons (ps_set (i := 4) sc__law_take.nd rfl (Or.inl rfl) (pe_op op_mod (pe_callTy b_int (by rfl) T.b_int (by decide +kernel) (pa_cons (pe_op op_add (pe_op op_mulU (pe_ix ix_list (pv 0) pe_int (fun _ _ => rfl)) (pe_ix ix_list (pv 0) pe_int (fun _ _ => rfl))) (pe_op op_mulU (pe_ix ix_list (pv 0) pe_int (fun _ _ => rfl)) pe_int)) pa_nil)) pe_int))
      (pss_one (ps_ret (pe_op op_mod (pe_op op_fdivW (pv 4) pe_int) (pv 1)))))))))), ?_⟩
  simp only [cxK, st__law_take]
  have hl : (cs.map D.int).length = cs.length := List.length_map _
  have hb1 := p0.l; have hb2 := p0.a0; have hb3 := p0.b0; have hb4 := p0.c0; have hb5 := p0.c1
  walk_at "go"
  all_goals
    rename_i M9
    refine k _ _ _ _ _ ?h M9.noL
    case h => exact ⟨Int.emod_nonneg _ (by omega), Int.emod_lt_of_pos _ (by omega), ⟨hb1, by omega, by first | omega | exact Int.ediv_nonneg (by omega) (by omega), by omega, by omega⟩⟩
theorem use_take {B G0 H : Hp} {ms : List Addr} {X : List (Addr × D)} {L : List (V × D)} {Q : VK} {E : XK} {ws : List V} {bg : Addr} {cs : List Int} {a b c : Int} {m : Int} (M : Mm K B G0 ms ((bg, boxD cs a b c) :: X) L H) (ha : Hs L ws [.int m]) (p0 : Box cs a b c) (p1 : 1 ≤ m) (p2 : m < 2 ^ 60) (k0 : ∀ (d a' b' c' : Int) H', (0 ≤ d ∧ d < m ∧ Box cs a' b' c') → Mm K B G0 ms ((bg, boxD cs a' b' c') :: X) L H' → Q (.int d) H') : sp_take K (.ref bg :: ws) H Q E := by
  obtain ⟨G, W⟩ := M
  exact ⟨G, bg, ws, cs, a, b, c, m, rfl, W.s1, W.chg (bg, boxD cs a b c) List.mem_cons_self, W.off (bg, boxD cs a b c) List.mem_cons_self, ha K G W.ok, p0, p1, p2, fun d a' b' c' H' hc M2 => k0 d a' b' c' H' hc (W.compAt (X1 := []) M2)⟩
theorem use_take1 {B G0 H : Hp} {ms : List Addr} {X : List (Addr × D)} {L : List (V × D)} {Q : VK} {E : XK} {ws : List V} {z0 : Addr × D} {bg : Addr} {cs : List Int} {a b c : Int} {m : Int} (M : Mm K B G0 ms (z0 :: (bg, boxD cs a b c) :: X) L H) (ha : Hs L ws [.int m]) (p0 : Box cs a b c) (p1 : 1 ≤ m) (p2 : m < 2 ^ 60) (k0 : ∀ (d a' b' c' : Int) H', (0 ≤ d ∧ d < m ∧ Box cs a' b' c') → Mm K B G0 ms (z0 :: (bg, boxD cs a' b' c') :: X) L H' → Q (.int d) H') : sp_take K (.ref bg :: ws) H Q E := by
  obtain ⟨G, W⟩ := M
  exact ⟨G, bg, ws, cs, a, b, c, m, rfl, W.s1, W.chg (bg, boxD cs a b c) (by simp), W.off (bg, boxD cs a b c) (by simp), ha K G W.ok, p0, p1, p2, fun d a' b' c' H' hc M2 => k0 d a' b' c' H' hc (W.compAt (X1 := [z0]) M2)⟩
theorem use_take2 {B G0 H : Hp} {ms : List Addr} {X : List (Addr × D)} {L : List (V × D)} {Q : VK} {E : XK} {ws : List V} {z0 z1 : Addr × D} {bg : Addr} {cs : List Int} {a b c : Int} {m : Int} (M : Mm K B G0 ms (z0 :: z1 :: (bg, boxD cs a b c) :: X) L H) (ha : Hs L ws [.int m]) (p0 : Box cs a b c) (p1 : 1 ≤ m) (p2 : m < 2 ^ 60) (k0 : ∀ (d a' b' c' : Int) H', (0 ≤ d ∧ d < m ∧ Box cs a' b' c') → Mm K B G0 ms (z0 :: z1 :: (bg, boxD cs a' b' c') :: X) L H' → Q (.int d) H') : sp_take K (.ref bg :: ws) H Q E := by
  obtain ⟨G, W⟩ := M
  exact ⟨G, bg, ws, cs, a, b, c, m, rfl, W.s1, W.chg (bg, boxD cs a b c) (by simp), W.off (bg, boxD cs a b c) (by simp), ha K G W.ok, p0, p1, p2, fun d a' b' c' H' hc M2 => k0 d a' b' c' H' hc (W.compAt (X1 := [z0, z1]) M2)⟩
theorem use_take3 {B G0 H : Hp} {ms : List Addr} {X : List (Addr × D)} {L : List (V × D)} {Q : VK} {E : XK} {ws : List V} {z0 z1 z2 : Addr × D} {bg : Addr} {cs : List Int} {a b c : Int} {m : Int} (M : Mm K B G0 ms (z0 :: z1 :: z2 :: (bg, boxD cs a b c) :: X) L H) (ha : Hs L ws [.int m]) (p0 : Box cs a b c) (p1 : 1 ≤ m) (p2 : m < 2 ^ 60) (k0 : ∀ (d a' b' c' : Int) H', (0 ≤ d ∧ d < m ∧ Box cs a' b' c') → Mm K B G0 ms (z0 :: z1 :: z2 :: (bg, boxD cs a' b' c') :: X) L H' → Q (.int d) H') : sp_take K (.ref bg :: ws) H Q E := by
  obtain ⟨G, W⟩ := M
  exact ⟨G, bg, ws, cs, a, b, c, m, rfl, W.s1, W.chg (bg, boxD cs a b c) (by simp), W.off (bg, boxD cs a b c) (by simp), ha K G W.ok, p0, p1, p2, fun d a' b' c' H' hc M2 => k0 d a' b' c' H' hc (W.compAt (X1 := [z0, z1, z2]) M2)⟩
theorem cutV_map {ns : List Int} {lo hi : Option Int} : cutV (ns.map V.int) lo hi = (cutG ns lo hi).map V.int := by
  unfold cutV cutG
  rw [List.length_map, List.map_take, List.map_drop]
theorem cut_le {α : Type} {ns : List α} : (cutG ns none (some 63)).length ≤ 63 := by
  unfold cutG
  have h0 : HT.sIx ns.length 0 none = 0 := rfl
  have h1 : HT.sIx ns.length ns.length (some 63) = min 63 ns.length := rfl
  rw [h0, h1, List.length_take]
  omega
theorem d_slS {B G0 H : Hp} {ms : List Addr} {X : List (Addr × D)} {L : List (V × D)} {Q : VK} {p : Addr} {ns : List Int} {lo hi : Option Int} (M : Mm K B G0 ms X L H) (hS : SqL K H p (ns.map V.int)) (q : ∀ a H', Mm K B G0 ms X ((.ref a, .lst ((cutG ns lo hi).map D.int)) :: L) H' → Q (.ref a) H') : rSlL K (.ref p) lo hi H Q :=
  ⟨p, _, rfl, hS, fun a ha => q a _ (by rw [cutV_map]; exact M.newL ha (Hs.ints _))⟩
def sp_draws (K : PySem.W.Frag) : Sp := fun vs H Q _ => ∃ (G : Hp) (a : Addr) (ns : List Int), vs = [.ref a] ∧ Same G H ∧ SqL K H a (ns.map V.int) ∧ ∀ (bg : Addr) (cs : List Int) (c : Int) H', Box cs 0 0 c → Mm K H G [] [(bg, boxD cs 0 0 c)] [] H' → Q (.ref bg) H'
local macro_rules | `(tactic| walk_at "lst") => `(tactic| (refine' d_lstX ?k1 ?k2 ?k3 ?_; (case k1 => assumption); (case k2 => walk_at "hass"); (case k3 => walk_at "size"); intro p' H' M'))
theorem ok_draws {f : Addr} {fd : FuncData} (F : Fun K "_law_draws" "_law_draws" s__law_draws f fd) (T : Txt P K mg C CO fO CE fE)  :
    FnOk P w K mg base (L2.CX P w) (0 + 1) f fd ["_law_script"] (sp_draws K) := by
  refine okT F sc__law_draws (fun vs H Q E h => ?_) (fun cdv A outer s H vs Q E hr tk h => ?_)
  · obtain ⟨G, a, ns, rfl, _⟩ := h
    rfl
  obtain ⟨G, a, ns, rfl, hsG, hS, k⟩ := h
  have f1 := T.i1; have f2 := T.i2; have f3 := T.i3; have f4 := T.i4; have f5 := T.i5; have f6 := T.cl; have f7 := T.nc; have f8 := T.ng; have f9 := T.oa; have f10 := T.on; have f11 := T.ot; have f12 := T.om
  refine ⟨_, (pss_cons (ps_setLc (i := 1) (own := [("_law_cell", 3)]) (g := gName 3) (tt := tYes) rfl sc__law_draws.nd rfl rfl (sw_true rfl rfl rfl (by decide +kernel)) (pi_list (pe_slice sl_list (pv 0) po_none (po_some pe_int))) (blkOk_by (own := [("_law_cell", 3)]) (N := N__law_draws) (sc := defScope s__law_draws) (by decide +kernel)) (fun _ _ _ _ _ => pg_name (i := 3) sc__law_draws.nd rfl (Or.inl rfl)) (fun _ _ _ _ _ => pts_nil) (fun _ _ _ _ _ => (pe_callTy b_int (by rfl) T.b_int (by decide +kernel) (pa_cons (pv 3) pa_nil))))
      (pss_cons (ps_set (i := 2) sc__law_draws.nd rfl (Or.inl rfl) pe_int)
      (pss_cons (ps_for (passes_of rfl) rfl (pi_list (pv 1)) (pg_name (i := 3) sc__law_draws.nd rfl (Or.inl rfl)) (pss_one (ps_set (i := 2) sc__law_draws.nd rfl (Or.inl rfl) (pe_op op_mod (pe_callTy b_int (by rfl) T.b_int (by decide +kernel) (pa_cons (pe_op op_add (pe_op op_add (pe_op op_mulU (pv 2) pe_int) (pe_op op_mulU (pv 3) pe_int)) pe_int) pa_nil)) pe_int))))
      (pss_one (ps_ret (pe_lst (pa_cons (pv 1) (pa_cons pe_int (pa_cons pe_int (pa_cons (pv 2) pa_nil)))))))))), ?_⟩
  simp only [cxK, st__law_draws]
  have M : Mm K H G [] [] [] H := Mm.start hsG (fun z hz => nomatch hz)
  walk_at "go"
  refine d_slS M hS fun p1 H1' M1 => ?_
  have hl := cut_le (ns := ns)
  generalize cutG ns none (some 63) = cs at M1 hl
  have hcl : (cs.map D.int).length = cs.length := List.length_map _
  walk_at "go"
  refine lcS (src_lst (ds := cs.map D.int)) M1 (fun i => (cs.take i).map D.int) (fun _ _ => .inl List.mem_cons_self) rfl ?_ ?_
  · intro i x A0 H' hi M'
    rw [hcl] at hi
    rw [getD_map hi] at M'
    have hnext := take_map (f := D.int) hi
    generalize cs.getD i default = tm at M' hnext
    obtain rfl := M'.isI
    walk_at "go"
    refine ⟨rfl, ?_⟩
    walk_at "go"
    exact lc_add M' H1.int (fun z hz => List.mem_cons_of_mem _ hz) (by simp; omega) hnext
  · intro u Hu M2
    rw [hcl, List.take_length] at M2
    have M3 := M2.freeze
    clear M2 M1
    walk_at "go"
    refine forS (src_lst (ds := cs.map D.int)) (fun _ => []) M3 (fun i σ' => ∃ (c : Int) (v2 : Option V), σ' = [some (.ref a), some (.ref u), some (.int c), v2] ∧ 0 ≤ c ∧ c < 2147483647) (fun _ => .inl List.mem_cons_self) ⟨0, _, rfl, by omega⟩ ?_ ?_
    · rintro i x σ' H' hi ⟨c, v2, rfl, h1, h2⟩ M'
      rw [hcl] at hi
      rw [getD_map hi] at M'
      generalize cs.getD i default = tm at M'
      obtain rfl := M'.isI
      walk_at "go"
      exact ⟨⟨_, _, rfl, by omega⟩, M'.dropL⟩
    · rintro σ' H' ⟨c, v2, rfl, h1, h2⟩ M'
      walk_at "go"
      rename_i M9
      exact k _ cs c _ ⟨hl, by omega, by omega, h1, h2⟩ M9.noL
theorem use_draws {B G0 H : Hp} {ms : List Addr} {X : List (Addr × D)} {L : List (V × D)} {Q : VK} {E : XK} {a : Addr} {ns : List Int} (M : Mm K B G0 ms X L H) (hS : SqL K H a (ns.map V.int)) (k : ∀ bg cs c H', Box cs 0 0 c → Mm K B G0 ms ((bg, boxD cs 0 0 c) :: X) L H' → Q (.ref bg) H') : sp_draws K [.ref a] H Q E := by
  obtain ⟨G, W⟩ := M
  exact ⟨G, a, ns, rfl, W.s1, hS, fun bg cs c H' hc M2 => k bg cs c H' hc (W.comp M2)⟩
end
end K20

set_option Elab.async false
set_option linter.all false
set_option maxRecDepth 100000
set_option maxHeartbeats 8000000
namespace K20
open PySem L2 MyL
local macro_rules | `(tactic| walk_at "sub") => `(tactic| first | exact sub_nil | exact sub_self | (refine' sub_cons ?k1 ?k2; (case k1 => walk_at "mem"); (case k2 => walk_at "sub")) | (refine' sub_app ?k1 ?k2; (case k1 => walk_at "sub"); (case k2 => walk_at "sub")) | (refine sub_tail ?_; walk_at "sub") | fail)
local macro_rules | `(tactic| walk_at "mem") => `(tactic| first | exact List.mem_cons_self | (refine List.mem_cons_of_mem _ ?_; walk_at "mem") | (refine List.mem_append_right _ ?_; walk_at "mem") | (refine List.mem_append_left _ ?_; walk_at "mem") | assumption | fail)
local macro_rules | `(tactic| walk_at "inl") => `(tactic| first | (refine Or.inl ?_; walk_at "mem") | (refine Or.inr ?_; walk_at "mem") | fail)
local macro_rules | `(tactic| walk_at "has1") => `(tactic| first | exact H1.int | exact H1.str | exact H1.bl | exact H1.non | exact H1.mem (by walk_at "mem") | assumption | fail)
local macro_rules | `(tactic| walk_at "hass") => `(tactic| first | exact Hs.nil | (refine' Hs.cons ?k1 ?k2; (case k1 => walk_at "has1"); (case k2 => walk_at "hass")) | exact Hs.ints _ | assumption | fail)
local macro_rules | `(tactic| walk_at "kn") => `(tactic| first | (refine Or.inl ?_; walk_at "has1") | (refine Or.inr ⟨_, _, rfl, rfl, ?_⟩; walk_at "mem") | fail)
local macro_rules | `(tactic| walk_at "sh") => `(tactic| first | exact Sh.int | exact Sh.bl | exact Sh.non | exact Sh.str (by decide) | assumption | (refine Sh.tupM ?_; intro x' hx'; walk_at "sh") | (refine Sh.lstM ?_; intro x' hx'; walk_at "sh") | (refine Sh.tup ?_; walk_at "shs") | (refine Sh.lst ?_; walk_at "shs") | fail)
local macro_rules | `(tactic| walk_at "shs") => `(tactic| first | exact Sh.nil | (refine' Sh.cons ?k1 ?k2; (case k1 => walk_at "sh"); (case k2 => walk_at "shs")) | fail)
local macro_rules | `(tactic| walk_at "lt") => `(tactic| first | omega | (simp only [List.length_map, List.length_range, List.length_append, List.length_cons, List.length_nil, List.length_replicate, List.length_set]; omega) | fail)
local macro_rules | `(tactic| walk_at "few") => `(tactic| first | decide | simp | fail)
local macro_rules | `(tactic| walk_at "lof") => `(tactic| (refine' d_listI ?k1 ?k2 ?_; (case k1 => assumption); (case k2 => first | (refine Or.inl ?_; walk_at "inl") | (refine Or.inr ?_; walk_at "mem") | fail); intro p' H' M'))
local macro_rules | `(tactic| walk_at "lst") => `(tactic| (refine' d_lst ?k1 ?k2 ?k3 ?_; (case k1 => assumption); (case k2 => walk_at "hass"); (case k3 => walk_at "size"); intro p' H' M'))
local macro_rules | `(tactic| walk_at "cond") => `(tactic| first | omega | assumption | exact mulR (by omega) (by omega) | exact mulL (by omega) (by omega) | exact divW (by omega) (by omega) | decide)
local macro_rules | `(tactic| walk_at "look") => `(tactic| first | assumption | with_unfolding_all rfl | exact atI_mapI (by omega) (by omega) | exact atI_mapL (by omega) (by omega) | exact atI_mapD (by omega) (by omega) | fail)
local macro_rules | `(tactic| walk_at "go1") => `(tactic| with_reducible first
  | refine k_yes ?_ | refine k_seq ?_ | refine k_gName ?_ | refine k_asg ?_ | refine k_ret ?_ | refine k_ifS ?_ | refine k_drop ?_ | refine k_next ?_ | refine k_break ?_ | refine k_cont ?_ | refine k_retN ?_
  | (refine' k_var ?k1 ?_; (case k1 => with_unfolding_all rfl)) | refine k_c ?_ | refine k_op ?_ | refine k_un ?_ | refine k_test ?_ | refine k_B ?_ | refine k_bl ?_ | refine k_and ?_ | refine k_or ?_ | refine k_not ?_
  | refine k_andV ?_ | refine k_orV ?_ | refine k_notV ?_ | refine k_ifE ?_ | refine k_nil ?_ | refine k_cons ?_ | refine k_cb ?_ | refine k_callS ?_ | refine k_lst0 ?_ | refine k_tup0 ?_ | refine k_fld0 ?_ | refine k_sub0 ?_ | refine k_make0 ?_ | refine k_prop0 ?_ | refine k_sta0 ?_ | refine k_sta ?_ | refine k_bm ?_ | refine k_bm0 ?_ | refine k_chain ?_ | refine k_makeK0 ?_ | refine k_swapK ?_ | refine k_meth0 ?_ | refine k_ownN0 ?_ | refine k_ownO0 ?_ | refine k_sfldS ?_ | refine k_jnil ?_ | refine k_jcons ?_ | refine k_fmt0 ?_ | refine k_sl0 ?_ | refine k_nopart ?_ | refine k_part ?_ | refine k_forR1 ?_ | refine k_forR2 ?_ | refine k_forL ?_ | refine k_forT ?_ | refine k_lcR1 ?_ | refine k_lc2R1 ?_ | refine k_lc2R2 ?_ | refine k_lc2L ?_ | refine k_lc2T ?_ | refine k_iR1 ?_ | refine k_iR2 ?_ | refine k_iL ?_ | refine k_iT ?_ | refine k_lcR2 ?_ | refine k_lcL ?_ | refine k_lcT ?_ | refine k_err0 ?_ | refine k_xf0 ?_ | refine k_errQ1 ?_ | refine k_errQ0 ?_ | refine k_errQ2 ?_ | refine k_errQ3 ?_
  | refine k_I0 ?_ | (refine k_I ?k1 ?_; (case k1 => walk_at "cond")) | refine k_U ?_ | refine k_eqI ?_ | refine k_neI ?_ | refine k_eqB ?_ | refine k_neB ?_ | refine k_eqS ?_ | refine k_neS ?_
  | refine k_int1 ?_ | refine k_abs1 ?_ | refine k_min2 ?_ | refine k_max2 ?_
  | (refine' k_lenS ?k1 ?_; (case k1 => assumption)) | (refine' k_ixS ?k1 ?k2 ?_; (case k1 => assumption); (case k2 => walk_at "look"))
  | refine iteT ?_ | refine iteF ?_ | refine k_iteNE ?_ | refine k_iteNS ?_ | refine k_iteNT ?_ | refine k_iteNF ?_
  | (refine k_iteD ?_ ?_ <;> intro hc <;> first | (exfalso; omega) | skip)
  | (refine k_iteN ?_ ?_ <;> intro hc <;> first | (exfalso; omega) | skip)
  | (refine' k_isiI ?k1 ?_; (case k1 => assumption))
  | (refine' k_jst ?k1 ?_; (case k1 => walk_at "size")) | (refine' k_fmtI ?k1 ?_; (case k1 => exact log2_64 (by omega) (by omega))) | (refine' k_strI ?k1 ?_; (case k1 => exact log2_64 (by omega) (by omega)))
  | (refine k_addS ?k1 ?_; (case k1 => walk_at "size")) | refine k_st ?_ | refine k_parti ?_
  | (refine k_rng1 ?k1 ?k2 ?_; (case k1 => omega); (case k2 => omega)) | (refine k_rng2 ?k1 ?k2 ?k3 ?k4 ?_; (case k1 => omega); (case k2 => omega); (case k3 => omega); (case k4 => omega))
  | (refine' k_isXs ?k1 ?k2 ?_; (case k1 => assumption); (case k2 => walk_at "hp")) | (refine' k_isXo ?k1 ?k2 ?k3 ?_; (case k1 => assumption); (case k2 => walk_at "hp"); (case k3 => assumption)) | (refine' k_isXt ?k1 ?k2 ?k3 ?_; (case k1 => assumption); (case k2 => walk_at "hp"); (case k3 => assumption))
  | (refine' k_isX3 ?k1 ?k2 ?k3 ?k4 ?_; (case k1 => assumption); (case k2 => walk_at "hp"); (case k3 => walk_at "hp"); (case k4 => assumption)) | (refine' k_isX2 ?k1 ?k2 ?k3 ?k4 ?_; (case k1 => assumption); (case k2 => walk_at "hp"); (case k3 => walk_at "hp"); (case k4 => assumption))
  | (refine' k_isX0s ?k1 ?_; (case k1 => assumption)) | (refine' k_isX0o ?k1 ?k2 ?_; (case k1 => assumption); (case k2 => assumption)) | (refine' k_isX0t ?k1 ?k2 ?_; (case k1 => assumption); (case k2 => assumption)) | (refine' k_isX04 ?k1 ?k2 ?k3 ?_; (case k1 => assumption); (case k2 => walk_at "hp"); (case k3 => assumption))
  | (refine' k_isX4 ?k1 ?k2 ?k3 ?k4 ?_; (case k1 => assumption); (case k2 => walk_at "hp"); (case k3 => walk_at "hp"); (case k4 => assumption)) | (refine' k_ixT2 ?k1 ?k2 ?k3 ?_; (case k1 => walk_at "hp"); (case k2 => omega); (case k3 => omega); intro n' hn')
  | (refine k_iteNEq ?k1 ?_; (case k1 => (rw [Bool.eq_iff_iff]; first | (simp; done) | (simp; omega))))
  | (refine' k_xf ?k1 ?k2 ?_; (case k1 => walk_at "hp"); (case k2 => first | exact xd1 | exact xdH | exact xd2 (by decide +kernel)))
  | (refine' k_caught ?k1 ?_; (case k1 => assumption); intro a' ha')
  | refine k_asgT ?_ | refine k_gCons ?_ | refine k_gNil ?_ | refine k_par ?_ | refine k_two ?_ | refine k_isNn ?_ | refine k_isNi ?_ | refine k_notNn ?_ | refine k_notNi ?_ | refine k_isN ?_ | refine k_notN ?_
  | (refine' k_xfB ?k1 ?k2 ?_; (case k1 => walk_at "hp"); (case k2 => first | exact xd1 | exact xdH | exact xd2 (by decide +kernel)))
  | (refine' d_ixLI ?k1 ?k2 ?k3 ?_; (case k1 => assumption); (case k2 => walk_at "inl"); (case k3 => walk_at "look"))
  | (refine' d_ixLS ?k1 ?k2 ?k3 ?_; (case k1 => assumption); (case k2 => walk_at "inl"); (case k3 => walk_at "look"))
  | (refine' d_ixLB ?k1 ?k2 ?k3 ?_; (case k1 => assumption); (case k2 => walk_at "inl"); (case k3 => walk_at "look"))
  | (refine' d_ixL ?k1 ?k2 ?k3 ?_; (case k1 => assumption); (case k2 => walk_at "inl"); (case k3 => walk_at "look"); intro v' M'; first | (have e' := Mm.isI M'; subst e') | (have e' := Mm.isS M'; subst e') | (have e' := Mm.isB M'; subst e') | (have e' := Mm.isN M'; subst e') | (obtain ⟨p', e'⟩ := Mm.isT M'; subst e') | (obtain ⟨p', e'⟩ := Mm.isL M'; subst e') | (obtain ⟨p', e'⟩ := Mm.isO M'; subst e') | skip)
  | (refine' d_ixTI ?k1 ?k2 ?k3 ?_; (case k1 => assumption); (case k2 => walk_at "mem"); (case k3 => walk_at "look"))
  | (refine' d_ixTS ?k1 ?k2 ?k3 ?_; (case k1 => assumption); (case k2 => walk_at "mem"); (case k3 => walk_at "look"))
  | (refine' d_ixTB ?k1 ?k2 ?k3 ?_; (case k1 => assumption); (case k2 => walk_at "mem"); (case k3 => walk_at "look"))
  | (refine' d_ixT ?k1 ?k2 ?k3 ?_; (case k1 => assumption); (case k2 => walk_at "mem"); (case k3 => walk_at "look"); intro v' M'; first | (have e' := Mm.isI M'; subst e') | (have e' := Mm.isS M'; subst e') | (have e' := Mm.isB M'; subst e') | (have e' := Mm.isN M'; subst e') | (obtain ⟨p', e'⟩ := Mm.isT M'; subst e') | (obtain ⟨p', e'⟩ := Mm.isL M'; subst e') | (obtain ⟨p', e'⟩ := Mm.isO M'; subst e') | skip)
  | (refine' d_ixc2 ?k1 ?k2 ?k3 ?k4 ?_; (case k1 => assumption); (case k2 => walk_at "inl"); (case k3 => omega); (case k4 => omega); intro n' hn')
  | (refine' d_ixc3 ?k1 ?k2 ?k3 ?k4 ?_; (case k1 => assumption); (case k2 => walk_at "inl"); (case k3 => omega); (case k4 => omega); intro n' hn')
  | (refine' d_ixc4 ?k1 ?k2 ?k3 ?k4 ?_; (case k1 => assumption); (case k2 => walk_at "inl"); (case k3 => omega); (case k4 => omega); intro n' hn')
  | (refine' d_ixc5 ?k1 ?k2 ?k3 ?k4 ?_; (case k1 => assumption); (case k2 => walk_at "inl"); (case k3 => omega); (case k4 => omega); intro n' hn')
  | (refine' d_ixc6 ?k1 ?k2 ?k3 ?k4 ?_; (case k1 => assumption); (case k2 => walk_at "inl"); (case k3 => omega); (case k4 => omega); intro n' hn')
  | (refine' d_ixc7 ?k1 ?k2 ?k3 ?k4 ?_; (case k1 => assumption); (case k2 => walk_at "inl"); (case k3 => omega); (case k4 => omega); intro n' hn')
  | (refine' d_ixc8 ?k1 ?k2 ?k3 ?k4 ?_; (case k1 => assumption); (case k2 => walk_at "inl"); (case k3 => omega); (case k4 => omega); intro n' hn')
  | (refine' d_ixc9 ?k1 ?k2 ?k3 ?k4 ?_; (case k1 => assumption); (case k2 => walk_at "inl"); (case k3 => omega); (case k4 => omega); intro n' hn')
  | (refine' d_lenL ?k1 ?k2 ?_; (case k1 => assumption); (case k2 => walk_at "inl"))
  | (refine' d_lenT ?k1 ?k2 ?_; (case k1 => assumption); (case k2 => walk_at "mem"))
  | (refine' d_lenQ ?k1 ?k2 ?_; (case k1 => assumption); (case k2 => walk_at "mem"))
  | (refine' d_lst0 ?k1 ?_; (case k1 => assumption); intro p' H' M')
  | (refine' d_tup ?k1 ?k2 ?k3 ?_; (case k1 => assumption); (case k2 => walk_at "hass"); (case k3 => walk_at "size"); intro p' H' M')
  | (refine' d_tupR ?k1 ?k2 ?_; (case k1 => assumption); (case k2 => walk_at "size"); intro p' H' hp' M')
  | walk_at "lst"
  | (refine' d_fldI ?k1 ?k2 ?k3 ?k4 ?k5 ?_; (case k1 => assumption); (case k2 => walk_at "mem"); (case k3 => assumption); (case k4 => assumption); (case k5 => walk_at "fld"))
  | (refine' d_fld ?k1 ?k2 ?k3 ?k4 ?k5 ?_; (case k1 => assumption); (case k2 => walk_at "mem"); (case k3 => assumption); (case k4 => assumption); (case k5 => walk_at "fld"); intro v' M'; first | (have e' := Mm.isI M'; subst e') | (have e' := Mm.isS M'; subst e') | (have e' := Mm.isB M'; subst e') | (have e' := Mm.isN M'; subst e') | (obtain ⟨p', e'⟩ := Mm.isT M'; subst e') | (obtain ⟨p', e'⟩ := Mm.isL M'; subst e') | (obtain ⟨p', e'⟩ := Mm.isO M'; subst e') | skip)
  | (refine' d_fldX0 ?k1 ?k2 ?k3 ?k4 ?_; (case k1 => assumption); (case k2 => assumption); (case k3 => assumption); (case k4 => walk_at "fld"); intro v' M'; first | (have e' := Mm.isI M'; subst e') | (have e' := Mm.isS M'; subst e') | (have e' := Mm.isB M'; subst e') | (have e' := Mm.isN M'; subst e') | (obtain ⟨p', e'⟩ := Mm.isT M'; subst e') | (obtain ⟨p', e'⟩ := Mm.isL M'; subst e') | (obtain ⟨p', e'⟩ := Mm.isO M'; subst e') | skip)
  | (refine' d_fldX1 ?k1 ?k2 ?k3 ?k4 ?_; (case k1 => assumption); (case k2 => assumption); (case k3 => assumption); (case k4 => walk_at "fld"); intro v' M'; first | (have e' := Mm.isI M'; subst e') | (have e' := Mm.isS M'; subst e') | (have e' := Mm.isB M'; subst e') | (have e' := Mm.isN M'; subst e') | (obtain ⟨p', e'⟩ := Mm.isT M'; subst e') | (obtain ⟨p', e'⟩ := Mm.isL M'; subst e') | (obtain ⟨p', e'⟩ := Mm.isO M'; subst e') | skip)
  | (refine' d_gT2I ?k1 ?k2 ?k3 ?_; (case k1 => assumption); (case k2 => walk_at "mem"); (case k3 => with_unfolding_all rfl))
  | (refine' d_gT2 ?k1 ?k2 ?k3 ?_; (case k1 => assumption); (case k2 => walk_at "mem"); (case k3 => with_unfolding_all rfl); intro v1' v2' M'; (first | (have e' := Mm.isI M'; subst e') | (have e' := Mm.isS M'; subst e') | (have e' := Mm.isB M'; subst e') | (have e' := Mm.isN M'; subst e') | (obtain ⟨p', e'⟩ := Mm.isT M'; subst e') | (obtain ⟨p', e'⟩ := Mm.isL M'; subst e') | (obtain ⟨p', e'⟩ := Mm.isO M'; subst e') | skip); (first | (have e' := Mm.isI (Mm.dropL M'); subst e') | (have e' := Mm.isS (Mm.dropL M'); subst e') | (have e' := Mm.isB (Mm.dropL M'); subst e') | (have e' := Mm.isN (Mm.dropL M'); subst e') | (obtain ⟨p2', e'⟩ := Mm.isT (Mm.dropL M'); subst e') | (obtain ⟨p2', e'⟩ := Mm.isL (Mm.dropL M'); subst e') | (obtain ⟨p2', e'⟩ := Mm.isO (Mm.dropL M'); subst e') | skip))
  | (refine' d_gT3 ?k1 ?k2 ?k3 ?_; (case k1 => assumption); (case k2 => walk_at "mem"); (case k3 => with_unfolding_all rfl); intro v1' v2' v3' M'; (first | (have e' := Mm.isI M'; subst e') | (have e' := Mm.isS M'; subst e') | (have e' := Mm.isB M'; subst e') | (have e' := Mm.isN M'; subst e') | (obtain ⟨p', e'⟩ := Mm.isT M'; subst e') | (obtain ⟨p', e'⟩ := Mm.isL M'; subst e') | (obtain ⟨p', e'⟩ := Mm.isO M'; subst e') | skip); (first | (have e' := Mm.isI (Mm.dropL M'); subst e') | (have e' := Mm.isS (Mm.dropL M'); subst e') | (have e' := Mm.isB (Mm.dropL M'); subst e') | (have e' := Mm.isN (Mm.dropL M'); subst e') | (obtain ⟨p2', e'⟩ := Mm.isT (Mm.dropL M'); subst e') | (obtain ⟨p2', e'⟩ := Mm.isL (Mm.dropL M'); subst e') | (obtain ⟨p2', e'⟩ := Mm.isO (Mm.dropL M'); subst e') | skip); (first | (have e' := Mm.isI (Mm.dropL (Mm.dropL M')); subst e') | (have e' := Mm.isS (Mm.dropL (Mm.dropL M')); subst e') | (have e' := Mm.isB (Mm.dropL (Mm.dropL M')); subst e') | (have e' := Mm.isN (Mm.dropL (Mm.dropL M')); subst e') | (obtain ⟨p3', e'⟩ := Mm.isT (Mm.dropL (Mm.dropL M')); subst e') | (obtain ⟨p3', e'⟩ := Mm.isL (Mm.dropL (Mm.dropL M')); subst e') | (obtain ⟨p3', e'⟩ := Mm.isO (Mm.dropL (Mm.dropL M')); subst e') | skip))
  | (refine' d_app0 ?k1 ?k2 ?k3 ?_; (case k1 => assumption); (case k2 => walk_at "has1"); (case k3 => walk_at "size"); intro H' M')
  | (refine' d_app1 ?k1 ?k2 ?k3 ?_; (case k1 => assumption); (case k2 => walk_at "has1"); (case k3 => walk_at "size"); intro H' M')
  | (refine' d_app2 ?k1 ?k2 ?k3 ?_; (case k1 => assumption); (case k2 => walk_at "has1"); (case k3 => walk_at "size"); intro H' M')
  | (refine' d_app3 ?k1 ?k2 ?k3 ?_; (case k1 => assumption); (case k2 => walk_at "has1"); (case k3 => walk_at "size"); intro H' M')
  | (refine' d_set0 ?k1 ?k2 ?k3 ?k4 ?_; (case k1 => assumption); (case k2 => walk_at "has1"); (case k3 => omega); (case k4 => walk_at "lt"); intro H' M')
  | (refine' d_set1 ?k1 ?k2 ?k3 ?k4 ?_; (case k1 => assumption); (case k2 => walk_at "has1"); (case k3 => omega); (case k4 => walk_at "lt"); intro H' M')
  | (refine' d_set2 ?k1 ?k2 ?k3 ?k4 ?_; (case k1 => assumption); (case k2 => walk_at "has1"); (case k3 => omega); (case k4 => walk_at "lt"); intro H' M')
  | (refine' d_set3 ?k1 ?k2 ?k3 ?k4 ?_; (case k1 => assumption); (case k2 => walk_at "has1"); (case k3 => omega); (case k4 => walk_at "lt"); intro H' M')
  | (refine' d_reverse0 ?k1 ?_; (case k1 => assumption); intro H' M')
  | (refine' d_reverse1 ?k1 ?_; (case k1 => assumption); intro H' M')
  | (refine' d_reverse2 ?k1 ?_; (case k1 => assumption); intro H' M')
  | (refine' d_clear0 ?k1 ?_; (case k1 => assumption); intro H' M')
  | (refine' d_clear1 ?k1 ?_; (case k1 => assumption); intro H' M')
  | (refine' d_clear2 ?k1 ?_; (case k1 => assumption); intro H' M')
  | (refine' d_sfld0 ?k1 ?k2 ?k3 ?k4 ?k5 ?_; (case k1 => assumption); (case k2 => walk_at "has1"); (case k3 => assumption); (case k4 => assumption); (case k5 => walk_at "few"); intro H' M')
  | (refine' d_sfld1 ?k1 ?k2 ?k3 ?k4 ?k5 ?_; (case k1 => assumption); (case k2 => walk_at "has1"); (case k3 => assumption); (case k4 => assumption); (case k5 => walk_at "few"); intro H' M')
  | (refine' d_tyL2 ?k1 ?k2 ?_; (case k1 => assumption); (case k2 => walk_at "inl"))
  | (refine' d_inIL ?k1 ?k2 ?_; (case k1 => assumption); (case k2 => walk_at "inl"))
  | (refine' d_notIL ?k1 ?k2 ?_; (case k1 => assumption); (case k2 => walk_at "inl"))
  | (refine' d_inIT ?k1 ?k2 ?_; (case k1 => assumption); (case k2 => walk_at "mem"))
  | (refine' d_notIT ?k1 ?k2 ?_; (case k1 => assumption); (case k2 => walk_at "mem"))
  | (refine' d_eqE ?k1 ?k2 ?k3 ?_; (case k1 => assumption); (case k2 => walk_at "inl"); (case k3 => walk_at "inl"))
  | (refine' d_neE ?k1 ?k2 ?k3 ?_; (case k1 => assumption); (case k2 => walk_at "inl"); (case k3 => walk_at "inl"))
  | (refine' d_eq ?k1 ?k2 ?k3 ?k4 ?k5 ?_; (case k1 => assumption); (case k2 => walk_at "kn"); (case k3 => walk_at "kn"); (case k4 => walk_at "sh"); (case k5 => walk_at "sh"))
  | (refine' d_ne ?k1 ?k2 ?k3 ?k4 ?k5 ?_; (case k1 => assumption); (case k2 => walk_at "kn"); (case k3 => walk_at "kn"); (case k4 => walk_at "sh"); (case k5 => walk_at "sh"))
  | (refine' d_inD ?k1 ?k2 ?k3 ?k4 ?k5 ?_; (case k1 => assumption); (case k2 => walk_at "kn"); (case k3 => walk_at "kn"); (case k4 => walk_at "sh"); (case k5 => walk_at "sh"))
  | (refine' d_notInD ?k1 ?k2 ?k3 ?k4 ?k5 ?_; (case k1 => assumption); (case k2 => walk_at "kn"); (case k3 => walk_at "kn"); (case k4 => walk_at "sh"); (case k5 => walk_at "sh"))
  | (refine' d_isiT ?k1 ?k2 ?k3 ?_; (case k1 => assumption); (case k2 => walk_at "mem"); (case k3 => assumption))
  | (refine' d_isiL ?k1 ?k2 ?k3 ?_; (case k1 => assumption); (case k2 => walk_at "inl"); (case k3 => assumption))
  | (refine' d_isiO ?k1 ?k2 ?k3 ?k4 ?k5 ?k6 ?k7 ?_; (case k1 => assumption); (case k2 => walk_at "mem"); (case k3 => assumption); (case k4 => assumption); (case k5 => assumption); (case k6 => assumption); (case k7 => assumption))
  | walk_at "lof"
  | (refine' d_tupOfL ?k1 ?k2 ?_; (case k1 => assumption); (case k2 => walk_at "inl"); intro p' H' M')
  | (refine' d_tupOfT ?k1 ?k2 ?_; (case k1 => assumption); (case k2 => walk_at "mem"))
  | (refine' d_tupOfQ ?k1 ?k2 ?_; (case k1 => assumption); (case k2 => walk_at "mem"); intro p' H' M')
  | (refine' d_catT ?k1 ?k2 ?k3 ?k4 ?_; (case k1 => assumption); (case k2 => walk_at "mem"); (case k3 => walk_at "mem"); (case k4 => walk_at "size"); intro p' H' M')
  | (refine' d_slL ?k1 ?k2 ?_; (case k1 => assumption); (case k2 => walk_at "inl"); intro p' H' M')
  | refine d_revL ?_
  | (refine' d_rev ?k1 ?k2 ?_; (case k1 => assumption); (case k2 => walk_at "inl"); intro p' H' M')
  | (refine' d_cat ?k1 ?k2 ?k3 ?k4 ?_; (case k1 => assumption); (case k2 => walk_at "inl"); (case k3 => walk_at "inl"); (case k4 => walk_at "size"); intro p' H' M')
  | (refine' d_all ?k1 ?k2 ?_; (case k1 => assumption); (case k2 => walk_at "inl"))
  | (refine' d_any ?k1 ?k2 ?_; (case k1 => assumption); (case k2 => walk_at "inl"))
  | (refine' d_lstAt ?k1 ?k2 ?_; (case k1 => assumption); (case k2 => walk_at "inl"))
  | (refine' d_tupAt ?k1 ?k2 ?_; (case k1 => assumption); (case k2 => walk_at "mem"))
  | (refine' d_meth ?k1 ?k2 ?k3 ?_; (case k1 => assumption); (case k2 => walk_at "mem"); (case k3 => walk_at "fld"))
  | (refine' d_ownN ?k1 ?k2 ?_; (case k1 => assumption); (case k2 => walk_at "mem"))
  | (refine' d_ownO ?k1 ?k2 ?k3 ?_; (case k1 => assumption); (case k2 => walk_at "mem"); (case k3 => walk_at "mem"))
  | (refine' d_ownEq ?k1 ?k2 ?k3 ?_; (case k1 => assumption); (case k2 => walk_at "mem"); (case k3 => walk_at "mem"))
  | (refine' d_ownIn ?k1 ?k2 ?_; (case k1 => assumption); (case k2 => walk_at "mem"))
  | (refine' d_ownU ?k1 ?k2 ?_; (case k1 => assumption); (case k2 => walk_at "mem"))
  | (refine' d_ownStr ?k1 ?k2 ?_; (case k1 => assumption); (case k2 => walk_at "mem"))
  | (refine' d_prop ?k1 ?k2 ?_; (case k1 => assumption); (case k2 => walk_at "mem"))
  | (refine' d_dnew ?k1 ?_; (case k1 => assumption); intro p' H' M')
  | refine d_din0 ?_ | refine d_dnotin0 ?_ | refine d_dget0 ?_ | refine d_dput0 ?_ | refine d_items0 ?_
  | (refine' d_din ?k1 ?k2 ?k3 ?_; (case k1 => assumption); (case k2 => walk_at "inl"); (case k3 => first | exact (rfl : V.str _ = kV (Sum.inr _)) | exact (rfl : V.int _ = kV (Sum.inl _)) | fail))
  | (refine' d_dnotin ?k1 ?k2 ?k3 ?_; (case k1 => assumption); (case k2 => walk_at "inl"); (case k3 => first | exact (rfl : V.str _ = kV (Sum.inr _)) | exact (rfl : V.int _ = kV (Sum.inl _)) | fail))
  | (refine' d_items ?k1 ?k2 ?_; (case k1 => assumption); (case k2 => walk_at "inl"); intro p' H' M')
  | (refine' d_range1 ?k1 ?_; (case k1 => assumption); intro p' H' hp' M')
  | (refine' d_listRng ?k1 ?k2 ?k3 ?k4 ?_; (case k1 => assumption); (case k2 => assumption); (case k3 => omega); (case k4 => omega); intro p' H' M')
  | walk_at "use")
local macro_rules | `(tactic| walk_at "go") => `(tactic| repeat' (walk_at "go1"))

local macro_rules | `(tactic| walk_at "hp") => `(tactic| first | assumption | fail)
local macro_rules | `(tactic| walk_at "fld") => `(tactic| first | exact fd_nil | exact fd_hd | (refine' fd_tl ?k1 ?k2; (case k1 => decide +kernel); (case k2 => walk_at "fld")) | fail)
local macro_rules | `(tactic| walk_at "size") => `(tactic| first | exact Nat.lt_of_le_of_lt (m := 50000) (by first | omega | (simp only [List.length_map, List.length_range, List.length_append, List.length_cons, List.length_nil, List.length_replicate, List.length_set, List.length_reverse]; omega)) (by decide) | exact Nat.le_trans (m := 50000) (by first | omega | (simp only [List.length_map, List.length_range, List.length_append, List.length_cons, List.length_nil, List.length_replicate, List.length_set, List.length_reverse]; omega)) (by decide) | fail)
section
variable {P : Program} {w : World} {K : PySem.W.Frag} {mg : Str → Option Value} {base : Heap} {C CO fO CE fE : Addr}
abbrev Den (ns : List Nt) (d : Int) : Prop := (d, false) ∈ ns
abbrev See (ns : List Nt) (d : Int) : Prop := (d, true) ∈ ns
def Free (ns : List Nt) (a b : Int) : Prop := ∀ d, a ≤ d → d ≤ b → ¬ Den ns d
/-- a stay that fits the notes -/
structure Fit (ns : List Nt) (last : Int) (x : Pr) : Prop where
  lo : 0 ≤ x.1
  le : x.1 ≤ x.2
  hi : x.2 ≤ last
  fr : Free ns x.1 x.2
  se : ∀ d, See ns d → x.1 ≤ d ∧ d ≤ x.2
abbrev InR (ns : List Nt) (last : Int) : Prop := ∀ n ∈ ns, 0 ≤ n.1 ∧ n.1 ≤ last
def Lx (x y : Pr) : Prop := x.1 < y.1 ∨ (x.1 = y.1 ∧ x.2 < y.2)
theorem Lx.irr {x : Pr} : ¬ Lx x x := fun h => by rcases h with h | h <;> omega
theorem Lx.asym {x y : Pr} (h : Lx x y) (k : Lx y x) : False := by rcases h with h | h <;> rcases k with k | k <;> omega
/-- the list of all pairs with a property, in their order -/
structure Lof (P : Pr → Prop) (l : List Pr) : Prop where
  st : l.Pairwise Lx
  me : ∀ x, x ∈ l ↔ P x
theorem lx_uniq : ∀ {l m : List Pr}, l.Pairwise Lx → m.Pairwise Lx → (∀ x, x ∈ l ↔ x ∈ m) → l = m
  | [], [], _, _, _ => rfl
  | [], y :: m, _, _, h => absurd ((h y).mpr List.mem_cons_self) (fun z => nomatch z)
  | x :: l, [], _, _, h => absurd ((h x).mp List.mem_cons_self) (fun z => nomatch z)
  | x :: l, y :: m, h1, h2, h => by
    rw [List.pairwise_cons] at h1 h2
    have e : x = y := by
      rcases List.mem_cons.mp ((h x).mp List.mem_cons_self) with e | hx
      · exact e
      · rcases List.mem_cons.mp ((h y).mpr List.mem_cons_self) with e | hy
        · exact e.symm
        · exact (Lx.asym (h1.1 y hy) (h2.1 x hx)).elim
    subst e
    rw [lx_uniq h1.2 h2.2 fun z => ?_]
    constructor
    · intro hz
      rcases List.mem_cons.mp ((h z).mp (List.mem_cons_of_mem _ hz)) with e | k
      · subst e; exact (Lx.irr (h1.1 z hz)).elim
      · exact k
    · intro hz
      rcases List.mem_cons.mp ((h z).mpr (List.mem_cons_of_mem _ hz)) with e | k
      · subst e; exact (Lx.irr (h2.1 z hz)).elim
      · exact k
theorem Lof.uniq {P : Pr → Prop} {l m : List Pr} (h : Lof P l) (k : Lof P m) : l = m := lx_uniq h.st k.st fun x => by rw [h.me, k.me]
theorem Lof.imp {P Q : Pr → Prop} {l : List Pr} (h : Lof P l) (e : ∀ x, P x ↔ Q x) : Lof Q l := ⟨h.st, fun x => by rw [h.me, e]⟩
theorem Lof.nodup {P : Pr → Prop} {l : List Pr} (h : Lof P l) : l.Nodup := h.st.imp fun {a b} (k : Lx a b) (e : a = b) => by subst e; exact Lx.irr k
theorem Lof.filter {P : Pr → Prop} {l : List Pr} (h : Lof P l) (f : Pr → Bool) : Lof (fun x => P x ∧ f x = true) (l.filter f) := ⟨h.st.filter f, fun x => by rw [List.mem_filter, h.me]⟩
theorem Lof.nil {P : Pr → Prop} (h : ∀ x, ¬ P x) : Lof P [] := ⟨.nil, fun x => ⟨fun z => (nomatch z), fun z => absurd z (h x)⟩⟩
theorem Lof.one {P : Pr → Prop} {y : Pr} (h : ∀ x, P x ↔ x = y) : Lof P [y] := ⟨List.pairwise_singleton _ _, fun x => by rw [h, List.mem_singleton]⟩
/-- the first and the last day that was seen -/
def Ends (ns : List Nt) (es : List Int) : Prop := (es = [] ∧ ∀ d, ¬ See ns d) ∨ ∃ a b, es = [a, b] ∧ See ns a ∧ See ns b ∧ ∀ d, See ns d → a ≤ d ∧ d ≤ b
/-- the longest free runs -/
structure Run (ns : List Nt) (last : Int) (x : Pr) : Prop where
  lo : 0 ≤ x.1
  le : x.1 ≤ x.2
  hi : x.2 ≤ last
  fr : Free ns x.1 x.2
  bf : x.1 = 0 ∨ Den ns (x.1 - 1)
  af : x.2 = last ∨ Den ns (x.2 + 1)
/-- the runs among the days before i, and where the next one begins -/
structure RunsTo (ns : List Nt) (i : Int) (rs : List Pr) (low : Int) : Prop where
  l0 : 0 ≤ low
  l1 : low ≤ i
  bf : low = 0 ∨ Den ns (low - 1)
  fr : Free ns low (i - 1)
  st : rs.Pairwise Lx
  me : ∀ x, x ∈ rs ↔ (0 ≤ x.1 ∧ x.1 ≤ x.2 ∧ Free ns x.1 x.2 ∧ (x.1 = 0 ∨ Den ns (x.1 - 1)) ∧ Den ns (x.2 + 1) ∧ x.2 + 2 ≤ i)
theorem RunsTo.start {ns : List Nt} : RunsTo ns 0 [] 0 := ⟨by omega, by omega, .inl rfl, fun d h1 h2 => by omega, .nil, fun x => ⟨fun z => (nomatch z), fun z => by omega⟩⟩
theorem RunsTo.below {ns : List Nt} {i : Int} {rs : List Pr} {low : Int} (h : RunsTo ns i rs low) : ∀ x ∈ rs, x.2 + 1 < low := fun x hx => by
  obtain ⟨a, b, c, d, e, f⟩ := (h.me x).mp hx
  by_cases k : x.2 + 1 < low
  · exact k
  · exact absurd e (h.fr _ (by omega) (by omega))
theorem RunsTo.head {ns : List Nt} {i : Int} {rs : List Pr} {low : Int} (h : RunsTo ns i rs low) {x : Pr} (h1 : x.1 ≤ i - 1) (h2 : i - 1 ≤ x.2) (hf : Free ns x.1 x.2) (hb : x.1 = 0 ∨ Den ns (x.1 - 1)) (h0 : 0 ≤ x.1) : x.1 = low := by
  have a : low ≤ x.1 := by
    rcases h.bf with e | e
    · omega
    · by_cases k : low ≤ x.1
      · exact k
      · exact absurd e (hf _ (by omega) (by have := h.l1; omega))
  rcases hb with e | e
  · have := h.l0; omega
  · by_cases k : x.1 ≤ low
    · omega
    · exact absurd e (h.fr _ (by omega) (by omega))
theorem RunsTo.free {ns : List Nt} {i : Int} {rs : List Pr} {low : Int} (h : RunsTo ns i rs low) (hd : ¬ Den ns i) : RunsTo ns (i + 1) rs low := by
  refine ⟨h.l0, by have := h.l1; omega, h.bf, fun d h1 h2 => ?_, h.st, fun x => ?_⟩
  · by_cases e : d = i
    · subst e; exact hd
    · exact h.fr d h1 (by omega)
  · rw [h.me]
    constructor
    · rintro ⟨a, b, c, d, e, f⟩
      exact ⟨a, b, c, d, e, by omega⟩
    · rintro ⟨a, b, c, d, e, f⟩
      refine ⟨a, b, c, d, e, ?_⟩
      by_cases k : x.2 + 2 ≤ i
      · exact k
      · exact absurd (by rw [show x.2 + 1 = i by omega] at e; exact e) hd
theorem RunsTo.cut {ns : List Nt} {i : Int} {rs : List Pr} {low : Int} (h : RunsTo ns i rs low) (hd : Den ns i) (hl : low < i) : RunsTo ns (i + 1) (rs ++ [(low, i - 1)]) (i + 1) := by
  have hb := h.below
  have h0 := h.l0
  refine ⟨by omega, by omega, .inr (by rw [show i + 1 - 1 = i by omega]; exact hd), fun d h1 h2 => by omega, ?_, fun x => ?_⟩
  · rw [List.pairwise_append]
    refine ⟨h.st, List.pairwise_singleton _ _, fun x hx y hy => ?_⟩
    rw [List.mem_singleton.mp hy]
    have := hb x hx
    obtain ⟨a, b, _⟩ := (h.me x).mp hx
    exact .inl (by show x.1 < low; omega)
  · rw [List.mem_append, List.mem_singleton, h.me]
    constructor
    · rintro (⟨a, b, c, d, e, f⟩ | e)
      · exact ⟨a, b, c, d, e, by omega⟩
      · subst e
        exact ⟨h0, by show low ≤ i - 1; omega, h.fr, h.bf, by show Den ns (i - 1 + 1); rw [show i - 1 + 1 = i by omega]; exact hd, by show i - 1 + 2 ≤ i + 1; omega⟩
    · rintro ⟨a, b, c, d, e, f⟩
      by_cases k : x.2 + 2 ≤ i
      · exact .inl ⟨a, b, c, d, e, k⟩
      · refine .inr ?_
        have e2 : x.2 = i - 1 := by omega
        have e1 := h.head (x := x) (by omega) (by omega) c d a
        exact Prod.ext e1 e2
theorem RunsTo.skip {ns : List Nt} {i : Int} {rs : List Pr} {low : Int} (h : RunsTo ns i rs low) (hd : Den ns i) (hl : ¬ low < i) : RunsTo ns (i + 1) rs (i + 1) := by
  have h0 := h.l0
  have h1 := h.l1
  refine ⟨by omega, by omega, .inr (by rw [show i + 1 - 1 = i by omega]; exact hd), fun d h1 h2 => by omega, h.st, fun x => ?_⟩
  rw [h.me]
  constructor
  · rintro ⟨a, b, c, d, e, f⟩
    exact ⟨a, b, c, d, e, by omega⟩
  · rintro ⟨a, b, c, d, e, f⟩
    refine ⟨a, b, c, d, e, ?_⟩
    by_cases k : x.2 + 2 ≤ i
    · exact k
    · have e1 := h.head (x := x) (by omega) (by omega) c d a
      omega
theorem RunsTo.len {ns : List Nt} {i : Int} {rs : List Pr} {low : Int} (h : RunsTo ns i rs low) {x : Pr} (hx : x ∈ rs) : x.2 + 2 ≤ i := ((h.me x).mp hx).2.2.2.2.2
theorem RunsTo.done {ns : List Nt} {last : Int} {rs : List Pr} {low : Int} (hr : InR ns last) (h : RunsTo ns (last + 1) rs low) (hl : low ≤ last) : Lof (Run ns last) (rs ++ [(low, last)]) := by
  have hb := h.below
  refine ⟨?_, fun x => ?_⟩
  · rw [List.pairwise_append]
    refine ⟨h.st, List.pairwise_singleton _ _, fun x hx y hy => ?_⟩
    rw [List.mem_singleton.mp hy]
    have := hb x hx
    obtain ⟨a, b, _⟩ := (h.me x).mp hx
    exact .inl (by show x.1 < low; omega)
  · rw [List.mem_append, List.mem_singleton, h.me]
    constructor
    · rintro (⟨a, b, c, d, e, f⟩ | e)
      · exact ⟨a, b, by omega, c, d, .inr e⟩
      · subst e
        exact ⟨h.l0, hl, Int.le_refl _, by have := h.fr; rw [show last + 1 - 1 = last by omega] at this; exact this, h.bf, .inl rfl⟩
    · intro k
      rcases k.af with e | e
      · refine .inr ?_
        have hlx := k.le
        have e1 := h.head (x := x) (by omega) (by omega) k.fr k.bf k.lo
        exact Prod.ext e1 e
      · have h2 := (hr _ e).2
        exact .inl ⟨k.lo, k.le, k.fr, k.bf, e, by have h3 : x.2 + 1 ≤ last := h2; omega⟩
theorem RunsTo.done0 {ns : List Nt} {last : Int} {rs : List Pr} {low : Int} (hr : InR ns last) (h : RunsTo ns (last + 1) rs low) (hl : ¬ low ≤ last) : Lof (Run ns last) rs := by
  refine ⟨h.st, fun x => ?_⟩
  rw [h.me]
  constructor
  · rintro ⟨a, b, c, d, e, f⟩
    exact ⟨a, b, by omega, c, d, .inr e⟩
  · intro k
    rcases k.af with e | e
    · have hlx := k.le
      have e1 := h.head (x := x) (by omega) (by omega) k.fr k.bf k.lo
      omega
    · have h2 := (hr _ e).2
      exact ⟨k.lo, k.le, k.fr, k.bf, e, by have h3 : x.2 + 1 ≤ last := h2; omega⟩
/-- which days were denied -/
def den (ms : List Nt) (n : Nat) : List Bool := (List.range n).map fun (i : Nat) => decide (((i : Int), false) ∈ ms)
theorem den_len {ms : List Nt} {n : Nat} : (den ms n).length = n := by simp [den]
theorem den_nil {n : Nat} : den [] n = List.replicate n false := by
  unfold den
  rw [List.eq_replicate_iff]
  refine ⟨by simp, fun b hb => ?_⟩
  obtain ⟨i, _, rfl⟩ := List.mem_map.mp hb
  simp
theorem den_seen {ms : List Nt} {n : Nat} {d : Int} : den (ms ++ [(d, true)]) n = den ms n := by
  unfold den
  refine List.map_congr_left fun i _ => ?_
  simp
theorem den_set {ms : List Nt} {n : Nat} {d : Int} (h0 : 0 ≤ d) : (den ms n).set d.toNat true = den (ms ++ [(d, false)]) n := by
  refine List.ext_getElem (by simp [den]) fun i h1 h2 => ?_
  rw [List.getElem_set]
  have hi : i < n := by simpa [den] using h2
  unfold den
  simp only [List.getElem_map, List.getElem_range, List.mem_append, List.mem_singleton, Prod.mk.injEq, and_true]
  by_cases e : d.toNat = i
  · rw [if_pos e]
    simp [show (i : Int) = d by omega]
  · rw [if_neg e]
    simp [show ¬ (i : Int) = d by omega]
theorem den_at {ms : List Nt} {n : Nat} {d : Int} (h0 : 0 ≤ d) (h1 : d < n) : atI ((den ms n).map D.bl) d = some (.bl (decide (Den ms d))) := by
  unfold atI ixN
  have hl : ((den ms n).map D.bl).length = n := by simp [den]
  rw [if_pos h0, if_pos (by rw [hl]; exact h1)]
  show ((den ms n).map D.bl)[d.toNat]? = _
  unfold den
  rw [List.getElem?_map, List.getElem?_map, List.getElem?_range (by omega)]
  show some (D.bl (decide (((d.toNat : Int), false) ∈ ms))) = _
  rw [show (d.toNat : Int) = d by omega]

theorem d_getQ {B G0 H : Hp} {ms : List Addr} {X : List (Addr × D)} {L : List (V × D)} {Q : VK} {p : Addr} {ds : List D} {d : D} {j : Int} {t : Bool} (M : Mm K B G0 ms X L H) (hm : (V.ref p, sq t ds) ∈ L) (hj : atI ds j = some d) (q : ∀ v, Mm K B G0 ms X ((v, d) :: L) H → Q v H) : rIx K (.ref p) (.int j) H Q := by
  cases t with
  | true => exact .inr (.inl (d_ixT M hm hj q))
  | false => exact .inl (d_ixL M (.inl hm) hj q)
def sp_check (K : PySem.W.Frag) : Sp := fun vs H Q E => ∃ (G : Hp) (t : Bool) (ns : List Nt) (last : Int), Same G H ∧ AtL K G vs [sq t (ns.map ntD), .int last] ∧ (InR ns last) ∧ (∀ H', Mm K H G [] ([]) [] H' → Q (.non) H')
theorem ok_check {f : Addr} {fd : FuncData} (F : Fun K "check_notes" "check_notes" s_check_notes f fd) (T : Txt P K mg C CO fO CE fE)  :
    FnOk P w K mg base (L2.CX P w) (0 + 1) f fd ["notes", "last"] (sp_check K) := by
  refine okT F sc_check_notes (fun vs H Q E h => ?_) (fun cdv A outer s H vs Q E hr tk h => ?_)
  · obtain ⟨G, t, ns, last, _, hA, _⟩ := h
    rcases hA with _ | ⟨ha0, hA0⟩
    rcases hA0 with _ | ⟨ha1, hA1⟩
    cases hA1
    rfl
  obtain ⟨G, t, ns, last, hsG, hA, p0, k⟩ := h
  have f1 := T.i1; have f2 := T.i2; have f3 := T.i3; have f4 := T.i4; have f5 := T.i5; have f6 := T.cl; have f7 := T.nc; have f8 := T.ng; have f9 := T.oa; have f10 := T.on; have f11 := T.ot; have f12 := T.om
  rcases hA with _ | ⟨ha0, hA0⟩
  rcases hA0 with _ | ⟨ha1, hA1⟩
  cases hA1
  obtain ⟨q0, rfl⟩ := ha0.refQ
  obtain rfl := ha1.isI
  have M : Mm K H G [] [] [(.ref q0, sq t (ns.map ntD))] H := Mm.start hsG (fun z hz => by
    simp only [List.mem_cons, List.not_mem_nil, or_false] at hz
    rcases hz with rfl
    · exact ha0)
  refine ⟨_, (pss_one (ps_for (passes_of rfl) rfl (pi_seq (pv 0)) (pg_name (i := 2) sc_check_notes.nd rfl (Or.inl rfl)) (pss_one (ps_if (pt_not (pt_chain op_le op_le pe_int (pe_ix ix_tup (pv 2) pe_int (fun _ _ => rfl)) (pv 1))) (pss_one (ps_raise rfl tk (pmk_err T.e_OutOfRange (by decide) hr (pa_cons (pe_ix ix_tup (pv 2) pe_int (fun _ _ => rfl)) pa_nil)))) pss_nil)))), ?_⟩
  simp only [cxK, st_check_notes]
  have hl : (ns.map ntD).length = ns.length := List.length_map _
  walk_at "go"
  refine srcQ (t := t) (ds := ns.map ntD) M (by rfl) (by simp) fun J S => ?_
  refine forS S (fun _ => []) M (fun i σ' => ∃ v2, σ' = [some (.ref q0), some (.int last), v2]) (fun _ => by simp) ⟨_, rfl⟩ ?_ ?_
  · rintro i x σ' H' hi ⟨v2, rfl⟩ M'
    rw [hl] at hi
    have hn := p0 _ (List.mem_of_getElem? (getD_at hi))
    rw [getD_map hi] at M'
    generalize ns.getD i default = n at M' hn
    obtain ⟨px, rfl⟩ := M'.isT
    walk_at "go"
    exact ⟨⟨_, rfl⟩, M'.dropL⟩
  · rintro σ' H' ⟨v2, rfl⟩ M'
    walk_at "go"
    exact k _ M'.none
theorem use_check {B G0 H : Hp} {ms : List Addr} {X : List (Addr × D)} {L : List (V × D)} {Q : VK} {E : XK} {ws : List V} {t : Bool} {ns : List Nt} {last : Int} (M : Mm K B G0 ms X L H) (ha : Hs L ws [sq t (ns.map ntD), .int last]) (p0 : InR ns last) (k0 : ∀ H', Mm K B G0 ms (X) L H' → Q (.non) H') : sp_check K ws H Q E := by
  obtain ⟨G, W⟩ := M
  exact ⟨G, t, ns, last, W.s1, ha K G W.ok, p0, fun H' M2 => k0 H' (W.comp M2)⟩
def seenD (ns : List Nt) : List Int := (ns.filter (·.2)).map (·.1)
theorem mem_seen {ns : List Nt} {d : Int} : d ∈ seenD ns ↔ See ns d := by
  unfold seenD
  rw [List.mem_map]
  constructor
  · rintro ⟨⟨a, b⟩, h, rfl⟩
    rw [List.mem_filter] at h
    obtain ⟨h1, h2⟩ := h
    have h2 : b = true := h2
    subst h2
    exact h1
  · intro h
    exact ⟨(d, true), List.mem_filter.mpr ⟨h, rfl⟩, rfl⟩
theorem take_succ' {α : Type} [Inhabited α] {l : List α} {i : Nat} (h : i < l.length) : l.take (i + 1) = l.take i ++ [l.getD i default] := by
  rw [List.take_add_one, getD_at h]; rfl
def sp_ends (K : PySem.W.Frag) : Sp := fun vs H Q E => ∃ (G : Hp) (t : Bool) (ns : List Nt), Same G H ∧ AtL K G vs [sq t (ns.map ntD)] ∧ (ns.length ≤ 1000) ∧ (∀ (v : V) (es : List Int) H', (Ends ns es) → Mm K H G [] ([]) [(v, .tup (es.map D.int))] H' → Q (v) H')
theorem ok_ends {f : Addr} {fd : FuncData} (F : Fun K "seen_ends" "seen_ends" s_seen_ends f fd) (T : Txt P K mg C CO fO CE fE)  :
    FnOk P w K mg base (L2.CX P w) (0 + 1) f fd ["notes"] (sp_ends K) := by
  refine okT F sc_seen_ends (fun vs H Q E h => ?_) (fun cdv A outer s H vs Q E hr tk h => ?_)
  · obtain ⟨G, t, ns, _, hA, _⟩ := h
    rcases hA with _ | ⟨ha0, hA0⟩
    cases hA0
    rfl
  obtain ⟨G, t, ns, hsG, hA, p0, k⟩ := h
  have f1 := T.i1; have f2 := T.i2; have f3 := T.i3; have f4 := T.i4; have f5 := T.i5; have f6 := T.cl; have f7 := T.nc; have f8 := T.ng; have f9 := T.oa; have f10 := T.on; have f11 := T.ot; have f12 := T.om
  rcases hA with _ | ⟨ha0, hA0⟩
  cases hA0
  obtain ⟨q0, rfl⟩ := ha0.refQ
  have M : Mm K H G [] [] [(.ref q0, sq t (ns.map ntD))] H := Mm.start hsG (fun z hz => by
    simp only [List.mem_cons, List.not_mem_nil, or_false] at hz
    rcases hz with rfl
    · exact ha0)
  refine ⟨_, (pss_cons (ps_setLc (i := 1) (own := [("day", 2), ("seen", 3)]) (g := gTup K 2 (gCons (gName 2) (gCons (gName 3) gNil))) rfl sc_seen_ends.nd rfl rfl (sw_true rfl rfl rfl (by decide +kernel)) (pi_seq (pv 0)) (blkOk_by (own := [("day", 2), ("seen", 3)]) (N := N_seen_ends) (sc := defScope s_seen_ends) (by decide +kernel)) (fun _ _ _ _ _ => (pg_tup rfl (pgs_cons (pg_name (i := 2) sc_seen_ends.nd rfl (Or.inl rfl)) (pgs_cons (pg_name (i := 3) sc_seen_ends.nd rfl (Or.inl rfl)) pgs_nil)))) (fun _ _ _ _ _ => pts_one (pt_val (pv 3))) (fun _ _ _ _ _ => (pv 2)))
      (pss_cons (ps_if (pt_cmpR (op_eqE hr.units) (pv 1) (pe_lst pa_nil) (nomark _)) (pss_one (ps_ret (pe_tup pa_nil))) pss_nil)
      (pss_one (ps_ret (pe_tup (pa_cons (pe_callB (b_minQ rfl) (by rfl) T.b_min (by decide +kernel) (pa_cons (pv 1) pa_nil)) (pa_cons (pe_callB (b_maxQ rfl) (by rfl) T.b_max (by decide +kernel) (pa_cons (pv 1) pa_nil)) pa_nil))))))), ?_⟩
  simp only [cxK, st_seen_ends]
  have hl : (ns.map ntD).length = ns.length := List.length_map _
  walk_at "go"
  refine srcQc (t := t) (ds := ns.map ntD) M (by rfl) (by simp) fun J S => ?_
  refine lcS S M (fun i => (seenD (ns.take i)).map D.int) (fun _ _ => by simp) rfl ?_ ?_
  · rintro i x A0 H' hi M'
    rw [hl] at hi
    have htk := take_succ' hi
    rw [getD_map hi] at M'
    generalize ns.getD i default = n at M' htk
    obtain ⟨px, rfl⟩ := M'.isT
    have hle : (seenD (ns.take i)).length ≤ 1000 := by
      unfold seenD
      rw [List.length_map]
      exact Nat.le_trans (List.length_filter_le _ _) (Nat.le_trans (List.length_take_le' _ _) p0)
    walk_at "go"
    all_goals refine ⟨rfl, ?_⟩
    obtain ⟨n1, n2⟩ := n
    cases n2 with
    | false =>
      walk_at "go"
      rename_i M9
      rw [htk, show seenD (ns.take i ++ [(n1, false)]) = seenD (ns.take i) by simp [seenD]]
      exact M9.sub (by walk_at "sub")
    | true =>
      walk_at "go"
      rename_i M9
      refine lc_add M9 H1.int (by walk_at "sub") (by simp; omega) ?_
      rw [htk, show seenD (ns.take i ++ [(n1, true)]) = seenD (ns.take i) ++ [n1] by simp [seenD], List.map_append]
      rfl
  · intro A0 H' M'
    rw [hl, List.take_length] at M'
    have M2 := M'.freeze
    clear M'
    by_cases hs : seenD ns = []
    · rw [hs] at M2
      walk_at "go"
      refine k_iteT0 rfl ?_
      walk_at "go"
      rename_i M9
      exact k _ [] _ (.inl ⟨rfl, fun d hd => by have := mem_seen.mpr hd; rw [hs] at this; cases this⟩) (Mm.noX (M9.oneL List.mem_cons_self))
    · have hp : 0 < (seenD ns).length := List.length_pos_iff.mpr hs
      walk_at "go"
      refine k_iteF0 (by cases h9 : seenD ns with
        | nil => exact absurd h9 hs
        | cons x l => rfl) ?_
      walk_at "go"
      refine d_minL (ns := seenD ns) (by assumption) (by walk_at "inl") hp fun a ha1 ha2 => ?_
      walk_at "go"
      refine d_maxL (ns := seenD ns) (by assumption) (by walk_at "inl") hp fun b hb1 hb2 => ?_
      walk_at "go"
      rename_i M9
      exact k _ [a, b] _ (.inr ⟨a, b, rfl, mem_seen.mp ha1, mem_seen.mp hb1, fun d hd => ⟨ha2 d (mem_seen.mpr hd), hb2 d (mem_seen.mpr hd)⟩⟩) (Mm.noX (M9.oneL List.mem_cons_self))
theorem use_ends {B G0 H : Hp} {ms : List Addr} {X : List (Addr × D)} {L : List (V × D)} {Q : VK} {E : XK} {ws : List V} {t : Bool} {ns : List Nt} (M : Mm K B G0 ms X L H) (ha : Hs L ws [sq t (ns.map ntD)]) (p0 : ns.length ≤ 1000) (k0 : ∀ (v : V) (es : List Int) H', (Ends ns es) → Mm K B G0 ms (X) ((v, .tup (es.map D.int)) :: L) H' → Q (v) H') : sp_ends K ws H Q E := by
  obtain ⟨G, W⟩ := M
  exact ⟨G, t, ns, W.s1, ha K G W.ok, p0, fun v es H' hc M2 => k0 v es H' hc (W.comp M2)⟩
def sp_runs (K : PySem.W.Frag) : Sp := fun vs H Q E => ∃ (G : Hp) (t : Bool) (ns : List Nt) (last : Int), Same G H ∧ AtL K G vs [sq t (ns.map ntD), .int last] ∧ (InR ns last) ∧ (0 ≤ last) ∧ (last ≤ 100) ∧ (∀ (v : V) (rs : List Pr) H', (Lof (Run ns last) rs ∧ rs.length ≤ 102) → Mm K H G [] ([]) [(v, .lst (rs.map prD))] H' → Q (v) H')
theorem ok_runs {f : Addr} {fd : FuncData} (F : Fun K "free_runs" "free_runs" s_free_runs f fd) (T : Txt P K mg C CO fO CE fE)  :
    FnOk P w K mg base (L2.CX P w) (0 + 1) f fd ["notes", "last"] (sp_runs K) := by
  refine okT F sc_free_runs (fun vs H Q E h => ?_) (fun cdv A outer s H vs Q E hr tk h => ?_)
  · obtain ⟨G, t, ns, last, _, hA, _⟩ := h
    rcases hA with _ | ⟨ha0, hA0⟩
    rcases hA0 with _ | ⟨ha1, hA1⟩
    cases hA1
    rfl
  obtain ⟨G, t, ns, last, hsG, hA, p0, p1, p2, k⟩ := h
  have f1 := T.i1; have f2 := T.i2; have f3 := T.i3; have f4 := T.i4; have f5 := T.i5; have f6 := T.cl; have f7 := T.nc; have f8 := T.ng; have f9 := T.oa; have f10 := T.on; have f11 := T.ot; have f12 := T.om
  rcases hA with _ | ⟨ha0, hA0⟩
  rcases hA0 with _ | ⟨ha1, hA1⟩
  cases hA1
  obtain ⟨q0, rfl⟩ := ha0.refQ
  obtain rfl := ha1.isI
  have M : Mm K H G [] [] [(.ref q0, sq t (ns.map ntD))] H := Mm.start hsG (fun z hz => by
    simp only [List.mem_cons, List.not_mem_nil, or_false] at hz
    rcases hz with rfl
    · exact ha0)
  refine ⟨_, (pss_cons (ps_set (i := 2) sc_free_runs.nd rfl (Or.inl rfl) (pe_op op_rep (pe_lst (pa_cons pe_bl pa_nil)) (pe_op op_add (pv 1) pe_int)))
      (pss_cons (ps_for (passes_of rfl) rfl (pi_seq (pv 0)) (pg_tup rfl (pgs_cons (pg_name (i := 3) sc_free_runs.nd rfl (Or.inl rfl)) (pgs_cons (pg_name (i := 4) sc_free_runs.nd rfl (Or.inl rfl)) pgs_nil))) (pss_one (ps_if (pt_not (pt_val (pv 4))) (pss_one (ps_asg pe_bl (pg_sub (pv 2) (pv 3) set_list))) pss_nil)))
      (pss_cons (ps_set (i := 5) sc_free_runs.nd rfl (Or.inl rfl) (pe_lst pa_nil))
      (pss_cons (ps_set (i := 6) sc_free_runs.nd rfl (Or.inl rfl) pe_int)
      (pss_cons (ps_for (passes_of rfl) rfl (pi_range1 (by rfl) T.b_range (pa_cons (pe_op op_add (pv 1) pe_int) pa_nil)) (pg_name (i := 3) sc_free_runs.nd rfl (Or.inl rfl)) (pss_one (ps_if (pt_val (pe_ix ix_list (pv 2) (pv 3) (fun _ _ => rfl))) (pss_cons (ps_if (pt_cmpR op_lt (pv 6) (pv 3) (nomark _)) (pss_one (ps_expr (pe_bm PySem.F.plainAttrs_list PySem.F.slot_list_append PySem.F.type_list_append mt_append (pv 5) (pa_cons (pe_tup (pa_cons (pv 6) (pa_cons (pe_op op_sub (pv 3) pe_int) pa_nil))) pa_nil)))) pss_nil)
      (pss_one (ps_set (i := 6) sc_free_runs.nd rfl (Or.inl rfl) (pe_op op_add (pv 3) pe_int)))) pss_nil)))
      (pss_cons (ps_if (pt_cmpR op_le (pv 6) (pv 1) (nomark _)) (pss_one (ps_expr (pe_bm PySem.F.plainAttrs_list PySem.F.slot_list_append PySem.F.type_list_append mt_append (pv 5) (pa_cons (pe_tup (pa_cons (pv 6) (pa_cons (pv 1) pa_nil))) pa_nil)))) pss_nil)
      (pss_one (ps_ret (pv 5))))))))), ?_⟩
  simp only [cxK, st_free_runs]
  have hl : (ns.map ntD).length = ns.length := List.length_map _
  obtain ⟨n, rfl⟩ : ∃ n : Nat, last = (n : Int) := ⟨last.toNat, by omega⟩
  walk_at "go"
  rename_i r0 H1' M1
  refine d_rep M1 (by walk_at "inl") (by omega) (by omega) fun r H2 M2 => ?_
  rw [show List.replicate (((n : Int) + 1).toNat) (D.bl false) = (den [] (n + 1)).map D.bl by rw [den_nil, List.map_replicate, show ((n : Int) + 1).toNat = n + 1 by omega]] at M2
  clear M1
  walk_at "go"
  refine srcQ (t := t) (ds := ns.map ntD) M2 (by rfl) (by simp) fun J S => ?_
  refine forS S (fun i => [(r, .lst ((den (ns.take i) (n + 1)).map D.bl))]) M2 (fun i σ' => ∃ v3 v4 v5 v6, σ' = [some (.ref q0), some (.int (n : Int)), some (.ref r), v3, v4, v5, v6]) (fun _ => by simp) ⟨_, _, _, _, rfl⟩ ?_ ?_
  · rintro i x σ' H' hi ⟨v3, v4, v5, v6, rfl⟩ M'
    rw [hl] at hi
    have hn := p0 _ (List.mem_of_getElem? (getD_at hi))
    have htk := take_succ' hi
    rw [getD_map hi] at M'
    generalize ns.getD i default = m at M' hn htk
    obtain ⟨px, rfl⟩ := M'.isT
    have hdl : ((den (ns.take i) (n + 1)).map D.bl).length = n + 1 := by rw [List.length_map, den_len]
    obtain ⟨m1, m2⟩ := m
    have hn1 : 0 ≤ m1 := hn.1
    have hn2 : m1 ≤ n := hn.2
    cases m2 with
    | false =>
      walk_at "go"
      rename_i M9
      refine ⟨⟨_, _, _, _, rfl⟩, ?_⟩
      rw [show D.bl true = D.bl true from rfl, ← List.map_set, den_set hn1, ← htk] at M9
      exact M9.sub (by walk_at "sub")
    | true =>
      walk_at "go"
      rename_i M9
      refine ⟨⟨_, _, _, _, rfl⟩, ?_⟩
      rw [htk, den_seen]
      exact M9.sub (by walk_at "sub")
  · rintro σ' H' ⟨v3, v4, v5, v6, rfl⟩ N'
    rw [hl, List.take_length] at N'
    have M' := N'.freeze
    clear N' M2
    walk_at "go"
    rename_i ru H3 M3
    refine forX src_rng M3 (fun i σ' X' => ∃ (rs : List Pr) (low : Int) (v3 : Option V), σ' = [some (.ref q0), some (.int (n : Int)), some (.ref r), v3, v4, some (.ref ru), some (.int low)] ∧ X' = [(ru, .lst (rs.map prD))] ∧ RunsTo ns i rs low ∧ rs.length ≤ i) (fun _ _ _ _ => trivial) ⟨[], 0, _, rfl, rfl, RunsTo.start, Nat.le_refl _⟩ ?_ ?_
    · rintro i x σ' X' H' hi ⟨rs, low, v3, rfl, rfl, hR, hrl⟩ M'
      rw [Int.zero_add] at M'
      obtain rfl := M'.isI
      have hi2 : i < n + 1 := by omega
      have h0 := hR.l0
      have h1 := hR.l1
      by_cases hd : Den ns i
      · have hat : atI ((den ns (n + 1)).map D.bl) (i : Int) = some (.bl true) := by rw [den_at (by omega) (by omega), decide_eq_true hd]
        walk_at "go"
        · rename_i hc p9 H8 M8 H9 M9
          refine ⟨_, ⟨rs ++ [(low, (i : Int) - 1)], (i : Int) + 1, _, rfl, rfl, hR.cut hd hc, by simp; omega⟩, ?_⟩
          rw [List.map_append]
          exact M9.sub (by walk_at "sub")
        · rename_i hc
          exact ⟨_, ⟨rs, i + 1, _, rfl, rfl, hR.skip hd hc, by omega⟩, M'.sub (by walk_at "sub")⟩
      · have hat : atI ((den ns (n + 1)).map D.bl) (i : Int) = some (.bl false) := by rw [den_at (by omega) (by omega), decide_eq_false hd]
        walk_at "go"
        exact ⟨_, ⟨rs, low, _, rfl, rfl, hR.free hd, by omega⟩, M'.sub (by walk_at "sub")⟩
    · rintro σ' X' H' ⟨rs, low, v3, rfl, rfl, hR, hrl⟩ M'
      rw [show ((n : Int) + 1).toNat = n + 1 by omega] at hR hrl
      walk_at "go"
      · rename_i hc p9 H8 M8 H9 M9
        refine k _ (rs ++ [(low, (n : Int))]) _ ⟨RunsTo.done p0 hR hc, by simp; omega⟩ ?_
        rw [List.map_append]
        exact Mm.noX ((Mm.freeze M9).oneL List.mem_cons_self)
      · rename_i hc
        exact k _ rs _ ⟨RunsTo.done0 p0 hR hc, by omega⟩ (Mm.noX ((Mm.freeze M').oneL List.mem_cons_self))
theorem use_runs {B G0 H : Hp} {ms : List Addr} {X : List (Addr × D)} {L : List (V × D)} {Q : VK} {E : XK} {ws : List V} {t : Bool} {ns : List Nt} {last : Int} (M : Mm K B G0 ms X L H) (ha : Hs L ws [sq t (ns.map ntD), .int last]) (p0 : InR ns last) (p1 : 0 ≤ last) (p2 : last ≤ 100) (k0 : ∀ (v : V) (rs : List Pr) H', (Lof (Run ns last) rs ∧ rs.length ≤ 102) → Mm K B G0 ms (X) ((v, .lst (rs.map prD)) :: L) H' → Q (v) H') : sp_runs K ws H Q E := by
  obtain ⟨G, W⟩ := M
  exact ⟨G, t, ns, last, W.s1, ha K G W.ok, p0, p1, p2, fun v rs H' hc M2 => k0 v rs H' hc (W.comp M2)⟩
end
end K20

set_option Elab.async false
set_option linter.all false
set_option maxRecDepth 100000
set_option maxHeartbeats 8000000
namespace K20
open PySem L2 MyL
local macro_rules | `(tactic| walk_at "sub") => `(tactic| first | exact sub_nil | exact sub_self | (refine' sub_cons ?k1 ?k2; (case k1 => walk_at "mem"); (case k2 => walk_at "sub")) | (refine' sub_app ?k1 ?k2; (case k1 => walk_at "sub"); (case k2 => walk_at "sub")) | (refine sub_tail ?_; walk_at "sub") | fail)
local macro_rules | `(tactic| walk_at "mem") => `(tactic| first | exact List.mem_cons_self | (refine List.mem_cons_of_mem _ ?_; walk_at "mem") | (refine List.mem_append_right _ ?_; walk_at "mem") | (refine List.mem_append_left _ ?_; walk_at "mem") | assumption | fail)
local macro_rules | `(tactic| walk_at "inl") => `(tactic| first | (refine Or.inl ?_; walk_at "mem") | (refine Or.inr ?_; walk_at "mem") | fail)
local macro_rules | `(tactic| walk_at "has1") => `(tactic| first | exact H1.int | exact H1.str | exact H1.bl | exact H1.non | exact H1.mem (by walk_at "mem") | assumption | fail)
local macro_rules | `(tactic| walk_at "hass") => `(tactic| first | exact Hs.nil | (refine' Hs.cons ?k1 ?k2; (case k1 => walk_at "has1"); (case k2 => walk_at "hass")) | exact Hs.ints _ | assumption | fail)
local macro_rules | `(tactic| walk_at "kn") => `(tactic| first | (refine Or.inl ?_; walk_at "has1") | (refine Or.inr ⟨_, _, rfl, rfl, ?_⟩; walk_at "mem") | fail)
local macro_rules | `(tactic| walk_at "sh") => `(tactic| first | exact Sh.int | exact Sh.bl | exact Sh.non | exact Sh.str (by decide) | assumption | (refine Sh.tupM ?_; intro x' hx'; walk_at "sh") | (refine Sh.lstM ?_; intro x' hx'; walk_at "sh") | (refine Sh.tup ?_; walk_at "shs") | (refine Sh.lst ?_; walk_at "shs") | fail)
local macro_rules | `(tactic| walk_at "shs") => `(tactic| first | exact Sh.nil | (refine' Sh.cons ?k1 ?k2; (case k1 => walk_at "sh"); (case k2 => walk_at "shs")) | fail)
local macro_rules | `(tactic| walk_at "lt") => `(tactic| first | omega | (simp only [List.length_map, List.length_range, List.length_append, List.length_cons, List.length_nil, List.length_replicate, List.length_set]; omega) | fail)
local macro_rules | `(tactic| walk_at "few") => `(tactic| first | decide | simp | fail)
local macro_rules | `(tactic| walk_at "lof") => `(tactic| (refine' d_listI ?k1 ?k2 ?_; (case k1 => assumption); (case k2 => first | (refine Or.inl ?_; walk_at "inl") | (refine Or.inr ?_; walk_at "mem") | fail); intro p' H' M'))
local macro_rules | `(tactic| walk_at "lst") => `(tactic| (refine' d_lst ?k1 ?k2 ?k3 ?_; (case k1 => assumption); (case k2 => walk_at "hass"); (case k3 => walk_at "size"); intro p' H' M'))
local macro_rules | `(tactic| walk_at "cond") => `(tactic| first | omega | assumption | exact mulR (by omega) (by omega) | exact mulL (by omega) (by omega) | exact divW (by omega) (by omega) | decide)
local macro_rules | `(tactic| walk_at "look") => `(tactic| first | assumption | with_unfolding_all rfl | exact atI_mapI (by omega) (by omega) | exact atI_mapL (by omega) (by omega) | exact atI_mapD (by omega) (by omega) | fail)
local macro_rules | `(tactic| walk_at "go1") => `(tactic| with_reducible first
  | refine k_yes ?_ | refine k_seq ?_ | refine k_gName ?_ | refine k_asg ?_ | refine k_ret ?_ | refine k_ifS ?_ | refine k_drop ?_ | refine k_next ?_ | refine k_break ?_ | refine k_cont ?_ | refine k_retN ?_
  | (refine' k_var ?k1 ?_; (case k1 => with_unfolding_all rfl)) | refine k_c ?_ | refine k_op ?_ | refine k_un ?_ | refine k_test ?_ | refine k_B ?_ | refine k_bl ?_ | refine k_and ?_ | refine k_or ?_ | refine k_not ?_
  | refine k_andV ?_ | refine k_orV ?_ | refine k_notV ?_ | refine k_ifE ?_ | refine k_nil ?_ | refine k_cons ?_ | refine k_cb ?_ | refine k_callS ?_ | refine k_lst0 ?_ | refine k_tup0 ?_ | refine k_fld0 ?_ | refine k_sub0 ?_ | refine k_make0 ?_ | refine k_prop0 ?_ | refine k_sta0 ?_ | refine k_sta ?_ | refine k_bm ?_ | refine k_bm0 ?_ | refine k_chain ?_ | refine k_makeK0 ?_ | refine k_swapK ?_ | refine k_meth0 ?_ | refine k_ownN0 ?_ | refine k_ownO0 ?_ | refine k_sfldS ?_ | refine k_jnil ?_ | refine k_jcons ?_ | refine k_fmt0 ?_ | refine k_sl0 ?_ | refine k_nopart ?_ | refine k_part ?_ | refine k_forR1 ?_ | refine k_forR2 ?_ | refine k_forL ?_ | refine k_forT ?_ | refine k_lcR1 ?_ | refine k_lc2R1 ?_ | refine k_lc2R2 ?_ | refine k_lc2L ?_ | refine k_lc2T ?_ | refine k_iR1 ?_ | refine k_iR2 ?_ | refine k_iL ?_ | refine k_iT ?_ | refine k_lcR2 ?_ | refine k_lcL ?_ | refine k_lcT ?_ | refine k_err0 ?_ | refine k_xf0 ?_ | refine k_errQ1 ?_ | refine k_errQ0 ?_ | refine k_errQ2 ?_ | refine k_errQ3 ?_
  | refine k_I0 ?_ | (refine k_I ?k1 ?_; (case k1 => walk_at "cond")) | refine k_U ?_ | refine k_eqI ?_ | refine k_neI ?_ | refine k_eqB ?_ | refine k_neB ?_ | refine k_eqS ?_ | refine k_neS ?_
  | refine k_int1 ?_ | refine k_abs1 ?_ | refine k_min2 ?_ | refine k_max2 ?_
  | (refine' k_lenS ?k1 ?_; (case k1 => assumption)) | (refine' k_ixS ?k1 ?k2 ?_; (case k1 => assumption); (case k2 => walk_at "look"))
  | refine iteT ?_ | refine iteF ?_ | refine k_iteNE ?_ | refine k_iteNS ?_ | refine k_iteNT ?_ | refine k_iteNF ?_
  | (refine k_iteD ?_ ?_ <;> intro hc <;> first | (exfalso; omega) | skip)
  | (refine k_iteN ?_ ?_ <;> intro hc <;> first | (exfalso; omega) | skip)
  | (refine' k_isiI ?k1 ?_; (case k1 => assumption))
  | (refine' k_jst ?k1 ?_; (case k1 => walk_at "size")) | (refine' k_fmtI ?k1 ?_; (case k1 => exact log2_64 (by omega) (by omega))) | (refine' k_strI ?k1 ?_; (case k1 => exact log2_64 (by omega) (by omega)))
  | (refine k_addS ?k1 ?_; (case k1 => walk_at "size")) | refine k_st ?_ | refine k_parti ?_
  | (refine k_rng1 ?k1 ?k2 ?_; (case k1 => omega); (case k2 => omega)) | (refine k_rng2 ?k1 ?k2 ?k3 ?k4 ?_; (case k1 => omega); (case k2 => omega); (case k3 => omega); (case k4 => omega))
  | (refine' k_isXs ?k1 ?k2 ?_; (case k1 => assumption); (case k2 => walk_at "hp")) | (refine' k_isXo ?k1 ?k2 ?k3 ?_; (case k1 => assumption); (case k2 => walk_at "hp"); (case k3 => assumption)) | (refine' k_isXt ?k1 ?k2 ?k3 ?_; (case k1 => assumption); (case k2 => walk_at "hp"); (case k3 => assumption))
  | (refine' k_isX3 ?k1 ?k2 ?k3 ?k4 ?_; (case k1 => assumption); (case k2 => walk_at "hp"); (case k3 => walk_at "hp"); (case k4 => assumption)) | (refine' k_isX2 ?k1 ?k2 ?k3 ?k4 ?_; (case k1 => assumption); (case k2 => walk_at "hp"); (case k3 => walk_at "hp"); (case k4 => assumption))
  | (refine' k_isX0s ?k1 ?_; (case k1 => assumption)) | (refine' k_isX0o ?k1 ?k2 ?_; (case k1 => assumption); (case k2 => assumption)) | (refine' k_isX0t ?k1 ?k2 ?_; (case k1 => assumption); (case k2 => assumption)) | (refine' k_isX04 ?k1 ?k2 ?k3 ?_; (case k1 => assumption); (case k2 => walk_at "hp"); (case k3 => assumption))
  | (refine' k_isX4 ?k1 ?k2 ?k3 ?k4 ?_; (case k1 => assumption); (case k2 => walk_at "hp"); (case k3 => walk_at "hp"); (case k4 => assumption)) | (refine' k_ixT2 ?k1 ?k2 ?k3 ?_; (case k1 => walk_at "hp"); (case k2 => omega); (case k3 => omega); intro n' hn')
  | (refine k_iteNEq ?k1 ?_; (case k1 => (rw [Bool.eq_iff_iff]; first | (simp; done) | (simp; omega))))
  | (refine' k_xf ?k1 ?k2 ?_; (case k1 => walk_at "hp"); (case k2 => first | exact xd1 | exact xdH | exact xd2 (by decide +kernel)))
  | (refine' k_caught ?k1 ?_; (case k1 => assumption); intro a' ha')
  | refine k_asgT ?_ | refine k_gCons ?_ | refine k_gNil ?_ | refine k_par ?_ | refine k_two ?_ | refine k_isNn ?_ | refine k_isNi ?_ | refine k_notNn ?_ | refine k_notNi ?_ | refine k_isN ?_ | refine k_notN ?_
  | (refine' k_xfB ?k1 ?k2 ?_; (case k1 => walk_at "hp"); (case k2 => first | exact xd1 | exact xdH | exact xd2 (by decide +kernel)))
  | (refine' d_ixLI ?k1 ?k2 ?k3 ?_; (case k1 => assumption); (case k2 => walk_at "inl"); (case k3 => walk_at "look"))
  | (refine' d_ixLS ?k1 ?k2 ?k3 ?_; (case k1 => assumption); (case k2 => walk_at "inl"); (case k3 => walk_at "look"))
  | (refine' d_ixLB ?k1 ?k2 ?k3 ?_; (case k1 => assumption); (case k2 => walk_at "inl"); (case k3 => walk_at "look"))
  | (refine' d_ixL ?k1 ?k2 ?k3 ?_; (case k1 => assumption); (case k2 => walk_at "inl"); (case k3 => walk_at "look"); intro v' M'; first | (have e' := Mm.isI M'; subst e') | (have e' := Mm.isS M'; subst e') | (have e' := Mm.isB M'; subst e') | (have e' := Mm.isN M'; subst e') | (obtain ⟨p', e'⟩ := Mm.isT M'; subst e') | (obtain ⟨p', e'⟩ := Mm.isL M'; subst e') | (obtain ⟨p', e'⟩ := Mm.isO M'; subst e') | skip)
  | (refine' d_ixTI ?k1 ?k2 ?k3 ?_; (case k1 => assumption); (case k2 => walk_at "mem"); (case k3 => walk_at "look"))
  | (refine' d_ixTS ?k1 ?k2 ?k3 ?_; (case k1 => assumption); (case k2 => walk_at "mem"); (case k3 => walk_at "look"))
  | (refine' d_ixTB ?k1 ?k2 ?k3 ?_; (case k1 => assumption); (case k2 => walk_at "mem"); (case k3 => walk_at "look"))
  | (refine' d_ixT ?k1 ?k2 ?k3 ?_; (case k1 => assumption); (case k2 => walk_at "mem"); (case k3 => walk_at "look"); intro v' M'; first | (have e' := Mm.isI M'; subst e') | (have e' := Mm.isS M'; subst e') | (have e' := Mm.isB M'; subst e') | (have e' := Mm.isN M'; subst e') | (obtain ⟨p', e'⟩ := Mm.isT M'; subst e') | (obtain ⟨p', e'⟩ := Mm.isL M'; subst e') | (obtain ⟨p', e'⟩ := Mm.isO M'; subst e') | skip)
  | (refine' d_ixc2 ?k1 ?k2 ?k3 ?k4 ?_; (case k1 => assumption); (case k2 => walk_at "inl"); (case k3 => omega); (case k4 => omega); intro n' hn')
  | (refine' d_ixc3 ?k1 ?k2 ?k3 ?k4 ?_; (case k1 => assumption); (case k2 => walk_at "inl"); (case k3 => omega); (case k4 => omega); intro n' hn')
  | (refine' d_ixc4 ?k1 ?k2 ?k3 ?k4 ?_; (case k1 => assumption); (case k2 => walk_at "inl"); (case k3 => omega); (case k4 => omega); intro n' hn')
  | (refine' d_ixc5 ?k1 ?k2 ?k3 ?k4 ?_; (case k1 => assumption); (case k2 => walk_at "inl"); (case k3 => omega); (case k4 => omega); intro n' hn')
  | (refine' d_ixc6 ?k1 ?k2 ?k3 ?k4 ?_; (case k1 => assumption); (case k2 => walk_at "inl"); (case k3 => omega); (case k4 => omega); intro n' hn')
  | (refine' d_ixc7 ?k1 ?k2 ?k3 ?k4 ?_; (case k1 => assumption); (case k2 => walk_at "inl"); (case k3 => omega); (case k4 => omega); intro n' hn')
  | (refine' d_ixc8 ?k1 ?k2 ?k3 ?k4 ?_; (case k1 => assumption); (case k2 => walk_at "inl"); (case k3 => omega); (case k4 => omega); intro n' hn')
  | (refine' d_ixc9 ?k1 ?k2 ?k3 ?k4 ?_; (case k1 => assumption); (case k2 => walk_at "inl"); (case k3 => omega); (case k4 => omega); intro n' hn')
  | (refine' d_lenL ?k1 ?k2 ?_; (case k1 => assumption); (case k2 => walk_at "inl"))
  | (refine' d_lenT ?k1 ?k2 ?_; (case k1 => assumption); (case k2 => walk_at "mem"))
  | (refine' d_lenQ ?k1 ?k2 ?_; (case k1 => assumption); (case k2 => walk_at "mem"))
  | (refine' d_lst0 ?k1 ?_; (case k1 => assumption); intro p' H' M')
  | (refine' d_tup ?k1 ?k2 ?k3 ?_; (case k1 => assumption); (case k2 => walk_at "hass"); (case k3 => walk_at "size"); intro p' H' M')
  | (refine' d_tupR ?k1 ?k2 ?_; (case k1 => assumption); (case k2 => walk_at "size"); intro p' H' hp' M')
  | walk_at "lst"
  | (refine' d_fldI ?k1 ?k2 ?k3 ?k4 ?k5 ?_; (case k1 => assumption); (case k2 => walk_at "mem"); (case k3 => assumption); (case k4 => assumption); (case k5 => walk_at "fld"))
  | (refine' d_fld ?k1 ?k2 ?k3 ?k4 ?k5 ?_; (case k1 => assumption); (case k2 => walk_at "mem"); (case k3 => assumption); (case k4 => assumption); (case k5 => walk_at "fld"); intro v' M'; first | (have e' := Mm.isI M'; subst e') | (have e' := Mm.isS M'; subst e') | (have e' := Mm.isB M'; subst e') | (have e' := Mm.isN M'; subst e') | (obtain ⟨p', e'⟩ := Mm.isT M'; subst e') | (obtain ⟨p', e'⟩ := Mm.isL M'; subst e') | (obtain ⟨p', e'⟩ := Mm.isO M'; subst e') | skip)
  | (refine' d_fldX0 ?k1 ?k2 ?k3 ?k4 ?_; (case k1 => assumption); (case k2 => assumption); (case k3 => assumption); (case k4 => walk_at "fld"); intro v' M'; first | (have e' := Mm.isI M'; subst e') | (have e' := Mm.isS M'; subst e') | (have e' := Mm.isB M'; subst e') | (have e' := Mm.isN M'; subst e') | (obtain ⟨p', e'⟩ := Mm.isT M'; subst e') | (obtain ⟨p', e'⟩ := Mm.isL M'; subst e') | (obtain ⟨p', e'⟩ := Mm.isO M'; subst e') | skip)
  | (refine' d_fldX1 ?k1 ?k2 ?k3 ?k4 ?_; (case k1 => assumption); (case k2 => assumption); (case k3 => assumption); (case k4 => walk_at "fld"); intro v' M'; first | (have e' := Mm.isI M'; subst e') | (have e' := Mm.isS M'; subst e') | (have e' := Mm.isB M'; subst e') | (have e' := Mm.isN M'; subst e') | (obtain ⟨p', e'⟩ := Mm.isT M'; subst e') | (obtain ⟨p', e'⟩ := Mm.isL M'; subst e') | (obtain ⟨p', e'⟩ := Mm.isO M'; subst e') | skip)
  | (refine' d_gT2I ?k1 ?k2 ?k3 ?_; (case k1 => assumption); (case k2 => walk_at "mem"); (case k3 => with_unfolding_all rfl))
  | (refine' d_gT2 ?k1 ?k2 ?k3 ?_; (case k1 => assumption); (case k2 => walk_at "mem"); (case k3 => with_unfolding_all rfl); intro v1' v2' M'; (first | (have e' := Mm.isI M'; subst e') | (have e' := Mm.isS M'; subst e') | (have e' := Mm.isB M'; subst e') | (have e' := Mm.isN M'; subst e') | (obtain ⟨p', e'⟩ := Mm.isT M'; subst e') | (obtain ⟨p', e'⟩ := Mm.isL M'; subst e') | (obtain ⟨p', e'⟩ := Mm.isO M'; subst e') | skip); (first | (have e' := Mm.isI (Mm.dropL M'); subst e') | (have e' := Mm.isS (Mm.dropL M'); subst e') | (have e' := Mm.isB (Mm.dropL M'); subst e') | (have e' := Mm.isN (Mm.dropL M'); subst e') | (obtain ⟨p2', e'⟩ := Mm.isT (Mm.dropL M'); subst e') | (obtain ⟨p2', e'⟩ := Mm.isL (Mm.dropL M'); subst e') | (obtain ⟨p2', e'⟩ := Mm.isO (Mm.dropL M'); subst e') | skip))
  | (refine' d_gT3 ?k1 ?k2 ?k3 ?_; (case k1 => assumption); (case k2 => walk_at "mem"); (case k3 => with_unfolding_all rfl); intro v1' v2' v3' M'; (first | (have e' := Mm.isI M'; subst e') | (have e' := Mm.isS M'; subst e') | (have e' := Mm.isB M'; subst e') | (have e' := Mm.isN M'; subst e') | (obtain ⟨p', e'⟩ := Mm.isT M'; subst e') | (obtain ⟨p', e'⟩ := Mm.isL M'; subst e') | (obtain ⟨p', e'⟩ := Mm.isO M'; subst e') | skip); (first | (have e' := Mm.isI (Mm.dropL M'); subst e') | (have e' := Mm.isS (Mm.dropL M'); subst e') | (have e' := Mm.isB (Mm.dropL M'); subst e') | (have e' := Mm.isN (Mm.dropL M'); subst e') | (obtain ⟨p2', e'⟩ := Mm.isT (Mm.dropL M'); subst e') | (obtain ⟨p2', e'⟩ := Mm.isL (Mm.dropL M'); subst e') | (obtain ⟨p2', e'⟩ := Mm.isO (Mm.dropL M'); subst e') | skip); (first | (have e' := Mm.isI (Mm.dropL (Mm.dropL M')); subst e') | (have e' := Mm.isS (Mm.dropL (Mm.dropL M')); subst e') | (have e' := Mm.isB (Mm.dropL (Mm.dropL M')); subst e') | (have e' := Mm.isN (Mm.dropL (Mm.dropL M')); subst e') | (obtain ⟨p3', e'⟩ := Mm.isT (Mm.dropL (Mm.dropL M')); subst e') | (obtain ⟨p3', e'⟩ := Mm.isL (Mm.dropL (Mm.dropL M')); subst e') | (obtain ⟨p3', e'⟩ := Mm.isO (Mm.dropL (Mm.dropL M')); subst e') | skip))
  | (refine' d_app0 ?k1 ?k2 ?k3 ?_; (case k1 => assumption); (case k2 => walk_at "has1"); (case k3 => walk_at "size"); intro H' M')
  | (refine' d_app1 ?k1 ?k2 ?k3 ?_; (case k1 => assumption); (case k2 => walk_at "has1"); (case k3 => walk_at "size"); intro H' M')
  | (refine' d_app2 ?k1 ?k2 ?k3 ?_; (case k1 => assumption); (case k2 => walk_at "has1"); (case k3 => walk_at "size"); intro H' M')
  | (refine' d_app3 ?k1 ?k2 ?k3 ?_; (case k1 => assumption); (case k2 => walk_at "has1"); (case k3 => walk_at "size"); intro H' M')
  | (refine' d_set0 ?k1 ?k2 ?k3 ?k4 ?_; (case k1 => assumption); (case k2 => walk_at "has1"); (case k3 => omega); (case k4 => walk_at "lt"); intro H' M')
  | (refine' d_set1 ?k1 ?k2 ?k3 ?k4 ?_; (case k1 => assumption); (case k2 => walk_at "has1"); (case k3 => omega); (case k4 => walk_at "lt"); intro H' M')
  | (refine' d_set2 ?k1 ?k2 ?k3 ?k4 ?_; (case k1 => assumption); (case k2 => walk_at "has1"); (case k3 => omega); (case k4 => walk_at "lt"); intro H' M')
  | (refine' d_set3 ?k1 ?k2 ?k3 ?k4 ?_; (case k1 => assumption); (case k2 => walk_at "has1"); (case k3 => omega); (case k4 => walk_at "lt"); intro H' M')
  | (refine' d_reverse0 ?k1 ?_; (case k1 => assumption); intro H' M')
  | (refine' d_reverse1 ?k1 ?_; (case k1 => assumption); intro H' M')
  | (refine' d_reverse2 ?k1 ?_; (case k1 => assumption); intro H' M')
  | (refine' d_clear0 ?k1 ?_; (case k1 => assumption); intro H' M')
  | (refine' d_clear1 ?k1 ?_; (case k1 => assumption); intro H' M')
  | (refine' d_clear2 ?k1 ?_; (case k1 => assumption); intro H' M')
  | (refine' d_sfld0 ?k1 ?k2 ?k3 ?k4 ?k5 ?_; (case k1 => assumption); (case k2 => walk_at "has1"); (case k3 => assumption); (case k4 => assumption); (case k5 => walk_at "few"); intro H' M')
  | (refine' d_sfld1 ?k1 ?k2 ?k3 ?k4 ?k5 ?_; (case k1 => assumption); (case k2 => walk_at "has1"); (case k3 => assumption); (case k4 => assumption); (case k5 => walk_at "few"); intro H' M')
  | (refine' d_tyL2 ?k1 ?k2 ?_; (case k1 => assumption); (case k2 => walk_at "inl"))
  | (refine' d_inIL ?k1 ?k2 ?_; (case k1 => assumption); (case k2 => walk_at "inl"))
  | (refine' d_notIL ?k1 ?k2 ?_; (case k1 => assumption); (case k2 => walk_at "inl"))
  | (refine' d_inIT ?k1 ?k2 ?_; (case k1 => assumption); (case k2 => walk_at "mem"))
  | (refine' d_notIT ?k1 ?k2 ?_; (case k1 => assumption); (case k2 => walk_at "mem"))
  | (refine' d_eqE ?k1 ?k2 ?k3 ?_; (case k1 => assumption); (case k2 => walk_at "inl"); (case k3 => walk_at "inl"))
  | (refine' d_neE ?k1 ?k2 ?k3 ?_; (case k1 => assumption); (case k2 => walk_at "inl"); (case k3 => walk_at "inl"))
  | (refine' d_eq ?k1 ?k2 ?k3 ?k4 ?k5 ?_; (case k1 => assumption); (case k2 => walk_at "kn"); (case k3 => walk_at "kn"); (case k4 => walk_at "sh"); (case k5 => walk_at "sh"))
  | (refine' d_ne ?k1 ?k2 ?k3 ?k4 ?k5 ?_; (case k1 => assumption); (case k2 => walk_at "kn"); (case k3 => walk_at "kn"); (case k4 => walk_at "sh"); (case k5 => walk_at "sh"))
  | (refine' d_inD ?k1 ?k2 ?k3 ?k4 ?k5 ?_; (case k1 => assumption); (case k2 => walk_at "kn"); (case k3 => walk_at "kn"); (case k4 => walk_at "sh"); (case k5 => walk_at "sh"))
  | (refine' d_notInD ?k1 ?k2 ?k3 ?k4 ?k5 ?_; (case k1 => assumption); (case k2 => walk_at "kn"); (case k3 => walk_at "kn"); (case k4 => walk_at "sh"); (case k5 => walk_at "sh"))
  | (refine' d_isiT ?k1 ?k2 ?k3 ?_; (case k1 => assumption); (case k2 => walk_at "mem"); (case k3 => assumption))
  | (refine' d_isiL ?k1 ?k2 ?k3 ?_; (case k1 => assumption); (case k2 => walk_at "inl"); (case k3 => assumption))
  | (refine' d_isiO ?k1 ?k2 ?k3 ?k4 ?k5 ?k6 ?k7 ?_; (case k1 => assumption); (case k2 => walk_at "mem"); (case k3 => assumption); (case k4 => assumption); (case k5 => assumption); (case k6 => assumption); (case k7 => assumption))
  | walk_at "lof"
  | (refine' d_tupOfL ?k1 ?k2 ?_; (case k1 => assumption); (case k2 => walk_at "inl"); intro p' H' M')
  | (refine' d_tupOfT ?k1 ?k2 ?_; (case k1 => assumption); (case k2 => walk_at "mem"))
  | (refine' d_tupOfQ ?k1 ?k2 ?_; (case k1 => assumption); (case k2 => walk_at "mem"); intro p' H' M')
  | (refine' d_catT ?k1 ?k2 ?k3 ?k4 ?_; (case k1 => assumption); (case k2 => walk_at "mem"); (case k3 => walk_at "mem"); (case k4 => walk_at "size"); intro p' H' M')
  | (refine' d_slL ?k1 ?k2 ?_; (case k1 => assumption); (case k2 => walk_at "inl"); intro p' H' M')
  | refine d_revL ?_
  | (refine' d_rev ?k1 ?k2 ?_; (case k1 => assumption); (case k2 => walk_at "inl"); intro p' H' M')
  | (refine' d_cat ?k1 ?k2 ?k3 ?k4 ?_; (case k1 => assumption); (case k2 => walk_at "inl"); (case k3 => walk_at "inl"); (case k4 => walk_at "size"); intro p' H' M')
  | (refine' d_all ?k1 ?k2 ?_; (case k1 => assumption); (case k2 => walk_at "inl"))
  | (refine' d_any ?k1 ?k2 ?_; (case k1 => assumption); (case k2 => walk_at "inl"))
  | (refine' d_lstAt ?k1 ?k2 ?_; (case k1 => assumption); (case k2 => walk_at "inl"))
  | (refine' d_tupAt ?k1 ?k2 ?_; (case k1 => assumption); (case k2 => walk_at "mem"))
  | (refine' d_meth ?k1 ?k2 ?k3 ?_; (case k1 => assumption); (case k2 => walk_at "mem"); (case k3 => walk_at "fld"))
  | (refine' d_ownN ?k1 ?k2 ?_; (case k1 => assumption); (case k2 => walk_at "mem"))
  | (refine' d_ownO ?k1 ?k2 ?k3 ?_; (case k1 => assumption); (case k2 => walk_at "mem"); (case k3 => walk_at "mem"))
  | (refine' d_ownEq ?k1 ?k2 ?k3 ?_; (case k1 => assumption); (case k2 => walk_at "mem"); (case k3 => walk_at "mem"))
  | (refine' d_ownIn ?k1 ?k2 ?_; (case k1 => assumption); (case k2 => walk_at "mem"))
  | (refine' d_ownU ?k1 ?k2 ?_; (case k1 => assumption); (case k2 => walk_at "mem"))
  | (refine' d_ownStr ?k1 ?k2 ?_; (case k1 => assumption); (case k2 => walk_at "mem"))
  | (refine' d_prop ?k1 ?k2 ?_; (case k1 => assumption); (case k2 => walk_at "mem"))
  | (refine' d_dnew ?k1 ?_; (case k1 => assumption); intro p' H' M')
  | refine d_din0 ?_ | refine d_dnotin0 ?_ | refine d_dget0 ?_ | refine d_dput0 ?_ | refine d_items0 ?_
  | (refine' d_din ?k1 ?k2 ?k3 ?_; (case k1 => assumption); (case k2 => walk_at "inl"); (case k3 => first | exact (rfl : V.str _ = kV (Sum.inr _)) | exact (rfl : V.int _ = kV (Sum.inl _)) | fail))
  | (refine' d_dnotin ?k1 ?k2 ?k3 ?_; (case k1 => assumption); (case k2 => walk_at "inl"); (case k3 => first | exact (rfl : V.str _ = kV (Sum.inr _)) | exact (rfl : V.int _ = kV (Sum.inl _)) | fail))
  | (refine' d_items ?k1 ?k2 ?_; (case k1 => assumption); (case k2 => walk_at "inl"); intro p' H' M')
  | (refine' d_range1 ?k1 ?_; (case k1 => assumption); intro p' H' hp' M')
  | (refine' d_listRng ?k1 ?k2 ?k3 ?k4 ?_; (case k1 => assumption); (case k2 => assumption); (case k3 => omega); (case k4 => omega); intro p' H' M')
  | walk_at "use")
local macro_rules | `(tactic| walk_at "go") => `(tactic| repeat' (walk_at "go1"))

local macro_rules | `(tactic| walk_at "hp") => `(tactic| first | assumption | fail)
local macro_rules | `(tactic| walk_at "fld") => `(tactic| first | exact fd_nil | exact fd_hd | (refine' fd_tl ?k1 ?k2; (case k1 => decide +kernel); (case k2 => walk_at "fld")) | fail)
local macro_rules | `(tactic| walk_at "size") => `(tactic| first | exact Nat.lt_of_le_of_lt (m := 50000) (by first | omega | (simp only [List.length_map, List.length_range, List.length_append, List.length_cons, List.length_nil, List.length_replicate, List.length_set, List.length_reverse]; omega)) (by decide) | exact Nat.le_trans (m := 50000) (by first | omega | (simp only [List.length_map, List.length_range, List.length_append, List.length_cons, List.length_nil, List.length_replicate, List.length_set, List.length_reverse]; omega)) (by decide) | fail)
section
variable {P : Program} {w : World} {K : PySem.W.Frag} {mg : Str → Option Value} {base : Heap} {C CO fO CE fE : Addr}
/-- a longest fitting stay -/
def FRun (ns : List Nt) (last : Int) (x : Pr) : Prop := Run ns last x ∧ ∀ d, See ns d → x.1 ≤ d ∧ d ≤ x.2
theorem Run.fit {ns : List Nt} {last : Int} {x : Pr} (h : FRun ns last x) : Fit ns last x := ⟨h.1.lo, h.1.le, h.1.hi, h.1.fr, h.2⟩
def Least (ns : List Nt) (last : Int) (x : Pr) : Prop := Fit ns last x ∧ ¬ Fit ns last (x.1 + 1, x.2) ∧ ¬ Fit ns last (x.1, x.2 - 1)
def Great (ns : List Nt) (last : Int) (x : Pr) : Prop := Fit ns last x ∧ ¬ Fit ns last (x.1 - 1, x.2) ∧ ¬ Fit ns last (x.1, x.2 + 1)
theorem Free.sub {ns : List Nt} {a b c d : Int} (h : Free ns a b) (h1 : a ≤ c) (h2 : d ≤ b) : Free ns c d := fun x hx hy => h x (by omega) (by omega)
theorem free_ext {ns : List Nt} {a b : Int} (h : Free ns a b) (hd : ¬ Den ns (a - 1)) : Free ns (a - 1) b := fun x h1 h2 => by
  by_cases e : x = a - 1
  · subst e; exact hd
  · exact h x (by omega) h2
theorem free_ext2 {ns : List Nt} {a b : Int} (h : Free ns a b) (hd : ¬ Den ns (b + 1)) : Free ns a (b + 1) := fun x h1 h2 => by
  by_cases e : x = b + 1
  · subst e; exact hd
  · exact h x h1 (by omega)
theorem great_iff {ns : List Nt} {last : Int} (x : Pr) : FRun ns last x ↔ Great ns last x := by
  constructor
  · intro h
    refine ⟨Run.fit h, fun k => ?_, fun k => ?_⟩
    · have k0 : 0 ≤ x.1 - 1 := k.lo
      rcases h.1.bf with e | e
      · omega
      · have hle := h.1.le
        exact k.fr (x.1 - 1) (Int.le_refl _) (by show x.1 - 1 ≤ x.2; omega) e
    · have k0 : x.2 + 1 ≤ last := k.hi
      rcases h.1.af with e | e
      · omega
      · have hle := h.1.le
        exact k.fr (x.2 + 1) (by show x.1 ≤ x.2 + 1; omega) (Int.le_refl _) e
  · rintro ⟨h, h1, h2⟩
    refine ⟨⟨h.lo, h.le, h.hi, h.fr, ?_, ?_⟩, h.se⟩
    · by_cases e : x.1 = 0
      · exact .inl e
      · refine .inr ?_
        by_cases hd : Den ns (x.1 - 1)
        · exact hd
        · have := h.lo; have := h.le; have := h.hi
          exact absurd ⟨by show 0 ≤ x.1 - 1; omega, by show x.1 - 1 ≤ x.2; omega, h.hi, free_ext h.fr hd, fun d hs => by have := h.se d hs; exact ⟨by show x.1 - 1 ≤ d; omega, this.2⟩⟩ h1
    · by_cases e : x.2 = last
      · exact .inl e
      · refine .inr ?_
        by_cases hd : Den ns (x.2 + 1)
        · exact hd
        · have := h.lo; have := h.le; have := h.hi
          exact absurd ⟨h.lo, by show x.1 ≤ x.2 + 1; omega, by show x.2 + 1 ≤ last; omega, free_ext2 h.fr hd, fun d hs => by have := h.se d hs; exact ⟨this.1, by show d ≤ x.2 + 1; omega⟩⟩ h2
/-- with nobody seen the least stays are the free days -/
theorem least_none {ns : List Nt} {last : Int} (hs : ∀ d, ¬ See ns d) (x : Pr) : Least ns last x ↔ x.1 = x.2 ∧ 0 ≤ x.1 ∧ x.1 ≤ last ∧ ¬ Den ns x.1 := by
  constructor
  · rintro ⟨h, h1, h2⟩
    have a := h.lo; have b := h.le; have c := h.hi
    by_cases e : x.1 = x.2
    · exact ⟨e, a, by omega, h.fr _ (Int.le_refl _) b⟩
    · exact absurd ⟨by show 0 ≤ x.1 + 1; omega, by show x.1 + 1 ≤ x.2; omega, c, h.fr.sub (by show x.1 ≤ x.1 + 1; omega) (Int.le_refl _), fun d hd => absurd hd (hs d)⟩ h1
  · rintro ⟨e, a, b, c⟩
    refine ⟨⟨a, by omega, by omega, fun d h1 h2 => by rw [show d = x.1 by omega]; exact c, fun d hd => absurd hd (hs d)⟩, fun k => ?_, fun k => ?_⟩
    · have := k.le
      have : x.1 + 1 ≤ x.2 := this
      omega
    · have := k.le
      have : x.1 ≤ x.2 - 1 := this
      omega
theorem fit_inner {ns : List Nt} {last : Int} {x : Pr} {a b : Int} (h : Fit ns last x) (h1 : x.1 ≤ a) (h2 : b ≤ x.2) (h3 : a ≤ b) (hs : ∀ d, See ns d → a ≤ d ∧ d ≤ b) : Fit ns last (a, b) :=
  ⟨by have := h.lo; show 0 ≤ a; omega, h3, by have := h.hi; show b ≤ last; omega, h.fr.sub h1 h2, hs⟩
theorem least_some {ns : List Nt} {last a b : Int} (ha : See ns a) (hb : See ns b) (hab : ∀ d, See ns d → a ≤ d ∧ d ≤ b) {y : Pr} (hy : Fit ns last y) (x : Pr) : Least ns last x ↔ x = (a, b) := by
  have h1 := hy.se a ha
  have h2 := hy.se b hb
  have h3 := hab a ha
  have hf : Fit ns last (a, b) := fit_inner hy h1.1 h2.2 h3.2 hab
  constructor
  · rintro ⟨h, k1, k2⟩
    have e1 := h.se a ha
    have e2 := h.se b hb
    have g1 : x.1 = a := by
      by_cases e : x.1 = a
      · exact e
      · exact absurd (fit_inner h (by omega) (Int.le_refl _) (by omega) fun d hd => ⟨by have := (hab d hd).1; omega, (h.se d hd).2⟩) k1
    have g2 : x.2 = b := by
      by_cases e : x.2 = b
      · exact e
      · exact absurd (fit_inner h (Int.le_refl _) (by omega) (by omega) fun d hd => ⟨(h.se d hd).1, by have := (hab d hd).2; omega⟩) k2
    exact Prod.ext g1 g2
  · rintro rfl
    refine ⟨hf, fun k => ?_, fun k => ?_⟩
    · have := (k.se a ha).1
      have : a + 1 ≤ a := this
      omega
    · have := (k.se b hb).2
      have : b ≤ b - 1 := this
      omega
/-- in a fitting stay lies a least one, and a greatest one lies around it -/
theorem has_least {ns : List Nt} {last : Int} : ∀ (n : Nat) (x : Pr), Fit ns last x → (x.2 - x.1).toNat ≤ n → ∃ y, Least ns last y ∧ x.1 ≤ y.1 ∧ y.2 ≤ x.2
  | n, x, h, hn => by
    by_cases h1 : Fit ns last (x.1 + 1, x.2)
    · have hl : x.1 + 1 ≤ x.2 := h1.le
      cases n with
      | zero => omega
      | succ n =>
        obtain ⟨y, a, b, c⟩ := has_least n (x.1 + 1, x.2) h1 (by show (x.2 - (x.1 + 1)).toNat ≤ n; omega)
        have b : x.1 + 1 ≤ y.1 := b
        exact ⟨y, a, by omega, c⟩
    · by_cases h2 : Fit ns last (x.1, x.2 - 1)
      · have hl : x.1 ≤ x.2 - 1 := h2.le
        cases n with
        | zero => omega
        | succ n =>
          obtain ⟨y, a, b, c⟩ := has_least n (x.1, x.2 - 1) h2 (by show (x.2 - 1 - x.1).toNat ≤ n; omega)
          have c : y.2 ≤ x.2 - 1 := c
          exact ⟨y, a, b, by omega⟩
      · exact ⟨x, ⟨h, h1, h2⟩, Int.le_refl _, Int.le_refl _⟩
theorem has_great {ns : List Nt} {last : Int} : ∀ (n : Nat) (x : Pr), Fit ns last x → (x.1 + (last - x.2)).toNat ≤ n → ∃ y, Great ns last y ∧ y.1 ≤ x.1 ∧ x.2 ≤ y.2
  | n, x, h, hn => by
    have g1 := h.lo
    have g2 := h.hi
    by_cases h1 : Fit ns last (x.1 - 1, x.2)
    · have hl : 0 ≤ x.1 - 1 := h1.lo
      cases n with
      | zero => omega
      | succ n =>
        obtain ⟨y, a, b, c⟩ := has_great n (x.1 - 1, x.2) h1 (by show (x.1 - 1 + (last - x.2)).toNat ≤ n; omega)
        have b : y.1 ≤ x.1 - 1 := b
        exact ⟨y, a, by omega, c⟩
    · by_cases h2 : Fit ns last (x.1, x.2 + 1)
      · have hl : x.2 + 1 ≤ last := h2.hi
        cases n with
        | zero => omega
        | succ n =>
          obtain ⟨y, a, b, c⟩ := has_great n (x.1, x.2 + 1) h2 (by show (x.1 + (last - (x.2 + 1))).toNat ≤ n; omega)
          have c : x.2 + 1 ≤ y.2 := c
          exact ⟨y, a, b, by omega⟩
      · exact ⟨x, ⟨h, h1, h2⟩, Int.le_refl _, Int.le_refl _⟩
/-- the days of the runs, one after the other -/
def daysOf (x : Pr) : List Pr := (List.range (x.2 + 1 - x.1).toNat).map fun (i : Nat) => (x.1 + (i : Int), x.1 + (i : Int))
theorem mem_days {x y : Pr} (h : x.1 ≤ x.2) : y ∈ daysOf x ↔ y.1 = y.2 ∧ x.1 ≤ y.1 ∧ y.1 ≤ x.2 := by
  unfold daysOf
  rw [List.mem_map]
  constructor
  · rintro ⟨i, hi, rfl⟩
    rw [List.mem_range] at hi
    exact ⟨rfl, by show x.1 ≤ x.1 + (i : Int); omega, by show x.1 + (i : Int) ≤ x.2; omega⟩
  · rintro ⟨e, h1, h2⟩
    exact ⟨(y.1 - x.1).toNat, List.mem_range.mpr (by omega), Prod.ext (by show x.1 + (((y.1 - x.1).toNat : Nat) : Int) = y.1; omega) (by show x.1 + (((y.1 - x.1).toNat : Nat) : Int) = y.2; omega)⟩
theorem days_sorted {x : Pr} : (daysOf x).Pairwise Lx := by
  unfold daysOf
  rw [List.pairwise_map]
  exact List.pairwise_lt_range.imp fun {a b} h => .inl (by show x.1 + (a : Int) < x.1 + (b : Int); omega)
theorem days_all {ns : List Nt} {last : Int} (hs : ∀ d, ¬ See ns d) {rs : List Pr} (h : Lof (Run ns last) rs) : Lof (Least ns last) (rs.flatMap daysOf) := by
  have hle : ∀ x ∈ rs, x.1 ≤ x.2 := fun x hx => ((h.me x).mp hx).le
  constructor
  · rw [List.pairwise_flatMap]
    refine ⟨fun x _ => days_sorted, ?_⟩
    refine List.Pairwise.imp_of_mem ?_ h.st
    intro a b ha hb hab u hu v hv
    have ra := (h.me a).mp ha
    have rb := (h.me b).mp hb
    obtain ⟨u1, u2, u3⟩ := (mem_days ra.le).mp hu
    obtain ⟨v1, v2, v3⟩ := (mem_days rb.le).mp hv
    -- the runs do not meet
    have key : a.2 < b.1 := by
      have la := ra.le; have lb := rb.le; have oa := ra.lo
      rcases hab with h1 | ⟨h1, h2⟩
      · rcases rb.bf with e | e
        · omega
        · by_cases k : a.2 < b.1
          · exact k
          · exact absurd e (ra.fr _ (by omega) (by omega))
      · rcases ra.af with e | e
        · have := rb.hi; omega
        · exact absurd e (rb.fr _ (by omega) (by omega))
    exact .inl (by omega)
  · intro x
    rw [least_none hs, List.mem_flatMap]
    constructor
    · rintro ⟨y, hy, hx⟩
      have ry := (h.me y).mp hy
      obtain ⟨e, a, b⟩ := (mem_days ry.le).mp hx
      have := ry.lo; have := ry.hi
      exact ⟨e, by omega, by omega, ry.fr _ a b⟩
    · rintro ⟨e, a, b, c⟩
      have hf : Fit ns last x := ⟨a, by omega, by omega, fun d h1 h2 => by rw [show d = x.1 by omega]; exact c, fun d hd => absurd hd (hs d)⟩
      obtain ⟨y, hy, h1, h2⟩ := has_great _ x hf (Nat.le_refl _)
      have ry := (great_iff y).mpr hy
      exact ⟨y, (h.me y).mpr ry.1, (mem_days ry.1.le).mpr ⟨e, h1, by omega⟩⟩
theorem frun_none {ns : List Nt} {last : Int} (hs : ∀ d, ¬ See ns d) (x : Pr) : Run ns last x ↔ FRun ns last x := ⟨fun h => ⟨h, fun d hd => absurd hd (hs d)⟩, fun h => h.1⟩
theorem frun_some {ns : List Nt} {last a b : Int} (ha : See ns a) (hb : See ns b) (hab : ∀ d, See ns d → a ≤ d ∧ d ≤ b) (x : Pr) : (Run ns last x ∧ decide (x.1 ≤ a ∧ b ≤ x.2) = true) ↔ FRun ns last x := by
  rw [decide_eq_true_eq]
  exact ⟨fun ⟨h, h1, h2⟩ => ⟨h, fun d hd => by have := hab d hd; omega⟩, fun h => ⟨h.1, (h.2 a ha).1, (h.2 b hb).2⟩⟩
theorem flat_len {rs : List Pr} {ns : List Nt} {last : Int} (h : Lof (Least ns last) rs) (h0 : 0 ≤ last) (hs : ∀ d, ¬ See ns d) : rs.length ≤ (last + 1).toNat := by
  have hp : (rs.map (·.1)).Pairwise (· < ·) := by
    rw [List.pairwise_map]
    refine List.Pairwise.imp_of_mem ?_ h.st
    intro x y hx hy hxy
    have ex := ((least_none hs x).mp ((h.me x).mp hx)).1
    have ey := ((least_none hs y).mp ((h.me y).mp hy)).1
    rcases hxy with k | k
    · exact k
    · omega
  have hb : ∀ d ∈ rs.map (·.1), 0 ≤ d ∧ d ≤ last := fun d hd => by
    obtain ⟨x, hx, rfl⟩ := List.mem_map.mp hd
    have := (least_none hs x).mp ((h.me x).mp hx)
    exact ⟨this.2.1, this.2.2.1⟩
  have key : ∀ (l : List Int) (lo : Int), l.Pairwise (· < ·) → (∀ d ∈ l, lo ≤ d ∧ d ≤ last) → l.length ≤ (last + 1 - lo).toNat := by
    intro l
    induction l with
    | nil => intro lo _ _; exact Nat.zero_le _
    | cons d l ih =>
      intro lo hp hb
      rw [List.pairwise_cons] at hp
      have h1 := hb d List.mem_cons_self
      have := ih (d + 1) hp.2 fun e he => ⟨by have := hp.1 e he; omega, (hb e (List.mem_cons_of_mem _ he)).2⟩
      rw [List.length_cons]
      omega
  have := key _ 0 hp hb
  rw [List.length_map] at this
  rw [show last + 1 = last + 1 - 0 by omega]
  exact this

theorem eqd_e0 : eqd (.tup (([] : List Int).map D.int)) (.tup []) = true := by rw [eqd_tup]; rfl
theorem eqd_e2 {a b : D} : eqd (.tup [a, b]) (.tup []) = false := by rw [eqd_tup]; rfl
def sp_fruns (K : PySem.W.Frag) : Sp := fun vs H Q E => ∃ (G : Hp) (t : Bool) (ns : List Nt) (last : Int), Same G H ∧ AtL K G vs [sq t (ns.map ntD), .int last] ∧ (InR ns last) ∧ (0 ≤ last) ∧ (last ≤ 100) ∧ (ns.length ≤ 1000) ∧ (∀ (v : V) (rs : List Pr) H', (Lof (FRun ns last) rs ∧ rs.length ≤ 102) → Mm K H G [] ([]) [(v, .lst (rs.map prD))] H' → Q (v) H')
theorem ok_fruns {f : Addr} {fd : FuncData} (F : Fun K "fitting_runs" "fitting_runs" s_fitting_runs f fd) (T : Txt P K mg C CO fO CE fE) (c_check_notes : Cal P w K mg base 1 "check_notes" (sp_check K)) (c_free_runs : Cal P w K mg base 1 "free_runs" (sp_runs K)) (c_seen_ends : Cal P w K mg base 1 "seen_ends" (sp_ends K)) :
    FnOk P w K mg base (L2.CX P w) (1 + 1) f fd ["notes", "last"] (sp_fruns K) := by
  refine okT F sc_fitting_runs (fun vs H Q E h => ?_) (fun cdv A outer s H vs Q E hr tk h => ?_)
  · obtain ⟨G, t, ns, last, _, hA, _⟩ := h
    rcases hA with _ | ⟨ha0, hA0⟩
    rcases hA0 with _ | ⟨ha1, hA1⟩
    cases hA1
    rfl
  obtain ⟨G, t, ns, last, hsG, hA, p0, p1, p2, p3, k⟩ := h
  have f1 := T.i1; have f2 := T.i2; have f3 := T.i3; have f4 := T.i4; have f5 := T.i5; have f6 := T.cl; have f7 := T.nc; have f8 := T.ng; have f9 := T.oa; have f10 := T.on; have f11 := T.ot; have f12 := T.om
  rcases hA with _ | ⟨ha0, hA0⟩
  rcases hA0 with _ | ⟨ha1, hA1⟩
  cases hA1
  obtain ⟨q0, rfl⟩ := ha0.refQ
  obtain rfl := ha1.isI
  have M : Mm K H G [] [] [(.ref q0, sq t (ns.map ntD))] H := Mm.start hsG (fun z hz => by
    simp only [List.mem_cons, List.not_mem_nil, or_false] at hz
    rcases hz with rfl
    · exact ha0)
  refine ⟨_, (pss_cons (ps_expr (c_call c_check_notes tk hr (by decide) (pa_cons (pv 0) (pa_cons (pv 1) pa_nil))))
      (pss_cons (ps_set (i := 2) sc_fitting_runs.nd rfl (Or.inl rfl) (c_call c_free_runs tk hr (by decide) (pa_cons (pv 0) (pa_cons (pv 1) pa_nil))))
      (pss_cons (ps_set (i := 3) sc_fitting_runs.nd rfl (Or.inl rfl) (c_call c_seen_ends tk hr (by decide) (pa_cons (pv 0) pa_nil)))
      (pss_cons (ps_if (pt_cmpR (op_eqD hr.units) (pv 3) (pe_tup pa_nil) (nomark _)) (pss_one (ps_ret (pv 2))) pss_nil)
      (pss_cons (ps_asg (pv 3) (pg_tup rfl (pgs_cons (pg_name (i := 4) sc_fitting_runs.nd rfl (Or.inr rfl)) (pgs_cons (pg_name (i := 5) sc_fitting_runs.nd rfl (Or.inr rfl)) pgs_nil))))
      (pss_one (ps_ret (pe_lc (own := [("low", 6), ("high", 7)]) (g := gTup K 2 (gCons (gName 6) (gCons (gName 7) gNil))) rfl sc_fitting_runs.nd (pi_list (pv 2)) (blkOk_by (own := [("low", 6), ("high", 7)]) (N := N_fitting_runs) (sc := defScope s_fitting_runs) (by decide +kernel)) (fun _ _ _ _ _ => (pg_tup rfl (pgs_cons (pg_name (i := 6) sc_fitting_runs.nd rfl (Or.inl rfl)) (pgs_cons (pg_name (i := 7) sc_fitting_runs.nd rfl (Or.inl rfl)) pgs_nil)))) (fun _ _ _ _ _ => pts_one (PW.pt (pw_and (pt_cmpR op_le (pv 6) (pv 4) (nomark _)) (pw_and1 (pt_cmpR op_le (pv 5) (pv 7) (nomark _)))))) (fun _ _ _ _ _ => (pe_tup (pa_cons (pv 6) (pa_cons (pv 7) pa_nil)))))))))))), ?_⟩
  simp only [cxK, st_fitting_runs]
  walk_at "go"
  refine' use_check (t := t) (ns := ns) (last := last) ?m0 ?h0 ?q0 ?_
  case m0 => assumption
  case h0 => walk_at "hass"
  case q0 => exact p0
  intro H1' M1
  walk_at "go"
  refine' use_runs (t := t) (ns := ns) (last := last) ?m0 ?h0 ?q0 ?q1 ?q2 ?_
  case m0 => assumption
  case h0 => walk_at "hass"
  case q0 => exact p0
  case q1 => exact p1
  case q2 => exact p2
  intro v1 rs H2' hc2 M2
  obtain ⟨pr, rfl⟩ := M2.isL
  walk_at "go"
  refine' use_ends (t := t) (ns := ns) ?m0 ?h0 ?q0 ?_
  case m0 => assumption
  case h0 => walk_at "hass"
  case q0 => exact p3
  intro v2 es H3' hc3 M3
  obtain ⟨pe, rfl⟩ := M3.isT
  clear M M1 M2
  have hrl : (rs.map prD).length = rs.length := List.length_map _
  rcases hc3 with ⟨rfl, hs⟩ | ⟨a, b, rfl, ha, hb, hab⟩
  · walk_at "go"
    refine k_iteT0 eqd_e0 ?_
    walk_at "go"
    rename_i M9
    exact k _ rs _ ⟨hc2.1.imp (frun_none hs), hc2.2⟩ (M9.oneL (by walk_at "mem"))
  · simp only [List.map_cons, List.map_nil] at M3
    walk_at "go"
    refine k_iteF0 eqd_e2 ?_
    walk_at "go"
    rename_i pz H9 M9
    refine lcS (src_lst (ds := rs.map prD)) M9 (fun i => ((rs.take i).filter fun x => decide (x.1 ≤ a ∧ b ≤ x.2)).map prD) (fun _ _ => .inl (by walk_at "mem")) rfl ?_ ?_
    · intro i x A0 H' hi M'
      rw [hrl] at hi
      have htk := take_succ' hi
      have hfl := List.length_filter_le (fun x : Pr => decide (x.1 ≤ a ∧ b ≤ x.2)) (rs.take i)
      have htl := List.length_take_le' i rs
      rw [getD_map hi] at M'
      generalize rs.getD i default = y at M' htk
      obtain ⟨px, rfl⟩ := M'.isT
      walk_at "go"
      all_goals refine ⟨rfl, ?_⟩
      walk_at "go"
      · rename_i h1 h2 p8 H8 M8
        refine lc_add M8 (MyL.H1.mem List.mem_cons_self) (by walk_at "sub") (by rw [List.length_map]; omega) ?_
        rw [htk, List.filter_append, List.filter_cons_of_pos (by simp [h1, h2]), List.filter_nil, List.map_append]
        rfl
      all_goals
        rw [htk, List.filter_append, List.filter_cons_of_neg (by simp; omega), List.filter_nil, List.append_nil]
        exact M'.sub (by walk_at "sub")
    · intro A0 H' M'
      rw [hrl, List.take_length] at M'
      exact k _ _ _ ⟨(hc2.1.filter _).imp (frun_some ha hb hab), Nat.le_trans (List.length_filter_le _ _) hc2.2⟩ (Mm.noX (M'.freeze.oneL List.mem_cons_self))
theorem use_fruns {B G0 H : Hp} {ms : List Addr} {X : List (Addr × D)} {L : List (V × D)} {Q : VK} {E : XK} {ws : List V} {t : Bool} {ns : List Nt} {last : Int} (M : Mm K B G0 ms X L H) (ha : Hs L ws [sq t (ns.map ntD), .int last]) (p0 : InR ns last) (p1 : 0 ≤ last) (p2 : last ≤ 100) (p3 : ns.length ≤ 1000) (k0 : ∀ (v : V) (rs : List Pr) H', (Lof (FRun ns last) rs ∧ rs.length ≤ 102) → Mm K B G0 ms (X) ((v, .lst (rs.map prD)) :: L) H' → Q (v) H') : sp_fruns K ws H Q E := by
  obtain ⟨G, W⟩ := M
  exact ⟨G, t, ns, last, W.s1, ha K G W.ok, p0, p1, p2, p3, fun v rs H' hc M2 => k0 v rs H' hc (W.comp M2)⟩
def sp_great (K : PySem.W.Frag) (C : Addr) : Sp := fun vs H Q E => ∃ (G : Hp) (t : Bool) (ns : List Nt) (last : Int), Same G H ∧ AtL K G vs [sq t (ns.map ntD), .int last] ∧ (InR ns last) ∧ (0 ≤ last) ∧ (last ≤ 100) ∧ (ns.length ≤ 1000) ∧ (∀ (p : Addr) (rs : List Pr) H', (Lof (Great ns last) rs ∧ rs.length ≤ 102) → Mm K H G [] ([(p, .lst (rs.map (stD C)))]) [] H' → Q (.ref p) H')
theorem ok_great {f : Addr} {fd : FuncData} (F : Fun K "greatest_stays" "greatest_stays" s_greatest_stays f fd) (T : Txt P K mg C CO fO CE fE) (c_fitting_runs : Cal P w K mg base 2 "fitting_runs" (sp_fruns K)) (c_Stay : Mak P w K mg base 1 "Stay" C (sp_stay K C)) :
    FnOk P w K mg base (L2.CX P w) (2 + 1) f fd ["notes", "last"] (sp_great K C) := by
  refine okT F sc_greatest_stays (fun vs H Q E h => ?_) (fun cdv A outer s H vs Q E hr tk h => ?_)
  · obtain ⟨G, t, ns, last, _, hA, _⟩ := h
    rcases hA with _ | ⟨ha0, hA0⟩
    rcases hA0 with _ | ⟨ha1, hA1⟩
    cases hA1
    rfl
  obtain ⟨G, t, ns, last, hsG, hA, p0, p1, p2, p3, k⟩ := h
  have f1 := T.i1; have f2 := T.i2; have f3 := T.i3; have f4 := T.i4; have f5 := T.i5; have f6 := T.cl; have f7 := T.nc; have f8 := T.ng; have f9 := T.oa; have f10 := T.on; have f11 := T.ot; have f12 := T.om
  rcases hA with _ | ⟨ha0, hA0⟩
  rcases hA0 with _ | ⟨ha1, hA1⟩
  cases hA1
  obtain ⟨q0, rfl⟩ := ha0.refQ
  obtain rfl := ha1.isI
  have M : Mm K H G [] [] [(.ref q0, sq t (ns.map ntD))] H := Mm.start hsG (fun z hz => by
    simp only [List.mem_cons, List.not_mem_nil, or_false] at hz
    rcases hz with rfl
    · exact ha0)
  refine ⟨_, (pss_one (ps_ret (pe_lc (own := [("low", 2), ("high", 3)]) (g := gTup K 2 (gCons (gName 2) (gCons (gName 3) gNil))) (tt := tYes) rfl sc_greatest_stays.nd (pi_list (c_call c_fitting_runs tk hr (by decide) (pa_cons (pv 0) (pa_cons (pv 1) pa_nil)))) (blkOk_by (own := [("low", 2), ("high", 3)]) (N := N_greatest_stays) (sc := defScope s_greatest_stays) (by decide +kernel)) (fun _ _ _ _ _ => (pg_tup rfl (pgs_cons (pg_name (i := 2) sc_greatest_stays.nd rfl (Or.inl rfl)) (pgs_cons (pg_name (i := 3) sc_greatest_stays.nd rfl (Or.inl rfl)) pgs_nil)))) (fun _ _ _ _ _ => pts_nil) (fun _ _ _ _ _ => (c_make c_Stay takes0 hr (by decide) (pa_cons (pv 2) (pa_cons (pv 3) pa_nil))))))), ?_⟩
  simp only [cxK, st_greatest_stays]
  walk_at "go"
  refine' use_fruns (t := t) (ns := ns) (last := last) ?m0 ?h0 ?q0 ?q1 ?q2 ?q3 ?_
  case m0 => assumption
  case h0 => walk_at "hass"
  case q0 => exact p0
  case q1 => exact p1
  case q2 => exact p2
  case q3 => exact p3
  intro v1 rs H2' hc2 M2
  obtain ⟨pr, rfl⟩ := M2.isL
  have hrl : (rs.map prD).length = rs.length := List.length_map _
  walk_at "go"
  refine lcS (src_lst (ds := rs.map prD)) M2 (fun i => (rs.take i).map (stD C)) (fun _ _ => .inl (by walk_at "mem")) rfl ?_ ?_
  · intro i x A0 H' hi M'
    rw [hrl] at hi
    have hnext := take_map (f := stD C) hi
    have hle := ((hc2.1.me _).mp (List.mem_of_getElem? (getD_at hi))).1.le
    have htl := List.length_take_le' i rs
    rw [getD_map hi] at M'
    generalize rs.getD i default = y at M' hnext hle
    obtain ⟨px, rfl⟩ := M'.isT
    walk_at "go"
    all_goals refine ⟨rfl, ?_⟩
    walk_at "go"
    refine mk_stay M' hle fun y9 H8 M8 => ?_
    exact lc_add M8 (MyL.H1.mem List.mem_cons_self) (by walk_at "sub") (by simp; omega) hnext
  · intro A0 H' M'
    rw [hrl, List.take_length] at M'
    exact k _ rs _ ⟨hc2.1.imp great_iff, hc2.2⟩ (Mm.noL M')
theorem use_great {B G0 H : Hp} {ms : List Addr} {X : List (Addr × D)} {L : List (V × D)} {Q : VK} {E : XK} {ws : List V} {t : Bool} {ns : List Nt} {last : Int} (M : Mm K B G0 ms X L H) (ha : Hs L ws [sq t (ns.map ntD), .int last]) (p0 : InR ns last) (p1 : 0 ≤ last) (p2 : last ≤ 100) (p3 : ns.length ≤ 1000) (k0 : ∀ (p : Addr) (rs : List Pr) H', (Lof (Great ns last) rs ∧ rs.length ≤ 102) → Mm K B G0 ms ((p, .lst (rs.map (stD C))) :: X) L H' → Q (.ref p) H') : sp_great K C ws H Q E := by
  obtain ⟨G, W⟩ := M
  exact ⟨G, t, ns, last, W.s1, ha K G W.ok, p0, p1, p2, p3, fun p rs H' hc M2 => k0 p rs H' hc (W.comp M2)⟩
local macro_rules | `(tactic| walk_at "lst") => `(tactic| (refine' d_lstX ?k1 ?k2 ?k3 ?_; (case k1 => assumption); (case k2 => walk_at "hass"); (case k3 => walk_at "size"); intro p' H' M'))
def sp_least (K : PySem.W.Frag) (C : Addr) : Sp := fun vs H Q E => ∃ (G : Hp) (t : Bool) (ns : List Nt) (last : Int), Same G H ∧ AtL K G vs [sq t (ns.map ntD), .int last] ∧ (InR ns last) ∧ (0 ≤ last) ∧ (last ≤ 100) ∧ (ns.length ≤ 1000) ∧ (∀ (p : Addr) (rs : List Pr) H', (Lof (Least ns last) rs ∧ rs.length ≤ 102) → Mm K H G [] ([(p, .lst (rs.map (stD C)))]) [] H' → Q (.ref p) H')
theorem ok_least {f : Addr} {fd : FuncData} (F : Fun K "least_stays" "least_stays" s_least_stays f fd) (T : Txt P K mg C CO fO CE fE) (c_fitting_runs : Cal P w K mg base 2 "fitting_runs" (sp_fruns K)) (c_seen_ends : Cal P w K mg base 1 "seen_ends" (sp_ends K)) (c_Stay : Mak P w K mg base 1 "Stay" C (sp_stay K C)) :
    FnOk P w K mg base (L2.CX P w) (2 + 1) f fd ["notes", "last"] (sp_least K C) := by
  refine okT F sc_least_stays (fun vs H Q E h => ?_) (fun cdv A outer s H vs Q E hr tk h => ?_)
  · obtain ⟨G, t, ns, last, _, hA, _⟩ := h
    rcases hA with _ | ⟨ha0, hA0⟩
    rcases hA0 with _ | ⟨ha1, hA1⟩
    cases hA1
    rfl
  obtain ⟨G, t, ns, last, hsG, hA, p0, p1, p2, p3, k⟩ := h
  have f1 := T.i1; have f2 := T.i2; have f3 := T.i3; have f4 := T.i4; have f5 := T.i5; have f6 := T.cl; have f7 := T.nc; have f8 := T.ng; have f9 := T.oa; have f10 := T.on; have f11 := T.ot; have f12 := T.om
  rcases hA with _ | ⟨ha0, hA0⟩
  rcases hA0 with _ | ⟨ha1, hA1⟩
  cases hA1
  obtain ⟨q0, rfl⟩ := ha0.refQ
  obtain rfl := ha1.isI
  have M : Mm K H G [] [] [(.ref q0, sq t (ns.map ntD))] H := Mm.start hsG (fun z hz => by
    simp only [List.mem_cons, List.not_mem_nil, or_false] at hz
    rcases hz with rfl
    · exact ha0)
  refine ⟨_, (pss_cons (ps_set (i := 2) sc_least_stays.nd rfl (Or.inl rfl) (c_call c_fitting_runs tk hr (by decide) (pa_cons (pv 0) (pa_cons (pv 1) pa_nil))))
      (pss_cons (ps_set (i := 3) sc_least_stays.nd rfl (Or.inl rfl) (c_call c_seen_ends tk hr (by decide) (pa_cons (pv 0) pa_nil)))
      (pss_cons (ps_if (pt_cmpR (op_eqD hr.units) (pv 3) (pe_tup pa_nil) (nomark _)) (pss_one (ps_ret (pe_lc2 (own := [("low", 6), ("high", 7), ("day", 8)]) (g := gTup K 2 (gCons (gName 6) (gCons (gName 7) gNil))) (g1 := gName 8) (tt := tYes) (tt1 := tYes) (vs1 := [8]) rfl sc_least_stays.nd (pi_list (pv 2)) (blkOk_by (own := [("low", 6), ("high", 7), ("day", 8)]) (N := N_least_stays) (sc := defScope s_least_stays) (by decide +kernel)) (by decide) (fun _ _ _ _ _ => (pg_tup rfl (pgs_cons (pg_name (i := 6) sc_least_stays.nd rfl (Or.inl rfl)) (pgs_cons (pg_name (i := 7) sc_least_stays.nd rfl (Or.inl rfl)) pgs_nil)))) (fun _ _ _ _ _ => pts_nil) (fun _ _ _ _ _ => (pi_range2 (by rfl) T.b_range (pa_cons (pv 6) (pa_cons (pe_op op_add (pv 7) pe_int) pa_nil)))) (fun _ _ _ _ _ => (pg_name (i := 8) sc_least_stays.nd rfl (Or.inl rfl))) (fun _ _ _ _ _ => pts_nil) (fun _ _ _ _ _ => (c_make c_Stay takes0 hr (by decide) (pa_cons (pv 8) (pa_cons (pv 8) pa_nil))))))) pss_nil)
      (pss_cons (ps_if (pt_cmpR (op_eqE hr.units) (pv 2) (pe_lst pa_nil) (nomark _)) (pss_one (ps_ret (pe_lst pa_nil))) pss_nil)
      (pss_cons (ps_asg (pv 3) (pg_tup rfl (pgs_cons (pg_name (i := 4) sc_least_stays.nd rfl (Or.inl rfl)) (pgs_cons (pg_name (i := 5) sc_least_stays.nd rfl (Or.inl rfl)) pgs_nil))))
      (pss_one (ps_ret (pe_lst (pa_cons (c_make c_Stay tk hr (by decide) (pa_cons (pv 4) (pa_cons (pv 5) pa_nil))) pa_nil))))))))), ?_⟩
  simp only [cxK, st_least_stays]
  walk_at "go"
  refine' use_fruns (t := t) (ns := ns) (last := last) ?m0 ?h0 ?q0 ?q1 ?q2 ?q3 ?_
  case m0 => assumption
  case h0 => walk_at "hass"
  case q0 => exact p0
  case q1 => exact p1
  case q2 => exact p2
  case q3 => exact p3
  intro v1 rs H2' hc2 M2
  obtain ⟨pr, rfl⟩ := M2.isL
  walk_at "go"
  refine' use_ends (t := t) (ns := ns) ?m0 ?h0 ?q0 ?_
  case m0 => assumption
  case h0 => walk_at "hass"
  case q0 => exact p3
  intro v2 es H3' hc3 M3
  obtain ⟨pe, rfl⟩ := M3.isT
  clear M M2
  have hrl : (rs.map prD).length = rs.length := List.length_map _
  rcases hc3 with ⟨rfl, hs⟩ | ⟨a, b, rfl, ha, hb, hab⟩
  · walk_at "go"
    refine k_iteT0 eqd_e0 ?_
    walk_at "go"
    rename_i p9 H9 M9
    have hL := days_all hs (hc2.1.imp fun x => (frun_none hs x).symm)
    have hfl := flat_len hL p1 hs
    refine lcD2 (src_lst (ds := rs.map prD)) M9 (fun i acc X' => X' = [] ∧ acc = ((rs.take i).flatMap daysOf).map (stD C)) (fun _ _ _ _ _ => .inl (by walk_at "mem")) ⟨rfl, rfl⟩ ?_ ?_
    · rintro i x acc X' A0 H' hi ⟨rfl, rfl⟩ M'
      rw [hrl] at hi
      have htk := take_succ' hi
      have hr := ((hc2.1.me _).mp (List.mem_of_getElem? (getD_at hi))).1
      have hpl : ((rs.take i).flatMap daysOf).length ≤ (last + 1).toNat := by
        have e : (rs.flatMap daysOf).length = ((rs.take i).flatMap daysOf).length + ((rs.drop i).flatMap daysOf).length := by
          rw [← List.length_append, ← List.flatMap_append, List.take_append_drop]
        omega
      rw [getD_map hi] at M'
      generalize rs.getD i default = y at M' htk hr
      obtain ⟨px, rfl⟩ := M'.isT
      have hy1 := hr.lo
      have hy2 := hr.le
      have hy3 := hr.hi
      walk_at "go"
      all_goals refine ⟨rfl, ?_⟩
      walk_at "go"
      refine in2D src_rng M' (fun j acc X' => X' = [] ∧ acc = ((rs.take i).flatMap daysOf).map (stD C) ++ (List.range j).map fun (z : Nat) => stD C (y.1 + (z : Int), y.1 + (z : Int))) (fun _ _ _ _ => trivial) ⟨rfl, by simp⟩ ?_ ?_
      · rintro j x acc X' H5 hj ⟨rfl, rfl⟩ M5
        obtain rfl := M5.isI
        walk_at "go"
        refine ⟨rfl, ?_⟩
        walk_at "go"
        refine mk_stay M5 (Int.le_refl _) fun y9 H8 M8 => ?_
        refine lc_put M8 (H1.mem List.mem_cons_self) (by walk_at "sub") (by simp only [List.length_append, List.length_map, List.length_range]; omega) ⟨rfl, ?_⟩
        rw [List.range_succ, List.map_append, List.append_assoc]
        rfl
      · rintro acc X' H5 ⟨rfl, rfl⟩ M5
        refine ⟨_, [], ⟨rfl, ?_⟩, M5.sub (by walk_at "sub")⟩
        rw [htk, List.flatMap_append, List.map_append]
        simp [daysOf]
    · rintro A0 acc X' H' ⟨rfl, rfl⟩ M'
      rw [hrl, List.take_length] at M'
      exact k _ _ _ ⟨hL, by omega⟩ M'.noL
  · simp only [List.map_cons, List.map_nil] at M3
    walk_at "go"
    refine k_iteF0 eqd_e2 ?_
    walk_at "go"
    rename_i p9 H9 M9 p10 H10 M10
    cases hrs : rs with
    | nil =>
      subst hrs
      refine k_iteT0 rfl ?_
      walk_at "go"
      rename_i M11
      refine k _ [] _ ⟨Lof.nil fun x hx => ?_, by simp⟩ (M11.noL.subX (List.Sublist.cons₂ _ (List.nil_sublist _)))
      obtain ⟨y, hy, _, _⟩ := has_great _ x hx.1 (Nat.le_refl _)
      exact absurd ((hc2.1.me y).mpr ((great_iff y).mpr hy)) (fun z => nomatch z)
    | cons r rs' =>
      have hf := Run.fit ((hc2.1.me r).mp (by rw [hrs]; exact List.mem_cons_self))
      refine k_iteF0 rfl ?_
      walk_at "go"
      refine mk_stay (by assumption) (hab a ha).2 fun y9 H8 M8 => ?_
      walk_at "go"
      rename_i M12
      exact k _ [(a, b)] _ ⟨Lof.one (least_some ha hb hab hf), by simp⟩ (M12.noL.subX (List.Sublist.cons₂ _ (List.nil_sublist _)))
theorem use_least {B G0 H : Hp} {ms : List Addr} {X : List (Addr × D)} {L : List (V × D)} {Q : VK} {E : XK} {ws : List V} {t : Bool} {ns : List Nt} {last : Int} (M : Mm K B G0 ms X L H) (ha : Hs L ws [sq t (ns.map ntD), .int last]) (p0 : InR ns last) (p1 : 0 ≤ last) (p2 : last ≤ 100) (p3 : ns.length ≤ 1000) (k0 : ∀ (p : Addr) (rs : List Pr) H', (Lof (Least ns last) rs ∧ rs.length ≤ 102) → Mm K B G0 ms ((p, .lst (rs.map (stD C))) :: X) L H' → Q (.ref p) H') : sp_least K C ws H Q E := by
  obtain ⟨G, W⟩ := M
  exact ⟨G, t, ns, last, W.s1, ha K G W.ok, p0, p1, p2, p3, fun p rs H' hc M2 => k0 p rs H' hc (W.comp M2)⟩
end
end K20

set_option Elab.async false
set_option linter.all false
set_option maxRecDepth 100000
set_option maxHeartbeats 8000000
namespace K20
open PySem L2 MyL
local macro_rules | `(tactic| walk_at "sub") => `(tactic| first | exact sub_nil | exact sub_self | (refine' sub_cons ?k1 ?k2; (case k1 => walk_at "mem"); (case k2 => walk_at "sub")) | (refine' sub_app ?k1 ?k2; (case k1 => walk_at "sub"); (case k2 => walk_at "sub")) | (refine sub_tail ?_; walk_at "sub") | fail)
local macro_rules | `(tactic| walk_at "mem") => `(tactic| first | exact List.mem_cons_self | (refine List.mem_cons_of_mem _ ?_; walk_at "mem") | (refine List.mem_append_right _ ?_; walk_at "mem") | (refine List.mem_append_left _ ?_; walk_at "mem") | assumption | fail)
local macro_rules | `(tactic| walk_at "inl") => `(tactic| first | (refine Or.inl ?_; walk_at "mem") | (refine Or.inr ?_; walk_at "mem") | fail)
local macro_rules | `(tactic| walk_at "has1") => `(tactic| first | exact H1.int | exact H1.str | exact H1.bl | exact H1.non | exact H1.mem (by walk_at "mem") | assumption | fail)
local macro_rules | `(tactic| walk_at "hass") => `(tactic| first | exact Hs.nil | (refine' Hs.cons ?k1 ?k2; (case k1 => walk_at "has1"); (case k2 => walk_at "hass")) | exact Hs.ints _ | assumption | fail)
local macro_rules | `(tactic| walk_at "kn") => `(tactic| first | (refine Or.inl ?_; walk_at "has1") | (refine Or.inr ⟨_, _, rfl, rfl, ?_⟩; walk_at "mem") | fail)
local macro_rules | `(tactic| walk_at "sh") => `(tactic| first | exact Sh.int | exact Sh.bl | exact Sh.non | exact Sh.str (by decide) | assumption | (refine Sh.tupM ?_; intro x' hx'; walk_at "sh") | (refine Sh.lstM ?_; intro x' hx'; walk_at "sh") | (refine Sh.tup ?_; walk_at "shs") | (refine Sh.lst ?_; walk_at "shs") | fail)
local macro_rules | `(tactic| walk_at "shs") => `(tactic| first | exact Sh.nil | (refine' Sh.cons ?k1 ?k2; (case k1 => walk_at "sh"); (case k2 => walk_at "shs")) | fail)
local macro_rules | `(tactic| walk_at "lt") => `(tactic| first | omega | (simp only [List.length_map, List.length_range, List.length_append, List.length_cons, List.length_nil, List.length_replicate, List.length_set]; omega) | fail)
local macro_rules | `(tactic| walk_at "few") => `(tactic| first | decide | simp | fail)
local macro_rules | `(tactic| walk_at "lof") => `(tactic| (refine' d_listI ?k1 ?k2 ?_; (case k1 => assumption); (case k2 => first | (refine Or.inl ?_; walk_at "inl") | (refine Or.inr ?_; walk_at "mem") | fail); intro p' H' M'))
local macro_rules | `(tactic| walk_at "lst") => `(tactic| (refine' d_lst ?k1 ?k2 ?k3 ?_; (case k1 => assumption); (case k2 => walk_at "hass"); (case k3 => walk_at "size"); intro p' H' M'))
local macro_rules | `(tactic| walk_at "cond") => `(tactic| first | omega | assumption | exact mulR (by omega) (by omega) | exact mulL (by omega) (by omega) | exact divW (by omega) (by omega) | decide)
local macro_rules | `(tactic| walk_at "look") => `(tactic| first | assumption | with_unfolding_all rfl | exact atI_mapI (by omega) (by omega) | exact atI_mapL (by omega) (by omega) | exact atI_mapD (by omega) (by omega) | fail)
local macro_rules | `(tactic| walk_at "go1") => `(tactic| with_reducible first
  | refine k_yes ?_ | refine k_seq ?_ | refine k_gName ?_ | refine k_asg ?_ | refine k_ret ?_ | refine k_ifS ?_ | refine k_drop ?_ | refine k_next ?_ | refine k_break ?_ | refine k_cont ?_ | refine k_retN ?_
  | (refine' k_var ?k1 ?_; (case k1 => with_unfolding_all rfl)) | refine k_c ?_ | refine k_op ?_ | refine k_un ?_ | refine k_test ?_ | refine k_B ?_ | refine k_bl ?_ | refine k_and ?_ | refine k_or ?_ | refine k_not ?_
  | refine k_andV ?_ | refine k_orV ?_ | refine k_notV ?_ | refine k_ifE ?_ | refine k_nil ?_ | refine k_cons ?_ | refine k_cb ?_ | refine k_callS ?_ | refine k_lst0 ?_ | refine k_tup0 ?_ | refine k_fld0 ?_ | refine k_sub0 ?_ | refine k_make0 ?_ | refine k_prop0 ?_ | refine k_sta0 ?_ | refine k_sta ?_ | refine k_bm ?_ | refine k_bm0 ?_ | refine k_chain ?_ | refine k_makeK0 ?_ | refine k_swapK ?_ | refine k_meth0 ?_ | refine k_ownN0 ?_ | refine k_ownO0 ?_ | refine k_sfldS ?_ | refine k_jnil ?_ | refine k_jcons ?_ | refine k_fmt0 ?_ | refine k_sl0 ?_ | refine k_nopart ?_ | refine k_part ?_ | refine k_forR1 ?_ | refine k_forR2 ?_ | refine k_forL ?_ | refine k_forT ?_ | refine k_lcR1 ?_ | refine k_lc2R1 ?_ | refine k_lc2R2 ?_ | refine k_lc2L ?_ | refine k_lc2T ?_ | refine k_iR1 ?_ | refine k_iR2 ?_ | refine k_iL ?_ | refine k_iT ?_ | refine k_lcR2 ?_ | refine k_lcL ?_ | refine k_lcT ?_ | refine k_err0 ?_ | refine k_xf0 ?_ | refine k_errQ1 ?_ | refine k_errQ0 ?_ | refine k_errQ2 ?_ | refine k_errQ3 ?_
  | refine k_I0 ?_ | (refine k_I ?k1 ?_; (case k1 => walk_at "cond")) | refine k_U ?_ | refine k_eqI ?_ | refine k_neI ?_ | refine k_eqB ?_ | refine k_neB ?_ | refine k_eqS ?_ | refine k_neS ?_
  | refine k_int1 ?_ | refine k_abs1 ?_ | refine k_min2 ?_ | refine k_max2 ?_
  | (refine' k_lenS ?k1 ?_; (case k1 => assumption)) | (refine' k_ixS ?k1 ?k2 ?_; (case k1 => assumption); (case k2 => walk_at "look"))
  | refine iteT ?_ | refine iteF ?_ | refine k_iteNE ?_ | refine k_iteNS ?_ | refine k_iteNT ?_ | refine k_iteNF ?_
  | (refine k_iteD ?_ ?_ <;> intro hc <;> first | (exfalso; omega) | skip)
  | (refine k_iteN ?_ ?_ <;> intro hc <;> first | (exfalso; omega) | skip)
  | (refine' k_isiI ?k1 ?_; (case k1 => assumption))
  | (refine' k_jst ?k1 ?_; (case k1 => walk_at "size")) | (refine' k_fmtI ?k1 ?_; (case k1 => exact log2_64 (by omega) (by omega))) | (refine' k_strI ?k1 ?_; (case k1 => exact log2_64 (by omega) (by omega)))
  | (refine k_addS ?k1 ?_; (case k1 => walk_at "size")) | refine k_st ?_ | refine k_parti ?_
  | (refine k_rng1 ?k1 ?k2 ?_; (case k1 => omega); (case k2 => omega)) | (refine k_rng2 ?k1 ?k2 ?k3 ?k4 ?_; (case k1 => omega); (case k2 => omega); (case k3 => omega); (case k4 => omega))
  | (refine' k_isXs ?k1 ?k2 ?_; (case k1 => assumption); (case k2 => walk_at "hp")) | (refine' k_isXo ?k1 ?k2 ?k3 ?_; (case k1 => assumption); (case k2 => walk_at "hp"); (case k3 => assumption)) | (refine' k_isXt ?k1 ?k2 ?k3 ?_; (case k1 => assumption); (case k2 => walk_at "hp"); (case k3 => assumption))
  | (refine' k_isX3 ?k1 ?k2 ?k3 ?k4 ?_; (case k1 => assumption); (case k2 => walk_at "hp"); (case k3 => walk_at "hp"); (case k4 => assumption)) | (refine' k_isX2 ?k1 ?k2 ?k3 ?k4 ?_; (case k1 => assumption); (case k2 => walk_at "hp"); (case k3 => walk_at "hp"); (case k4 => assumption))
  | (refine' k_isX0s ?k1 ?_; (case k1 => assumption)) | (refine' k_isX0o ?k1 ?k2 ?_; (case k1 => assumption); (case k2 => assumption)) | (refine' k_isX0t ?k1 ?k2 ?_; (case k1 => assumption); (case k2 => assumption)) | (refine' k_isX04 ?k1 ?k2 ?k3 ?_; (case k1 => assumption); (case k2 => walk_at "hp"); (case k3 => assumption))
  | (refine' k_isX4 ?k1 ?k2 ?k3 ?k4 ?_; (case k1 => assumption); (case k2 => walk_at "hp"); (case k3 => walk_at "hp"); (case k4 => assumption)) | (refine' k_ixT2 ?k1 ?k2 ?k3 ?_; (case k1 => walk_at "hp"); (case k2 => omega); (case k3 => omega); intro n' hn')
  | (refine k_iteNEq ?k1 ?_; (case k1 => (rw [Bool.eq_iff_iff]; first | (simp; done) | (simp; omega))))
  | (refine' k_xf ?k1 ?k2 ?_; (case k1 => walk_at "hp"); (case k2 => first | exact xd1 | exact xdH | exact xd2 (by decide +kernel)))
  | (refine' k_caught ?k1 ?_; (case k1 => assumption); intro a' ha')
  | refine k_asgT ?_ | refine k_gCons ?_ | refine k_gNil ?_ | refine k_par ?_ | refine k_two ?_ | refine k_isNn ?_ | refine k_isNi ?_ | refine k_notNn ?_ | refine k_notNi ?_ | refine k_isN ?_ | refine k_notN ?_
  | (refine' k_xfB ?k1 ?k2 ?_; (case k1 => walk_at "hp"); (case k2 => first | exact xd1 | exact xdH | exact xd2 (by decide +kernel)))
  | (refine' d_ixLI ?k1 ?k2 ?k3 ?_; (case k1 => assumption); (case k2 => walk_at "inl"); (case k3 => walk_at "look"))
  | (refine' d_ixLS ?k1 ?k2 ?k3 ?_; (case k1 => assumption); (case k2 => walk_at "inl"); (case k3 => walk_at "look"))
  | (refine' d_ixLB ?k1 ?k2 ?k3 ?_; (case k1 => assumption); (case k2 => walk_at "inl"); (case k3 => walk_at "look"))
  | (refine' d_ixL ?k1 ?k2 ?k3 ?_; (case k1 => assumption); (case k2 => walk_at "inl"); (case k3 => walk_at "look"); intro v' M'; first | (have e' := Mm.isI M'; subst e') | (have e' := Mm.isS M'; subst e') | (have e' := Mm.isB M'; subst e') | (have e' := Mm.isN M'; subst e') | (obtain ⟨p', e'⟩ := Mm.isT M'; subst e') | (obtain ⟨p', e'⟩ := Mm.isL M'; subst e') | (obtain ⟨p', e'⟩ := Mm.isO M'; subst e') | skip)
  | (refine' d_ixTI ?k1 ?k2 ?k3 ?_; (case k1 => assumption); (case k2 => walk_at "mem"); (case k3 => walk_at "look"))
  | (refine' d_ixTS ?k1 ?k2 ?k3 ?_; (case k1 => assumption); (case k2 => walk_at "mem"); (case k3 => walk_at "look"))
  | (refine' d_ixTB ?k1 ?k2 ?k3 ?_; (case k1 => assumption); (case k2 => walk_at "mem"); (case k3 => walk_at "look"))
  | (refine' d_ixT ?k1 ?k2 ?k3 ?_; (case k1 => assumption); (case k2 => walk_at "mem"); (case k3 => walk_at "look"); intro v' M'; first | (have e' := Mm.isI M'; subst e') | (have e' := Mm.isS M'; subst e') | (have e' := Mm.isB M'; subst e') | (have e' := Mm.isN M'; subst e') | (obtain ⟨p', e'⟩ := Mm.isT M'; subst e') | (obtain ⟨p', e'⟩ := Mm.isL M'; subst e') | (obtain ⟨p', e'⟩ := Mm.isO M'; subst e') | skip)
  | (refine' d_ixc2 ?k1 ?k2 ?k3 ?k4 ?_; (case k1 => assumption); (case k2 => walk_at "inl"); (case k3 => omega); (case k4 => omega); intro n' hn')
  | (refine' d_ixc3 ?k1 ?k2 ?k3 ?k4 ?_; (case k1 => assumption); (case k2 => walk_at "inl"); (case k3 => omega); (case k4 => omega); intro n' hn')
  | (refine' d_ixc4 ?k1 ?k2 ?k3 ?k4 ?_; (case k1 => assumption); (case k2 => walk_at "inl"); (case k3 => omega); (case k4 => omega); intro n' hn')
  | (refine' d_ixc5 ?k1 ?k2 ?k3 ?k4 ?_; (case k1 => assumption); (case k2 => walk_at "inl"); (case k3 => omega); (case k4 => omega); intro n' hn')
  | (refine' d_ixc6 ?k1 ?k2 ?k3 ?k4 ?_; (case k1 => assumption); (case k2 => walk_at "inl"); (case k3 => omega); (case k4 => omega); intro n' hn')
  | (refine' d_ixc7 ?k1 ?k2 ?k3 ?k4 ?_; (case k1 => assumption); (case k2 => walk_at "inl"); (case k3 => omega); (case k4 => omega); intro n' hn')
  | (refine' d_ixc8 ?k1 ?k2 ?k3 ?k4 ?_; (case k1 => assumption); (case k2 => walk_at "inl"); (case k3 => omega); (case k4 => omega); intro n' hn')
  | (refine' d_ixc9 ?k1 ?k2 ?k3 ?k4 ?_; (case k1 => assumption); (case k2 => walk_at "inl"); (case k3 => omega); (case k4 => omega); intro n' hn')
  | (refine' d_lenL ?k1 ?k2 ?_; (case k1 => assumption); (case k2 => walk_at "inl"))
  | (refine' d_lenT ?k1 ?k2 ?_; (case k1 => assumption); (case k2 => walk_at "mem"))
  | (refine' d_lenQ ?k1 ?k2 ?_; (case k1 => assumption); (case k2 => walk_at "mem"))
  | (refine' d_lst0 ?k1 ?_; (case k1 => assumption); intro p' H' M')
  | (refine' d_tup ?k1 ?k2 ?k3 ?_; (case k1 => assumption); (case k2 => walk_at "hass"); (case k3 => walk_at "size"); intro p' H' M')
  | (refine' d_tupR ?k1 ?k2 ?_; (case k1 => assumption); (case k2 => walk_at "size"); intro p' H' hp' M')
  | walk_at "lst"
  | (refine' d_fldI ?k1 ?k2 ?k3 ?k4 ?k5 ?_; (case k1 => assumption); (case k2 => walk_at "mem"); (case k3 => assumption); (case k4 => assumption); (case k5 => walk_at "fld"))
  | (refine' d_fld ?k1 ?k2 ?k3 ?k4 ?k5 ?_; (case k1 => assumption); (case k2 => walk_at "mem"); (case k3 => assumption); (case k4 => assumption); (case k5 => walk_at "fld"); intro v' M'; first | (have e' := Mm.isI M'; subst e') | (have e' := Mm.isS M'; subst e') | (have e' := Mm.isB M'; subst e') | (have e' := Mm.isN M'; subst e') | (obtain ⟨p', e'⟩ := Mm.isT M'; subst e') | (obtain ⟨p', e'⟩ := Mm.isL M'; subst e') | (obtain ⟨p', e'⟩ := Mm.isO M'; subst e') | skip)
  | (refine' d_fldX0 ?k1 ?k2 ?k3 ?k4 ?_; (case k1 => assumption); (case k2 => assumption); (case k3 => assumption); (case k4 => walk_at "fld"); intro v' M'; first | (have e' := Mm.isI M'; subst e') | (have e' := Mm.isS M'; subst e') | (have e' := Mm.isB M'; subst e') | (have e' := Mm.isN M'; subst e') | (obtain ⟨p', e'⟩ := Mm.isT M'; subst e') | (obtain ⟨p', e'⟩ := Mm.isL M'; subst e') | (obtain ⟨p', e'⟩ := Mm.isO M'; subst e') | skip)
  | (refine' d_fldX1 ?k1 ?k2 ?k3 ?k4 ?_; (case k1 => assumption); (case k2 => assumption); (case k3 => assumption); (case k4 => walk_at "fld"); intro v' M'; first | (have e' := Mm.isI M'; subst e') | (have e' := Mm.isS M'; subst e') | (have e' := Mm.isB M'; subst e') | (have e' := Mm.isN M'; subst e') | (obtain ⟨p', e'⟩ := Mm.isT M'; subst e') | (obtain ⟨p', e'⟩ := Mm.isL M'; subst e') | (obtain ⟨p', e'⟩ := Mm.isO M'; subst e') | skip)
  | (refine' d_gT2I ?k1 ?k2 ?k3 ?_; (case k1 => assumption); (case k2 => walk_at "mem"); (case k3 => with_unfolding_all rfl))
  | (refine' d_gT2 ?k1 ?k2 ?k3 ?_; (case k1 => assumption); (case k2 => walk_at "mem"); (case k3 => with_unfolding_all rfl); intro v1' v2' M'; (first | (have e' := Mm.isI M'; subst e') | (have e' := Mm.isS M'; subst e') | (have e' := Mm.isB M'; subst e') | (have e' := Mm.isN M'; subst e') | (obtain ⟨p', e'⟩ := Mm.isT M'; subst e') | (obtain ⟨p', e'⟩ := Mm.isL M'; subst e') | (obtain ⟨p', e'⟩ := Mm.isO M'; subst e') | skip); (first | (have e' := Mm.isI (Mm.dropL M'); subst e') | (have e' := Mm.isS (Mm.dropL M'); subst e') | (have e' := Mm.isB (Mm.dropL M'); subst e') | (have e' := Mm.isN (Mm.dropL M'); subst e') | (obtain ⟨p2', e'⟩ := Mm.isT (Mm.dropL M'); subst e') | (obtain ⟨p2', e'⟩ := Mm.isL (Mm.dropL M'); subst e') | (obtain ⟨p2', e'⟩ := Mm.isO (Mm.dropL M'); subst e') | skip))
  | (refine' d_gT3 ?k1 ?k2 ?k3 ?_; (case k1 => assumption); (case k2 => walk_at "mem"); (case k3 => with_unfolding_all rfl); intro v1' v2' v3' M'; (first | (have e' := Mm.isI M'; subst e') | (have e' := Mm.isS M'; subst e') | (have e' := Mm.isB M'; subst e') | (have e' := Mm.isN M'; subst e') | (obtain ⟨p', e'⟩ := Mm.isT M'; subst e') | (obtain ⟨p', e'⟩ := Mm.isL M'; subst e') | (obtain ⟨p', e'⟩ := Mm.isO M'; subst e') | skip); (first | (have e' := Mm.isI (Mm.dropL M'); subst e') | (have e' := Mm.isS (Mm.dropL M'); subst e') | (have e' := Mm.isB (Mm.dropL M'); subst e') | (have e' := Mm.isN (Mm.dropL M'); subst e') | (obtain ⟨p2', e'⟩ := Mm.isT (Mm.dropL M'); subst e') | (obtain ⟨p2', e'⟩ := Mm.isL (Mm.dropL M'); subst e') | (obtain ⟨p2', e'⟩ := Mm.isO (Mm.dropL M'); subst e') | skip); (first | (have e' := Mm.isI (Mm.dropL (Mm.dropL M')); subst e') | (have e' := Mm.isS (Mm.dropL (Mm.dropL M')); subst e') | (have e' := Mm.isB (Mm.dropL (Mm.dropL M')); subst e') | (have e' := Mm.isN (Mm.dropL (Mm.dropL M')); subst e') | (obtain ⟨p3', e'⟩ := Mm.isT (Mm.dropL (Mm.dropL M')); subst e') | (obtain ⟨p3', e'⟩ := Mm.isL (Mm.dropL (Mm.dropL M')); subst e') | (obtain ⟨p3', e'⟩ := Mm.isO (Mm.dropL (Mm.dropL M')); subst e') | skip))
  | (refine' d_app0 ?k1 ?k2 ?k3 ?_; (case k1 => assumption); (case k2 => walk_at "has1"); (case k3 => walk_at "size"); intro H' M')
  | (refine' d_app1 ?k1 ?k2 ?k3 ?_; (case k1 => assumption); (case k2 => walk_at "has1"); (case k3 => walk_at "size"); intro H' M')
  | (refine' d_app2 ?k1 ?k2 ?k3 ?_; (case k1 => assumption); (case k2 => walk_at "has1"); (case k3 => walk_at "size"); intro H' M')
  | (refine' d_app3 ?k1 ?k2 ?k3 ?_; (case k1 => assumption); (case k2 => walk_at "has1"); (case k3 => walk_at "size"); intro H' M')
  | (refine' d_set0 ?k1 ?k2 ?k3 ?k4 ?_; (case k1 => assumption); (case k2 => walk_at "has1"); (case k3 => omega); (case k4 => walk_at "lt"); intro H' M')
  | (refine' d_set1 ?k1 ?k2 ?k3 ?k4 ?_; (case k1 => assumption); (case k2 => walk_at "has1"); (case k3 => omega); (case k4 => walk_at "lt"); intro H' M')
  | (refine' d_set2 ?k1 ?k2 ?k3 ?k4 ?_; (case k1 => assumption); (case k2 => walk_at "has1"); (case k3 => omega); (case k4 => walk_at "lt"); intro H' M')
  | (refine' d_set3 ?k1 ?k2 ?k3 ?k4 ?_; (case k1 => assumption); (case k2 => walk_at "has1"); (case k3 => omega); (case k4 => walk_at "lt"); intro H' M')
  | (refine' d_reverse0 ?k1 ?_; (case k1 => assumption); intro H' M')
  | (refine' d_reverse1 ?k1 ?_; (case k1 => assumption); intro H' M')
  | (refine' d_reverse2 ?k1 ?_; (case k1 => assumption); intro H' M')
  | (refine' d_clear0 ?k1 ?_; (case k1 => assumption); intro H' M')
  | (refine' d_clear1 ?k1 ?_; (case k1 => assumption); intro H' M')
  | (refine' d_clear2 ?k1 ?_; (case k1 => assumption); intro H' M')
  | (refine' d_sfld0 ?k1 ?k2 ?k3 ?k4 ?k5 ?_; (case k1 => assumption); (case k2 => walk_at "has1"); (case k3 => assumption); (case k4 => assumption); (case k5 => walk_at "few"); intro H' M')
  | (refine' d_sfld1 ?k1 ?k2 ?k3 ?k4 ?k5 ?_; (case k1 => assumption); (case k2 => walk_at "has1"); (case k3 => assumption); (case k4 => assumption); (case k5 => walk_at "few"); intro H' M')
  | (refine' d_tyL2 ?k1 ?k2 ?_; (case k1 => assumption); (case k2 => walk_at "inl"))
  | (refine' d_inIL ?k1 ?k2 ?_; (case k1 => assumption); (case k2 => walk_at "inl"))
  | (refine' d_notIL ?k1 ?k2 ?_; (case k1 => assumption); (case k2 => walk_at "inl"))
  | (refine' d_inIT ?k1 ?k2 ?_; (case k1 => assumption); (case k2 => walk_at "mem"))
  | (refine' d_notIT ?k1 ?k2 ?_; (case k1 => assumption); (case k2 => walk_at "mem"))
  | (refine' d_eqE ?k1 ?k2 ?k3 ?_; (case k1 => assumption); (case k2 => walk_at "inl"); (case k3 => walk_at "inl"))
  | (refine' d_neE ?k1 ?k2 ?k3 ?_; (case k1 => assumption); (case k2 => walk_at "inl"); (case k3 => walk_at "inl"))
  | (refine' d_eq ?k1 ?k2 ?k3 ?k4 ?k5 ?_; (case k1 => assumption); (case k2 => walk_at "kn"); (case k3 => walk_at "kn"); (case k4 => walk_at "sh"); (case k5 => walk_at "sh"))
  | (refine' d_ne ?k1 ?k2 ?k3 ?k4 ?k5 ?_; (case k1 => assumption); (case k2 => walk_at "kn"); (case k3 => walk_at "kn"); (case k4 => walk_at "sh"); (case k5 => walk_at "sh"))
  | (refine' d_inD ?k1 ?k2 ?k3 ?k4 ?k5 ?_; (case k1 => assumption); (case k2 => walk_at "kn"); (case k3 => walk_at "kn"); (case k4 => walk_at "sh"); (case k5 => walk_at "sh"))
  | (refine' d_notInD ?k1 ?k2 ?k3 ?k4 ?k5 ?_; (case k1 => assumption); (case k2 => walk_at "kn"); (case k3 => walk_at "kn"); (case k4 => walk_at "sh"); (case k5 => walk_at "sh"))
  | (refine' d_isiT ?k1 ?k2 ?k3 ?_; (case k1 => assumption); (case k2 => walk_at "mem"); (case k3 => assumption))
  | (refine' d_isiL ?k1 ?k2 ?k3 ?_; (case k1 => assumption); (case k2 => walk_at "inl"); (case k3 => assumption))
  | (refine' d_isiO ?k1 ?k2 ?k3 ?k4 ?k5 ?k6 ?k7 ?_; (case k1 => assumption); (case k2 => walk_at "mem"); (case k3 => assumption); (case k4 => assumption); (case k5 => assumption); (case k6 => assumption); (case k7 => assumption))
  | walk_at "lof"
  | (refine' d_tupOfL ?k1 ?k2 ?_; (case k1 => assumption); (case k2 => walk_at "inl"); intro p' H' M')
  | (refine' d_tupOfT ?k1 ?k2 ?_; (case k1 => assumption); (case k2 => walk_at "mem"))
  | (refine' d_tupOfQ ?k1 ?k2 ?_; (case k1 => assumption); (case k2 => walk_at "mem"); intro p' H' M')
  | (refine' d_catT ?k1 ?k2 ?k3 ?k4 ?_; (case k1 => assumption); (case k2 => walk_at "mem"); (case k3 => walk_at "mem"); (case k4 => walk_at "size"); intro p' H' M')
  | (refine' d_slL ?k1 ?k2 ?_; (case k1 => assumption); (case k2 => walk_at "inl"); intro p' H' M')
  | refine d_revL ?_
  | (refine' d_rev ?k1 ?k2 ?_; (case k1 => assumption); (case k2 => walk_at "inl"); intro p' H' M')
  | (refine' d_cat ?k1 ?k2 ?k3 ?k4 ?_; (case k1 => assumption); (case k2 => walk_at "inl"); (case k3 => walk_at "inl"); (case k4 => walk_at "size"); intro p' H' M')
  | (refine' d_all ?k1 ?k2 ?_; (case k1 => assumption); (case k2 => walk_at "inl"))
  | (refine' d_any ?k1 ?k2 ?_; (case k1 => assumption); (case k2 => walk_at "inl"))
  | (refine' d_lstAt ?k1 ?k2 ?_; (case k1 => assumption); (case k2 => walk_at "inl"))
  | (refine' d_tupAt ?k1 ?k2 ?_; (case k1 => assumption); (case k2 => walk_at "mem"))
  | (refine' d_meth ?k1 ?k2 ?k3 ?_; (case k1 => assumption); (case k2 => walk_at "mem"); (case k3 => walk_at "fld"))
  | (refine' d_ownN ?k1 ?k2 ?_; (case k1 => assumption); (case k2 => walk_at "mem"))
  | (refine' d_ownO ?k1 ?k2 ?k3 ?_; (case k1 => assumption); (case k2 => walk_at "mem"); (case k3 => walk_at "mem"))
  | (refine' d_ownEq ?k1 ?k2 ?k3 ?_; (case k1 => assumption); (case k2 => walk_at "mem"); (case k3 => walk_at "mem"))
  | (refine' d_ownIn ?k1 ?k2 ?_; (case k1 => assumption); (case k2 => walk_at "mem"))
  | (refine' d_ownU ?k1 ?k2 ?_; (case k1 => assumption); (case k2 => walk_at "mem"))
  | (refine' d_ownStr ?k1 ?k2 ?_; (case k1 => assumption); (case k2 => walk_at "mem"))
  | (refine' d_prop ?k1 ?k2 ?_; (case k1 => assumption); (case k2 => walk_at "mem"))
  | (refine' d_dnew ?k1 ?_; (case k1 => assumption); intro p' H' M')
  | refine d_din0 ?_ | refine d_dnotin0 ?_ | refine d_dget0 ?_ | refine d_dput0 ?_ | refine d_items0 ?_
  | (refine' d_din ?k1 ?k2 ?k3 ?_; (case k1 => assumption); (case k2 => walk_at "inl"); (case k3 => first | exact (rfl : V.str _ = kV (Sum.inr _)) | exact (rfl : V.int _ = kV (Sum.inl _)) | fail))
  | (refine' d_dnotin ?k1 ?k2 ?k3 ?_; (case k1 => assumption); (case k2 => walk_at "inl"); (case k3 => first | exact (rfl : V.str _ = kV (Sum.inr _)) | exact (rfl : V.int _ = kV (Sum.inl _)) | fail))
  | (refine' d_items ?k1 ?k2 ?_; (case k1 => assumption); (case k2 => walk_at "inl"); intro p' H' M')
  | (refine' d_range1 ?k1 ?_; (case k1 => assumption); intro p' H' hp' M')
  | (refine' d_listRng ?k1 ?k2 ?k3 ?k4 ?_; (case k1 => assumption); (case k2 => assumption); (case k3 => omega); (case k4 => omega); intro p' H' M')
  | walk_at "use")
local macro_rules | `(tactic| walk_at "go") => `(tactic| repeat' (walk_at "go1"))

local macro_rules | `(tactic| walk_at "hp") => `(tactic| first | assumption | fail)
local macro_rules | `(tactic| walk_at "fld") => `(tactic| first | exact fd_nil | exact fd_hd | (refine' fd_tl ?k1 ?k2; (case k1 => decide +kernel); (case k2 => walk_at "fld")) | fail)
local macro_rules | `(tactic| walk_at "size") => `(tactic| first | exact Nat.lt_of_le_of_lt (m := 50000) (by first | omega | (simp only [List.length_map, List.length_range, List.length_append, List.length_cons, List.length_nil, List.length_replicate, List.length_set, List.length_reverse]; omega)) (by decide) | exact Nat.le_trans (m := 50000) (by first | omega | (simp only [List.length_map, List.length_range, List.length_append, List.length_cons, List.length_nil, List.length_replicate, List.length_set, List.length_reverse]; omega)) (by decide) | fail)
section
variable {P : Program} {w : World} {K : PySem.W.Frag} {mg : Str → Option Value} {base : Heap} {C CO fO CE fE : Addr}
/-- there is such a list -/
def rowOf (c last : Int) : List Pr := (List.range (last + 1 - c).toNat).map fun (i : Nat) => (c, c + (i : Int))
def allP (last : Int) : List Pr := (List.range (last + 1).toNat).flatMap fun (c : Nat) => rowOf (c : Int) last
theorem mem_row {c last : Int} {x : Pr} : x ∈ rowOf c last ↔ x.1 = c ∧ c ≤ x.2 ∧ x.2 ≤ last := by
  unfold rowOf
  rw [List.mem_map]
  constructor
  · rintro ⟨i, hi, rfl⟩
    rw [List.mem_range] at hi
    exact ⟨rfl, by show c ≤ c + (i : Int); omega, by show c + (i : Int) ≤ last; omega⟩
  · rintro ⟨e, h1, h2⟩
    exact ⟨(x.2 - c).toNat, List.mem_range.mpr (by omega), Prod.ext e.symm (by show c + (((x.2 - c).toNat : Nat) : Int) = x.2; omega)⟩
theorem allP_of (last : Int) : Lof (fun x => 0 ≤ x.1 ∧ x.1 ≤ x.2 ∧ x.2 ≤ last) (allP last) := by
  constructor
  · unfold allP
    rw [List.pairwise_flatMap]
    refine ⟨fun c _ => ?_, ?_⟩
    · unfold rowOf
      rw [List.pairwise_map]
      exact List.pairwise_lt_range.imp fun {a b} h => .inr ⟨rfl, by show (c : Int) + (a : Int) < (c : Int) + (b : Int); omega⟩
    · refine List.pairwise_lt_range.imp fun {a b} h u hu v hv => .inl ?_
      have h1 := (mem_row.mp hu).1
      have h2 := (mem_row.mp hv).1
      omega
  · intro x
    unfold allP
    rw [List.mem_flatMap]
    constructor
    · rintro ⟨c, _, hx⟩
      have := mem_row.mp hx
      omega
    · rintro ⟨h1, h2, h3⟩
      exact ⟨x.1.toNat, List.mem_range.mpr (by omega), mem_row.mpr ⟨by omega, by omega, h3⟩⟩
theorem ex_of (P : Pr → Prop) (last : Int) (h : ∀ x, P x → 0 ≤ x.1 ∧ x.1 ≤ x.2 ∧ x.2 ≤ last) : ∃ l, Lof P l := by
  classical
  refine ⟨_, ((allP_of last).filter fun x => decide (P x)).imp fun x => ?_⟩
  rw [decide_eq_true_eq]
  exact ⟨fun z => z.2, fun z => ⟨h x z, z⟩⟩
theorem great_ex (ns : List Nt) (last : Int) : ∃ gr, Lof (Great ns last) gr := ex_of _ last fun x h => ⟨h.1.lo, h.1.le, h.1.hi⟩
theorem rows_ex (ns : List Nt) (last : Int) : ∃ gr, Lof (Fit ns last) gr := ex_of _ last fun x h => ⟨h.lo, h.le, h.hi⟩
abbrev hs (x : Pr) (d : Int) : Bool := decide (x.1 ≤ d ∧ d ≤ x.2)
/-- the word that the two lists tell -/
def wordOn (le gr : List Pr) (d : Int) : Str := if le = [] then "void" else if (le.all fun x => hs x d) = true then "sure" else if (gr.any fun x => hs x d) = true then "open" else "never"
theorem allB {le : List Pr} {d : Int} : (le.map fun x => hs x d).all id = le.all fun x => hs x d := by rw [List.all_map]; rfl
theorem anyB {le : List Pr} {d : Int} : (le.map fun x => hs x d).any id = le.any fun x => hs x d := by rw [List.any_map]; rfl
def sp_sure (K : PySem.W.Frag) (C : Addr) : Sp := fun vs H Q E => ∃ (G : Hp) (t : Bool) (ns : List Nt) (last : Int) (day : Int), Same G H ∧ AtL K G vs [sq t (ns.map ntD), .int last, .int day] ∧ (InR ns last) ∧ (0 ≤ last) ∧ (last ≤ 100) ∧ (ns.length ≤ 1000) ∧ (∀ (le gr : List Pr) H', (Lof (Least ns last) le ∧ Lof (Great ns last) gr) → Mm K H G [] ([]) [] H' → Q (.str (wordOn le gr day)) H')
theorem ok_sure {f : Addr} {fd : FuncData} (F : Fun K "surely_on" "surely_on" s_surely_on f fd) (T : Txt P K mg C CO fO CE fE) (c_least_stays : Cal P w K mg base 3 "least_stays" (sp_least K C)) (c_greatest_stays : Cal P w K mg base 3 "greatest_stays" (sp_great K C)) (c_Stay_contains : Spc P w K mg base 1 C "__contains__" (sp_has K C)) :
    FnOk P w K mg base (L2.CX P w) (3 + 1) f fd ["notes", "last", "day"] (sp_sure K C) := by
  refine okT F sc_surely_on (fun vs H Q E h => ?_) (fun cdv A outer s H vs Q E hr tk h => ?_)
  · obtain ⟨G, t, ns, last, day, _, hA, _⟩ := h
    rcases hA with _ | ⟨ha0, hA0⟩
    rcases hA0 with _ | ⟨ha1, hA1⟩
    rcases hA1 with _ | ⟨ha2, hA2⟩
    cases hA2
    rfl
  obtain ⟨G, t, ns, last, day, hsG, hA, p0, p1, p2, p3, k⟩ := h
  have f1 := T.i1; have f2 := T.i2; have f3 := T.i3; have f4 := T.i4; have f5 := T.i5; have f6 := T.cl; have f7 := T.nc; have f8 := T.ng; have f9 := T.oa; have f10 := T.on; have f11 := T.ot; have f12 := T.om
  rcases hA with _ | ⟨ha0, hA0⟩
  rcases hA0 with _ | ⟨ha1, hA1⟩
  rcases hA1 with _ | ⟨ha2, hA2⟩
  cases hA2
  obtain ⟨q0, rfl⟩ := ha0.refQ
  obtain rfl := ha1.isI
  obtain rfl := ha2.isI
  have M : Mm K H G [] [] [(.ref q0, sq t (ns.map ntD))] H := Mm.start hsG (fun z hz => by
    simp only [List.mem_cons, List.not_mem_nil, or_false] at hz
    rcases hz with rfl
    · exact ha0)
  refine ⟨_, (pss_cons (ps_set (i := 3) sc_surely_on.nd rfl (Or.inl rfl) (c_call c_least_stays tk hr (by decide) (pa_cons (pv 0) (pa_cons (pv 1) pa_nil))))
      (pss_cons (ps_if (pt_cmpR (op_eqE hr.units) (pv 3) (pe_lst pa_nil) (nomark _)) (pss_one (ps_ret pe_str)) pss_nil)
      (pss_cons (ps_if (pt_val (pe_callB (cr_all rfl) (by rfl) T.b_all (by decide +kernel) (pa_cons (pe_lc (own := [("stay", 4)]) (g := gName 4) (tt := tYes) rfl sc_surely_on.nd (pi_list (pv 3)) (blkOk_by (own := [("stay", 4)]) (N := N_surely_on) (sc := defScope s_surely_on) (by decide +kernel)) (fun _ _ _ _ _ => pg_name (i := 4) sc_surely_on.nd rfl (Or.inl rfl)) (fun _ _ _ _ _ => pts_nil) (fun _ _ _ _ _ => (pe_cmpR (c_in c_Stay_contains hr (by decide)) (pv 2) (pv 4) rfl))) pa_nil))) (pss_one (ps_ret pe_str)) pss_nil)
      (pss_cons (ps_if (pt_val (pe_callB (cr_any rfl) (by rfl) T.b_any (by decide +kernel) (pa_cons (pe_lc (own := [("stay", 4)]) (g := gName 4) (tt := tYes) rfl sc_surely_on.nd (pi_list (c_call c_greatest_stays tk hr (by decide) (pa_cons (pv 0) (pa_cons (pv 1) pa_nil)))) (blkOk_by (own := [("stay", 4)]) (N := N_surely_on) (sc := defScope s_surely_on) (by decide +kernel)) (fun _ _ _ _ _ => pg_name (i := 4) sc_surely_on.nd rfl (Or.inl rfl)) (fun _ _ _ _ _ => pts_nil) (fun _ _ _ _ _ => (pe_cmpR (c_in c_Stay_contains hr (by decide)) (pv 2) (pv 4) rfl))) pa_nil))) (pss_one (ps_ret pe_str)) pss_nil)
      (pss_one (ps_ret pe_str)))))), ?_⟩
  simp only [cxK, st_surely_on]
  walk_at "go"
  refine' use_least (t := t) (ns := ns) (last := last) ?m0 ?h0 ?q0 ?q1 ?q2 ?q3 ?_
  case m0 => assumption
  case h0 => walk_at "hass"
  case q0 => exact p0
  case q1 => exact p1
  case q2 => exact p2
  case q3 => exact p3
  intro lp le H2' hc2 N2
  have M2 := N2.freeze
  clear N2 M
  have hll : (le.map (stD C)).length = le.length := List.length_map _
  walk_at "go"
  rename_i pz H9 M9
  cases hle : le with
  | nil =>
    subst hle
    refine k_iteT0 rfl ?_
    walk_at "go"
    refine k [] [] _ ⟨hc2.1, Lof.nil fun x hx => ?_⟩ (Mm.none (by assumption))
    obtain ⟨y, hy, _, _⟩ := has_least _ x hx.1 (Nat.le_refl _)
    exact absurd ((hc2.1.me y).mpr hy) (fun z => nomatch z)
  | cons z0 zs =>
    refine k_iteF0 rfl ?_
    have hne : ¬ le = [] := by rw [hle]; exact (fun z => nomatch z)
    clear hle
    walk_at "go"
    refine lcS (src_lst (ds := le.map (stD C))) M9 (fun i => ((le.take i).map fun x => hs x day).map D.bl) (fun _ _ => .inl (by walk_at "mem")) rfl ?_ ?_
    · intro i x A0 H' hi M'
      rw [List.length_map] at hi
      have hnext : ((le.take (i + 1)).map fun x => hs x day).map D.bl = ((le.take i).map fun x => hs x day).map D.bl ++ [D.bl (hs (le.getD i default) day)] := by
        rw [List.map_map, List.map_map, take_map (f := D.bl ∘ fun x => hs x day) hi]; rfl
      have htl := List.length_take_le' i le
      rw [getD_map hi] at M'
      generalize le.getD i default = y at M' hnext
      obtain ⟨px, rfl⟩ := M'.isO
      walk_at "go"
      refine ⟨rfl, ?_⟩
      walk_at "go"
      refine use_has (x := y) (d := day) M' (by walk_at "hass") fun H8 M8 => ⟨_, rfl, ?_⟩
      exact lc_add M8 H1.bl (by walk_at "sub") (by simp; omega) hnext
    intro A1 H10 M10
    rw [hll, List.take_length] at M10
    have M11 := M10.freeze
    clear M10 M9 M2
    walk_at "go"
    rw [allB]
    cases hal : le.all fun x => hs x day with
    | true =>
      walk_at "go"
      obtain ⟨gr, hgr⟩ := great_ex ns last
      have e : wordOn le gr day = "sure" := by unfold wordOn; rw [if_neg hne, if_pos hal]
      have k9 := k le gr _ ⟨hc2.1, hgr⟩ (Mm.none (by assumption))
      rw [e] at k9
      exact k9
    | false =>
      walk_at "go"
      refine' use_great (t := t) (ns := ns) (last := last) ?m0 ?h0 ?q0 ?q1 ?q2 ?q3 ?_
      case m0 => assumption
      case h0 => walk_at "hass"
      case q0 => exact p0
      case q1 => exact p1
      case q2 => exact p2
      case q3 => exact p3
      intro gp gr H12 hc12 N12
      have M12 := N12.freeze
      clear N12 M11
      have hlg : (gr.map (stD C)).length = gr.length := List.length_map _
      walk_at "go"
      refine lcS (src_lst (ds := gr.map (stD C))) M12 (fun i => ((gr.take i).map fun x => hs x day).map D.bl) (fun _ _ => .inl (by walk_at "mem")) rfl ?_ ?_
      · intro i x A0 H' hi M'
        rw [List.length_map] at hi
        have hnext : ((gr.take (i + 1)).map fun x => hs x day).map D.bl = ((gr.take i).map fun x => hs x day).map D.bl ++ [D.bl (hs (gr.getD i default) day)] := by
          rw [List.map_map, List.map_map, take_map (f := D.bl ∘ fun x => hs x day) hi]; rfl
        have htl := List.length_take_le' i gr
        rw [getD_map hi] at M'
        generalize gr.getD i default = y at M' hnext
        obtain ⟨px, rfl⟩ := M'.isO
        walk_at "go"
        refine ⟨rfl, ?_⟩
        walk_at "go"
        refine use_has (x := y) (d := day) M' (by walk_at "hass") fun H8 M8 => ⟨_, rfl, ?_⟩
        exact lc_add M8 H1.bl (by walk_at "sub") (by simp; omega) hnext
      intro A2 H13 M13
      rw [hlg, List.take_length] at M13
      have M14 := M13.freeze
      clear M13 M12
      walk_at "go"
      rw [anyB]
      have k9 := k le gr
      cases han : gr.any fun x => hs x day with
      | true =>
        have e : wordOn le gr day = "open" := by unfold wordOn; rw [if_neg hne, if_neg (by rw [hal]; decide), if_pos han]
        rw [e] at k9
        walk_at "go"
        exact k9 _ ⟨hc2.1, hc12.1⟩ (Mm.none (by assumption))
      | false =>
        have e : wordOn le gr day = "never" := by unfold wordOn; rw [if_neg hne, if_neg (by rw [hal]; decide), if_neg (by rw [han]; decide)]
        rw [e] at k9
        walk_at "go"
        exact k9 _ ⟨hc2.1, hc12.1⟩ (Mm.none (by assumption))
theorem use_sure {B G0 H : Hp} {ms : List Addr} {X : List (Addr × D)} {L : List (V × D)} {Q : VK} {E : XK} {ws : List V} {t : Bool} {ns : List Nt} {last : Int} {day : Int} (M : Mm K B G0 ms X L H) (ha : Hs L ws [sq t (ns.map ntD), .int last, .int day]) (p0 : InR ns last) (p1 : 0 ≤ last) (p2 : last ≤ 100) (p3 : ns.length ≤ 1000) (k0 : ∀ (le gr : List Pr) H', (Lof (Least ns last) le ∧ Lof (Great ns last) gr) → Mm K B G0 ms (X) L H' → Q (.str (wordOn le gr day)) H') : sp_sure K C ws H Q E := by
  obtain ⟨G, W⟩ := M
  exact ⟨G, t, ns, last, day, W.s1, ha K G W.ok, p0, p1, p2, p3, fun le gr H' hc M2 => k0 le gr H' hc (W.comp M2)⟩
/-- the first pair of the two lists that is so -/
def firstP (xs ys : List Pr) (b : Bool) : Option (Pr × Pr) := xs.findSome? fun x => (ys.find? fun y => mt x y == b).map fun y => (x, y)
def pairD (C : Addr) : Option (Pr × Pr) → D
  | none => .non
  | some z => .tup [stD C z.1, stD C z.2]
theorem find_drop {α : Type} {l : List α} {f : α → Bool} {i : Nat} {x : α} (h : l[i]? = some x) (hf : f x = false) : (l.drop i).find? f = (l.drop (i + 1)).find? f := by
  obtain ⟨hi, e⟩ := List.getElem?_eq_some_iff.mp h
  rw [List.drop_eq_getElem_cons hi, List.find?_cons, e, hf]
theorem find_hit {α : Type} {l : List α} {f : α → Bool} {i : Nat} {x : α} (h : l[i]? = some x) (hf : f x = true) : (l.drop i).find? f = some x := by
  obtain ⟨hi, e⟩ := List.getElem?_eq_some_iff.mp h
  rw [List.drop_eq_getElem_cons hi, List.find?_cons, e, hf]
theorem some_drop {α β : Type} {l : List α} {f : α → Option β} {i : Nat} {x : α} (h : l[i]? = some x) : (l.drop i).findSome? f = match f x with | some y => some y | none => (l.drop (i + 1)).findSome? f := by
  obtain ⟨hi, e⟩ := List.getElem?_eq_some_iff.mp h
  rw [List.drop_eq_getElem_cons hi, List.findSome?_cons, e]
  rfl
def sp_fpair (K : PySem.W.Frag) (C : Addr) : Sp := fun vs H Q E => ∃ (G : Hp) (xs ys : List Pr) (b : Bool), Same G H ∧ AtL K G vs [.lst (xs.map (stD C)), .lst (ys.map (stD C)), .bl b] ∧ (xs.length ≤ 1000) ∧ (ys.length ≤ 1000) ∧ (∀ (v : V) H', Mm K H G [] ([]) [(v, pairD C (firstP xs ys b))] H' → Q (v) H')
theorem ok_fpair {f : Addr} {fd : FuncData} (F : Fun K "first_pair" "first_pair" s_first_pair f fd) (T : Txt P K mg C CO fO CE fE) (c_Stay_meets : Met P w K mg base 1 C "meets" (sp_meets K C)) :
    FnOk P w K mg base (L2.CX P w) (1 + 1) f fd ["stays", "others", "common"] (sp_fpair K C) := by
  refine okT F sc_first_pair (fun vs H Q E h => ?_) (fun cdv A outer s H vs Q E hr tk h => ?_)
  · obtain ⟨G, xs, ys, b, _, hA, _⟩ := h
    rcases hA with _ | ⟨ha0, hA0⟩
    rcases hA0 with _ | ⟨ha1, hA1⟩
    rcases hA1 with _ | ⟨ha2, hA2⟩
    cases hA2
    rfl
  obtain ⟨G, xs, ys, b, hsG, hA, p0, p1, k⟩ := h
  have f1 := T.i1; have f2 := T.i2; have f3 := T.i3; have f4 := T.i4; have f5 := T.i5; have f6 := T.cl; have f7 := T.nc; have f8 := T.ng; have f9 := T.oa; have f10 := T.on; have f11 := T.ot; have f12 := T.om
  rcases hA with _ | ⟨ha0, hA0⟩
  rcases hA0 with _ | ⟨ha1, hA1⟩
  rcases hA1 with _ | ⟨ha2, hA2⟩
  cases hA2
  obtain ⟨l0, rfl⟩ := ha0.refL
  obtain ⟨l1, rfl⟩ := ha1.refL
  obtain rfl := ha2.isB
  have M : Mm K H G [] [] [(.ref l0, .lst (xs.map (stD C))), (.ref l1, .lst (ys.map (stD C)))] H := Mm.start hsG (fun z hz => by
    simp only [List.mem_cons, List.not_mem_nil, or_false] at hz
    rcases hz with rfl | rfl
    · exact ha0
    · exact ha1)
  refine ⟨_, (pss_cons (ps_for (passes_of rfl) rfl (pi_list (pv 0)) (pg_name (i := 3) sc_first_pair.nd rfl (Or.inl rfl)) (pss_one (ps_for (passes_of rfl) rfl (pi_list (pv 1)) (pg_name (i := 4) sc_first_pair.nd rfl (Or.inl rfl)) (pss_one (ps_if (pt_cmpR op_eq (c_meth c_Stay_meets tk hr (by decide) (pv 3) (pa_cons (pv 4) pa_nil)) (pv 2) (nomark _)) (pss_one (ps_ret (pe_tup (pa_cons (pv 3) (pa_cons (pv 4) pa_nil))))) pss_nil)))))
      (pss_one (ps_ret pe_non))), ?_⟩
  simp only [cxK, st_first_pair]
  have hxl : (xs.map (stD C)).length = xs.length := List.length_map _
  have hyl : (ys.map (stD C)).length = ys.length := List.length_map _
  walk_at "go"
  refine forS (src_lst (ds := xs.map (stD C))) (fun _ => []) M (fun i σ' => (∃ v3 v4, σ' = [some (.ref l0), some (.ref l1), some (.bl b), v3, v4]) ∧ firstP xs ys b = (xs.drop i).findSome? fun x => (ys.find? fun y => mt x y == b).map fun y => (x, y)) (fun _ => .inl (by walk_at "mem")) ⟨⟨_, _, rfl⟩, rfl⟩ ?_ ?_
  · rintro i x σ' H' hi ⟨⟨v3, v4, rfl⟩, hf⟩ M'
    rw [hxl] at hi
    rw [some_drop (getD_at hi)] at hf
    rw [getD_map hi] at M'
    generalize xs.getD i default = xx at M' hf
    obtain ⟨px, rfl⟩ := M'.isO
    walk_at "go"
    refine forS (src_lst (ds := ys.map (stD C))) (fun _ => []) M' (fun j σ' => (∃ v4, σ' = [some (.ref l0), some (.ref l1), some (.bl b), some (.ref px), v4]) ∧ (ys.find? fun y => mt xx y == b) = (ys.drop j).find? fun y => mt xx y == b) (fun _ => .inl (by walk_at "mem")) ⟨⟨_, rfl⟩, rfl⟩ ?_ ?_
    · rintro j y σ' H2 hj ⟨⟨v4, rfl⟩, hg⟩ M2
      rw [hyl] at hj
      have hat := getD_at hj
      rw [getD_map hj] at M2
      generalize ys.getD j default = yy at M2 hat
      obtain ⟨py, rfl⟩ := M2.isO
      walk_at "go"
      refine' use_meets (x := xx) (y := yy) ?m0 ?h0  ?_
      case m0 => assumption
      case h0 => walk_at "hass"
      intro H3 M3
      walk_at "go"
      cases hc : (mt xx yy == b) with
      | true =>
        rw [find_hit hat hc] at hg
        rw [hg] at hf
        walk_at "go"
        rename_i M9
        refine k _ _ ?_
        rw [hf]
        exact M9.oneL List.mem_cons_self
      | false =>
        rw [find_drop hat hc] at hg
        walk_at "go"
        exact ⟨⟨⟨_, rfl⟩, hg⟩, M3.sub (by walk_at "sub")⟩
    · rintro σ' H2 ⟨⟨v4, rfl⟩, hg⟩ M2
      rw [hyl, List.drop_length] at hg
      rw [hg] at hf
      exact ⟨⟨⟨_, _, rfl⟩, hf⟩, M2.sub (by walk_at "sub")⟩
  · rintro σ' H' ⟨⟨v3, v4, rfl⟩, hf⟩ M'
    rw [hxl, List.drop_length] at hf
    walk_at "go"
    refine k _ _ ?_
    rw [hf]
    exact (M'.add (d := .non) H1.non).oneL List.mem_cons_self
theorem use_fpair {B G0 H : Hp} {ms : List Addr} {X : List (Addr × D)} {L : List (V × D)} {Q : VK} {E : XK} {ws : List V} {xs ys : List Pr} {b : Bool} (M : Mm K B G0 ms X L H) (ha : Hs L ws [.lst (xs.map (stD C)), .lst (ys.map (stD C)), .bl b]) (p0 : xs.length ≤ 1000) (p1 : ys.length ≤ 1000) (k0 : ∀ (v : V) H', Mm K B G0 ms (X) ((v, pairD C (firstP xs ys b)) :: L) H' → Q (v) H') : sp_fpair K C ws H Q E := by
  obtain ⟨G, W⟩ := M
  exact ⟨G, xs, ys, b, W.s1, ha K G W.ok, p0, p1, fun v H' M2 => k0 v H' (W.comp M2)⟩
def sp_mpairs (K : PySem.W.Frag) (C : Addr) : Sp := fun vs H Q E => ∃ (G : Hp) (t u : Bool) (ns os : List Nt) (last : Int), Same G H ∧ AtL K G vs [sq t (ns.map ntD), sq u (os.map ntD), .int last] ∧ (InR ns last) ∧ (InR os last) ∧ (0 ≤ last) ∧ (last ≤ 100) ∧ (ns.length ≤ 1000) ∧ (os.length ≤ 1000) ∧ (∀ (v : V) (l1 l2 g1 g2 : List Pr) H', (Lof (Least ns last) l1 ∧ Lof (Least os last) l2 ∧ Lof (Great ns last) g1 ∧ Lof (Great os last) g2) → Mm K H G [] ([]) [(v, .tup [pairD C (firstP l1 l2 false), pairD C (firstP g1 g2 true)])] H' → Q (v) H')
theorem ok_mpairs {f : Addr} {fd : FuncData} (F : Fun K "meeting_pairs" "meeting_pairs" s_meeting_pairs f fd) (T : Txt P K mg C CO fO CE fE) (c_check_notes : Cal P w K mg base 1 "check_notes" (sp_check K)) (c_least_stays : Cal P w K mg base 3 "least_stays" (sp_least K C)) (c_greatest_stays : Cal P w K mg base 3 "greatest_stays" (sp_great K C)) (c_first_pair : Cal P w K mg base 2 "first_pair" (sp_fpair K C)) :
    FnOk P w K mg base (L2.CX P w) (3 + 1) f fd ["notes", "other", "last"] (sp_mpairs K C) := by
  refine okT F sc_meeting_pairs (fun vs H Q E h => ?_) (fun cdv A outer s H vs Q E hr tk h => ?_)
  · obtain ⟨G, t, u, ns, os, last, _, hA, _⟩ := h
    rcases hA with _ | ⟨ha0, hA0⟩
    rcases hA0 with _ | ⟨ha1, hA1⟩
    rcases hA1 with _ | ⟨ha2, hA2⟩
    cases hA2
    rfl
  obtain ⟨G, t, u, ns, os, last, hsG, hA, p0, p1, p2, p3, p4, p5, k⟩ := h
  have f1 := T.i1; have f2 := T.i2; have f3 := T.i3; have f4 := T.i4; have f5 := T.i5; have f6 := T.cl; have f7 := T.nc; have f8 := T.ng; have f9 := T.oa; have f10 := T.on; have f11 := T.ot; have f12 := T.om
  rcases hA with _ | ⟨ha0, hA0⟩
  rcases hA0 with _ | ⟨ha1, hA1⟩
  rcases hA1 with _ | ⟨ha2, hA2⟩
  cases hA2
  obtain ⟨q0, rfl⟩ := ha0.refQ
  obtain ⟨q1, rfl⟩ := ha1.refQ
  obtain rfl := ha2.isI
  have M : Mm K H G [] [] [(.ref q0, sq t (ns.map ntD)), (.ref q1, sq u (os.map ntD))] H := Mm.start hsG (fun z hz => by
    simp only [List.mem_cons, List.not_mem_nil, or_false] at hz
    rcases hz with rfl | rfl
    · exact ha0
    · exact ha1)
  refine ⟨_, (pss_cons (ps_expr (c_call c_check_notes tk hr (by decide) (pa_cons (pv 0) (pa_cons (pv 2) pa_nil))))
      (pss_cons (ps_expr (c_call c_check_notes tk hr (by decide) (pa_cons (pv 1) (pa_cons (pv 2) pa_nil))))
      (pss_cons (ps_set (i := 3) sc_meeting_pairs.nd rfl (Or.inl rfl) (c_call c_first_pair tk hr (by decide) (pa_cons (c_call c_least_stays tk hr (by decide) (pa_cons (pv 0) (pa_cons (pv 2) pa_nil))) (pa_cons (c_call c_least_stays tk hr (by decide) (pa_cons (pv 1) (pa_cons (pv 2) pa_nil))) (pa_cons pe_bl pa_nil)))))
      (pss_cons (ps_set (i := 4) sc_meeting_pairs.nd rfl (Or.inl rfl) (c_call c_first_pair tk hr (by decide) (pa_cons (c_call c_greatest_stays tk hr (by decide) (pa_cons (pv 0) (pa_cons (pv 2) pa_nil))) (pa_cons (c_call c_greatest_stays tk hr (by decide) (pa_cons (pv 1) (pa_cons (pv 2) pa_nil))) (pa_cons pe_bl pa_nil)))))
      (pss_one (ps_ret (pe_tup (pa_cons (pv 3) (pa_cons (pv 4) pa_nil))))))))), ?_⟩
  simp only [cxK, st_meeting_pairs]
  walk_at "go"
  refine' use_check (t := t) (ns := ns) (last := last) ?m0 ?h0 ?q0 ?_
  case m0 => assumption
  case h0 => walk_at "hass"
  case q0 => exact p0
  intro H1' M1
  walk_at "go"
  refine' use_check (t := u) (ns := os) (last := last) ?m0 ?h0 ?q0 ?_
  case m0 => assumption
  case h0 => walk_at "hass"
  case q0 => exact p1
  intro H2' M2
  walk_at "go"
  refine' use_least (t := t) (ns := ns) (last := last) ?m0 ?h0 ?q0 ?q1 ?q2 ?q3 ?_
  case m0 => assumption
  case h0 => walk_at "hass"
  case q0 => exact p0
  case q1 => exact p2
  case q2 => exact p3
  case q3 => exact p4
  intro a1 l1 H3' c3 N3
  have M3 := N3.freeze
  clear M M1 M2 N3
  walk_at "go"
  refine' use_least (t := u) (ns := os) (last := last) ?m0 ?h0 ?q0 ?q1 ?q2 ?q3 ?_
  case m0 => assumption
  case h0 => walk_at "hass"
  case q0 => exact p1
  case q1 => exact p2
  case q2 => exact p3
  case q3 => exact p5
  intro a2 l2 H4' c4 N4
  have M4 := N4.freeze
  clear M3 N4
  walk_at "go"
  refine' use_fpair (xs := l1) (ys := l2) (b := false) ?m0 ?h0 ?q0 ?q1 ?_
  case m0 => assumption
  case h0 => walk_at "hass"
  case q0 => omega
  case q1 => omega
  intro v5 H5' M5
  walk_at "go"
  refine' use_great (t := t) (ns := ns) (last := last) ?m0 ?h0 ?q0 ?q1 ?q2 ?q3 ?_
  case m0 => assumption
  case h0 => walk_at "hass"
  case q0 => exact p0
  case q1 => exact p2
  case q2 => exact p3
  case q3 => exact p4
  intro a6 g1 H6' c6 N6
  have M6 := N6.freeze
  clear M4 M5 N6
  walk_at "go"
  refine' use_great (t := u) (ns := os) (last := last) ?m0 ?h0 ?q0 ?q1 ?q2 ?q3 ?_
  case m0 => assumption
  case h0 => walk_at "hass"
  case q0 => exact p1
  case q1 => exact p2
  case q2 => exact p3
  case q3 => exact p5
  intro a7 g2 H7' c7 N7
  have M7 := N7.freeze
  clear M6 N7
  walk_at "go"
  refine' use_fpair (xs := g1) (ys := g2) (b := true) ?m0 ?h0 ?q0 ?q1 ?_
  case m0 => assumption
  case h0 => walk_at "hass"
  case q0 => omega
  case q1 => omega
  intro v8 H8' M8
  clear M7
  walk_at "go"
  rename_i M9
  exact k _ l1 l2 g1 g2 _ ⟨c3.1, c4.1, c6.1, c7.1⟩ (M9.oneL List.mem_cons_self)
theorem use_mpairs {B G0 H : Hp} {ms : List Addr} {X : List (Addr × D)} {L : List (V × D)} {Q : VK} {E : XK} {ws : List V} {t u : Bool} {ns os : List Nt} {last : Int} (M : Mm K B G0 ms X L H) (ha : Hs L ws [sq t (ns.map ntD), sq u (os.map ntD), .int last]) (p0 : InR ns last) (p1 : InR os last) (p2 : 0 ≤ last) (p3 : last ≤ 100) (p4 : ns.length ≤ 1000) (p5 : os.length ≤ 1000) (k0 : ∀ (v : V) (l1 l2 g1 g2 : List Pr) H', (Lof (Least ns last) l1 ∧ Lof (Least os last) l2 ∧ Lof (Great ns last) g1 ∧ Lof (Great os last) g2) → Mm K B G0 ms (X) ((v, .tup [pairD C (firstP l1 l2 false), pairD C (firstP g1 g2 true)]) :: L) H' → Q (v) H') : sp_mpairs K C ws H Q E := by
  obtain ⟨G, W⟩ := M
  exact ⟨G, t, u, ns, os, last, W.s1, ha K G W.ok, p0, p1, p2, p3, p4, p5, fun v l1 l2 g1 g2 H' hc M2 => k0 v l1 l2 g1 g2 H' hc (W.comp M2)⟩
end
end K20

set_option Elab.async false
set_option linter.all false
set_option maxRecDepth 100000
set_option maxHeartbeats 8000000
namespace K20
open PySem L2 MyL
local macro_rules | `(tactic| walk_at "sub") => `(tactic| first | exact sub_nil | exact sub_self | (refine' sub_cons ?k1 ?k2; (case k1 => walk_at "mem"); (case k2 => walk_at "sub")) | (refine' sub_app ?k1 ?k2; (case k1 => walk_at "sub"); (case k2 => walk_at "sub")) | (refine sub_tail ?_; walk_at "sub") | fail)
local macro_rules | `(tactic| walk_at "mem") => `(tactic| first | exact List.mem_cons_self | (refine List.mem_cons_of_mem _ ?_; walk_at "mem") | (refine List.mem_append_right _ ?_; walk_at "mem") | (refine List.mem_append_left _ ?_; walk_at "mem") | assumption | fail)
local macro_rules | `(tactic| walk_at "inl") => `(tactic| first | (refine Or.inl ?_; walk_at "mem") | (refine Or.inr ?_; walk_at "mem") | fail)
local macro_rules | `(tactic| walk_at "has1") => `(tactic| first | exact H1.int | exact H1.str | exact H1.bl | exact H1.non | exact H1.mem (by walk_at "mem") | assumption | fail)
local macro_rules | `(tactic| walk_at "hass") => `(tactic| first | exact Hs.nil | (refine' Hs.cons ?k1 ?k2; (case k1 => walk_at "has1"); (case k2 => walk_at "hass")) | exact Hs.ints _ | assumption | fail)
local macro_rules | `(tactic| walk_at "kn") => `(tactic| first | (refine Or.inl ?_; walk_at "has1") | (refine Or.inr ⟨_, _, rfl, rfl, ?_⟩; walk_at "mem") | fail)
local macro_rules | `(tactic| walk_at "sh") => `(tactic| first | exact Sh.int | exact Sh.bl | exact Sh.non | exact Sh.str (by decide) | assumption | (refine Sh.tupM ?_; intro x' hx'; walk_at "sh") | (refine Sh.lstM ?_; intro x' hx'; walk_at "sh") | (refine Sh.tup ?_; walk_at "shs") | (refine Sh.lst ?_; walk_at "shs") | fail)
local macro_rules | `(tactic| walk_at "shs") => `(tactic| first | exact Sh.nil | (refine' Sh.cons ?k1 ?k2; (case k1 => walk_at "sh"); (case k2 => walk_at "shs")) | fail)
local macro_rules | `(tactic| walk_at "lt") => `(tactic| first | omega | (simp only [List.length_map, List.length_range, List.length_append, List.length_cons, List.length_nil, List.length_replicate, List.length_set]; omega) | fail)
local macro_rules | `(tactic| walk_at "few") => `(tactic| first | decide | simp | fail)
local macro_rules | `(tactic| walk_at "lof") => `(tactic| (refine' d_listI ?k1 ?k2 ?_; (case k1 => assumption); (case k2 => first | (refine Or.inl ?_; walk_at "inl") | (refine Or.inr ?_; walk_at "mem") | fail); intro p' H' M'))
local macro_rules | `(tactic| walk_at "lst") => `(tactic| (refine' d_lst ?k1 ?k2 ?k3 ?_; (case k1 => assumption); (case k2 => walk_at "hass"); (case k3 => walk_at "size"); intro p' H' M'))
local macro_rules | `(tactic| walk_at "cond") => `(tactic| first | omega | assumption | exact mulR (by omega) (by omega) | exact mulL (by omega) (by omega) | exact divW (by omega) (by omega) | decide)
local macro_rules | `(tactic| walk_at "look") => `(tactic| first | assumption | with_unfolding_all rfl | exact atI_mapI (by omega) (by omega) | exact atI_mapL (by omega) (by omega) | exact atI_mapD (by omega) (by omega) | fail)
local macro_rules | `(tactic| walk_at "go1") => `(tactic| with_reducible first
  | refine k_yes ?_ | refine k_seq ?_ | refine k_gName ?_ | refine k_asg ?_ | refine k_ret ?_ | refine k_ifS ?_ | refine k_drop ?_ | refine k_next ?_ | refine k_break ?_ | refine k_cont ?_ | refine k_retN ?_
  | (refine' k_var ?k1 ?_; (case k1 => with_unfolding_all rfl)) | refine k_c ?_ | refine k_op ?_ | refine k_un ?_ | refine k_test ?_ | refine k_B ?_ | refine k_bl ?_ | refine k_and ?_ | refine k_or ?_ | refine k_not ?_
  | refine k_andV ?_ | refine k_orV ?_ | refine k_notV ?_ | refine k_ifE ?_ | refine k_nil ?_ | refine k_cons ?_ | refine k_cb ?_ | refine k_callS ?_ | refine k_lst0 ?_ | refine k_tup0 ?_ | refine k_fld0 ?_ | refine k_sub0 ?_ | refine k_make0 ?_ | refine k_prop0 ?_ | refine k_sta0 ?_ | refine k_sta ?_ | refine k_bm ?_ | refine k_bm0 ?_ | refine k_chain ?_ | refine k_makeK0 ?_ | refine k_swapK ?_ | refine k_meth0 ?_ | refine k_ownN0 ?_ | refine k_ownO0 ?_ | refine k_sfldS ?_ | refine k_jnil ?_ | refine k_jcons ?_ | refine k_fmt0 ?_ | refine k_sl0 ?_ | refine k_nopart ?_ | refine k_part ?_ | refine k_forR1 ?_ | refine k_forR2 ?_ | refine k_forL ?_ | refine k_forT ?_ | refine k_lcR1 ?_ | refine k_lc2R1 ?_ | refine k_lc2R2 ?_ | refine k_lc2L ?_ | refine k_lc2T ?_ | refine k_iR1 ?_ | refine k_iR2 ?_ | refine k_iL ?_ | refine k_iT ?_ | refine k_lcR2 ?_ | refine k_lcL ?_ | refine k_lcT ?_ | refine k_err0 ?_ | refine k_xf0 ?_ | refine k_errQ1 ?_ | refine k_errQ0 ?_ | refine k_errQ2 ?_ | refine k_errQ3 ?_
  | refine k_I0 ?_ | (refine k_I ?k1 ?_; (case k1 => walk_at "cond")) | refine k_U ?_ | refine k_eqI ?_ | refine k_neI ?_ | refine k_eqB ?_ | refine k_neB ?_ | refine k_eqS ?_ | refine k_neS ?_
  | refine k_int1 ?_ | refine k_abs1 ?_ | refine k_min2 ?_ | refine k_max2 ?_
  | (refine' k_lenS ?k1 ?_; (case k1 => assumption)) | (refine' k_ixS ?k1 ?k2 ?_; (case k1 => assumption); (case k2 => walk_at "look"))
  | refine iteT ?_ | refine iteF ?_ | refine k_iteNE ?_ | refine k_iteNS ?_ | refine k_iteNT ?_ | refine k_iteNF ?_
  | (refine k_iteD ?_ ?_ <;> intro hc <;> first | (exfalso; omega) | skip)
  | (refine k_iteN ?_ ?_ <;> intro hc <;> first | (exfalso; omega) | skip)
  | (refine' k_isiI ?k1 ?_; (case k1 => assumption))
  | (refine' k_jst ?k1 ?_; (case k1 => walk_at "size")) | (refine' k_fmtI ?k1 ?_; (case k1 => exact log2_64 (by omega) (by omega))) | (refine' k_strI ?k1 ?_; (case k1 => exact log2_64 (by omega) (by omega)))
  | (refine k_addS ?k1 ?_; (case k1 => walk_at "size")) | refine k_st ?_ | refine k_parti ?_
  | (refine k_rng1 ?k1 ?k2 ?_; (case k1 => omega); (case k2 => omega)) | (refine k_rng2 ?k1 ?k2 ?k3 ?k4 ?_; (case k1 => omega); (case k2 => omega); (case k3 => omega); (case k4 => omega))
  | (refine' k_isXs ?k1 ?k2 ?_; (case k1 => assumption); (case k2 => walk_at "hp")) | (refine' k_isXo ?k1 ?k2 ?k3 ?_; (case k1 => assumption); (case k2 => walk_at "hp"); (case k3 => assumption)) | (refine' k_isXt ?k1 ?k2 ?k3 ?_; (case k1 => assumption); (case k2 => walk_at "hp"); (case k3 => assumption))
  | (refine' k_isX3 ?k1 ?k2 ?k3 ?k4 ?_; (case k1 => assumption); (case k2 => walk_at "hp"); (case k3 => walk_at "hp"); (case k4 => assumption)) | (refine' k_isX2 ?k1 ?k2 ?k3 ?k4 ?_; (case k1 => assumption); (case k2 => walk_at "hp"); (case k3 => walk_at "hp"); (case k4 => assumption))
  | (refine' k_isX0s ?k1 ?_; (case k1 => assumption)) | (refine' k_isX0o ?k1 ?k2 ?_; (case k1 => assumption); (case k2 => assumption)) | (refine' k_isX0t ?k1 ?k2 ?_; (case k1 => assumption); (case k2 => assumption)) | (refine' k_isX04 ?k1 ?k2 ?k3 ?_; (case k1 => assumption); (case k2 => walk_at "hp"); (case k3 => assumption))
  | (refine' k_isX4 ?k1 ?k2 ?k3 ?k4 ?_; (case k1 => assumption); (case k2 => walk_at "hp"); (case k3 => walk_at "hp"); (case k4 => assumption)) | (refine' k_ixT2 ?k1 ?k2 ?k3 ?_; (case k1 => walk_at "hp"); (case k2 => omega); (case k3 => omega); intro n' hn')
  | (refine k_iteNEq ?k1 ?_; (case k1 => (rw [Bool.eq_iff_iff]; first | (simp; done) | (simp; omega))))
  | (refine' k_xf ?k1 ?k2 ?_; (case k1 => walk_at "hp"); (case k2 => first | exact xd1 | exact xdH | exact xd2 (by decide +kernel)))
  | (refine' k_caught ?k1 ?_; (case k1 => assumption); intro a' ha')
  | refine k_asgT ?_ | refine k_gCons ?_ | refine k_gNil ?_ | refine k_par ?_ | refine k_two ?_ | refine k_isNn ?_ | refine k_isNi ?_ | refine k_notNn ?_ | refine k_notNi ?_ | refine k_isN ?_ | refine k_notN ?_
  | (refine' k_xfB ?k1 ?k2 ?_; (case k1 => walk_at "hp"); (case k2 => first | exact xd1 | exact xdH | exact xd2 (by decide +kernel)))
  | (refine' d_ixLI ?k1 ?k2 ?k3 ?_; (case k1 => assumption); (case k2 => walk_at "inl"); (case k3 => walk_at "look"))
  | (refine' d_ixLS ?k1 ?k2 ?k3 ?_; (case k1 => assumption); (case k2 => walk_at "inl"); (case k3 => walk_at "look"))
  | (refine' d_ixLB ?k1 ?k2 ?k3 ?_; (case k1 => assumption); (case k2 => walk_at "inl"); (case k3 => walk_at "look"))
  | (refine' d_ixL ?k1 ?k2 ?k3 ?_; (case k1 => assumption); (case k2 => walk_at "inl"); (case k3 => walk_at "look"); intro v' M'; first | (have e' := Mm.isI M'; subst e') | (have e' := Mm.isS M'; subst e') | (have e' := Mm.isB M'; subst e') | (have e' := Mm.isN M'; subst e') | (obtain ⟨p', e'⟩ := Mm.isT M'; subst e') | (obtain ⟨p', e'⟩ := Mm.isL M'; subst e') | (obtain ⟨p', e'⟩ := Mm.isO M'; subst e') | skip)
  | (refine' d_ixTI ?k1 ?k2 ?k3 ?_; (case k1 => assumption); (case k2 => walk_at "mem"); (case k3 => walk_at "look"))
  | (refine' d_ixTS ?k1 ?k2 ?k3 ?_; (case k1 => assumption); (case k2 => walk_at "mem"); (case k3 => walk_at "look"))
  | (refine' d_ixTB ?k1 ?k2 ?k3 ?_; (case k1 => assumption); (case k2 => walk_at "mem"); (case k3 => walk_at "look"))
  | (refine' d_ixT ?k1 ?k2 ?k3 ?_; (case k1 => assumption); (case k2 => walk_at "mem"); (case k3 => walk_at "look"); intro v' M'; first | (have e' := Mm.isI M'; subst e') | (have e' := Mm.isS M'; subst e') | (have e' := Mm.isB M'; subst e') | (have e' := Mm.isN M'; subst e') | (obtain ⟨p', e'⟩ := Mm.isT M'; subst e') | (obtain ⟨p', e'⟩ := Mm.isL M'; subst e') | (obtain ⟨p', e'⟩ := Mm.isO M'; subst e') | skip)
  | (refine' d_ixc2 ?k1 ?k2 ?k3 ?k4 ?_; (case k1 => assumption); (case k2 => walk_at "inl"); (case k3 => omega); (case k4 => omega); intro n' hn')
  | (refine' d_ixc3 ?k1 ?k2 ?k3 ?k4 ?_; (case k1 => assumption); (case k2 => walk_at "inl"); (case k3 => omega); (case k4 => omega); intro n' hn')
  | (refine' d_ixc4 ?k1 ?k2 ?k3 ?k4 ?_; (case k1 => assumption); (case k2 => walk_at "inl"); (case k3 => omega); (case k4 => omega); intro n' hn')
  | (refine' d_ixc5 ?k1 ?k2 ?k3 ?k4 ?_; (case k1 => assumption); (case k2 => walk_at "inl"); (case k3 => omega); (case k4 => omega); intro n' hn')
  | (refine' d_ixc6 ?k1 ?k2 ?k3 ?k4 ?_; (case k1 => assumption); (case k2 => walk_at "inl"); (case k3 => omega); (case k4 => omega); intro n' hn')
  | (refine' d_ixc7 ?k1 ?k2 ?k3 ?k4 ?_; (case k1 => assumption); (case k2 => walk_at "inl"); (case k3 => omega); (case k4 => omega); intro n' hn')
  | (refine' d_ixc8 ?k1 ?k2 ?k3 ?k4 ?_; (case k1 => assumption); (case k2 => walk_at "inl"); (case k3 => omega); (case k4 => omega); intro n' hn')
  | (refine' d_ixc9 ?k1 ?k2 ?k3 ?k4 ?_; (case k1 => assumption); (case k2 => walk_at "inl"); (case k3 => omega); (case k4 => omega); intro n' hn')
  | (refine' d_lenL ?k1 ?k2 ?_; (case k1 => assumption); (case k2 => walk_at "inl"))
  | (refine' d_lenT ?k1 ?k2 ?_; (case k1 => assumption); (case k2 => walk_at "mem"))
  | (refine' d_lenQ ?k1 ?k2 ?_; (case k1 => assumption); (case k2 => walk_at "mem"))
  | (refine' d_lst0 ?k1 ?_; (case k1 => assumption); intro p' H' M')
  | (refine' d_tup ?k1 ?k2 ?k3 ?_; (case k1 => assumption); (case k2 => walk_at "hass"); (case k3 => walk_at "size"); intro p' H' M')
  | (refine' d_tupR ?k1 ?k2 ?_; (case k1 => assumption); (case k2 => walk_at "size"); intro p' H' hp' M')
  | walk_at "lst"
  | (refine' d_fldI ?k1 ?k2 ?k3 ?k4 ?k5 ?_; (case k1 => assumption); (case k2 => walk_at "mem"); (case k3 => assumption); (case k4 => assumption); (case k5 => walk_at "fld"))
  | (refine' d_fld ?k1 ?k2 ?k3 ?k4 ?k5 ?_; (case k1 => assumption); (case k2 => walk_at "mem"); (case k3 => assumption); (case k4 => assumption); (case k5 => walk_at "fld"); intro v' M'; first | (have e' := Mm.isI M'; subst e') | (have e' := Mm.isS M'; subst e') | (have e' := Mm.isB M'; subst e') | (have e' := Mm.isN M'; subst e') | (obtain ⟨p', e'⟩ := Mm.isT M'; subst e') | (obtain ⟨p', e'⟩ := Mm.isL M'; subst e') | (obtain ⟨p', e'⟩ := Mm.isO M'; subst e') | skip)
  | (refine' d_fldX0 ?k1 ?k2 ?k3 ?k4 ?_; (case k1 => assumption); (case k2 => assumption); (case k3 => assumption); (case k4 => walk_at "fld"); intro v' M'; first | (have e' := Mm.isI M'; subst e') | (have e' := Mm.isS M'; subst e') | (have e' := Mm.isB M'; subst e') | (have e' := Mm.isN M'; subst e') | (obtain ⟨p', e'⟩ := Mm.isT M'; subst e') | (obtain ⟨p', e'⟩ := Mm.isL M'; subst e') | (obtain ⟨p', e'⟩ := Mm.isO M'; subst e') | skip)
  | (refine' d_fldX1 ?k1 ?k2 ?k3 ?k4 ?_; (case k1 => assumption); (case k2 => assumption); (case k3 => assumption); (case k4 => walk_at "fld"); intro v' M'; first | (have e' := Mm.isI M'; subst e') | (have e' := Mm.isS M'; subst e') | (have e' := Mm.isB M'; subst e') | (have e' := Mm.isN M'; subst e') | (obtain ⟨p', e'⟩ := Mm.isT M'; subst e') | (obtain ⟨p', e'⟩ := Mm.isL M'; subst e') | (obtain ⟨p', e'⟩ := Mm.isO M'; subst e') | skip)
  | (refine' d_gT2I ?k1 ?k2 ?k3 ?_; (case k1 => assumption); (case k2 => walk_at "mem"); (case k3 => with_unfolding_all rfl))
  | (refine' d_gT2 ?k1 ?k2 ?k3 ?_; (case k1 => assumption); (case k2 => walk_at "mem"); (case k3 => with_unfolding_all rfl); intro v1' v2' M'; (first | (have e' := Mm.isI M'; subst e') | (have e' := Mm.isS M'; subst e') | (have e' := Mm.isB M'; subst e') | (have e' := Mm.isN M'; subst e') | (obtain ⟨p', e'⟩ := Mm.isT M'; subst e') | (obtain ⟨p', e'⟩ := Mm.isL M'; subst e') | (obtain ⟨p', e'⟩ := Mm.isO M'; subst e') | skip); (first | (have e' := Mm.isI (Mm.dropL M'); subst e') | (have e' := Mm.isS (Mm.dropL M'); subst e') | (have e' := Mm.isB (Mm.dropL M'); subst e') | (have e' := Mm.isN (Mm.dropL M'); subst e') | (obtain ⟨p2', e'⟩ := Mm.isT (Mm.dropL M'); subst e') | (obtain ⟨p2', e'⟩ := Mm.isL (Mm.dropL M'); subst e') | (obtain ⟨p2', e'⟩ := Mm.isO (Mm.dropL M'); subst e') | skip))
  | (refine' d_gT3 ?k1 ?k2 ?k3 ?_; (case k1 => assumption); (case k2 => walk_at "mem"); (case k3 => with_unfolding_all rfl); intro v1' v2' v3' M'; (first | (have e' := Mm.isI M'; subst e') | (have e' := Mm.isS M'; subst e') | (have e' := Mm.isB M'; subst e') | (have e' := Mm.isN M'; subst e') | (obtain ⟨p', e'⟩ := Mm.isT M'; subst e') | (obtain ⟨p', e'⟩ := Mm.isL M'; subst e') | (obtain ⟨p', e'⟩ := Mm.isO M'; subst e') | skip); (first | (have e' := Mm.isI (Mm.dropL M'); subst e') | (have e' := Mm.isS (Mm.dropL M'); subst e') | (have e' := Mm.isB (Mm.dropL M'); subst e') | (have e' := Mm.isN (Mm.dropL M'); subst e') | (obtain ⟨p2', e'⟩ := Mm.isT (Mm.dropL M'); subst e') | (obtain ⟨p2', e'⟩ := Mm.isL (Mm.dropL M'); subst e') | (obtain ⟨p2', e'⟩ := Mm.isO (Mm.dropL M'); subst e') | skip); (first | (have e' := Mm.isI (Mm.dropL (Mm.dropL M')); subst e') | (have e' := Mm.isS (Mm.dropL (Mm.dropL M')); subst e') | (have e' := Mm.isB (Mm.dropL (Mm.dropL M')); subst e') | (have e' := Mm.isN (Mm.dropL (Mm.dropL M')); subst e') | (obtain ⟨p3', e'⟩ := Mm.isT (Mm.dropL (Mm.dropL M')); subst e') | (obtain ⟨p3', e'⟩ := Mm.isL (Mm.dropL (Mm.dropL M')); subst e') | (obtain ⟨p3', e'⟩ := Mm.isO (Mm.dropL (Mm.dropL M')); subst e') | skip))
  | (refine' d_app0 ?k1 ?k2 ?k3 ?_; (case k1 => assumption); (case k2 => walk_at "has1"); (case k3 => walk_at "size"); intro H' M')
  | (refine' d_app1 ?k1 ?k2 ?k3 ?_; (case k1 => assumption); (case k2 => walk_at "has1"); (case k3 => walk_at "size"); intro H' M')
  | (refine' d_app2 ?k1 ?k2 ?k3 ?_; (case k1 => assumption); (case k2 => walk_at "has1"); (case k3 => walk_at "size"); intro H' M')
  | (refine' d_app3 ?k1 ?k2 ?k3 ?_; (case k1 => assumption); (case k2 => walk_at "has1"); (case k3 => walk_at "size"); intro H' M')
  | (refine' d_set0 ?k1 ?k2 ?k3 ?k4 ?_; (case k1 => assumption); (case k2 => walk_at "has1"); (case k3 => omega); (case k4 => walk_at "lt"); intro H' M')
  | (refine' d_set1 ?k1 ?k2 ?k3 ?k4 ?_; (case k1 => assumption); (case k2 => walk_at "has1"); (case k3 => omega); (case k4 => walk_at "lt"); intro H' M')
  | (refine' d_set2 ?k1 ?k2 ?k3 ?k4 ?_; (case k1 => assumption); (case k2 => walk_at "has1"); (case k3 => omega); (case k4 => walk_at "lt"); intro H' M')
  | (refine' d_set3 ?k1 ?k2 ?k3 ?k4 ?_; (case k1 => assumption); (case k2 => walk_at "has1"); (case k3 => omega); (case k4 => walk_at "lt"); intro H' M')
  | (refine' d_reverse0 ?k1 ?_; (case k1 => assumption); intro H' M')
  | (refine' d_reverse1 ?k1 ?_; (case k1 => assumption); intro H' M')
  | (refine' d_reverse2 ?k1 ?_; (case k1 => assumption); intro H' M')
  | (refine' d_clear0 ?k1 ?_; (case k1 => assumption); intro H' M')
  | (refine' d_clear1 ?k1 ?_; (case k1 => assumption); intro H' M')
  | (refine' d_clear2 ?k1 ?_; (case k1 => assumption); intro H' M')
  | (refine' d_sfld0 ?k1 ?k2 ?k3 ?k4 ?k5 ?_; (case k1 => assumption); (case k2 => walk_at "has1"); (case k3 => assumption); (case k4 => assumption); (case k5 => walk_at "few"); intro H' M')
  | (refine' d_sfld1 ?k1 ?k2 ?k3 ?k4 ?k5 ?_; (case k1 => assumption); (case k2 => walk_at "has1"); (case k3 => assumption); (case k4 => assumption); (case k5 => walk_at "few"); intro H' M')
  | (refine' d_tyL2 ?k1 ?k2 ?_; (case k1 => assumption); (case k2 => walk_at "inl"))
  | (refine' d_inIL ?k1 ?k2 ?_; (case k1 => assumption); (case k2 => walk_at "inl"))
  | (refine' d_notIL ?k1 ?k2 ?_; (case k1 => assumption); (case k2 => walk_at "inl"))
  | (refine' d_inIT ?k1 ?k2 ?_; (case k1 => assumption); (case k2 => walk_at "mem"))
  | (refine' d_notIT ?k1 ?k2 ?_; (case k1 => assumption); (case k2 => walk_at "mem"))
  | (refine' d_eqE ?k1 ?k2 ?k3 ?_; (case k1 => assumption); (case k2 => walk_at "inl"); (case k3 => walk_at "inl"))
  | (refine' d_neE ?k1 ?k2 ?k3 ?_; (case k1 => assumption); (case k2 => walk_at "inl"); (case k3 => walk_at "inl"))
  | (refine' d_eq ?k1 ?k2 ?k3 ?k4 ?k5 ?_; (case k1 => assumption); (case k2 => walk_at "kn"); (case k3 => walk_at "kn"); (case k4 => walk_at "sh"); (case k5 => walk_at "sh"))
  | (refine' d_ne ?k1 ?k2 ?k3 ?k4 ?k5 ?_; (case k1 => assumption); (case k2 => walk_at "kn"); (case k3 => walk_at "kn"); (case k4 => walk_at "sh"); (case k5 => walk_at "sh"))
  | (refine' d_inD ?k1 ?k2 ?k3 ?k4 ?k5 ?_; (case k1 => assumption); (case k2 => walk_at "kn"); (case k3 => walk_at "kn"); (case k4 => walk_at "sh"); (case k5 => walk_at "sh"))
  | (refine' d_notInD ?k1 ?k2 ?k3 ?k4 ?k5 ?_; (case k1 => assumption); (case k2 => walk_at "kn"); (case k3 => walk_at "kn"); (case k4 => walk_at "sh"); (case k5 => walk_at "sh"))
  | (refine' d_isiT ?k1 ?k2 ?k3 ?_; (case k1 => assumption); (case k2 => walk_at "mem"); (case k3 => assumption))
  | (refine' d_isiL ?k1 ?k2 ?k3 ?_; (case k1 => assumption); (case k2 => walk_at "inl"); (case k3 => assumption))
  | (refine' d_isiO ?k1 ?k2 ?k3 ?k4 ?k5 ?k6 ?k7 ?_; (case k1 => assumption); (case k2 => walk_at "mem"); (case k3 => assumption); (case k4 => assumption); (case k5 => assumption); (case k6 => assumption); (case k7 => assumption))
  | walk_at "lof"
  | (refine' d_tupOfL ?k1 ?k2 ?_; (case k1 => assumption); (case k2 => walk_at "inl"); intro p' H' M')
  | (refine' d_tupOfT ?k1 ?k2 ?_; (case k1 => assumption); (case k2 => walk_at "mem"))
  | (refine' d_tupOfQ ?k1 ?k2 ?_; (case k1 => assumption); (case k2 => walk_at "mem"); intro p' H' M')
  | (refine' d_catT ?k1 ?k2 ?k3 ?k4 ?_; (case k1 => assumption); (case k2 => walk_at "mem"); (case k3 => walk_at "mem"); (case k4 => walk_at "size"); intro p' H' M')
  | (refine' d_slL ?k1 ?k2 ?_; (case k1 => assumption); (case k2 => walk_at "inl"); intro p' H' M')
  | refine d_revL ?_
  | (refine' d_rev ?k1 ?k2 ?_; (case k1 => assumption); (case k2 => walk_at "inl"); intro p' H' M')
  | (refine' d_cat ?k1 ?k2 ?k3 ?k4 ?_; (case k1 => assumption); (case k2 => walk_at "inl"); (case k3 => walk_at "inl"); (case k4 => walk_at "size"); intro p' H' M')
  | (refine' d_all ?k1 ?k2 ?_; (case k1 => assumption); (case k2 => walk_at "inl"))
  | (refine' d_any ?k1 ?k2 ?_; (case k1 => assumption); (case k2 => walk_at "inl"))
  | (refine' d_lstAt ?k1 ?k2 ?_; (case k1 => assumption); (case k2 => walk_at "inl"))
  | (refine' d_tupAt ?k1 ?k2 ?_; (case k1 => assumption); (case k2 => walk_at "mem"))
  | (refine' d_meth ?k1 ?k2 ?k3 ?_; (case k1 => assumption); (case k2 => walk_at "mem"); (case k3 => walk_at "fld"))
  | (refine' d_ownN ?k1 ?k2 ?_; (case k1 => assumption); (case k2 => walk_at "mem"))
  | (refine' d_ownO ?k1 ?k2 ?k3 ?_; (case k1 => assumption); (case k2 => walk_at "mem"); (case k3 => walk_at "mem"))
  | (refine' d_ownEq ?k1 ?k2 ?k3 ?_; (case k1 => assumption); (case k2 => walk_at "mem"); (case k3 => walk_at "mem"))
  | (refine' d_ownIn ?k1 ?k2 ?_; (case k1 => assumption); (case k2 => walk_at "mem"))
  | (refine' d_ownU ?k1 ?k2 ?_; (case k1 => assumption); (case k2 => walk_at "mem"))
  | (refine' d_ownStr ?k1 ?k2 ?_; (case k1 => assumption); (case k2 => walk_at "mem"))
  | (refine' d_prop ?k1 ?k2 ?_; (case k1 => assumption); (case k2 => walk_at "mem"))
  | (refine' d_dnew ?k1 ?_; (case k1 => assumption); intro p' H' M')
  | refine d_din0 ?_ | refine d_dnotin0 ?_ | refine d_dget0 ?_ | refine d_dput0 ?_ | refine d_items0 ?_
  | (refine' d_din ?k1 ?k2 ?k3 ?_; (case k1 => assumption); (case k2 => walk_at "inl"); (case k3 => first | exact (rfl : V.str _ = kV (Sum.inr _)) | exact (rfl : V.int _ = kV (Sum.inl _)) | fail))
  | (refine' d_dnotin ?k1 ?k2 ?k3 ?_; (case k1 => assumption); (case k2 => walk_at "inl"); (case k3 => first | exact (rfl : V.str _ = kV (Sum.inr _)) | exact (rfl : V.int _ = kV (Sum.inl _)) | fail))
  | (refine' d_items ?k1 ?k2 ?_; (case k1 => assumption); (case k2 => walk_at "inl"); intro p' H' M')
  | (refine' d_range1 ?k1 ?_; (case k1 => assumption); intro p' H' hp' M')
  | (refine' d_listRng ?k1 ?k2 ?k3 ?k4 ?_; (case k1 => assumption); (case k2 => assumption); (case k3 => omega); (case k4 => omega); intro p' H' M')
  | walk_at "use")
local macro_rules | `(tactic| walk_at "go") => `(tactic| repeat' (walk_at "go1"))

local macro_rules | `(tactic| walk_at "hp") => `(tactic| first | assumption | fail)
local macro_rules | `(tactic| walk_at "fld") => `(tactic| first | exact fd_nil | exact fd_hd | (refine' fd_tl ?k1 ?k2; (case k1 => decide +kernel); (case k2 => walk_at "fld")) | fail)
local macro_rules | `(tactic| walk_at "size") => `(tactic| first | exact Nat.lt_of_le_of_lt (m := 50000) (by first | omega | (simp only [List.length_map, List.length_range, List.length_append, List.length_cons, List.length_nil, List.length_replicate, List.length_set, List.length_reverse]; omega)) (by decide) | exact Nat.le_trans (m := 50000) (by first | omega | (simp only [List.length_map, List.length_range, List.length_append, List.length_cons, List.length_nil, List.length_replicate, List.length_set, List.length_reverse]; omega)) (by decide) | fail)
section
variable {P : Program} {w : World} {K : PySem.W.Frag} {mg : Str → Option Value} {base : Heap} {C CO fO CE fE : Addr}
local macro_rules | `(tactic| walk_at "use") => `(tactic| with_reducible first
  | (refine' use_take ?k1 ?k2 ?k3 ?k4 ?k5 ?_; (case k1 => assumption); (case k2 => walk_at "hass"); (case k3 => assumption); (case k4 => omega); (case k5 => omega); intro d' a' b' c' H' hc' M'; obtain ⟨hd1', hd2', hb'⟩ := hc')
  | (refine' use_take1 ?k1 ?k2 ?k3 ?k4 ?k5 ?_; (case k1 => assumption); (case k2 => walk_at "hass"); (case k3 => assumption); (case k4 => omega); (case k5 => omega); intro d' a' b' c' H' hc' M'; obtain ⟨hd1', hd2', hb'⟩ := hc')
  | (refine' use_take2 ?k1 ?k2 ?k3 ?k4 ?k5 ?_; (case k1 => assumption); (case k2 => walk_at "hass"); (case k3 => assumption); (case k4 => omega); (case k5 => omega); intro d' a' b' c' H' hc' M'; obtain ⟨hd1', hd2', hb'⟩ := hc')
  | fail)
theorem InR.snoc {ns : List Nt} {last d : Int} {b : Bool} (h : InR ns last) (h0 : 0 ≤ d) (h1 : d ≤ last) : InR (ns ++ [(d, b)]) last := fun n hn => by
  rcases List.mem_append.mp hn with h' | h'
  · exact h n h'
  · rw [List.mem_singleton.mp h']; exact ⟨h0, h1⟩
theorem InR.app {ns ms : List Nt} {last : Int} (h : InR ns last) (k : InR ms last) : InR (ns ++ ms) last := fun n hn => by
  rcases List.mem_append.mp hn with h' | h'
  · exact h n h'
  · exact k n h'
theorem nt_snoc {B G0 H : Hp} {ms : List Addr} {X : List (Addr × D)} {L : List (V × D)} {nt : Addr} {ns : List Nt} {d last : Int} {b : Bool} (M : Mm K B G0 ms ((nt, .lst (ns.map ntD ++ [D.tup [.int d, .bl b]])) :: X) L H) (h : InR ns last) (h0 : 0 ≤ d) (h1 : d ≤ last) : ∃ ns' : List Nt, ns'.length = ns.length + 1 ∧ InR ns' last ∧ Mm K B G0 ms ((nt, .lst (ns'.map ntD)) :: X) [] H :=
  ⟨ns ++ [(d, b)], by simp, h.snoc h0 h1, by rw [List.map_append]; exact M.noL⟩
def sp_tnotes (K : PySem.W.Frag) : Sp := fun vs H Q E => ∃ (G : Hp) (bg : Addr) (ws : List V) (cs : List Int) (a b c : Int) (last low high most : Int), vs = .ref bg :: ws ∧ Same G H ∧ Mt K G H bg (boxD cs a b c) ∧ G bg = none ∧ AtL K G ws [.int last, .int low, .int high, .int most] ∧ (Box cs a b c) ∧ (0 ≤ last) ∧ (last ≤ 60) ∧ (0 ≤ most) ∧ (most ≤ 6) ∧ (∀ (p : Addr) (ns : List Nt) (a' b' c' : Int) H', (InR ns last ∧ ns.length ≤ 6 ∧ Box cs a' b' c') → Mm K H G [bg] ((bg, boxD cs a' b' c') :: [(p, .lst (ns.map ntD))]) [] H' → Q (.ref p) H')
theorem ok_tnotes {f : Addr} {fd : FuncData} (F : Fun K "_law_true_notes" "_law_true_notes" s__law_true_notes f fd) (T : Txt P K mg C CO fO CE fE) (c__law_take : Cal P w K mg base 1 "_law_take" (sp_take K)) :
    FnOk P w K mg base (L2.CX P w) (1 + 1) f fd ["_law_box", "_law_last", "_law_low", "_law_high", "_law_most"] (sp_tnotes K) := by
  refine okT F sc__law_true_notes (fun vs H Q E h => ?_) (fun cdv A outer s H vs Q E hr tk h => ?_)
  · obtain ⟨G, bg, ws, cs, a, b, c, last, low, high, most, rfl, _, _, _, hA, _⟩ := h
    rcases hA with _ | ⟨ha0, hA0⟩
    rcases hA0 with _ | ⟨ha1, hA1⟩
    rcases hA1 with _ | ⟨ha2, hA2⟩
    rcases hA2 with _ | ⟨ha3, hA3⟩
    cases hA3
    rfl
  obtain ⟨G, bg, ws, cs, a, b, c, last, low, high, most, rfl, hsG, hmt, hgb, hA, p0, p1, p2, p3, p4, k⟩ := h
  have f1 := T.i1; have f2 := T.i2; have f3 := T.i3; have f4 := T.i4; have f5 := T.i5; have f6 := T.cl; have f7 := T.nc; have f8 := T.ng; have f9 := T.oa; have f10 := T.on; have f11 := T.ot; have f12 := T.om
  rcases hA with _ | ⟨ha0, hA0⟩
  rcases hA0 with _ | ⟨ha1, hA1⟩
  rcases hA1 with _ | ⟨ha2, hA2⟩
  rcases hA2 with _ | ⟨ha3, hA3⟩
  cases hA3
  obtain rfl := ha0.isI
  obtain rfl := ha1.isI
  obtain rfl := ha2.isI
  obtain rfl := ha3.isI
  have M : Mm K H G [bg] [(bg, boxD cs a b c)] [] H := Mm.start1 hsG hmt hgb (fun z hz => nomatch hz)
  refine ⟨_, (pss_cons (ps_set (i := 5) sc__law_true_notes.nd rfl (Or.inl rfl) (pe_lst pa_nil))
      (pss_cons (ps_for (passes_of rfl) rfl (pi_range1 (by rfl) T.b_range (pa_cons (c_call c__law_take tk hr (by decide) (pa_cons (pv 0) (pa_cons (pe_op op_add (pv 4) pe_int) pa_nil))) pa_nil)) (pg_name (i := 6) sc__law_true_notes.nd rfl (Or.inl rfl)) (pss_cons (ps_set (i := 7) sc__law_true_notes.nd rfl (Or.inl rfl) (c_call c__law_take tk hr (by decide) (pa_cons (pv 0) (pa_cons (pe_op op_add (pv 1) pe_int) pa_nil))))
      (pss_one (ps_expr (pe_bm PySem.F.plainAttrs_list PySem.F.slot_list_append PySem.F.type_list_append mt_append (pv 5) (pa_cons (pe_tup (pa_cons (pv 7) (pa_cons (pe_and (pe_cmpR op_le (pv 2) (pv 7) (nomark _)) (pe_one (pe_cmpR op_le (pv 7) (pv 3) (nomark _)))) pa_nil))) pa_nil))))))
      (pss_one (ps_ret (pv 5))))), ?_⟩
  simp only [cxK, st__law_true_notes]
  walk_at "go"
  rename_i nt H1' M1 d1 a1 b1 c1 H2' M2 e1 e2 hbx
  refine forX src_rng M2 (fun i σ' X' => ∃ (ns : List Nt) (a2 b2 c2 : Int) (v6 v7 : Option V), σ' = [some (.ref bg), some (.int last), some (.int low), some (.int high), some (.int most), some (.ref nt), v6, v7] ∧ X' = [(nt, .lst (ns.map ntD)), (bg, boxD cs a2 b2 c2)] ∧ InR ns last ∧ ns.length ≤ i ∧ Box cs a2 b2 c2) (fun _ _ _ _ => trivial) ⟨[], _, _, _, _, _, rfl, rfl, (fun n hn => nomatch hn), Nat.le_refl _, hbx⟩ ?_ ?_
  · rintro i x σ' X' H' hi ⟨ns, a2, b2, c2, v6, v7, rfl, rfl, hin, hnl, hbx2⟩ M'
    obtain rfl := M'.isI
    walk_at "go"
    all_goals
      rename_i M9
      obtain ⟨ns2, e8, e9, M10⟩ := nt_snoc M9 hin (by assumption) (by omega)
      exact ⟨_, ⟨ns2, _, _, _, _, _, rfl, rfl, e9, by omega, by assumption⟩, M10⟩
  · rintro σ' X' H' ⟨ns, a2, b2, c2, v6, v7, rfl, rfl, hin, hnl, hbx2⟩ M'
    walk_at "go"
    exact k _ ns a2 b2 c2 _ ⟨hin, by omega, hbx2⟩ M'.noL.swapX
theorem use_tnotes {B G0 H : Hp} {ms : List Addr} {X : List (Addr × D)} {L : List (V × D)} {Q : VK} {E : XK} {ws : List V} {bg : Addr} {cs : List Int} {a b c : Int} {last low high most : Int} (M : Mm K B G0 ms ((bg, boxD cs a b c) :: X) L H) (ha : Hs L ws [.int last, .int low, .int high, .int most]) (p0 : Box cs a b c) (p1 : 0 ≤ last) (p2 : last ≤ 60) (p3 : 0 ≤ most) (p4 : most ≤ 6) (k0 : ∀ (p : Addr) (ns : List Nt) (a' b' c' : Int) H', (InR ns last ∧ ns.length ≤ 6 ∧ Box cs a' b' c') → Mm K B G0 ms ((p, .lst (ns.map ntD)) :: (bg, boxD cs a' b' c') :: X) L H' → Q (.ref p) H') : sp_tnotes K (.ref bg :: ws) H Q E := by
  obtain ⟨G, W⟩ := M
  exact ⟨G, bg, ws, cs, a, b, c, last, low, high, most, rfl, W.s1, W.chg (bg, boxD cs a b c) List.mem_cons_self, W.off (bg, boxD cs a b c) List.mem_cons_self, ha K G W.ok, p0, p1, p2, p3, p4, fun p ns a' b' c' H' hc M2 => k0 p ns a' b' c' H' hc (W.compAt (X1 := []) M2)⟩
theorem use_tnotes1 {B G0 H : Hp} {ms : List Addr} {X : List (Addr × D)} {L : List (V × D)} {Q : VK} {E : XK} {ws : List V} {z0 : Addr × D} {bg : Addr} {cs : List Int} {a b c : Int} {last low high most : Int} (M : Mm K B G0 ms (z0 :: (bg, boxD cs a b c) :: X) L H) (ha : Hs L ws [.int last, .int low, .int high, .int most]) (p0 : Box cs a b c) (p1 : 0 ≤ last) (p2 : last ≤ 60) (p3 : 0 ≤ most) (p4 : most ≤ 6) (k0 : ∀ (p : Addr) (ns : List Nt) (a' b' c' : Int) H', (InR ns last ∧ ns.length ≤ 6 ∧ Box cs a' b' c') → Mm K B G0 ms ((p, .lst (ns.map ntD)) :: z0 :: (bg, boxD cs a' b' c') :: X) L H' → Q (.ref p) H') : sp_tnotes K (.ref bg :: ws) H Q E := by
  obtain ⟨G, W⟩ := M
  exact ⟨G, bg, ws, cs, a, b, c, last, low, high, most, rfl, W.s1, W.chg (bg, boxD cs a b c) (by simp), W.off (bg, boxD cs a b c) (by simp), ha K G W.ok, p0, p1, p2, p3, p4, fun p ns a' b' c' H' hc M2 => k0 p ns a' b' c' H' hc (W.compAt (X1 := [z0]) M2)⟩
theorem use_tnotes2 {B G0 H : Hp} {ms : List Addr} {X : List (Addr × D)} {L : List (V × D)} {Q : VK} {E : XK} {ws : List V} {z0 z1 : Addr × D} {bg : Addr} {cs : List Int} {a b c : Int} {last low high most : Int} (M : Mm K B G0 ms (z0 :: z1 :: (bg, boxD cs a b c) :: X) L H) (ha : Hs L ws [.int last, .int low, .int high, .int most]) (p0 : Box cs a b c) (p1 : 0 ≤ last) (p2 : last ≤ 60) (p3 : 0 ≤ most) (p4 : most ≤ 6) (k0 : ∀ (p : Addr) (ns : List Nt) (a' b' c' : Int) H', (InR ns last ∧ ns.length ≤ 6 ∧ Box cs a' b' c') → Mm K B G0 ms ((p, .lst (ns.map ntD)) :: z0 :: z1 :: (bg, boxD cs a' b' c') :: X) L H' → Q (.ref p) H') : sp_tnotes K (.ref bg :: ws) H Q E := by
  obtain ⟨G, W⟩ := M
  exact ⟨G, bg, ws, cs, a, b, c, last, low, high, most, rfl, W.s1, W.chg (bg, boxD cs a b c) (by simp), W.off (bg, boxD cs a b c) (by simp), ha K G W.ok, p0, p1, p2, p3, p4, fun p ns a' b' c' H' hc M2 => k0 p ns a' b' c' H' hc (W.compAt (X1 := [z0, z1]) M2)⟩
theorem use_tnotes3 {B G0 H : Hp} {ms : List Addr} {X : List (Addr × D)} {L : List (V × D)} {Q : VK} {E : XK} {ws : List V} {z0 z1 z2 : Addr × D} {bg : Addr} {cs : List Int} {a b c : Int} {last low high most : Int} (M : Mm K B G0 ms (z0 :: z1 :: z2 :: (bg, boxD cs a b c) :: X) L H) (ha : Hs L ws [.int last, .int low, .int high, .int most]) (p0 : Box cs a b c) (p1 : 0 ≤ last) (p2 : last ≤ 60) (p3 : 0 ≤ most) (p4 : most ≤ 6) (k0 : ∀ (p : Addr) (ns : List Nt) (a' b' c' : Int) H', (InR ns last ∧ ns.length ≤ 6 ∧ Box cs a' b' c') → Mm K B G0 ms ((p, .lst (ns.map ntD)) :: z0 :: z1 :: z2 :: (bg, boxD cs a' b' c') :: X) L H' → Q (.ref p) H') : sp_tnotes K (.ref bg :: ws) H Q E := by
  obtain ⟨G, W⟩ := M
  exact ⟨G, bg, ws, cs, a, b, c, last, low, high, most, rfl, W.s1, W.chg (bg, boxD cs a b c) (by simp), W.off (bg, boxD cs a b c) (by simp), ha K G W.ok, p0, p1, p2, p3, p4, fun p ns a' b' c' H' hc M2 => k0 p ns a' b' c' H' hc (W.compAt (X1 := [z0, z1, z2]) M2)⟩
local macro_rules | `(tactic| walk_at "use") => `(tactic| with_reducible first
  | (refine' use_take ?k1 ?k2 ?k3 ?k4 ?k5 ?_; (case k1 => assumption); (case k2 => walk_at "hass"); (case k3 => assumption); (case k4 => omega); (case k5 => omega); intro d' a' b' c' H' hc' M'; obtain ⟨hd1', hd2', hb'⟩ := hc')
  | (refine' use_take1 ?k1 ?k2 ?k3 ?k4 ?k5 ?_; (case k1 => assumption); (case k2 => walk_at "hass"); (case k3 => assumption); (case k4 => omega); (case k5 => omega); intro d' a' b' c' H' hc' M'; obtain ⟨hd1', hd2', hb'⟩ := hc')
  | (refine' use_take2 ?k1 ?k2 ?k3 ?k4 ?k5 ?_; (case k1 => assumption); (case k2 => walk_at "hass"); (case k3 => assumption); (case k4 => omega); (case k5 => omega); intro d' a' b' c' H' hc' M'; obtain ⟨hd1', hd2', hb'⟩ := hc')
  | (refine' d_ins0 ?k1 ?k2 ?k3 ?k4 ?k5 ?_; (case k1 => assumption); (case k2 => walk_at "has1"); (case k3 => walk_at "size"); (case k4 => omega); (case k5 => omega); intro H' M')
  | fail)
def sp_edays (K : PySem.W.Frag) : Sp := fun vs H Q E => ∃ (G : Hp) (bg : Addr) (ws : List V) (cs : List Int) (a b c : Int) (last : Int), vs = .ref bg :: ws ∧ Same G H ∧ Mt K G H bg (boxD cs a b c) ∧ G bg = none ∧ AtL K G ws [.int last] ∧ (Box cs a b c) ∧ (0 ≤ last) ∧ (last ≤ 60) ∧ (∀ (p : Addr) (ns : List Nt) (a' b' c' : Int) H', (InR ns last ∧ ns.length ≤ 61 ∧ Box cs a' b' c') → Mm K H G [bg] ((bg, boxD cs a' b' c') :: [(p, .lst (ns.map ntD))]) [] H' → Q (.ref p) H')
theorem ok_edays {f : Addr} {fd : FuncData} (F : Fun K "_law_empty_days" "_law_empty_days" s__law_empty_days f fd) (T : Txt P K mg C CO fO CE fE) (c__law_take : Cal P w K mg base 1 "_law_take" (sp_take K)) :
    FnOk P w K mg base (L2.CX P w) (1 + 1) f fd ["_law_box", "_law_last"] (sp_edays K) := by
  refine okT F sc__law_empty_days (fun vs H Q E h => ?_) (fun cdv A outer s H vs Q E hr tk h => ?_)
  · obtain ⟨G, bg, ws, cs, a, b, c, last, rfl, _, _, _, hA, _⟩ := h
    rcases hA with _ | ⟨ha0, hA0⟩
    cases hA0
    rfl
  obtain ⟨G, bg, ws, cs, a, b, c, last, rfl, hsG, hmt, hgb, hA, p0, p1, p2, k⟩ := h
  have f1 := T.i1; have f2 := T.i2; have f3 := T.i3; have f4 := T.i4; have f5 := T.i5; have f6 := T.cl; have f7 := T.nc; have f8 := T.ng; have f9 := T.oa; have f10 := T.on; have f11 := T.ot; have f12 := T.om
  rcases hA with _ | ⟨ha0, hA0⟩
  cases hA0
  obtain rfl := ha0.isI
  have M : Mm K H G [bg] [(bg, boxD cs a b c)] [] H := Mm.start1 hsG hmt hgb (fun z hz => nomatch hz)
  refine ⟨_, (pss_cons (ps_set (i := 2) sc__law_empty_days.nd rfl (Or.inl rfl) (pe_lst pa_nil))
      (pss_cons (ps_set (i := 3) sc__law_empty_days.nd rfl (Or.inl rfl) (c_call c__law_take tk hr (by decide) (pa_cons (pv 0) (pa_cons (pe_op op_mulU pe_int (pe_op op_add (pv 1) pe_int)) pa_nil))))
      (pss_cons (ps_for (passes_of rfl) rfl (pi_range1 (by rfl) T.b_range (pa_cons (pe_op op_add (pv 1) pe_int) pa_nil)) (pg_name (i := 4) sc__law_empty_days.nd rfl (Or.inl rfl)) (pss_one (ps_if (pt_cmpR op_ne (pv 4) (pv 3) (nomark _)) (pss_one (ps_expr (pe_bm PySem.F.plainAttrs_list PySem.F.slot_list_insert PySem.F.type_list_insert mt_insert0 (pv 2) (pa_cons (c_call c__law_take tk hr (by decide) (pa_cons (pv 0) (pa_cons (pe_op op_add (pe_callB b_len (by rfl) T.b_len (by decide +kernel) (pa_cons (pv 2) pa_nil)) pe_int) pa_nil))) (pa_cons (pe_tup (pa_cons (pv 4) (pa_cons pe_bl pa_nil))) pa_nil))))) pss_nil)))
      (pss_one (ps_ret (pv 2)))))), ?_⟩
  simp only [cxK, st__law_empty_days]
  walk_at "go"
  rename_i nt H1' M1 d1 a1 b1 c1 H2' M2 e1 e2 hbx
  refine forX src_rng M2 (fun i σ' X' => ∃ (ns : List Nt) (a2 b2 c2 : Int) (v4 : Option V), σ' = [some (.ref bg), some (.int last), some (.ref nt), some (.int d1), v4] ∧ X' = [(nt, .lst (ns.map ntD)), (bg, boxD cs a2 b2 c2)] ∧ InR ns last ∧ ns.length ≤ i ∧ Box cs a2 b2 c2) (fun _ _ _ _ => trivial) ⟨[], _, _, _, _, rfl, rfl, (fun n hn => nomatch hn), Nat.le_refl _, hbx⟩ ?_ ?_
  · rintro i x σ' X' H' hi ⟨ns, a2, b2, c2, v4, rfl, rfl, hin, hnl, hbx2⟩ M'
    obtain rfl := M'.isI
    have hl : (ns.map ntD).length = ns.length := List.length_map _
    walk_at "go"
    · rename_i d3 a3 b3 c3 H3 M3 f1 f2 f3 p4 H4 M4 H5 M5
      refine ⟨_, ⟨ns.take d3.toNat ++ [(0 + (i : Int), false)] ++ ns.drop d3.toNat, _, _, _, _, rfl, rfl, ?_, ?_, f3⟩, ?_⟩
      · exact InR.app (InR.snoc (fun n hn => hin n (List.take_subset _ _ hn)) (by omega) (by omega)) (fun n hn => hin n (List.drop_subset _ _ hn))
      · simp only [List.length_append, List.length_cons, List.length_nil, List.length_take, List.length_drop]
        omega
      · rw [List.map_append, List.map_append, List.map_take, List.map_drop]
        exact M5.noL
    · exact ⟨_, ⟨ns, _, _, _, _, rfl, rfl, hin, by omega, hbx2⟩, M'.noL⟩
  · rintro σ' X' H' ⟨ns, a2, b2, c2, v4, rfl, rfl, hin, hnl, hbx2⟩ M'
    walk_at "go"
    exact k _ ns a2 b2 c2 _ ⟨hin, by omega, hbx2⟩ M'.noL.swapX
theorem use_edays {B G0 H : Hp} {ms : List Addr} {X : List (Addr × D)} {L : List (V × D)} {Q : VK} {E : XK} {ws : List V} {bg : Addr} {cs : List Int} {a b c : Int} {last : Int} (M : Mm K B G0 ms ((bg, boxD cs a b c) :: X) L H) (ha : Hs L ws [.int last]) (p0 : Box cs a b c) (p1 : 0 ≤ last) (p2 : last ≤ 60) (k0 : ∀ (p : Addr) (ns : List Nt) (a' b' c' : Int) H', (InR ns last ∧ ns.length ≤ 61 ∧ Box cs a' b' c') → Mm K B G0 ms ((p, .lst (ns.map ntD)) :: (bg, boxD cs a' b' c') :: X) L H' → Q (.ref p) H') : sp_edays K (.ref bg :: ws) H Q E := by
  obtain ⟨G, W⟩ := M
  exact ⟨G, bg, ws, cs, a, b, c, last, rfl, W.s1, W.chg (bg, boxD cs a b c) List.mem_cons_self, W.off (bg, boxD cs a b c) List.mem_cons_self, ha K G W.ok, p0, p1, p2, fun p ns a' b' c' H' hc M2 => k0 p ns a' b' c' H' hc (W.compAt (X1 := []) M2)⟩
theorem use_edays1 {B G0 H : Hp} {ms : List Addr} {X : List (Addr × D)} {L : List (V × D)} {Q : VK} {E : XK} {ws : List V} {z0 : Addr × D} {bg : Addr} {cs : List Int} {a b c : Int} {last : Int} (M : Mm K B G0 ms (z0 :: (bg, boxD cs a b c) :: X) L H) (ha : Hs L ws [.int last]) (p0 : Box cs a b c) (p1 : 0 ≤ last) (p2 : last ≤ 60) (k0 : ∀ (p : Addr) (ns : List Nt) (a' b' c' : Int) H', (InR ns last ∧ ns.length ≤ 61 ∧ Box cs a' b' c') → Mm K B G0 ms ((p, .lst (ns.map ntD)) :: z0 :: (bg, boxD cs a' b' c') :: X) L H' → Q (.ref p) H') : sp_edays K (.ref bg :: ws) H Q E := by
  obtain ⟨G, W⟩ := M
  exact ⟨G, bg, ws, cs, a, b, c, last, rfl, W.s1, W.chg (bg, boxD cs a b c) (by simp), W.off (bg, boxD cs a b c) (by simp), ha K G W.ok, p0, p1, p2, fun p ns a' b' c' H' hc M2 => k0 p ns a' b' c' H' hc (W.compAt (X1 := [z0]) M2)⟩
theorem use_edays2 {B G0 H : Hp} {ms : List Addr} {X : List (Addr × D)} {L : List (V × D)} {Q : VK} {E : XK} {ws : List V} {z0 z1 : Addr × D} {bg : Addr} {cs : List Int} {a b c : Int} {last : Int} (M : Mm K B G0 ms (z0 :: z1 :: (bg, boxD cs a b c) :: X) L H) (ha : Hs L ws [.int last]) (p0 : Box cs a b c) (p1 : 0 ≤ last) (p2 : last ≤ 60) (k0 : ∀ (p : Addr) (ns : List Nt) (a' b' c' : Int) H', (InR ns last ∧ ns.length ≤ 61 ∧ Box cs a' b' c') → Mm K B G0 ms ((p, .lst (ns.map ntD)) :: z0 :: z1 :: (bg, boxD cs a' b' c') :: X) L H' → Q (.ref p) H') : sp_edays K (.ref bg :: ws) H Q E := by
  obtain ⟨G, W⟩ := M
  exact ⟨G, bg, ws, cs, a, b, c, last, rfl, W.s1, W.chg (bg, boxD cs a b c) (by simp), W.off (bg, boxD cs a b c) (by simp), ha K G W.ok, p0, p1, p2, fun p ns a' b' c' H' hc M2 => k0 p ns a' b' c' H' hc (W.compAt (X1 := [z0, z1]) M2)⟩
theorem use_edays3 {B G0 H : Hp} {ms : List Addr} {X : List (Addr × D)} {L : List (V × D)} {Q : VK} {E : XK} {ws : List V} {z0 z1 z2 : Addr × D} {bg : Addr} {cs : List Int} {a b c : Int} {last : Int} (M : Mm K B G0 ms (z0 :: z1 :: z2 :: (bg, boxD cs a b c) :: X) L H) (ha : Hs L ws [.int last]) (p0 : Box cs a b c) (p1 : 0 ≤ last) (p2 : last ≤ 60) (k0 : ∀ (p : Addr) (ns : List Nt) (a' b' c' : Int) H', (InR ns last ∧ ns.length ≤ 61 ∧ Box cs a' b' c') → Mm K B G0 ms ((p, .lst (ns.map ntD)) :: z0 :: z1 :: z2 :: (bg, boxD cs a' b' c') :: X) L H' → Q (.ref p) H') : sp_edays K (.ref bg :: ws) H Q E := by
  obtain ⟨G, W⟩ := M
  exact ⟨G, bg, ws, cs, a, b, c, last, rfl, W.s1, W.chg (bg, boxD cs a b c) (by simp), W.off (bg, boxD cs a b c) (by simp), ha K G W.ok, p0, p1, p2, fun p ns a' b' c' H' hc M2 => k0 p ns a' b' c' H' hc (W.compAt (X1 := [z0, z1, z2]) M2)⟩
local macro_rules | `(tactic| walk_at "use") => `(tactic| with_reducible first
  | (refine' use_take ?k1 ?k2 ?k3 ?k4 ?k5 ?_; (case k1 => assumption); (case k2 => walk_at "hass"); (case k3 => assumption); (case k4 => omega); (case k5 => omega); intro d' a' b' c' H' hc' M'; obtain ⟨hd1', hd2', hb'⟩ := hc')
  | (refine' use_take1 ?k1 ?k2 ?k3 ?k4 ?k5 ?_; (case k1 => assumption); (case k2 => walk_at "hass"); (case k3 => assumption); (case k4 => omega); (case k5 => omega); intro d' a' b' c' H' hc' M'; obtain ⟨hd1', hd2', hb'⟩ := hc')
  | (refine' use_take2 ?k1 ?k2 ?k3 ?k4 ?k5 ?_; (case k1 => assumption); (case k2 => walk_at "hass"); (case k3 => assumption); (case k4 => omega); (case k5 => omega); intro d' a' b' c' H' hc' M'; obtain ⟨hd1', hd2', hb'⟩ := hc')
  | fail)
local macro_rules | `(tactic| walk_at "lst") => `(tactic| (refine' d_lstX ?k1 ?k2 ?k3 ?_; (case k1 => assumption); (case k2 => walk_at "hass"); (case k3 => walk_at "size"); intro p' H' M'))
theorem InR.set {ns : List Nt} {last : Int} {i : Nat} {b : Bool} (h : InR ns last) (hi : i < ns.length) : InR (ns.set i ((ns.getD i default).1, b)) last := fun n hn => by
  rcases List.mem_or_eq_of_mem_set hn with h' | h'
  · exact h n h'
  · have h2 := h _ (List.mem_of_getElem? (MyL.getD_at hi))
    rw [h']; exact h2
theorem InR.rev {ns : List Nt} {last : Int} (h : InR ns last) : InR ns.reverse last := fun n hn => h n (List.mem_reverse.mp hn)
def sp_notes (K : PySem.W.Frag) : Sp := fun vs H Q E => ∃ (G : Hp) (bg : Addr) (ws : List V) (cs : List Int) (a b c : Int) (last low high : Int), vs = .ref bg :: ws ∧ Same G H ∧ Mt K G H bg (boxD cs a b c) ∧ G bg = none ∧ AtL K G ws [.int last, .int low, .int high] ∧ (Box cs a b c) ∧ (0 ≤ last) ∧ (last ≤ 60) ∧ (∀ (p : Addr) (ns : List Nt) (a' b' c' : Int) H', (InR ns last ∧ ns.length ≤ 67 ∧ Box cs a' b' c') → Mm K H G [bg] ((bg, boxD cs a' b' c') :: [(p, .lst (ns.map ntD))]) [] H' → Q (.ref p) H')
theorem ok_notes {f : Addr} {fd : FuncData} (F : Fun K "_law_notes" "_law_notes" s__law_notes f fd) (T : Txt P K mg C CO fO CE fE) (c__law_take : Cal P w K mg base 1 "_law_take" (sp_take K)) (c__law_empty_days : Cal P w K mg base 2 "_law_empty_days" (sp_edays K)) (c__law_true_notes : Cal P w K mg base 2 "_law_true_notes" (sp_tnotes K)) :
    FnOk P w K mg base (L2.CX P w) (2 + 1) f fd ["_law_box", "_law_last", "_law_low", "_law_high"] (sp_notes K) := by
  refine okT F sc__law_notes (fun vs H Q E h => ?_) (fun cdv A outer s H vs Q E hr tk h => ?_)
  · obtain ⟨G, bg, ws, cs, a, b, c, last, low, high, rfl, _, _, _, hA, _⟩ := h
    rcases hA with _ | ⟨ha0, hA0⟩
    rcases hA0 with _ | ⟨ha1, hA1⟩
    rcases hA1 with _ | ⟨ha2, hA2⟩
    cases hA2
    rfl
  obtain ⟨G, bg, ws, cs, a, b, c, last, low, high, rfl, hsG, hmt, hgb, hA, p0, p1, p2, k⟩ := h
  have f1 := T.i1; have f2 := T.i2; have f3 := T.i3; have f4 := T.i4; have f5 := T.i5; have f6 := T.cl; have f7 := T.nc; have f8 := T.ng; have f9 := T.oa; have f10 := T.on; have f11 := T.ot; have f12 := T.om
  rcases hA with _ | ⟨ha0, hA0⟩
  rcases hA0 with _ | ⟨ha1, hA1⟩
  rcases hA1 with _ | ⟨ha2, hA2⟩
  cases hA2
  obtain rfl := ha0.isI
  obtain rfl := ha1.isI
  obtain rfl := ha2.isI
  have M : Mm K H G [bg] [(bg, boxD cs a b c)] [] H := Mm.start1 hsG hmt hgb (fun z hz => nomatch hz)
  refine ⟨_, (pss_cons (ps_set (i := 4) sc__law_notes.nd rfl (Or.inl rfl) (c_call c__law_take tk hr (by decide) (pa_cons (pv 0) (pa_cons pe_int pa_nil))))
      (pss_cons (ps_if (pt_cmpR op_eq (pv 4) pe_int (nomark _)) (pss_one (ps_ret (pe_op op_cat (c_call c__law_empty_days tk hr (by decide) (pa_cons (pv 0) (pa_cons (pv 1) pa_nil))) (c_call c__law_true_notes tk hr (by decide) (pa_cons (pv 0) (pa_cons (pv 1) (pa_cons (pv 2) (pa_cons (pv 3) (pa_cons pe_int pa_nil))))))))) pss_nil)
      (pss_cons (ps_set (i := 5) sc__law_notes.nd rfl (Or.inl rfl) (c_call c__law_true_notes tk hr (by decide) (pa_cons (pv 0) (pa_cons (pv 1) (pa_cons (pv 2) (pa_cons (pv 3) (pa_cons pe_int pa_nil)))))))
      (pss_cons (ps_if (PW.pt (pw_and (pt_cmpR op_eq (pv 4) pe_int (nomark _)) (pw_and1 (pt_cmpR (op_neE hr.units) (pv 5) (pe_lst pa_nil) (nomark _))))) (pss_cons (ps_set (i := 6) sc__law_notes.nd rfl (Or.inl rfl) (c_call c__law_take tk hr (by decide) (pa_cons (pv 0) (pa_cons (pe_callB b_len (by rfl) T.b_len (by decide +kernel) (pa_cons (pv 5) pa_nil)) pa_nil))))
      (pss_one (ps_asg (pe_tup (pa_cons (pe_ix ix_tup (pe_ix ix_list (pv 5) (pv 6) (fun _ _ => rfl)) pe_int (fun _ _ => rfl)) (pa_cons (pe_not (pe_ix ix_tup (pe_ix ix_list (pv 5) (pv 6) (fun _ _ => rfl)) pe_int (fun _ _ => rfl))) pa_nil))) (pg_sub (pv 5) (pv 6) set_list)))) pss_nil)
      (pss_cons (ps_if (pt_cmpR op_eq (pv 4) pe_int (nomark _)) (pss_one (ps_setLc (i := 5) (own := [("_law_note", 7)]) (g := gName 7) (tt := tYes) rfl sc__law_notes.nd rfl rfl (sw_true rfl rfl rfl (by decide +kernel)) (pi_list (pv 5)) (blkOk_by (own := [("_law_note", 7)]) (N := N__law_notes) (sc := defScope s__law_notes) (by decide +kernel)) (fun _ _ _ _ _ => pg_name (i := 7) sc__law_notes.nd rfl (Or.inl rfl)) (fun _ _ _ _ _ => pts_nil) (fun _ _ _ _ _ => (pe_tup (pa_cons (pe_ix (ix_tup : IxR _ (rIxT K)) (pv 7) pe_int (fun _ _ => rfl)) (pa_cons (pe_cmpR op_eq (c_call c__law_take takes0 hr (by decide) (pa_cons (pv 0) (pa_cons pe_int pa_nil))) pe_int (nomark _)) pa_nil)))))) pss_nil)
      (pss_one (ps_ret (pv 5)))))))), ?_⟩
  simp only [cxK, st__law_notes]
  walk_at "go"
  · rename_i d1 a1 b1 c1 H2' M2 e1 e2 hbx e3
    refine use_edays M2 (by walk_at "hass") hbx p1 p2 fun p5 n5 a5 b5 c5 H5 hc5 M5 => ?_
    walk_at "go"
    refine use_tnotes (last := last) (low := low) (high := high) (most := 2) M5.freeze (by walk_at "hass") hc5.2.2 p1 p2 (by omega) (by omega) fun p6 n6 a6 b6 c6 H6 hc6 M6 => ?_
    have M7 := M6.freeze
    have h1 := hc5.2.1
    have h2 := hc6.2.1
    clear M2 M5 M6
    walk_at "go"
    rename_i r8 H8 M8
    rw [← List.map_append] at M8
    exact k _ (n5 ++ n6) _ _ _ _ ⟨hc5.1.app hc6.1, by simp; omega, hc6.2.2⟩ M8.noL.swapX
  · rename_i d1 a1 b1 c1 H2' M2 e1 e2 hbx e3
    refine use_tnotes (last := last) (low := low) (high := high) (most := 6) M2 (by walk_at "hass") hbx p1 p2 (by omega) (by omega) fun p6 n6 a6 b6 c6 H6 hc6 N6 => ?_
    have M6 := N6
    have hb6 := hc6.2.2
    have hl6 := hc6.2.1
    have hl : (n6.map ntD).length = n6.length := List.length_map _
    clear M2 N6
    by_cases hne : n6 = []
    · have hem : (n6.map ntD).isEmpty = true := by rw [hne]; rfl
      walk_at "go"
      · refine k_iteF0 (by rw [hem]; rfl) ?_
        walk_at "go"
        exact k _ n6 _ _ _ _ ⟨hc6.1, by omega, hb6⟩ (Mm.dropX (by assumption)).noL.swapX
      · refine lcD (src_lst (ds := n6.map ntD)) M6 (fun i acc X' => ∃ (ms : List Nt) (a7 b7 c7 : Int), X' = [(p6, .lst (n6.map ntD)), (bg, boxD cs a7 b7 c7)] ∧ acc = ms.map ntD ∧ InR ms last ∧ ms.length = i ∧ Box cs a7 b7 c7) (fun _ _ _ _ ⟨_, _, _, _, e, _⟩ => .inr (by rw [e]; simp)) ⟨[], _, _, _, rfl, rfl, (fun n hn => nomatch hn), rfl, hb6⟩ ?_ ?_
        · rintro i x acc X' A0 H' hi ⟨ms, a7, b7, c7, rfl, rfl, hin, hml, hbx7⟩ M'
          rw [hl] at hi
          have hm := hc6.1 _ (List.mem_of_getElem? (MyL.getD_at hi))
          rw [getD_map hi] at M'
          generalize n6.getD i default = y at M' hm
          obtain ⟨px, rfl⟩ := M'.isT
          walk_at "go"
          refine ⟨rfl, ?_⟩
          walk_at "go"
          rename_i d8 a8 b8 c8 H8 M8 h1 h2 h3 p9 H9 M9
          refine lc_put M9 (H1.mem List.mem_cons_self) (by walk_at "sub") (by simp; omega) ⟨ms ++ [(y.1, decide (d8 = 1))], _, _, _, rfl, by rw [List.map_append]; rfl, hin.snoc hm.1 hm.2, by simp; omega, h3⟩
        · rintro A0 acc X' H' ⟨ms, a7, b7, c7, rfl, rfl, hin, hml, hbx7⟩ M'
          rw [hl] at hml
          walk_at "go"
          exact k _ ms _ _ _ _ ⟨hin, by omega, hbx7⟩ ((M'.swapX.dropX).noL.swapX)
      · exact k _ n6 _ _ _ _ ⟨hc6.1, by omega, hb6⟩ M6.noL.swapX
    · have hem : (n6.map ntD).isEmpty = false := by
        cases n6 with
        | nil => exact absurd rfl hne
        | cons x l => rfl
      have hpos : 0 < n6.length := List.length_pos_iff.mpr hne
      walk_at "go"
      · refine k_iteT0 (by rw [hem]; rfl) ?_
        walk_at "go"
        rename_i d7 a7 b7 c7 H7 M7 g1 g2 g3 v8 M8 v9 M9 p10 H10 M10 H11 M11 hx
        rw [show D.tup [D.int (n6.getD d7.toNat default).fst, D.bl (!(n6.getD d7.toNat default).snd)] = ntD ((n6.getD d7.toNat default).1, !(n6.getD d7.toNat default).2) from rfl, ← List.map_set] at M11
        exact k _ _ _ _ _ _ ⟨hc6.1.set (by omega), by rw [List.length_set]; omega, g3⟩ (M11.dropX).noL.swapX
      · refine lcD (src_lst (ds := n6.map ntD)) M6 (fun i acc X' => ∃ (ms : List Nt) (a7 b7 c7 : Int), X' = [(p6, .lst (n6.map ntD)), (bg, boxD cs a7 b7 c7)] ∧ acc = ms.map ntD ∧ InR ms last ∧ ms.length = i ∧ Box cs a7 b7 c7) (fun _ _ _ _ ⟨_, _, _, _, e, _⟩ => .inr (by rw [e]; simp)) ⟨[], _, _, _, rfl, rfl, (fun n hn => nomatch hn), rfl, hb6⟩ ?_ ?_
        · rintro i x acc X' A0 H' hi ⟨ms, a7, b7, c7, rfl, rfl, hin, hml, hbx7⟩ M'
          rw [hl] at hi
          have hm := hc6.1 _ (List.mem_of_getElem? (MyL.getD_at hi))
          rw [getD_map hi] at M'
          generalize n6.getD i default = y at M' hm
          obtain ⟨px, rfl⟩ := M'.isT
          walk_at "go"
          refine ⟨rfl, ?_⟩
          walk_at "go"
          rename_i d8 a8 b8 c8 H8 M8 h1 h2 h3 p9 H9 M9
          refine lc_put M9 (H1.mem List.mem_cons_self) (by walk_at "sub") (by simp; omega) ⟨ms ++ [(y.1, decide (d8 = 1))], _, _, _, rfl, by rw [List.map_append]; rfl, hin.snoc hm.1 hm.2, by simp; omega, h3⟩
        · rintro A0 acc X' H' ⟨ms, a7, b7, c7, rfl, rfl, hin, hml, hbx7⟩ M'
          rw [hl] at hml
          walk_at "go"
          exact k _ ms _ _ _ _ ⟨hin, by omega, hbx7⟩ ((M'.swapX.dropX).noL.swapX)
      · exact k _ n6 _ _ _ _ ⟨hc6.1, by omega, hb6⟩ M6.noL.swapX
theorem use_notes {B G0 H : Hp} {ms : List Addr} {X : List (Addr × D)} {L : List (V × D)} {Q : VK} {E : XK} {ws : List V} {bg : Addr} {cs : List Int} {a b c : Int} {last low high : Int} (M : Mm K B G0 ms ((bg, boxD cs a b c) :: X) L H) (ha : Hs L ws [.int last, .int low, .int high]) (p0 : Box cs a b c) (p1 : 0 ≤ last) (p2 : last ≤ 60) (k0 : ∀ (p : Addr) (ns : List Nt) (a' b' c' : Int) H', (InR ns last ∧ ns.length ≤ 67 ∧ Box cs a' b' c') → Mm K B G0 ms ((p, .lst (ns.map ntD)) :: (bg, boxD cs a' b' c') :: X) L H' → Q (.ref p) H') : sp_notes K (.ref bg :: ws) H Q E := by
  obtain ⟨G, W⟩ := M
  exact ⟨G, bg, ws, cs, a, b, c, last, low, high, rfl, W.s1, W.chg (bg, boxD cs a b c) List.mem_cons_self, W.off (bg, boxD cs a b c) List.mem_cons_self, ha K G W.ok, p0, p1, p2, fun p ns a' b' c' H' hc M2 => k0 p ns a' b' c' H' hc (W.compAt (X1 := []) M2)⟩
theorem use_notes1 {B G0 H : Hp} {ms : List Addr} {X : List (Addr × D)} {L : List (V × D)} {Q : VK} {E : XK} {ws : List V} {z0 : Addr × D} {bg : Addr} {cs : List Int} {a b c : Int} {last low high : Int} (M : Mm K B G0 ms (z0 :: (bg, boxD cs a b c) :: X) L H) (ha : Hs L ws [.int last, .int low, .int high]) (p0 : Box cs a b c) (p1 : 0 ≤ last) (p2 : last ≤ 60) (k0 : ∀ (p : Addr) (ns : List Nt) (a' b' c' : Int) H', (InR ns last ∧ ns.length ≤ 67 ∧ Box cs a' b' c') → Mm K B G0 ms ((p, .lst (ns.map ntD)) :: z0 :: (bg, boxD cs a' b' c') :: X) L H' → Q (.ref p) H') : sp_notes K (.ref bg :: ws) H Q E := by
  obtain ⟨G, W⟩ := M
  exact ⟨G, bg, ws, cs, a, b, c, last, low, high, rfl, W.s1, W.chg (bg, boxD cs a b c) (by simp), W.off (bg, boxD cs a b c) (by simp), ha K G W.ok, p0, p1, p2, fun p ns a' b' c' H' hc M2 => k0 p ns a' b' c' H' hc (W.compAt (X1 := [z0]) M2)⟩
theorem use_notes2 {B G0 H : Hp} {ms : List Addr} {X : List (Addr × D)} {L : List (V × D)} {Q : VK} {E : XK} {ws : List V} {z0 z1 : Addr × D} {bg : Addr} {cs : List Int} {a b c : Int} {last low high : Int} (M : Mm K B G0 ms (z0 :: z1 :: (bg, boxD cs a b c) :: X) L H) (ha : Hs L ws [.int last, .int low, .int high]) (p0 : Box cs a b c) (p1 : 0 ≤ last) (p2 : last ≤ 60) (k0 : ∀ (p : Addr) (ns : List Nt) (a' b' c' : Int) H', (InR ns last ∧ ns.length ≤ 67 ∧ Box cs a' b' c') → Mm K B G0 ms ((p, .lst (ns.map ntD)) :: z0 :: z1 :: (bg, boxD cs a' b' c') :: X) L H' → Q (.ref p) H') : sp_notes K (.ref bg :: ws) H Q E := by
  obtain ⟨G, W⟩ := M
  exact ⟨G, bg, ws, cs, a, b, c, last, low, high, rfl, W.s1, W.chg (bg, boxD cs a b c) (by simp), W.off (bg, boxD cs a b c) (by simp), ha K G W.ok, p0, p1, p2, fun p ns a' b' c' H' hc M2 => k0 p ns a' b' c' H' hc (W.compAt (X1 := [z0, z1]) M2)⟩
theorem use_notes3 {B G0 H : Hp} {ms : List Addr} {X : List (Addr × D)} {L : List (V × D)} {Q : VK} {E : XK} {ws : List V} {z0 z1 z2 : Addr × D} {bg : Addr} {cs : List Int} {a b c : Int} {last low high : Int} (M : Mm K B G0 ms (z0 :: z1 :: z2 :: (bg, boxD cs a b c) :: X) L H) (ha : Hs L ws [.int last, .int low, .int high]) (p0 : Box cs a b c) (p1 : 0 ≤ last) (p2 : last ≤ 60) (k0 : ∀ (p : Addr) (ns : List Nt) (a' b' c' : Int) H', (InR ns last ∧ ns.length ≤ 67 ∧ Box cs a' b' c') → Mm K B G0 ms ((p, .lst (ns.map ntD)) :: z0 :: z1 :: z2 :: (bg, boxD cs a' b' c') :: X) L H' → Q (.ref p) H') : sp_notes K (.ref bg :: ws) H Q E := by
  obtain ⟨G, W⟩ := M
  exact ⟨G, bg, ws, cs, a, b, c, last, low, high, rfl, W.s1, W.chg (bg, boxD cs a b c) (by simp), W.off (bg, boxD cs a b c) (by simp), ha K G W.ok, p0, p1, p2, fun p ns a' b' c' H' hc M2 => k0 p ns a' b' c' H' hc (W.compAt (X1 := [z0, z1, z2]) M2)⟩
local macro_rules | `(tactic| walk_at "use") => `(tactic| with_reducible first
  | (refine' use_take ?k1 ?k2 ?k3 ?k4 ?k5 ?_; (case k1 => assumption); (case k2 => walk_at "hass"); (case k3 => assumption); (case k4 => omega); (case k5 => omega); intro d' a' b' c' H' hc' M'; obtain ⟨hd1', hd2', hb'⟩ := hc')
  | (refine' use_take1 ?k1 ?k2 ?k3 ?k4 ?k5 ?_; (case k1 => assumption); (case k2 => walk_at "hass"); (case k3 => assumption); (case k4 => omega); (case k5 => omega); intro d' a' b' c' H' hc' M'; obtain ⟨hd1', hd2', hb'⟩ := hc')
  | (refine' use_take2 ?k1 ?k2 ?k3 ?k4 ?k5 ?_; (case k1 => assumption); (case k2 => walk_at "hass"); (case k3 => assumption); (case k4 => omega); (case k5 => omega); intro d' a' b' c' H' hc' M'; obtain ⟨hd1', hd2', hb'⟩ := hc')
  | fail)
def sp_fences (K : PySem.W.Frag) : Sp := fun vs H Q E => ∃ (G : Hp) (bg : Addr) (ws : List V) (cs : List Int) (a b c : Int) (last low high : Int), vs = .ref bg :: ws ∧ Same G H ∧ Mt K G H bg (boxD cs a b c) ∧ G bg = none ∧ AtL K G ws [.int last, .int low, .int high] ∧ (Box cs a b c) ∧ (0 ≤ last) ∧ (last ≤ 60) ∧ (0 ≤ low) ∧ (low ≤ last) ∧ (0 ≤ high) ∧ (high ≤ last) ∧ (∀ (p : Addr) (ns : List Nt) (a' b' c' : Int) H', (InR ns last ∧ ns.length ≤ 63 ∧ Box cs a' b' c') → Mm K H G [bg] ((bg, boxD cs a' b' c') :: [(p, .lst (ns.map ntD))]) [] H' → Q (.ref p) H')
theorem ok_fences {f : Addr} {fd : FuncData} (F : Fun K "_law_fences" "_law_fences" s__law_fences f fd) (T : Txt P K mg C CO fO CE fE) (c__law_take : Cal P w K mg base 1 "_law_take" (sp_take K)) :
    FnOk P w K mg base (L2.CX P w) (1 + 1) f fd ["_law_box", "_law_last", "_law_low", "_law_high"] (sp_fences K) := by
  refine okT F sc__law_fences (fun vs H Q E h => ?_) (fun cdv A outer s H vs Q E hr tk h => ?_)
  · obtain ⟨G, bg, ws, cs, a, b, c, last, low, high, rfl, _, _, _, hA, _⟩ := h
    rcases hA with _ | ⟨ha0, hA0⟩
    rcases hA0 with _ | ⟨ha1, hA1⟩
    rcases hA1 with _ | ⟨ha2, hA2⟩
    cases hA2
    rfl
  obtain ⟨G, bg, ws, cs, a, b, c, last, low, high, rfl, hsG, hmt, hgb, hA, p0, p1, p2, p3, p4, p5, p6, k⟩ := h
  have f1 := T.i1; have f2 := T.i2; have f3 := T.i3; have f4 := T.i4; have f5 := T.i5; have f6 := T.cl; have f7 := T.nc; have f8 := T.ng; have f9 := T.oa; have f10 := T.on; have f11 := T.ot; have f12 := T.om
  rcases hA with _ | ⟨ha0, hA0⟩
  rcases hA0 with _ | ⟨ha1, hA1⟩
  rcases hA1 with _ | ⟨ha2, hA2⟩
  cases hA2
  obtain rfl := ha0.isI
  obtain rfl := ha1.isI
  obtain rfl := ha2.isI
  have M : Mm K H G [bg] [(bg, boxD cs a b c)] [] H := Mm.start1 hsG hmt hgb (fun z hz => nomatch hz)
  refine ⟨_, (pss_cons (ps_set (i := 4) sc__law_fences.nd rfl (Or.inl rfl) (c_call c__law_take tk hr (by decide) (pa_cons (pv 0) (pa_cons pe_int pa_nil))))
      (pss_cons (ps_set (i := 5) sc__law_fences.nd rfl (Or.inl rfl) (pe_cmpR op_eq (c_call c__law_take tk hr (by decide) (pa_cons (pv 0) (pa_cons pe_int pa_nil))) pe_int (nomark _)))
      (pss_cons (ps_set (i := 6) sc__law_fences.nd rfl (Or.inl rfl) (pe_lst pa_nil))
      (pss_cons (ps_for (passes_of rfl) rfl (pi_range1 (by rfl) T.b_range (pa_cons (pe_op op_add (pv 1) pe_int) pa_nil)) (pg_name (i := 7) sc__law_fences.nd rfl (Or.inl rfl)) (pss_one (ps_if (PW.pt (pw_and (pt_cmpR op_eq (pe_op op_mod (pv 7) pe_int) (pv 4) (nomark _)) (pw_and1 (pt_not (PW.pt (pw_and (pt_val (pv 5)) (pw_and (pt_cmpR op_le (pv 2) (pv 7) (nomark _)) (pw_and1 (pt_cmpR op_le (pv 7) (pv 3) (nomark _)))))))))) (pss_one (ps_expr (pe_bm PySem.F.plainAttrs_list PySem.F.slot_list_append PySem.F.type_list_append mt_append (pv 6) (pa_cons (pe_tup (pa_cons (pv 7) (pa_cons pe_bl pa_nil))) pa_nil)))) pss_nil)))
      (pss_cons (ps_if (pt_val (pv 5)) (pss_one (ps_set (i := 6) sc__law_fences.nd rfl (Or.inl rfl) (pe_op op_cat (pv 6) (pe_lst (pa_cons (pe_tup (pa_cons (pv 3) (pa_cons pe_bl pa_nil))) (pa_cons (pe_tup (pa_cons (pv 2) (pa_cons pe_bl pa_nil))) pa_nil)))))) pss_nil)
      (pss_one (ps_ret (pv 6)))))))), ?_⟩
  simp only [cxK, st__law_fences]
  walk_at "go"
  rename_i d1 a1 b1 c1 H1' M1 e1 e2 hbx d2 a2 b2 c2 H2' M2 e3 e4 hbx2 nt H3' M3
  refine forX src_rng M3 (fun i σ' X' => ∃ (ns : List Nt) (v7 : Option V), σ' = [some (.ref bg), some (.int last), some (.int low), some (.int high), some (.int d1), some (.bl (decide (d2 = 1))), some (.ref nt), v7] ∧ X' = [(nt, .lst (ns.map ntD)), (bg, boxD cs a2 b2 c2)] ∧ InR ns last ∧ ns.length ≤ i) (fun _ _ _ _ => trivial) ⟨[], _, rfl, rfl, (fun n hn => nomatch hn), Nat.le_refl _⟩ ?_ ?_
  · rintro i x σ' X' H' hi ⟨ns, v7, rfl, rfl, hin, hnl⟩ M'
    obtain rfl := M'.isI
    cases hrm : decide (d2 = 1) with
    | false =>
      walk_at "go"
      · rename_i M9
        obtain ⟨ns2, e8, e9, M10⟩ := nt_snoc M9 hin (by omega) (by omega)
        exact ⟨_, ⟨ns2, _, rfl, rfl, e9, by omega⟩, M10⟩
      · exact ⟨_, ⟨ns, _, rfl, rfl, hin, by omega⟩, M'.noL⟩
    | true =>
      walk_at "go"
      all_goals first
        | exact ⟨_, ⟨ns, _, rfl, rfl, hin, by omega⟩, M'.noL⟩
        | (rename_i M9
           obtain ⟨ns2, e8, e9, M10⟩ := nt_snoc M9 hin (by omega) (by omega)
           exact ⟨_, ⟨ns2, _, rfl, rfl, e9, by omega⟩, M10⟩)
  · rintro σ' X' H' ⟨ns, v7, rfl, rfl, hin, hnl⟩ M'
    have hl : (ns.map ntD).length = ns.length := List.length_map _
    cases hrm : decide (d2 = 1) with
    | false =>
      walk_at "go"
      exact k _ ns _ _ _ _ ⟨hin, by omega, hbx2⟩ M'.noL.swapX
    | true =>
      walk_at "go"
      rename_i r8 H8 M8
      refine k _ (ns ++ [(high, true), (low, true)]) _ _ _ _ ⟨InR.app hin (fun n hn => ?_), by simp; omega, hbx2⟩ ?_
      · simp only [List.mem_cons, List.not_mem_nil, or_false] at hn
        rcases hn with rfl | rfl
        · exact ⟨p5, p6⟩
        · exact ⟨p3, p4⟩
      · rw [List.map_append]
        exact M8.swapX.dropX.swapX.dropX.noL.swapX
theorem use_fences {B G0 H : Hp} {ms : List Addr} {X : List (Addr × D)} {L : List (V × D)} {Q : VK} {E : XK} {ws : List V} {bg : Addr} {cs : List Int} {a b c : Int} {last low high : Int} (M : Mm K B G0 ms ((bg, boxD cs a b c) :: X) L H) (ha : Hs L ws [.int last, .int low, .int high]) (p0 : Box cs a b c) (p1 : 0 ≤ last) (p2 : last ≤ 60) (p3 : 0 ≤ low) (p4 : low ≤ last) (p5 : 0 ≤ high) (p6 : high ≤ last) (k0 : ∀ (p : Addr) (ns : List Nt) (a' b' c' : Int) H', (InR ns last ∧ ns.length ≤ 63 ∧ Box cs a' b' c') → Mm K B G0 ms ((p, .lst (ns.map ntD)) :: (bg, boxD cs a' b' c') :: X) L H' → Q (.ref p) H') : sp_fences K (.ref bg :: ws) H Q E := by
  obtain ⟨G, W⟩ := M
  exact ⟨G, bg, ws, cs, a, b, c, last, low, high, rfl, W.s1, W.chg (bg, boxD cs a b c) List.mem_cons_self, W.off (bg, boxD cs a b c) List.mem_cons_self, ha K G W.ok, p0, p1, p2, p3, p4, p5, p6, fun p ns a' b' c' H' hc M2 => k0 p ns a' b' c' H' hc (W.compAt (X1 := []) M2)⟩
theorem use_fences1 {B G0 H : Hp} {ms : List Addr} {X : List (Addr × D)} {L : List (V × D)} {Q : VK} {E : XK} {ws : List V} {z0 : Addr × D} {bg : Addr} {cs : List Int} {a b c : Int} {last low high : Int} (M : Mm K B G0 ms (z0 :: (bg, boxD cs a b c) :: X) L H) (ha : Hs L ws [.int last, .int low, .int high]) (p0 : Box cs a b c) (p1 : 0 ≤ last) (p2 : last ≤ 60) (p3 : 0 ≤ low) (p4 : low ≤ last) (p5 : 0 ≤ high) (p6 : high ≤ last) (k0 : ∀ (p : Addr) (ns : List Nt) (a' b' c' : Int) H', (InR ns last ∧ ns.length ≤ 63 ∧ Box cs a' b' c') → Mm K B G0 ms ((p, .lst (ns.map ntD)) :: z0 :: (bg, boxD cs a' b' c') :: X) L H' → Q (.ref p) H') : sp_fences K (.ref bg :: ws) H Q E := by
  obtain ⟨G, W⟩ := M
  exact ⟨G, bg, ws, cs, a, b, c, last, low, high, rfl, W.s1, W.chg (bg, boxD cs a b c) (by simp), W.off (bg, boxD cs a b c) (by simp), ha K G W.ok, p0, p1, p2, p3, p4, p5, p6, fun p ns a' b' c' H' hc M2 => k0 p ns a' b' c' H' hc (W.compAt (X1 := [z0]) M2)⟩
theorem use_fences2 {B G0 H : Hp} {ms : List Addr} {X : List (Addr × D)} {L : List (V × D)} {Q : VK} {E : XK} {ws : List V} {z0 z1 : Addr × D} {bg : Addr} {cs : List Int} {a b c : Int} {last low high : Int} (M : Mm K B G0 ms (z0 :: z1 :: (bg, boxD cs a b c) :: X) L H) (ha : Hs L ws [.int last, .int low, .int high]) (p0 : Box cs a b c) (p1 : 0 ≤ last) (p2 : last ≤ 60) (p3 : 0 ≤ low) (p4 : low ≤ last) (p5 : 0 ≤ high) (p6 : high ≤ last) (k0 : ∀ (p : Addr) (ns : List Nt) (a' b' c' : Int) H', (InR ns last ∧ ns.length ≤ 63 ∧ Box cs a' b' c') → Mm K B G0 ms ((p, .lst (ns.map ntD)) :: z0 :: z1 :: (bg, boxD cs a' b' c') :: X) L H' → Q (.ref p) H') : sp_fences K (.ref bg :: ws) H Q E := by
  obtain ⟨G, W⟩ := M
  exact ⟨G, bg, ws, cs, a, b, c, last, low, high, rfl, W.s1, W.chg (bg, boxD cs a b c) (by simp), W.off (bg, boxD cs a b c) (by simp), ha K G W.ok, p0, p1, p2, p3, p4, p5, p6, fun p ns a' b' c' H' hc M2 => k0 p ns a' b' c' H' hc (W.compAt (X1 := [z0, z1]) M2)⟩
theorem use_fences3 {B G0 H : Hp} {ms : List Addr} {X : List (Addr × D)} {L : List (V × D)} {Q : VK} {E : XK} {ws : List V} {z0 z1 z2 : Addr × D} {bg : Addr} {cs : List Int} {a b c : Int} {last low high : Int} (M : Mm K B G0 ms (z0 :: z1 :: z2 :: (bg, boxD cs a b c) :: X) L H) (ha : Hs L ws [.int last, .int low, .int high]) (p0 : Box cs a b c) (p1 : 0 ≤ last) (p2 : last ≤ 60) (p3 : 0 ≤ low) (p4 : low ≤ last) (p5 : 0 ≤ high) (p6 : high ≤ last) (k0 : ∀ (p : Addr) (ns : List Nt) (a' b' c' : Int) H', (InR ns last ∧ ns.length ≤ 63 ∧ Box cs a' b' c') → Mm K B G0 ms ((p, .lst (ns.map ntD)) :: z0 :: z1 :: z2 :: (bg, boxD cs a' b' c') :: X) L H' → Q (.ref p) H') : sp_fences K (.ref bg :: ws) H Q E := by
  obtain ⟨G, W⟩ := M
  exact ⟨G, bg, ws, cs, a, b, c, last, low, high, rfl, W.s1, W.chg (bg, boxD cs a b c) (by simp), W.off (bg, boxD cs a b c) (by simp), ha K G W.ok, p0, p1, p2, p3, p4, p5, p6, fun p ns a' b' c' H' hc M2 => k0 p ns a' b' c' H' hc (W.compAt (X1 := [z0, z1, z2]) M2)⟩
end
end K20

set_option Elab.async false
set_option linter.all false
set_option maxRecDepth 100000
set_option maxHeartbeats 8000000
namespace K20
open PySem L2 MyL
local macro_rules | `(tactic| walk_at "sub") => `(tactic| first | exact sub_nil | exact sub_self | (refine' sub_cons ?k1 ?k2; (case k1 => walk_at "mem"); (case k2 => walk_at "sub")) | (refine' sub_app ?k1 ?k2; (case k1 => walk_at "sub"); (case k2 => walk_at "sub")) | (refine sub_tail ?_; walk_at "sub") | fail)
local macro_rules | `(tactic| walk_at "mem") => `(tactic| first | exact List.mem_cons_self | (refine List.mem_cons_of_mem _ ?_; walk_at "mem") | (refine List.mem_append_right _ ?_; walk_at "mem") | (refine List.mem_append_left _ ?_; walk_at "mem") | assumption | fail)
local macro_rules | `(tactic| walk_at "inl") => `(tactic| first | (refine Or.inl ?_; walk_at "mem") | (refine Or.inr ?_; walk_at "mem") | fail)
local macro_rules | `(tactic| walk_at "has1") => `(tactic| first | exact H1.int | exact H1.str | exact H1.bl | exact H1.non | exact H1.mem (by walk_at "mem") | assumption | fail)
local macro_rules | `(tactic| walk_at "hass") => `(tactic| first | exact Hs.nil | (refine' Hs.cons ?k1 ?k2; (case k1 => walk_at "has1"); (case k2 => walk_at "hass")) | exact Hs.ints _ | assumption | fail)
local macro_rules | `(tactic| walk_at "kn") => `(tactic| first | (refine Or.inl ?_; walk_at "has1") | (refine Or.inr ⟨_, _, rfl, rfl, ?_⟩; walk_at "mem") | fail)
local macro_rules | `(tactic| walk_at "sh") => `(tactic| first | exact Sh.int | exact Sh.bl | exact Sh.non | exact Sh.str (by decide) | assumption | (refine Sh.tupM ?_; intro x' hx'; walk_at "sh") | (refine Sh.lstM ?_; intro x' hx'; walk_at "sh") | (refine Sh.tup ?_; walk_at "shs") | (refine Sh.lst ?_; walk_at "shs") | fail)
local macro_rules | `(tactic| walk_at "shs") => `(tactic| first | exact Sh.nil | (refine' Sh.cons ?k1 ?k2; (case k1 => walk_at "sh"); (case k2 => walk_at "shs")) | fail)
local macro_rules | `(tactic| walk_at "lt") => `(tactic| first | omega | (simp only [List.length_map, List.length_range, List.length_append, List.length_cons, List.length_nil, List.length_replicate, List.length_set]; omega) | fail)
local macro_rules | `(tactic| walk_at "few") => `(tactic| first | decide | simp | fail)
local macro_rules | `(tactic| walk_at "lof") => `(tactic| (refine' d_listI ?k1 ?k2 ?_; (case k1 => assumption); (case k2 => first | (refine Or.inl ?_; walk_at "inl") | (refine Or.inr ?_; walk_at "mem") | fail); intro p' H' M'))
local macro_rules | `(tactic| walk_at "lst") => `(tactic| (refine' d_lst ?k1 ?k2 ?k3 ?_; (case k1 => assumption); (case k2 => walk_at "hass"); (case k3 => walk_at "size"); intro p' H' M'))
local macro_rules | `(tactic| walk_at "cond") => `(tactic| first | omega | assumption | exact mulR (by omega) (by omega) | exact mulL (by omega) (by omega) | exact divW (by omega) (by omega) | decide)
local macro_rules | `(tactic| walk_at "look") => `(tactic| first | assumption | with_unfolding_all rfl | exact atI_mapI (by omega) (by omega) | exact atI_mapL (by omega) (by omega) | exact atI_mapD (by omega) (by omega) | fail)
local macro_rules | `(tactic| walk_at "go1") => `(tactic| with_reducible first
  | refine k_yes ?_ | refine k_seq ?_ | refine k_gName ?_ | refine k_asg ?_ | refine k_ret ?_ | refine k_ifS ?_ | refine k_drop ?_ | refine k_next ?_ | refine k_break ?_ | refine k_cont ?_ | refine k_retN ?_
  | (refine' k_var ?k1 ?_; (case k1 => with_unfolding_all rfl)) | refine k_c ?_ | refine k_op ?_ | refine k_un ?_ | refine k_test ?_ | refine k_B ?_ | refine k_bl ?_ | refine k_and ?_ | refine k_or ?_ | refine k_not ?_
  | refine k_andV ?_ | refine k_orV ?_ | refine k_notV ?_ | refine k_ifE ?_ | refine k_nil ?_ | refine k_cons ?_ | refine k_cb ?_ | refine k_callS ?_ | refine k_lst0 ?_ | refine k_tup0 ?_ | refine k_fld0 ?_ | refine k_sub0 ?_ | refine k_make0 ?_ | refine k_prop0 ?_ | refine k_sta0 ?_ | refine k_sta ?_ | refine k_bm ?_ | refine k_bm0 ?_ | refine k_chain ?_ | refine k_makeK0 ?_ | refine k_swapK ?_ | refine k_meth0 ?_ | refine k_ownN0 ?_ | refine k_ownO0 ?_ | refine k_sfldS ?_ | refine k_jnil ?_ | refine k_jcons ?_ | refine k_fmt0 ?_ | refine k_sl0 ?_ | refine k_nopart ?_ | refine k_part ?_ | refine k_forR1 ?_ | refine k_forR2 ?_ | refine k_forL ?_ | refine k_forT ?_ | refine k_lcR1 ?_ | refine k_lc2R1 ?_ | refine k_lc2R2 ?_ | refine k_lc2L ?_ | refine k_lc2T ?_ | refine k_iR1 ?_ | refine k_iR2 ?_ | refine k_iL ?_ | refine k_iT ?_ | refine k_lcR2 ?_ | refine k_lcL ?_ | refine k_lcT ?_ | refine k_err0 ?_ | refine k_xf0 ?_ | refine k_errQ1 ?_ | refine k_errQ0 ?_ | refine k_errQ2 ?_ | refine k_errQ3 ?_
  | refine k_I0 ?_ | (refine k_I ?k1 ?_; (case k1 => walk_at "cond")) | refine k_U ?_ | refine k_eqI ?_ | refine k_neI ?_ | refine k_eqB ?_ | refine k_neB ?_ | refine k_eqS ?_ | refine k_neS ?_
  | refine k_int1 ?_ | refine k_abs1 ?_ | refine k_min2 ?_ | refine k_max2 ?_
  | (refine' k_lenS ?k1 ?_; (case k1 => assumption)) | (refine' k_ixS ?k1 ?k2 ?_; (case k1 => assumption); (case k2 => walk_at "look"))
  | refine iteT ?_ | refine iteF ?_ | refine k_iteNE ?_ | refine k_iteNS ?_ | refine k_iteNT ?_ | refine k_iteNF ?_
  | (refine k_iteD ?_ ?_ <;> intro hc <;> first | (exfalso; omega) | skip)
  | (refine k_iteN ?_ ?_ <;> intro hc <;> first | (exfalso; omega) | skip)
  | (refine' k_isiI ?k1 ?_; (case k1 => assumption))
  | (refine' k_jst ?k1 ?_; (case k1 => walk_at "size")) | (refine' k_fmtI ?k1 ?_; (case k1 => exact log2_64 (by omega) (by omega))) | (refine' k_strI ?k1 ?_; (case k1 => exact log2_64 (by omega) (by omega)))
  | (refine k_addS ?k1 ?_; (case k1 => walk_at "size")) | refine k_st ?_ | refine k_parti ?_
  | (refine k_rng1 ?k1 ?k2 ?_; (case k1 => omega); (case k2 => omega)) | (refine k_rng2 ?k1 ?k2 ?k3 ?k4 ?_; (case k1 => omega); (case k2 => omega); (case k3 => omega); (case k4 => omega))
  | (refine' k_isXs ?k1 ?k2 ?_; (case k1 => assumption); (case k2 => walk_at "hp")) | (refine' k_isXo ?k1 ?k2 ?k3 ?_; (case k1 => assumption); (case k2 => walk_at "hp"); (case k3 => assumption)) | (refine' k_isXt ?k1 ?k2 ?k3 ?_; (case k1 => assumption); (case k2 => walk_at "hp"); (case k3 => assumption))
  | (refine' k_isX3 ?k1 ?k2 ?k3 ?k4 ?_; (case k1 => assumption); (case k2 => walk_at "hp"); (case k3 => walk_at "hp"); (case k4 => assumption)) | (refine' k_isX2 ?k1 ?k2 ?k3 ?k4 ?_; (case k1 => assumption); (case k2 => walk_at "hp"); (case k3 => walk_at "hp"); (case k4 => assumption))
  | (refine' k_isX0s ?k1 ?_; (case k1 => assumption)) | (refine' k_isX0o ?k1 ?k2 ?_; (case k1 => assumption); (case k2 => assumption)) | (refine' k_isX0t ?k1 ?k2 ?_; (case k1 => assumption); (case k2 => assumption)) | (refine' k_isX04 ?k1 ?k2 ?k3 ?_; (case k1 => assumption); (case k2 => walk_at "hp"); (case k3 => assumption))
  | (refine' k_isX4 ?k1 ?k2 ?k3 ?k4 ?_; (case k1 => assumption); (case k2 => walk_at "hp"); (case k3 => walk_at "hp"); (case k4 => assumption)) | (refine' k_ixT2 ?k1 ?k2 ?k3 ?_; (case k1 => walk_at "hp"); (case k2 => omega); (case k3 => omega); intro n' hn')
  | (refine k_iteNEq ?k1 ?_; (case k1 => (rw [Bool.eq_iff_iff]; first | (simp; done) | (simp; omega))))
  | (refine' k_xf ?k1 ?k2 ?_; (case k1 => walk_at "hp"); (case k2 => first | exact xd1 | exact xdH | exact xd2 (by decide +kernel)))
  | (refine' k_caught ?k1 ?_; (case k1 => assumption); intro a' ha')
  | refine k_asgT ?_ | refine k_gCons ?_ | refine k_gNil ?_ | refine k_par ?_ | refine k_two ?_ | refine k_isNn ?_ | refine k_isNi ?_ | refine k_notNn ?_ | refine k_notNi ?_ | refine k_isN ?_ | refine k_notN ?_
  | (refine' k_xfB ?k1 ?k2 ?_; (case k1 => walk_at "hp"); (case k2 => first | exact xd1 | exact xdH | exact xd2 (by decide +kernel)))
  | (refine' d_ixLI ?k1 ?k2 ?k3 ?_; (case k1 => assumption); (case k2 => walk_at "inl"); (case k3 => walk_at "look"))
  | (refine' d_ixLS ?k1 ?k2 ?k3 ?_; (case k1 => assumption); (case k2 => walk_at "inl"); (case k3 => walk_at "look"))
  | (refine' d_ixLB ?k1 ?k2 ?k3 ?_; (case k1 => assumption); (case k2 => walk_at "inl"); (case k3 => walk_at "look"))
  | (refine' d_ixL ?k1 ?k2 ?k3 ?_; (case k1 => assumption); (case k2 => walk_at "inl"); (case k3 => walk_at "look"); intro v' M'; first | (have e' := Mm.isI M'; subst e') | (have e' := Mm.isS M'; subst e') | (have e' := Mm.isB M'; subst e') | (have e' := Mm.isN M'; subst e') | (obtain ⟨p', e'⟩ := Mm.isT M'; subst e') | (obtain ⟨p', e'⟩ := Mm.isL M'; subst e') | (obtain ⟨p', e'⟩ := Mm.isO M'; subst e') | skip)
  | (refine' d_ixTI ?k1 ?k2 ?k3 ?_; (case k1 => assumption); (case k2 => walk_at "mem"); (case k3 => walk_at "look"))
  | (refine' d_ixTS ?k1 ?k2 ?k3 ?_; (case k1 => assumption); (case k2 => walk_at "mem"); (case k3 => walk_at "look"))
  | (refine' d_ixTB ?k1 ?k2 ?k3 ?_; (case k1 => assumption); (case k2 => walk_at "mem"); (case k3 => walk_at "look"))
  | (refine' d_ixT ?k1 ?k2 ?k3 ?_; (case k1 => assumption); (case k2 => walk_at "mem"); (case k3 => walk_at "look"); intro v' M'; first | (have e' := Mm.isI M'; subst e') | (have e' := Mm.isS M'; subst e') | (have e' := Mm.isB M'; subst e') | (have e' := Mm.isN M'; subst e') | (obtain ⟨p', e'⟩ := Mm.isT M'; subst e') | (obtain ⟨p', e'⟩ := Mm.isL M'; subst e') | (obtain ⟨p', e'⟩ := Mm.isO M'; subst e') | skip)
  | (refine' d_ixc2 ?k1 ?k2 ?k3 ?k4 ?_; (case k1 => assumption); (case k2 => walk_at "inl"); (case k3 => omega); (case k4 => omega); intro n' hn')
  | (refine' d_ixc3 ?k1 ?k2 ?k3 ?k4 ?_; (case k1 => assumption); (case k2 => walk_at "inl"); (case k3 => omega); (case k4 => omega); intro n' hn')
  | (refine' d_ixc4 ?k1 ?k2 ?k3 ?k4 ?_; (case k1 => assumption); (case k2 => walk_at "inl"); (case k3 => omega); (case k4 => omega); intro n' hn')
  | (refine' d_ixc5 ?k1 ?k2 ?k3 ?k4 ?_; (case k1 => assumption); (case k2 => walk_at "inl"); (case k3 => omega); (case k4 => omega); intro n' hn')
  | (refine' d_ixc6 ?k1 ?k2 ?k3 ?k4 ?_; (case k1 => assumption); (case k2 => walk_at "inl"); (case k3 => omega); (case k4 => omega); intro n' hn')
  | (refine' d_ixc7 ?k1 ?k2 ?k3 ?k4 ?_; (case k1 => assumption); (case k2 => walk_at "inl"); (case k3 => omega); (case k4 => omega); intro n' hn')
  | (refine' d_ixc8 ?k1 ?k2 ?k3 ?k4 ?_; (case k1 => assumption); (case k2 => walk_at "inl"); (case k3 => omega); (case k4 => omega); intro n' hn')
  | (refine' d_ixc9 ?k1 ?k2 ?k3 ?k4 ?_; (case k1 => assumption); (case k2 => walk_at "inl"); (case k3 => omega); (case k4 => omega); intro n' hn')
  | (refine' d_lenL ?k1 ?k2 ?_; (case k1 => assumption); (case k2 => walk_at "inl"))
  | (refine' d_lenT ?k1 ?k2 ?_; (case k1 => assumption); (case k2 => walk_at "mem"))
  | (refine' d_lenQ ?k1 ?k2 ?_; (case k1 => assumption); (case k2 => walk_at "mem"))
  | (refine' d_lst0 ?k1 ?_; (case k1 => assumption); intro p' H' M')
  | (refine' d_tup ?k1 ?k2 ?k3 ?_; (case k1 => assumption); (case k2 => walk_at "hass"); (case k3 => walk_at "size"); intro p' H' M')
  | (refine' d_tupR ?k1 ?k2 ?_; (case k1 => assumption); (case k2 => walk_at "size"); intro p' H' hp' M')
  | walk_at "lst"
  | (refine' d_fldI ?k1 ?k2 ?k3 ?k4 ?k5 ?_; (case k1 => assumption); (case k2 => walk_at "mem"); (case k3 => assumption); (case k4 => assumption); (case k5 => walk_at "fld"))
  | (refine' d_fld ?k1 ?k2 ?k3 ?k4 ?k5 ?_; (case k1 => assumption); (case k2 => walk_at "mem"); (case k3 => assumption); (case k4 => assumption); (case k5 => walk_at "fld"); intro v' M'; first | (have e' := Mm.isI M'; subst e') | (have e' := Mm.isS M'; subst e') | (have e' := Mm.isB M'; subst e') | (have e' := Mm.isN M'; subst e') | (obtain ⟨p', e'⟩ := Mm.isT M'; subst e') | (obtain ⟨p', e'⟩ := Mm.isL M'; subst e') | (obtain ⟨p', e'⟩ := Mm.isO M'; subst e') | skip)
  | (refine' d_fldX0 ?k1 ?k2 ?k3 ?k4 ?_; (case k1 => assumption); (case k2 => assumption); (case k3 => assumption); (case k4 => walk_at "fld"); intro v' M'; first | (have e' := Mm.isI M'; subst e') | (have e' := Mm.isS M'; subst e') | (have e' := Mm.isB M'; subst e') | (have e' := Mm.isN M'; subst e') | (obtain ⟨p', e'⟩ := Mm.isT M'; subst e') | (obtain ⟨p', e'⟩ := Mm.isL M'; subst e') | (obtain ⟨p', e'⟩ := Mm.isO M'; subst e') | skip)
  | (refine' d_fldX1 ?k1 ?k2 ?k3 ?k4 ?_; (case k1 => assumption); (case k2 => assumption); (case k3 => assumption); (case k4 => walk_at "fld"); intro v' M'; first | (have e' := Mm.isI M'; subst e') | (have e' := Mm.isS M'; subst e') | (have e' := Mm.isB M'; subst e') | (have e' := Mm.isN M'; subst e') | (obtain ⟨p', e'⟩ := Mm.isT M'; subst e') | (obtain ⟨p', e'⟩ := Mm.isL M'; subst e') | (obtain ⟨p', e'⟩ := Mm.isO M'; subst e') | skip)
  | (refine' d_gT2I ?k1 ?k2 ?k3 ?_; (case k1 => assumption); (case k2 => walk_at "mem"); (case k3 => with_unfolding_all rfl))
  | (refine' d_gT2 ?k1 ?k2 ?k3 ?_; (case k1 => assumption); (case k2 => walk_at "mem"); (case k3 => with_unfolding_all rfl); intro v1' v2' M'; (first | (have e' := Mm.isI M'; subst e') | (have e' := Mm.isS M'; subst e') | (have e' := Mm.isB M'; subst e') | (have e' := Mm.isN M'; subst e') | (obtain ⟨p', e'⟩ := Mm.isT M'; subst e') | (obtain ⟨p', e'⟩ := Mm.isL M'; subst e') | (obtain ⟨p', e'⟩ := Mm.isO M'; subst e') | skip); (first | (have e' := Mm.isI (Mm.dropL M'); subst e') | (have e' := Mm.isS (Mm.dropL M'); subst e') | (have e' := Mm.isB (Mm.dropL M'); subst e') | (have e' := Mm.isN (Mm.dropL M'); subst e') | (obtain ⟨p2', e'⟩ := Mm.isT (Mm.dropL M'); subst e') | (obtain ⟨p2', e'⟩ := Mm.isL (Mm.dropL M'); subst e') | (obtain ⟨p2', e'⟩ := Mm.isO (Mm.dropL M'); subst e') | skip))
  | (refine' d_gT3 ?k1 ?k2 ?k3 ?_; (case k1 => assumption); (case k2 => walk_at "mem"); (case k3 => with_unfolding_all rfl); intro v1' v2' v3' M'; (first | (have e' := Mm.isI M'; subst e') | (have e' := Mm.isS M'; subst e') | (have e' := Mm.isB M'; subst e') | (have e' := Mm.isN M'; subst e') | (obtain ⟨p', e'⟩ := Mm.isT M'; subst e') | (obtain ⟨p', e'⟩ := Mm.isL M'; subst e') | (obtain ⟨p', e'⟩ := Mm.isO M'; subst e') | skip); (first | (have e' := Mm.isI (Mm.dropL M'); subst e') | (have e' := Mm.isS (Mm.dropL M'); subst e') | (have e' := Mm.isB (Mm.dropL M'); subst e') | (have e' := Mm.isN (Mm.dropL M'); subst e') | (obtain ⟨p2', e'⟩ := Mm.isT (Mm.dropL M'); subst e') | (obtain ⟨p2', e'⟩ := Mm.isL (Mm.dropL M'); subst e') | (obtain ⟨p2', e'⟩ := Mm.isO (Mm.dropL M'); subst e') | skip); (first | (have e' := Mm.isI (Mm.dropL (Mm.dropL M')); subst e') | (have e' := Mm.isS (Mm.dropL (Mm.dropL M')); subst e') | (have e' := Mm.isB (Mm.dropL (Mm.dropL M')); subst e') | (have e' := Mm.isN (Mm.dropL (Mm.dropL M')); subst e') | (obtain ⟨p3', e'⟩ := Mm.isT (Mm.dropL (Mm.dropL M')); subst e') | (obtain ⟨p3', e'⟩ := Mm.isL (Mm.dropL (Mm.dropL M')); subst e') | (obtain ⟨p3', e'⟩ := Mm.isO (Mm.dropL (Mm.dropL M')); subst e') | skip))
  | (refine' d_app0 ?k1 ?k2 ?k3 ?_; (case k1 => assumption); (case k2 => walk_at "has1"); (case k3 => walk_at "size"); intro H' M')
  | (refine' d_app1 ?k1 ?k2 ?k3 ?_; (case k1 => assumption); (case k2 => walk_at "has1"); (case k3 => walk_at "size"); intro H' M')
  | (refine' d_app2 ?k1 ?k2 ?k3 ?_; (case k1 => assumption); (case k2 => walk_at "has1"); (case k3 => walk_at "size"); intro H' M')
  | (refine' d_app3 ?k1 ?k2 ?k3 ?_; (case k1 => assumption); (case k2 => walk_at "has1"); (case k3 => walk_at "size"); intro H' M')
  | (refine' d_set0 ?k1 ?k2 ?k3 ?k4 ?_; (case k1 => assumption); (case k2 => walk_at "has1"); (case k3 => omega); (case k4 => walk_at "lt"); intro H' M')
  | (refine' d_set1 ?k1 ?k2 ?k3 ?k4 ?_; (case k1 => assumption); (case k2 => walk_at "has1"); (case k3 => omega); (case k4 => walk_at "lt"); intro H' M')
  | (refine' d_set2 ?k1 ?k2 ?k3 ?k4 ?_; (case k1 => assumption); (case k2 => walk_at "has1"); (case k3 => omega); (case k4 => walk_at "lt"); intro H' M')
  | (refine' d_set3 ?k1 ?k2 ?k3 ?k4 ?_; (case k1 => assumption); (case k2 => walk_at "has1"); (case k3 => omega); (case k4 => walk_at "lt"); intro H' M')
  | (refine' d_reverse0 ?k1 ?_; (case k1 => assumption); intro H' M')
  | (refine' d_reverse1 ?k1 ?_; (case k1 => assumption); intro H' M')
  | (refine' d_reverse2 ?k1 ?_; (case k1 => assumption); intro H' M')
  | (refine' d_clear0 ?k1 ?_; (case k1 => assumption); intro H' M')
  | (refine' d_clear1 ?k1 ?_; (case k1 => assumption); intro H' M')
  | (refine' d_clear2 ?k1 ?_; (case k1 => assumption); intro H' M')
  | (refine' d_sfld0 ?k1 ?k2 ?k3 ?k4 ?k5 ?_; (case k1 => assumption); (case k2 => walk_at "has1"); (case k3 => assumption); (case k4 => assumption); (case k5 => walk_at "few"); intro H' M')
  | (refine' d_sfld1 ?k1 ?k2 ?k3 ?k4 ?k5 ?_; (case k1 => assumption); (case k2 => walk_at "has1"); (case k3 => assumption); (case k4 => assumption); (case k5 => walk_at "few"); intro H' M')
  | (refine' d_tyL2 ?k1 ?k2 ?_; (case k1 => assumption); (case k2 => walk_at "inl"))
  | (refine' d_inIL ?k1 ?k2 ?_; (case k1 => assumption); (case k2 => walk_at "inl"))
  | (refine' d_notIL ?k1 ?k2 ?_; (case k1 => assumption); (case k2 => walk_at "inl"))
  | (refine' d_inIT ?k1 ?k2 ?_; (case k1 => assumption); (case k2 => walk_at "mem"))
  | (refine' d_notIT ?k1 ?k2 ?_; (case k1 => assumption); (case k2 => walk_at "mem"))
  | (refine' d_eqE ?k1 ?k2 ?k3 ?_; (case k1 => assumption); (case k2 => walk_at "inl"); (case k3 => walk_at "inl"))
  | (refine' d_neE ?k1 ?k2 ?k3 ?_; (case k1 => assumption); (case k2 => walk_at "inl"); (case k3 => walk_at "inl"))
  | (refine' d_eq ?k1 ?k2 ?k3 ?k4 ?k5 ?_; (case k1 => assumption); (case k2 => walk_at "kn"); (case k3 => walk_at "kn"); (case k4 => walk_at "sh"); (case k5 => walk_at "sh"))
  | (refine' d_ne ?k1 ?k2 ?k3 ?k4 ?k5 ?_; (case k1 => assumption); (case k2 => walk_at "kn"); (case k3 => walk_at "kn"); (case k4 => walk_at "sh"); (case k5 => walk_at "sh"))
  | (refine' d_inD ?k1 ?k2 ?k3 ?k4 ?k5 ?_; (case k1 => assumption); (case k2 => walk_at "kn"); (case k3 => walk_at "kn"); (case k4 => walk_at "sh"); (case k5 => walk_at "sh"))
  | (refine' d_notInD ?k1 ?k2 ?k3 ?k4 ?k5 ?_; (case k1 => assumption); (case k2 => walk_at "kn"); (case k3 => walk_at "kn"); (case k4 => walk_at "sh"); (case k5 => walk_at "sh"))
  | (refine' d_isiT ?k1 ?k2 ?k3 ?_; (case k1 => assumption); (case k2 => walk_at "mem"); (case k3 => assumption))
  | (refine' d_isiL ?k1 ?k2 ?k3 ?_; (case k1 => assumption); (case k2 => walk_at "inl"); (case k3 => assumption))
  | (refine' d_isiO ?k1 ?k2 ?k3 ?k4 ?k5 ?k6 ?k7 ?_; (case k1 => assumption); (case k2 => walk_at "mem"); (case k3 => assumption); (case k4 => assumption); (case k5 => assumption); (case k6 => assumption); (case k7 => assumption))
  | walk_at "lof"
  | (refine' d_tupOfL ?k1 ?k2 ?_; (case k1 => assumption); (case k2 => walk_at "inl"); intro p' H' M')
  | (refine' d_tupOfT ?k1 ?k2 ?_; (case k1 => assumption); (case k2 => walk_at "mem"))
  | (refine' d_tupOfQ ?k1 ?k2 ?_; (case k1 => assumption); (case k2 => walk_at "mem"); intro p' H' M')
  | (refine' d_catT ?k1 ?k2 ?k3 ?k4 ?_; (case k1 => assumption); (case k2 => walk_at "mem"); (case k3 => walk_at "mem"); (case k4 => walk_at "size"); intro p' H' M')
  | (refine' d_slL ?k1 ?k2 ?_; (case k1 => assumption); (case k2 => walk_at "inl"); intro p' H' M')
  | refine d_revL ?_
  | (refine' d_rev ?k1 ?k2 ?_; (case k1 => assumption); (case k2 => walk_at "inl"); intro p' H' M')
  | (refine' d_cat ?k1 ?k2 ?k3 ?k4 ?_; (case k1 => assumption); (case k2 => walk_at "inl"); (case k3 => walk_at "inl"); (case k4 => walk_at "size"); intro p' H' M')
  | (refine' d_all ?k1 ?k2 ?_; (case k1 => assumption); (case k2 => walk_at "inl"))
  | (refine' d_any ?k1 ?k2 ?_; (case k1 => assumption); (case k2 => walk_at "inl"))
  | (refine' d_lstAt ?k1 ?k2 ?_; (case k1 => assumption); (case k2 => walk_at "inl"))
  | (refine' d_tupAt ?k1 ?k2 ?_; (case k1 => assumption); (case k2 => walk_at "mem"))
  | (refine' d_meth ?k1 ?k2 ?k3 ?_; (case k1 => assumption); (case k2 => walk_at "mem"); (case k3 => walk_at "fld"))
  | (refine' d_ownN ?k1 ?k2 ?_; (case k1 => assumption); (case k2 => walk_at "mem"))
  | (refine' d_ownO ?k1 ?k2 ?k3 ?_; (case k1 => assumption); (case k2 => walk_at "mem"); (case k3 => walk_at "mem"))
  | (refine' d_ownEq ?k1 ?k2 ?k3 ?_; (case k1 => assumption); (case k2 => walk_at "mem"); (case k3 => walk_at "mem"))
  | (refine' d_ownIn ?k1 ?k2 ?_; (case k1 => assumption); (case k2 => walk_at "mem"))
  | (refine' d_ownU ?k1 ?k2 ?_; (case k1 => assumption); (case k2 => walk_at "mem"))
  | (refine' d_ownStr ?k1 ?k2 ?_; (case k1 => assumption); (case k2 => walk_at "mem"))
  | (refine' d_prop ?k1 ?k2 ?_; (case k1 => assumption); (case k2 => walk_at "mem"))
  | (refine' d_dnew ?k1 ?_; (case k1 => assumption); intro p' H' M')
  | refine d_din0 ?_ | refine d_dnotin0 ?_ | refine d_dget0 ?_ | refine d_dput0 ?_ | refine d_items0 ?_
  | (refine' d_din ?k1 ?k2 ?k3 ?_; (case k1 => assumption); (case k2 => walk_at "inl"); (case k3 => first | exact (rfl : V.str _ = kV (Sum.inr _)) | exact (rfl : V.int _ = kV (Sum.inl _)) | fail))
  | (refine' d_dnotin ?k1 ?k2 ?k3 ?_; (case k1 => assumption); (case k2 => walk_at "inl"); (case k3 => first | exact (rfl : V.str _ = kV (Sum.inr _)) | exact (rfl : V.int _ = kV (Sum.inl _)) | fail))
  | (refine' d_items ?k1 ?k2 ?_; (case k1 => assumption); (case k2 => walk_at "inl"); intro p' H' M')
  | (refine' d_range1 ?k1 ?_; (case k1 => assumption); intro p' H' hp' M')
  | (refine' d_listRng ?k1 ?k2 ?k3 ?k4 ?_; (case k1 => assumption); (case k2 => assumption); (case k3 => omega); (case k4 => omega); intro p' H' M')
  | walk_at "use")
local macro_rules | `(tactic| walk_at "go") => `(tactic| repeat' (walk_at "go1"))

local macro_rules | `(tactic| walk_at "hp") => `(tactic| first | assumption | fail)
local macro_rules | `(tactic| walk_at "fld") => `(tactic| first | exact fd_nil | exact fd_hd | (refine' fd_tl ?k1 ?k2; (case k1 => decide +kernel); (case k2 => walk_at "fld")) | fail)
local macro_rules | `(tactic| walk_at "size") => `(tactic| first | exact Nat.lt_of_le_of_lt (m := 50000) (by first | omega | (simp only [List.length_map, List.length_range, List.length_append, List.length_cons, List.length_nil, List.length_replicate, List.length_set, List.length_reverse]; omega)) (by decide) | exact Nat.le_trans (m := 50000) (by first | omega | (simp only [List.length_map, List.length_range, List.length_append, List.length_cons, List.length_nil, List.length_replicate, List.length_set, List.length_reverse]; omega)) (by decide) | fail)
section
variable {P : Program} {w : World} {K : PySem.W.Frag} {mg : Str → Option Value} {base : Heap} {C CO fO CE fE : Addr}
local macro_rules | `(tactic| walk_at "use") => `(tactic| with_reducible first
  | (refine' use_take ?k1 ?k2 ?k3 ?k4 ?k5 ?_; (case k1 => assumption); (case k2 => walk_at "hass"); (case k3 => assumption); (case k4 => omega); (case k5 => omega); intro d' a' b' c' H' hc' M'; obtain ⟨hd1', hd2', hb'⟩ := hc')
  | (refine' use_take1 ?k1 ?k2 ?k3 ?k4 ?k5 ?_; (case k1 => assumption); (case k2 => walk_at "hass"); (case k3 => assumption); (case k4 => omega); (case k5 => omega); intro d' a' b' c' H' hc' M'; obtain ⟨hd1', hd2', hb'⟩ := hc')
  | (refine' use_take2 ?k1 ?k2 ?k3 ?k4 ?k5 ?_; (case k1 => assumption); (case k2 => walk_at "hass"); (case k3 => assumption); (case k4 => omega); (case k5 => omega); intro d' a' b' c' H' hc' M'; obtain ⟨hd1', hd2', hb'⟩ := hc')
  | fail)
def sp_person (K : PySem.W.Frag) : Sp := fun vs H Q E => ∃ (G : Hp) (bg : Addr) (ws : List V) (cs : List Int) (a b c : Int) (last : Int) (wide : Bool), vs = .ref bg :: ws ∧ Same G H ∧ Mt K G H bg (boxD cs a b c) ∧ G bg = none ∧ AtL K G ws [.int last, .bl wide] ∧ (Box cs a b c) ∧ (0 ≤ last) ∧ (last ≤ 60) ∧ (∀ (p : Addr) (ns : List Nt) (a' b' c' : Int) H', (InR ns last ∧ ns.length ≤ 130 ∧ Box cs a' b' c') → Mm K H G [bg] ((bg, boxD cs a' b' c') :: [(p, .lst (ns.map ntD))]) [] H' → Q (.ref p) H')
theorem ok_person {f : Addr} {fd : FuncData} (F : Fun K "_law_person" "_law_person" s__law_person f fd) (T : Txt P K mg C CO fO CE fE) (c__law_take : Cal P w K mg base 1 "_law_take" (sp_take K)) (c__law_notes : Cal P w K mg base 3 "_law_notes" (sp_notes K)) (c__law_fences : Cal P w K mg base 2 "_law_fences" (sp_fences K)) :
    FnOk P w K mg base (L2.CX P w) (3 + 1) f fd ["_law_box", "_law_last", "_law_wide"] (sp_person K) := by
  refine okT F sc__law_person (fun vs H Q E h => ?_) (fun cdv A outer s H vs Q E hr tk h => ?_)
  · obtain ⟨G, bg, ws, cs, a, b, c, last, wide, rfl, _, _, _, hA, _⟩ := h
    rcases hA with _ | ⟨ha0, hA0⟩
    rcases hA0 with _ | ⟨ha1, hA1⟩
    cases hA1
    rfl
  obtain ⟨G, bg, ws, cs, a, b, c, last, wide, rfl, hsG, hmt, hgb, hA, p0, p1, p2, k⟩ := h
  have f1 := T.i1; have f2 := T.i2; have f3 := T.i3; have f4 := T.i4; have f5 := T.i5; have f6 := T.cl; have f7 := T.nc; have f8 := T.ng; have f9 := T.oa; have f10 := T.on; have f11 := T.ot; have f12 := T.om
  rcases hA with _ | ⟨ha0, hA0⟩
  rcases hA0 with _ | ⟨ha1, hA1⟩
  cases hA1
  obtain rfl := ha0.isI
  obtain rfl := ha1.isB
  have M : Mm K H G [bg] [(bg, boxD cs a b c)] [] H := Mm.start1 hsG hmt hgb (fun z hz => nomatch hz)
  refine ⟨_, (pss_cons (ps_set (i := 3) sc__law_person.nd rfl (Or.inl rfl) (c_call c__law_take tk hr (by decide) (pa_cons (pv 0) (pa_cons (pe_op op_add (pv 1) pe_int) pa_nil))))
      (pss_cons (ps_set (i := 4) sc__law_person.nd rfl (Or.inl rfl) (pe_op op_add (pv 3) (c_call c__law_take tk hr (by decide) (pa_cons (pv 0) (pa_cons (pe_op op_sub (pe_op op_add (pv 1) pe_int) (pv 3)) pa_nil)))))
      (pss_cons (ps_set (i := 5) sc__law_person.nd rfl (Or.inl rfl) (c_call c__law_notes tk hr (by decide) (pa_cons (pv 0) (pa_cons (pv 1) (pa_cons (pv 3) (pa_cons (pv 4) pa_nil))))))
      (pss_cons (ps_if (pt_val (pv 2)) (pss_one (ps_set (i := 5) sc__law_person.nd rfl (Or.inl rfl) (pe_op op_cat (pv 5) (c_call c__law_fences tk hr (by decide) (pa_cons (pv 0) (pa_cons (pv 1) (pa_cons (pv 3) (pa_cons (pv 4) pa_nil)))))))) pss_nil)
      (pss_one (ps_ret (pv 5))))))), ?_⟩
  simp only [cxK, st__law_person]
  walk_at "go"
  rename_i d1 a1 b1 c1 H1' M1 e1 e2 hbx d2 a2 b2 c2 H2' M2 e3 e4 hbx2
  clear M M1
  refine use_notes (last := last) (low := d1) (high := d1 + d2) M2 (by walk_at "hass") hbx2 p1 p2 fun p3 n3 a3 b3 c3 H3 hc3 M3 => ?_
  have hl3 := hc3.2.1
  have hl : (n3.map ntD).length = n3.length := List.length_map _
  clear M2
  cases wide with
  | false =>
    walk_at "go"
    exact k _ n3 _ _ _ _ ⟨hc3.1, by omega, hc3.2.2⟩ M3.noL.swapX
  | true =>
    walk_at "go"
    refine use_fences (last := last) (low := d1) (high := d1 + d2) M3.freeze (by walk_at "hass") hc3.2.2 p1 p2 (by omega) (by omega) (by omega) (by omega) fun p4 n4 a4 b4 c4 H4 hc4 N4 => ?_
    have M4 := N4.freeze
    have hl4 := hc4.2.1
    have hl5 : (n4.map ntD).length = n4.length := List.length_map _
    clear M3 N4
    walk_at "go"
    rename_i r8 H8 M8
    refine k _ (n3 ++ n4) _ _ _ _ ⟨InR.app hc3.1 hc4.1, by simp; omega, hc4.2.2⟩ ?_
    rw [List.map_append]
    exact M8.noL.swapX
theorem use_person {B G0 H : Hp} {ms : List Addr} {X : List (Addr × D)} {L : List (V × D)} {Q : VK} {E : XK} {ws : List V} {bg : Addr} {cs : List Int} {a b c : Int} {last : Int} {wide : Bool} (M : Mm K B G0 ms ((bg, boxD cs a b c) :: X) L H) (ha : Hs L ws [.int last, .bl wide]) (p0 : Box cs a b c) (p1 : 0 ≤ last) (p2 : last ≤ 60) (k0 : ∀ (p : Addr) (ns : List Nt) (a' b' c' : Int) H', (InR ns last ∧ ns.length ≤ 130 ∧ Box cs a' b' c') → Mm K B G0 ms ((p, .lst (ns.map ntD)) :: (bg, boxD cs a' b' c') :: X) L H' → Q (.ref p) H') : sp_person K (.ref bg :: ws) H Q E := by
  obtain ⟨G, W⟩ := M
  exact ⟨G, bg, ws, cs, a, b, c, last, wide, rfl, W.s1, W.chg (bg, boxD cs a b c) List.mem_cons_self, W.off (bg, boxD cs a b c) List.mem_cons_self, ha K G W.ok, p0, p1, p2, fun p ns a' b' c' H' hc M2 => k0 p ns a' b' c' H' hc (W.compAt (X1 := []) M2)⟩
theorem use_person1 {B G0 H : Hp} {ms : List Addr} {X : List (Addr × D)} {L : List (V × D)} {Q : VK} {E : XK} {ws : List V} {z0 : Addr × D} {bg : Addr} {cs : List Int} {a b c : Int} {last : Int} {wide : Bool} (M : Mm K B G0 ms (z0 :: (bg, boxD cs a b c) :: X) L H) (ha : Hs L ws [.int last, .bl wide]) (p0 : Box cs a b c) (p1 : 0 ≤ last) (p2 : last ≤ 60) (k0 : ∀ (p : Addr) (ns : List Nt) (a' b' c' : Int) H', (InR ns last ∧ ns.length ≤ 130 ∧ Box cs a' b' c') → Mm K B G0 ms ((p, .lst (ns.map ntD)) :: z0 :: (bg, boxD cs a' b' c') :: X) L H' → Q (.ref p) H') : sp_person K (.ref bg :: ws) H Q E := by
  obtain ⟨G, W⟩ := M
  exact ⟨G, bg, ws, cs, a, b, c, last, wide, rfl, W.s1, W.chg (bg, boxD cs a b c) (by simp), W.off (bg, boxD cs a b c) (by simp), ha K G W.ok, p0, p1, p2, fun p ns a' b' c' H' hc M2 => k0 p ns a' b' c' H' hc (W.compAt (X1 := [z0]) M2)⟩
theorem use_person2 {B G0 H : Hp} {ms : List Addr} {X : List (Addr × D)} {L : List (V × D)} {Q : VK} {E : XK} {ws : List V} {z0 z1 : Addr × D} {bg : Addr} {cs : List Int} {a b c : Int} {last : Int} {wide : Bool} (M : Mm K B G0 ms (z0 :: z1 :: (bg, boxD cs a b c) :: X) L H) (ha : Hs L ws [.int last, .bl wide]) (p0 : Box cs a b c) (p1 : 0 ≤ last) (p2 : last ≤ 60) (k0 : ∀ (p : Addr) (ns : List Nt) (a' b' c' : Int) H', (InR ns last ∧ ns.length ≤ 130 ∧ Box cs a' b' c') → Mm K B G0 ms ((p, .lst (ns.map ntD)) :: z0 :: z1 :: (bg, boxD cs a' b' c') :: X) L H' → Q (.ref p) H') : sp_person K (.ref bg :: ws) H Q E := by
  obtain ⟨G, W⟩ := M
  exact ⟨G, bg, ws, cs, a, b, c, last, wide, rfl, W.s1, W.chg (bg, boxD cs a b c) (by simp), W.off (bg, boxD cs a b c) (by simp), ha K G W.ok, p0, p1, p2, fun p ns a' b' c' H' hc M2 => k0 p ns a' b' c' H' hc (W.compAt (X1 := [z0, z1]) M2)⟩
theorem use_person3 {B G0 H : Hp} {ms : List Addr} {X : List (Addr × D)} {L : List (V × D)} {Q : VK} {E : XK} {ws : List V} {z0 z1 z2 : Addr × D} {bg : Addr} {cs : List Int} {a b c : Int} {last : Int} {wide : Bool} (M : Mm K B G0 ms (z0 :: z1 :: z2 :: (bg, boxD cs a b c) :: X) L H) (ha : Hs L ws [.int last, .bl wide]) (p0 : Box cs a b c) (p1 : 0 ≤ last) (p2 : last ≤ 60) (k0 : ∀ (p : Addr) (ns : List Nt) (a' b' c' : Int) H', (InR ns last ∧ ns.length ≤ 130 ∧ Box cs a' b' c') → Mm K B G0 ms ((p, .lst (ns.map ntD)) :: z0 :: z1 :: z2 :: (bg, boxD cs a' b' c') :: X) L H' → Q (.ref p) H') : sp_person K (.ref bg :: ws) H Q E := by
  obtain ⟨G, W⟩ := M
  exact ⟨G, bg, ws, cs, a, b, c, last, wide, rfl, W.s1, W.chg (bg, boxD cs a b c) (by simp), W.off (bg, boxD cs a b c) (by simp), ha K G W.ok, p0, p1, p2, fun p ns a' b' c' H' hc M2 => k0 p ns a' b' c' H' hc (W.compAt (X1 := [z0, z1, z2]) M2)⟩
/-- the rows of the law: what is told up to a coming and a going -/
structure RowsTo (ns : List Nt) (last c g : Int) (rs : List Pr) : Prop where
  st : rs.Pairwise Lx
  me : ∀ x, x ∈ rs ↔ (Fit ns last x ∧ (x.1 < c ∨ (x.1 = c ∧ x.2 < g)))
theorem RowsTo.start {ns : List Nt} {last : Int} : RowsTo ns last 0 0 [] := ⟨.nil, fun x => ⟨fun z => (nomatch z), fun ⟨h, z⟩ => by have := h.lo; have := h.le; omega⟩⟩
theorem RowsTo.put {ns : List Nt} {last c g : Int} {rs : List Pr} (h : RowsTo ns last c g rs) (hf : Fit ns last (c, g)) : RowsTo ns last c (g + 1) (rs ++ [(c, g)]) := by
  refine ⟨?_, fun x => ?_⟩
  · rw [List.pairwise_append]
    refine ⟨h.st, List.pairwise_singleton _ _, fun x hx y hy => ?_⟩
    rw [List.mem_singleton.mp hy]
    exact ((h.me x).mp hx).2
  · rw [List.mem_append, List.mem_singleton, h.me]
    constructor
    · rintro (⟨a, b⟩ | rfl)
      · exact ⟨a, by omega⟩
      · exact ⟨hf, .inr ⟨rfl, by show g < g + 1; omega⟩⟩
    · rintro ⟨a, b⟩
      by_cases e : x.1 = c ∧ x.2 = g
      · exact .inr (Prod.ext e.1 e.2)
      · exact .inl ⟨a, by omega⟩
theorem RowsTo.no {ns : List Nt} {last c g : Int} {rs : List Pr} (h : RowsTo ns last c g rs) (hf : ¬ Fit ns last (c, g)) : RowsTo ns last c (g + 1) rs := by
  refine ⟨h.st, fun x => ?_⟩
  rw [h.me]
  constructor
  · rintro ⟨a, b⟩
    exact ⟨a, by omega⟩
  · rintro ⟨a, b⟩
    by_cases e : x.1 = c ∧ x.2 = g
    · exact absurd (by rw [show x = (c, g) from Prod.ext e.1 e.2] at a; exact a) hf
    · exact ⟨a, by omega⟩
theorem RowsTo.next {ns : List Nt} {last c g : Int} {rs : List Pr} (h : RowsTo ns last c g rs) (hf : ∀ z, g ≤ z → ¬ Fit ns last (c, z)) : RowsTo ns last (c + 1) (c + 1) rs := by
  refine ⟨h.st, fun x => ?_⟩
  rw [h.me]
  constructor
  · rintro ⟨a, b⟩
    exact ⟨a, by omega⟩
  · rintro ⟨a, b⟩
    have := a.le
    refine ⟨a, ?_⟩
    by_cases e : x.1 = c
    · refine .inr ⟨e, ?_⟩
      by_cases k : x.2 < g
      · exact k
      · exact absurd (by rw [show x = (c, x.2) from Prod.ext e rfl] at a; exact a) (hf x.2 (by omega))
    · omega
theorem RowsTo.done {ns : List Nt} {last : Int} {rs : List Pr} (h : RowsTo ns last (last + 1) (last + 1) rs) : Lof (Fit ns last) rs := ⟨h.st, fun x => by
  rw [h.me]
  exact ⟨fun z => z.1, fun z => ⟨z, by have := z.le; have := z.hi; omega⟩⟩⟩
theorem RowsTo.len {ns : List Nt} {last c g : Int} {rs : List Pr} (h : RowsTo ns last c g rs) (h0 : 0 ≤ last) (h1 : last ≤ 60) : rs.length ≤ 3721 := by
  have hp : (rs.map fun x => x.1 * 61 + x.2).Pairwise (· < ·) := by
    rw [List.pairwise_map]
    refine List.Pairwise.imp_of_mem ?_ h.st
    intro x y hx hy hxy
    have a := ((h.me x).mp hx).1
    have b := ((h.me y).mp hy).1
    have a1 := a.lo; have a2 := a.le; have a3 := a.hi; have b1 := b.lo; have b2 := b.le; have b3 := b.hi
    rcases hxy with k | k <;> omega
  have hb : ∀ d ∈ rs.map (fun x => x.1 * 61 + x.2), 0 ≤ d ∧ d ≤ 3720 := fun d hd => by
    obtain ⟨x, hx, rfl⟩ := List.mem_map.mp hd
    have a := ((h.me x).mp hx).1
    have a1 := a.lo; have a2 := a.le; have a3 := a.hi
    constructor <;> omega
  have key : ∀ (l : List Int) (lo : Int), l.Pairwise (· < ·) → (∀ d ∈ l, lo ≤ d ∧ d ≤ 3720) → l.length ≤ (3721 - lo).toNat := by
    intro l
    induction l with
    | nil => intro lo _ _; exact Nat.zero_le _
    | cons d l ih =>
      intro lo hp hb
      rw [List.pairwise_cons] at hp
      have h1 := hb d List.mem_cons_self
      have := ih (d + 1) hp.2 fun e he => ⟨by have := hp.1 e he; omega, (hb e (List.mem_cons_of_mem _ he)).2⟩
      rw [List.length_cons]
      omega
  have := key _ 0 hp hb
  rw [List.length_map] at this
  exact this
theorem free_ext2' {ns : List Nt} {a b : Int} (h : Free ns a (b - 1)) (hd : ¬ Den ns b) : Free ns a b := by
  have := free_ext2 h (by rw [show b - 1 + 1 = b by omega]; exact hd)
  rw [show b - 1 + 1 = b by omega] at this
  exact this
def shutD (ns : List Nt) : List Int := (ns.filter (!·.2)).map (·.1)
theorem mem_shut {ns : List Nt} {d : Int} : d ∈ shutD ns ↔ Den ns d := by
  unfold shutD
  rw [List.mem_map]
  constructor
  · rintro ⟨⟨a, b⟩, h, rfl⟩
    rw [List.mem_filter] at h
    obtain ⟨h1, h2⟩ := h
    cases b with
    | true => cases h2
    | false => exact h1
  · intro h
    exact ⟨(d, false), List.mem_filter.mpr ⟨h, rfl⟩, rfl⟩
theorem fit_iff {ns : List Nt} {last c g low high : Int} (hr : InR ns last) (h1 : low ∈ last :: seenD ns) (h2 : ∀ y, y ∈ last :: seenD ns → low ≤ y) (h3 : high ∈ 0 :: seenD ns) (h4 : ∀ y, y ∈ 0 :: seenD ns → y ≤ high) (c0 : 0 ≤ c) (c1 : c ≤ g) (c2 : g ≤ last) (hf : Free ns c g) : Fit ns last (c, g) ↔ (c ≤ low ∧ high ≤ g) := by
  constructor
  · intro h
    constructor
    · rcases List.mem_cons.mp h1 with e | e
      · omega
      · exact (h.se low (mem_seen.mp e)).1
    · rcases List.mem_cons.mp h3 with e | e
      · omega
      · exact (h.se high (mem_seen.mp e)).2
  · rintro ⟨a, b⟩
    exact ⟨c0, c1, c2, hf, fun d hd => ⟨by have := h2 d (List.mem_cons_of_mem _ (mem_seen.mpr hd)); show c ≤ d; omega, by have := h4 d (List.mem_cons_of_mem _ (mem_seen.mpr hd)); show d ≤ g; omega⟩⟩
local macro_rules | `(tactic| walk_at "lst") => `(tactic| (refine' d_lstX ?k1 ?k2 ?k3 ?_; (case k1 => assumption); (case k2 => walk_at "hass"); (case k3 => walk_at "size"); intro p' H' M'))
def sp_fitting (K : PySem.W.Frag) : Sp := fun vs H Q E => ∃ (G : Hp) (ns : List Nt) (last : Int), Same G H ∧ AtL K G vs [.lst (ns.map ntD), .int last] ∧ (InR ns last) ∧ (0 ≤ last) ∧ (last ≤ 60) ∧ (ns.length ≤ 1000) ∧ (∀ (p : Addr) (rs : List Pr) H', (Lof (Fit ns last) rs ∧ rs.length ≤ 3721) → Mm K H G [] ([(p, .lst (rs.map prD))]) [] H' → Q (.ref p) H')
theorem ok_fitting {f : Addr} {fd : FuncData} (F : Fun K "_law_fitting" "_law_fitting" s__law_fitting f fd) (T : Txt P K mg C CO fO CE fE)  :
    FnOk P w K mg base (L2.CX P w) (0 + 1) f fd ["_law_notes_here", "_law_last"] (sp_fitting K) := by
  refine okT F sc__law_fitting (fun vs H Q E h => ?_) (fun cdv A outer s H vs Q E hr tk h => ?_)
  · obtain ⟨G, ns, last, _, hA, _⟩ := h
    rcases hA with _ | ⟨ha0, hA0⟩
    rcases hA0 with _ | ⟨ha1, hA1⟩
    cases hA1
    rfl
  obtain ⟨G, ns, last, hsG, hA, p0, p1, p2, p3, k⟩ := h
  have f1 := T.i1; have f2 := T.i2; have f3 := T.i3; have f4 := T.i4; have f5 := T.i5; have f6 := T.cl; have f7 := T.nc; have f8 := T.ng; have f9 := T.oa; have f10 := T.on; have f11 := T.ot; have f12 := T.om
  rcases hA with _ | ⟨ha0, hA0⟩
  rcases hA0 with _ | ⟨ha1, hA1⟩
  cases hA1
  obtain ⟨q0, rfl⟩ := ha0.refL
  obtain rfl := ha1.isI
  have M : Mm K H G [] [] [(.ref q0, .lst (ns.map ntD))] H := Mm.start hsG (fun z hz => by
    simp only [List.mem_cons, List.not_mem_nil, or_false] at hz
    rcases hz with rfl
    · exact ha0)
  refine ⟨_, (pss_cons (ps_setLc (i := 2) (own := [("_law_note", 9)]) (g := gName 9) rfl sc__law_fitting.nd rfl rfl (sw_true rfl rfl rfl (by decide +kernel)) (pi_list (pv 0)) (blkOk_by (own := [("_law_note", 9)]) (N := N__law_fitting) (sc := defScope s__law_fitting) (by decide +kernel)) (fun _ _ _ _ _ => pg_name (i := 9) sc__law_fitting.nd rfl (Or.inl rfl)) (fun _ _ _ _ _ => pts_one (pt_not (pt_val (pe_ix (ix_tup : IxR _ (rIxT K)) (pv 9) pe_int (fun _ _ => rfl))))) (fun _ _ _ _ _ => (pe_ix (ix_tup : IxR _ (rIxT K)) (pv 9) pe_int (fun _ _ => rfl))))
      (pss_cons (ps_setLc (i := 3) (own := [("_law_note", 9)]) (g := gName 9) rfl sc__law_fitting.nd rfl rfl (sw_true rfl rfl rfl (by decide +kernel)) (pi_list (pv 0)) (blkOk_by (own := [("_law_note", 9)]) (N := N__law_fitting) (sc := defScope s__law_fitting) (by decide +kernel)) (fun _ _ _ _ _ => pg_name (i := 9) sc__law_fitting.nd rfl (Or.inl rfl)) (fun _ _ _ _ _ => pts_one (pt_val (pe_ix (ix_tup : IxR _ (rIxT K)) (pv 9) pe_int (fun _ _ => rfl)))) (fun _ _ _ _ _ => (pe_ix (ix_tup : IxR _ (rIxT K)) (pv 9) pe_int (fun _ _ => rfl))))
      (pss_cons (ps_set (i := 4) sc__law_fitting.nd rfl (Or.inl rfl) (pe_callB (b_minQ rfl) (by rfl) T.b_min (by decide +kernel) (pa_cons (pe_op op_cat (pe_lst (pa_cons (pv 1) pa_nil)) (pv 3)) pa_nil)))
      (pss_cons (ps_set (i := 5) sc__law_fitting.nd rfl (Or.inl rfl) (pe_callB (b_maxQ rfl) (by rfl) T.b_max (by decide +kernel) (pa_cons (pe_op op_cat (pe_lst (pa_cons pe_int pa_nil)) (pv 3)) pa_nil)))
      (pss_cons (ps_set (i := 6) sc__law_fitting.nd rfl (Or.inl rfl) (pe_lst pa_nil))
      (pss_cons (ps_for (passes_of rfl) rfl (pi_range1 (by rfl) T.b_range (pa_cons (pe_op op_add (pv 1) pe_int) pa_nil)) (pg_name (i := 7) sc__law_fitting.nd rfl (Or.inl rfl)) (pss_one (ps_for (passes_of rfl) rfl (pi_range2 (by rfl) T.b_range (pa_cons (pv 7) (pa_cons (pe_op op_add (pv 1) pe_int) pa_nil))) (pg_name (i := 8) sc__law_fitting.nd rfl (Or.inl rfl)) (pss_cons (ps_if (pt_cmpR op_in_seq (pv 8) (pv 2) rfl) (pss_one ps_break) pss_nil)
      (pss_one (ps_if (PW.pt (pw_and (pt_cmpR op_le (pv 7) (pv 4) (nomark _)) (pw_and1 (pt_cmpR op_le (pv 5) (pv 8) (nomark _))))) (pss_one (ps_expr (pe_bm PySem.F.plainAttrs_list PySem.F.slot_list_append PySem.F.type_list_append mt_append (pv 6) (pa_cons (pe_tup (pa_cons (pv 7) (pa_cons (pv 8) pa_nil))) pa_nil)))) pss_nil))))))
      (pss_one (ps_ret (pv 6))))))))), ?_⟩
  simp only [cxK, st__law_fitting]
  have hl : (ns.map ntD).length = ns.length := List.length_map _
  walk_at "go"
  refine lcS (src_lst (ds := ns.map ntD)) M (fun i => (shutD (ns.take i)).map D.int) (fun _ _ => .inl (by walk_at "mem")) rfl ?_ ?_
  · intro i x A0 H' hi M'
    rw [hl] at hi
    have htk := take_succ' hi
    have hle : (shutD (ns.take i)).length ≤ 1000 := by
      unfold shutD
      rw [List.length_map]
      exact Nat.le_trans (List.length_filter_le _ _) (Nat.le_trans (List.length_take_le' _ _) p3)
    rw [getD_map hi] at M'
    generalize ns.getD i default = n at M' htk
    obtain ⟨px, rfl⟩ := M'.isT
    obtain ⟨n1, n2⟩ := n
    walk_at "go"
    all_goals refine ⟨rfl, ?_⟩
    cases n2 with
    | true =>
      walk_at "go"
      rw [htk, show shutD (ns.take i ++ [(n1, true)]) = shutD (ns.take i) by simp [shutD]]
      exact M'.sub (by walk_at "sub")
    | false =>
      walk_at "go"
      refine lc_add M' H1.int (by walk_at "sub") (by simp; omega) ?_
      rw [htk, show shutD (ns.take i ++ [(n1, false)]) = shutD (ns.take i) ++ [n1] by simp [shutD], List.map_append]
      rfl
  intro A1 H1' N1
  rw [hl, List.take_length] at N1
  have M1 := N1.freeze
  clear N1 M
  walk_at "go"
  refine lcS (src_lst (ds := ns.map ntD)) M1 (fun i => (seenD (ns.take i)).map D.int) (fun _ _ => .inl (by walk_at "mem")) rfl ?_ ?_
  · intro i x A0 H' hi M'
    rw [hl] at hi
    have htk := take_succ' hi
    have hle : (seenD (ns.take i)).length ≤ 1000 := by
      unfold seenD
      rw [List.length_map]
      exact Nat.le_trans (List.length_filter_le _ _) (Nat.le_trans (List.length_take_le' _ _) p3)
    rw [getD_map hi] at M'
    generalize ns.getD i default = n at M' htk
    obtain ⟨px, rfl⟩ := M'.isT
    obtain ⟨n1, n2⟩ := n
    walk_at "go"
    all_goals refine ⟨rfl, ?_⟩
    cases n2 with
    | false =>
      walk_at "go"
      rw [htk, show seenD (ns.take i ++ [(n1, false)]) = seenD (ns.take i) by simp [seenD]]
      exact M'.sub (by walk_at "sub")
    | true =>
      walk_at "go"
      refine lc_add M' H1.int (by walk_at "sub") (by simp; omega) ?_
      rw [htk, show seenD (ns.take i ++ [(n1, true)]) = seenD (ns.take i) ++ [n1] by simp [seenD], List.map_append]
      rfl
  intro A2 H2' N2
  rw [hl, List.take_length] at N2
  have M2 := N2.freeze
  clear N2 M1
  have hsl : (seenD ns).length ≤ 1000 := by
    unfold seenD
    rw [List.length_map]
    exact Nat.le_trans (List.length_filter_le _ _) p3
  walk_at "go"
  rename_i q3 H3 M3 q4 H4 M4
  refine d_minL (ns := last :: seenD ns) M4 (.inr List.mem_cons_self) (by simp) fun low hlo1 hlo2 => ?_
  have M5 := M4.dropX.dropX
  clear M2 M3 M4
  walk_at "go"
  rename_i q6 H6 M6 q7 H7 M7
  refine d_maxL (ns := 0 :: seenD ns) M7 (.inr List.mem_cons_self) (by simp) fun high hhi1 hhi2 => ?_
  have M8 := M7.dropX.dropX
  clear M5 M6 M7
  walk_at "go"
  rename_i ro H9 M9
  refine forX src_rng M9 (fun i σ' X' => ∃ (rs : List Pr) (v7 v8 v9 : Option V), σ' = [some (.ref q0), some (.int last), some (.ref A1), some (.ref A2), some (.int low), some (.int high), some (.ref ro), v7, v8, v9] ∧ X' = [(ro, .lst (rs.map prD))] ∧ RowsTo ns last i i rs) (fun _ _ _ _ => trivial) ⟨[], _, _, _, rfl, rfl, RowsTo.start⟩ ?_ ?_
  · rintro i x σ' X' H' hi ⟨rs, v7, v8, v9, rfl, rfl, hR⟩ M'
    rw [Int.zero_add] at M'
    obtain rfl := M'.isI
    walk_at "go"
    refine forX src_rng M' (fun j σ' X' => ∃ (rs : List Pr) (v8 : Option V), σ' = [some (.ref q0), some (.int last), some (.ref A1), some (.ref A2), some (.int low), some (.int high), some (.ref ro), some (.int (i : Int)), v8, v9] ∧ X' = [(ro, .lst (rs.map prD))] ∧ RowsTo ns last i ((i : Int) + j) rs ∧ Free ns i ((i : Int) + j - 1)) (fun _ _ _ _ => trivial) ⟨rs, _, rfl, rfl, by rw [show ((i : Int) + ((0 : Nat) : Int)) = i by omega]; exact hR, fun d h1 h2 => by omega⟩ ?_ ?_
    · rintro j x σ' X' H2 hj ⟨rs, v8, rfl, rfl, hR2, hF⟩ M2
      obtain rfl := M2.isI
      have hlen := hR2.len p1 p2
      walk_at "go"
      · rename_i hc
        refine ⟨_, ⟨rs, _, _, _, rfl, rfl, RowsTo.next hR2 fun z hz hf => ?_⟩, M2.sub (by walk_at "sub")⟩
        exact hf.fr _ (by show (i : Int) ≤ (i : Int) + (j : Int); omega) hz (mem_shut.mp hc)
      · rename_i h1 h2 h3 p8 H8 M8 H9' M9'
        have hF2 : Free ns i ((i : Int) + j) := free_ext2' hF (fun z => h1 (mem_shut.mpr z))
        have hfit := (fit_iff p0 hlo1 hlo2 hhi1 hhi2 (by omega) (by omega) (by omega) hF2).mpr ⟨h2, h3⟩
        refine ⟨_, ⟨rs ++ [((i : Int), (i : Int) + j)], _, rfl, rfl, by rw [show ((i : Int) + ((j + 1 : Nat) : Int)) = (i : Int) + j + 1 by omega]; exact hR2.put hfit, by rw [show ((i : Int) + ((j + 1 : Nat) : Int)) - 1 = (i : Int) + j by omega]; exact hF2⟩, ?_⟩
        rw [List.map_append]
        exact M9'.sub (by walk_at "sub")
      · rename_i h1 h2 h3
        have hF2 : Free ns i ((i : Int) + j) := free_ext2' hF (fun z => h1 (mem_shut.mpr z))
        have hfit : ¬ Fit ns last ((i : Int), (i : Int) + j) := fun z => h3 ((fit_iff p0 hlo1 hlo2 hhi1 hhi2 (by omega) (by omega) (by omega) hF2).mp z).2
        exact ⟨_, ⟨rs, _, rfl, rfl, by rw [show ((i : Int) + ((j + 1 : Nat) : Int)) = (i : Int) + j + 1 by omega]; exact hR2.no hfit, by rw [show ((i : Int) + ((j + 1 : Nat) : Int)) - 1 = (i : Int) + j by omega]; exact hF2⟩, M2.sub (by walk_at "sub")⟩
      · rename_i h1 h2
        have hF2 : Free ns i ((i : Int) + j) := free_ext2' hF (fun z => h1 (mem_shut.mpr z))
        have hfit : ¬ Fit ns last ((i : Int), (i : Int) + j) := fun z => h2 ((fit_iff p0 hlo1 hlo2 hhi1 hhi2 (by omega) (by omega) (by omega) hF2).mp z).1
        exact ⟨_, ⟨rs, _, rfl, rfl, by rw [show ((i : Int) + ((j + 1 : Nat) : Int)) = (i : Int) + j + 1 by omega]; exact hR2.no hfit, by rw [show ((i : Int) + ((j + 1 : Nat) : Int)) - 1 = (i : Int) + j by omega]; exact hF2⟩, M2.sub (by walk_at "sub")⟩
    · rintro σ' X' H2 ⟨rs, v8, rfl, rfl, hR2, hF⟩ M2
      refine ⟨_, ⟨rs, _, _, _, rfl, rfl, RowsTo.next hR2 fun z hz hf => ?_⟩, M2.sub (by walk_at "sub")⟩
      have h9 : z ≤ last := hf.hi
      omega
  · rintro σ' X' H' ⟨rs, v7, v8, v9, rfl, rfl, hR⟩ M'
    rw [show (((last + 1).toNat : Nat) : Int) = last + 1 by omega] at hR
    walk_at "go"
    exact k _ rs _ ⟨hR.done, hR.len p1 p2⟩ M'.noL
theorem use_fitting {B G0 H : Hp} {ms : List Addr} {X : List (Addr × D)} {L : List (V × D)} {Q : VK} {E : XK} {ws : List V} {ns : List Nt} {last : Int} (M : Mm K B G0 ms X L H) (ha : Hs L ws [.lst (ns.map ntD), .int last]) (p0 : InR ns last) (p1 : 0 ≤ last) (p2 : last ≤ 60) (p3 : ns.length ≤ 1000) (k0 : ∀ (p : Addr) (rs : List Pr) H', (Lof (Fit ns last) rs ∧ rs.length ≤ 3721) → Mm K B G0 ms ((p, .lst (rs.map prD)) :: X) L H' → Q (.ref p) H') : sp_fitting K ws H Q E := by
  obtain ⟨G, W⟩ := M
  exact ⟨G, ns, last, W.s1, ha K G W.ok, p0, p1, p2, p3, fun p rs H' hc M2 => k0 p rs H' hc (W.comp M2)⟩
end
end K20

set_option Elab.async false
set_option linter.all false
set_option maxRecDepth 100000
set_option maxHeartbeats 8000000
namespace K20
open PySem L2 MyL
local macro_rules | `(tactic| walk_at "sub") => `(tactic| first | exact sub_nil | exact sub_self | (refine' sub_cons ?k1 ?k2; (case k1 => walk_at "mem"); (case k2 => walk_at "sub")) | (refine' sub_app ?k1 ?k2; (case k1 => walk_at "sub"); (case k2 => walk_at "sub")) | (refine sub_tail ?_; walk_at "sub") | fail)
local macro_rules | `(tactic| walk_at "mem") => `(tactic| first | exact List.mem_cons_self | (refine List.mem_cons_of_mem _ ?_; walk_at "mem") | (refine List.mem_append_right _ ?_; walk_at "mem") | (refine List.mem_append_left _ ?_; walk_at "mem") | assumption | fail)
local macro_rules | `(tactic| walk_at "inl") => `(tactic| first | (refine Or.inl ?_; walk_at "mem") | (refine Or.inr ?_; walk_at "mem") | fail)
local macro_rules | `(tactic| walk_at "has1") => `(tactic| first | exact H1.int | exact H1.str | exact H1.bl | exact H1.non | exact H1.mem (by walk_at "mem") | assumption | fail)
local macro_rules | `(tactic| walk_at "hass") => `(tactic| first | exact Hs.nil | (refine' Hs.cons ?k1 ?k2; (case k1 => walk_at "has1"); (case k2 => walk_at "hass")) | exact Hs.ints _ | assumption | fail)
local macro_rules | `(tactic| walk_at "kn") => `(tactic| first | (refine Or.inl ?_; walk_at "has1") | (refine Or.inr ⟨_, _, rfl, rfl, ?_⟩; walk_at "mem") | fail)
local macro_rules | `(tactic| walk_at "sh") => `(tactic| first | exact Sh.int | exact Sh.bl | exact Sh.non | exact Sh.str (by decide) | assumption | (refine Sh.tupM ?_; intro x' hx'; walk_at "sh") | (refine Sh.lstM ?_; intro x' hx'; walk_at "sh") | (refine Sh.tup ?_; walk_at "shs") | (refine Sh.lst ?_; walk_at "shs") | fail)
local macro_rules | `(tactic| walk_at "shs") => `(tactic| first | exact Sh.nil | (refine' Sh.cons ?k1 ?k2; (case k1 => walk_at "sh"); (case k2 => walk_at "shs")) | fail)
local macro_rules | `(tactic| walk_at "lt") => `(tactic| first | omega | (simp only [List.length_map, List.length_range, List.length_append, List.length_cons, List.length_nil, List.length_replicate, List.length_set]; omega) | fail)
local macro_rules | `(tactic| walk_at "few") => `(tactic| first | decide | simp | fail)
local macro_rules | `(tactic| walk_at "lof") => `(tactic| (refine' d_listI ?k1 ?k2 ?_; (case k1 => assumption); (case k2 => first | (refine Or.inl ?_; walk_at "inl") | (refine Or.inr ?_; walk_at "mem") | fail); intro p' H' M'))
local macro_rules | `(tactic| walk_at "lst") => `(tactic| (refine' d_lst ?k1 ?k2 ?k3 ?_; (case k1 => assumption); (case k2 => walk_at "hass"); (case k3 => walk_at "size"); intro p' H' M'))
local macro_rules | `(tactic| walk_at "cond") => `(tactic| first | omega | assumption | exact mulR (by omega) (by omega) | exact mulL (by omega) (by omega) | exact divW (by omega) (by omega) | decide)
local macro_rules | `(tactic| walk_at "look") => `(tactic| first | assumption | with_unfolding_all rfl | exact atI_mapI (by omega) (by omega) | exact atI_mapL (by omega) (by omega) | exact atI_mapD (by omega) (by omega) | fail)
local macro_rules | `(tactic| walk_at "go1") => `(tactic| with_reducible first
  | refine k_yes ?_ | refine k_seq ?_ | refine k_gName ?_ | refine k_asg ?_ | refine k_ret ?_ | refine k_ifS ?_ | refine k_drop ?_ | refine k_next ?_ | refine k_break ?_ | refine k_cont ?_ | refine k_retN ?_
  | (refine' k_var ?k1 ?_; (case k1 => with_unfolding_all rfl)) | refine k_c ?_ | refine k_op ?_ | refine k_un ?_ | refine k_test ?_ | refine k_B ?_ | refine k_bl ?_ | refine k_and ?_ | refine k_or ?_ | refine k_not ?_
  | refine k_andV ?_ | refine k_orV ?_ | refine k_notV ?_ | refine k_ifE ?_ | refine k_nil ?_ | refine k_cons ?_ | refine k_cb ?_ | refine k_callS ?_ | refine k_lst0 ?_ | refine k_tup0 ?_ | refine k_fld0 ?_ | refine k_sub0 ?_ | refine k_make0 ?_ | refine k_prop0 ?_ | refine k_sta0 ?_ | refine k_sta ?_ | refine k_bm ?_ | refine k_bm0 ?_ | refine k_chain ?_ | refine k_makeK0 ?_ | refine k_swapK ?_ | refine k_meth0 ?_ | refine k_ownN0 ?_ | refine k_ownO0 ?_ | refine k_sfldS ?_ | refine k_jnil ?_ | refine k_jcons ?_ | refine k_fmt0 ?_ | refine k_sl0 ?_ | refine k_nopart ?_ | refine k_part ?_ | refine k_forR1 ?_ | refine k_forR2 ?_ | refine k_forL ?_ | refine k_forT ?_ | refine k_lcR1 ?_ | refine k_lc2R1 ?_ | refine k_lc2R2 ?_ | refine k_lc2L ?_ | refine k_lc2T ?_ | refine k_iR1 ?_ | refine k_iR2 ?_ | refine k_iL ?_ | refine k_iT ?_ | refine k_lcR2 ?_ | refine k_lcL ?_ | refine k_lcT ?_ | refine k_err0 ?_ | refine k_xf0 ?_ | refine k_errQ1 ?_ | refine k_errQ0 ?_ | refine k_errQ2 ?_ | refine k_errQ3 ?_
  | refine k_I0 ?_ | (refine k_I ?k1 ?_; (case k1 => walk_at "cond")) | refine k_U ?_ | refine k_eqI ?_ | refine k_neI ?_ | refine k_eqB ?_ | refine k_neB ?_ | refine k_eqS ?_ | refine k_neS ?_
  | refine k_int1 ?_ | refine k_abs1 ?_ | refine k_min2 ?_ | refine k_max2 ?_
  | (refine' k_lenS ?k1 ?_; (case k1 => assumption)) | (refine' k_ixS ?k1 ?k2 ?_; (case k1 => assumption); (case k2 => walk_at "look"))
  | refine iteT ?_ | refine iteF ?_ | refine k_iteNE ?_ | refine k_iteNS ?_ | refine k_iteNT ?_ | refine k_iteNF ?_
  | (refine k_iteD ?_ ?_ <;> intro hc <;> first | (exfalso; omega) | skip)
  | (refine k_iteN ?_ ?_ <;> intro hc <;> first | (exfalso; omega) | skip)
  | (refine' k_isiI ?k1 ?_; (case k1 => assumption))
  | (refine' k_jst ?k1 ?_; (case k1 => walk_at "size")) | (refine' k_fmtI ?k1 ?_; (case k1 => exact log2_64 (by omega) (by omega))) | (refine' k_strI ?k1 ?_; (case k1 => exact log2_64 (by omega) (by omega)))
  | (refine k_addS ?k1 ?_; (case k1 => walk_at "size")) | refine k_st ?_ | refine k_parti ?_
  | (refine k_rng1 ?k1 ?k2 ?_; (case k1 => omega); (case k2 => omega)) | (refine k_rng2 ?k1 ?k2 ?k3 ?k4 ?_; (case k1 => omega); (case k2 => omega); (case k3 => omega); (case k4 => omega))
  | (refine' k_isXs ?k1 ?k2 ?_; (case k1 => assumption); (case k2 => walk_at "hp")) | (refine' k_isXo ?k1 ?k2 ?k3 ?_; (case k1 => assumption); (case k2 => walk_at "hp"); (case k3 => assumption)) | (refine' k_isXt ?k1 ?k2 ?k3 ?_; (case k1 => assumption); (case k2 => walk_at "hp"); (case k3 => assumption))
  | (refine' k_isX3 ?k1 ?k2 ?k3 ?k4 ?_; (case k1 => assumption); (case k2 => walk_at "hp"); (case k3 => walk_at "hp"); (case k4 => assumption)) | (refine' k_isX2 ?k1 ?k2 ?k3 ?k4 ?_; (case k1 => assumption); (case k2 => walk_at "hp"); (case k3 => walk_at "hp"); (case k4 => assumption))
  | (refine' k_isX0s ?k1 ?_; (case k1 => assumption)) | (refine' k_isX0o ?k1 ?k2 ?_; (case k1 => assumption); (case k2 => assumption)) | (refine' k_isX0t ?k1 ?k2 ?_; (case k1 => assumption); (case k2 => assumption)) | (refine' k_isX04 ?k1 ?k2 ?k3 ?_; (case k1 => assumption); (case k2 => walk_at "hp"); (case k3 => assumption))
  | (refine' k_isX4 ?k1 ?k2 ?k3 ?k4 ?_; (case k1 => assumption); (case k2 => walk_at "hp"); (case k3 => walk_at "hp"); (case k4 => assumption)) | (refine' k_ixT2 ?k1 ?k2 ?k3 ?_; (case k1 => walk_at "hp"); (case k2 => omega); (case k3 => omega); intro n' hn')
  | (refine k_iteNEq ?k1 ?_; (case k1 => (rw [Bool.eq_iff_iff]; first | (simp; done) | (simp; omega))))
  | (refine' k_xf ?k1 ?k2 ?_; (case k1 => walk_at "hp"); (case k2 => first | exact xd1 | exact xdH | exact xd2 (by decide +kernel)))
  | (refine' k_caught ?k1 ?_; (case k1 => assumption); intro a' ha')
  | refine k_asgT ?_ | refine k_gCons ?_ | refine k_gNil ?_ | refine k_par ?_ | refine k_two ?_ | refine k_isNn ?_ | refine k_isNi ?_ | refine k_notNn ?_ | refine k_notNi ?_ | refine k_isN ?_ | refine k_notN ?_
  | (refine' k_xfB ?k1 ?k2 ?_; (case k1 => walk_at "hp"); (case k2 => first | exact xd1 | exact xdH | exact xd2 (by decide +kernel)))
  | (refine' d_ixLI ?k1 ?k2 ?k3 ?_; (case k1 => assumption); (case k2 => walk_at "inl"); (case k3 => walk_at "look"))
  | (refine' d_ixLS ?k1 ?k2 ?k3 ?_; (case k1 => assumption); (case k2 => walk_at "inl"); (case k3 => walk_at "look"))
  | (refine' d_ixLB ?k1 ?k2 ?k3 ?_; (case k1 => assumption); (case k2 => walk_at "inl"); (case k3 => walk_at "look"))
  | (refine' d_ixL ?k1 ?k2 ?k3 ?_; (case k1 => assumption); (case k2 => walk_at "inl"); (case k3 => walk_at "look"); intro v' M'; first | (have e' := Mm.isI M'; subst e') | (have e' := Mm.isS M'; subst e') | (have e' := Mm.isB M'; subst e') | (have e' := Mm.isN M'; subst e') | (obtain ⟨p', e'⟩ := Mm.isT M'; subst e') | (obtain ⟨p', e'⟩ := Mm.isL M'; subst e') | (obtain ⟨p', e'⟩ := Mm.isO M'; subst e') | skip)
  | (refine' d_ixTI ?k1 ?k2 ?k3 ?_; (case k1 => assumption); (case k2 => walk_at "mem"); (case k3 => walk_at "look"))
  | (refine' d_ixTS ?k1 ?k2 ?k3 ?_; (case k1 => assumption); (case k2 => walk_at "mem"); (case k3 => walk_at "look"))
  | (refine' d_ixTB ?k1 ?k2 ?k3 ?_; (case k1 => assumption); (case k2 => walk_at "mem"); (case k3 => walk_at "look"))
  | (refine' d_ixT ?k1 ?k2 ?k3 ?_; (case k1 => assumption); (case k2 => walk_at "mem"); (case k3 => walk_at "look"); intro v' M'; first | (have e' := Mm.isI M'; subst e') | (have e' := Mm.isS M'; subst e') | (have e' := Mm.isB M'; subst e') | (have e' := Mm.isN M'; subst e') | (obtain ⟨p', e'⟩ := Mm.isT M'; subst e') | (obtain ⟨p', e'⟩ := Mm.isL M'; subst e') | (obtain ⟨p', e'⟩ := Mm.isO M'; subst e') | skip)
  | (refine' d_ixc2 ?k1 ?k2 ?k3 ?k4 ?_; (case k1 => assumption); (case k2 => walk_at "inl"); (case k3 => omega); (case k4 => omega); intro n' hn')
  | (refine' d_ixc3 ?k1 ?k2 ?k3 ?k4 ?_; (case k1 => assumption); (case k2 => walk_at "inl"); (case k3 => omega); (case k4 => omega); intro n' hn')
  | (refine' d_ixc4 ?k1 ?k2 ?k3 ?k4 ?_; (case k1 => assumption); (case k2 => walk_at "inl"); (case k3 => omega); (case k4 => omega); intro n' hn')
  | (refine' d_ixc5 ?k1 ?k2 ?k3 ?k4 ?_; (case k1 => assumption); (case k2 => walk_at "inl"); (case k3 => omega); (case k4 => omega); intro n' hn')
  | (refine' d_ixc6 ?k1 ?k2 ?k3 ?k4 ?_; (case k1 => assumption); (case k2 => walk_at "inl"); (case k3 => omega); (case k4 => omega); intro n' hn')
  | (refine' d_ixc7 ?k1 ?k2 ?k3 ?k4 ?_; (case k1 => assumption); (case k2 => walk_at "inl"); (case k3 => omega); (case k4 => omega); intro n' hn')
  | (refine' d_ixc8 ?k1 ?k2 ?k3 ?k4 ?_; (case k1 => assumption); (case k2 => walk_at "inl"); (case k3 => omega); (case k4 => omega); intro n' hn')
  | (refine' d_ixc9 ?k1 ?k2 ?k3 ?k4 ?_; (case k1 => assumption); (case k2 => walk_at "inl"); (case k3 => omega); (case k4 => omega); intro n' hn')
  | (refine' d_lenL ?k1 ?k2 ?_; (case k1 => assumption); (case k2 => walk_at "inl"))
  | (refine' d_lenT ?k1 ?k2 ?_; (case k1 => assumption); (case k2 => walk_at "mem"))
  | (refine' d_lenQ ?k1 ?k2 ?_; (case k1 => assumption); (case k2 => walk_at "mem"))
  | (refine' d_lst0 ?k1 ?_; (case k1 => assumption); intro p' H' M')
  | (refine' d_tup ?k1 ?k2 ?k3 ?_; (case k1 => assumption); (case k2 => walk_at "hass"); (case k3 => walk_at "size"); intro p' H' M')
  | (refine' d_tupR ?k1 ?k2 ?_; (case k1 => assumption); (case k2 => walk_at "size"); intro p' H' hp' M')
  | walk_at "lst"
  | (refine' d_fldI ?k1 ?k2 ?k3 ?k4 ?k5 ?_; (case k1 => assumption); (case k2 => walk_at "mem"); (case k3 => assumption); (case k4 => assumption); (case k5 => walk_at "fld"))
  | (refine' d_fld ?k1 ?k2 ?k3 ?k4 ?k5 ?_; (case k1 => assumption); (case k2 => walk_at "mem"); (case k3 => assumption); (case k4 => assumption); (case k5 => walk_at "fld"); intro v' M'; first | (have e' := Mm.isI M'; subst e') | (have e' := Mm.isS M'; subst e') | (have e' := Mm.isB M'; subst e') | (have e' := Mm.isN M'; subst e') | (obtain ⟨p', e'⟩ := Mm.isT M'; subst e') | (obtain ⟨p', e'⟩ := Mm.isL M'; subst e') | (obtain ⟨p', e'⟩ := Mm.isO M'; subst e') | skip)
  | (refine' d_fldX0 ?k1 ?k2 ?k3 ?k4 ?_; (case k1 => assumption); (case k2 => assumption); (case k3 => assumption); (case k4 => walk_at "fld"); intro v' M'; first | (have e' := Mm.isI M'; subst e') | (have e' := Mm.isS M'; subst e') | (have e' := Mm.isB M'; subst e') | (have e' := Mm.isN M'; subst e') | (obtain ⟨p', e'⟩ := Mm.isT M'; subst e') | (obtain ⟨p', e'⟩ := Mm.isL M'; subst e') | (obtain ⟨p', e'⟩ := Mm.isO M'; subst e') | skip)
  | (refine' d_fldX1 ?k1 ?k2 ?k3 ?k4 ?_; (case k1 => assumption); (case k2 => assumption); (case k3 => assumption); (case k4 => walk_at "fld"); intro v' M'; first | (have e' := Mm.isI M'; subst e') | (have e' := Mm.isS M'; subst e') | (have e' := Mm.isB M'; subst e') | (have e' := Mm.isN M'; subst e') | (obtain ⟨p', e'⟩ := Mm.isT M'; subst e') | (obtain ⟨p', e'⟩ := Mm.isL M'; subst e') | (obtain ⟨p', e'⟩ := Mm.isO M'; subst e') | skip)
  | (refine' d_gT2I ?k1 ?k2 ?k3 ?_; (case k1 => assumption); (case k2 => walk_at "mem"); (case k3 => with_unfolding_all rfl))
  | (refine' d_gT2 ?k1 ?k2 ?k3 ?_; (case k1 => assumption); (case k2 => walk_at "mem"); (case k3 => with_unfolding_all rfl); intro v1' v2' M'; (first | (have e' := Mm.isI M'; subst e') | (have e' := Mm.isS M'; subst e') | (have e' := Mm.isB M'; subst e') | (have e' := Mm.isN M'; subst e') | (obtain ⟨p', e'⟩ := Mm.isT M'; subst e') | (obtain ⟨p', e'⟩ := Mm.isL M'; subst e') | (obtain ⟨p', e'⟩ := Mm.isO M'; subst e') | skip); (first | (have e' := Mm.isI (Mm.dropL M'); subst e') | (have e' := Mm.isS (Mm.dropL M'); subst e') | (have e' := Mm.isB (Mm.dropL M'); subst e') | (have e' := Mm.isN (Mm.dropL M'); subst e') | (obtain ⟨p2', e'⟩ := Mm.isT (Mm.dropL M'); subst e') | (obtain ⟨p2', e'⟩ := Mm.isL (Mm.dropL M'); subst e') | (obtain ⟨p2', e'⟩ := Mm.isO (Mm.dropL M'); subst e') | skip))
  | (refine' d_gT3 ?k1 ?k2 ?k3 ?_; (case k1 => assumption); (case k2 => walk_at "mem"); (case k3 => with_unfolding_all rfl); intro v1' v2' v3' M'; (first | (have e' := Mm.isI M'; subst e') | (have e' := Mm.isS M'; subst e') | (have e' := Mm.isB M'; subst e') | (have e' := Mm.isN M'; subst e') | (obtain ⟨p', e'⟩ := Mm.isT M'; subst e') | (obtain ⟨p', e'⟩ := Mm.isL M'; subst e') | (obtain ⟨p', e'⟩ := Mm.isO M'; subst e') | skip); (first | (have e' := Mm.isI (Mm.dropL M'); subst e') | (have e' := Mm.isS (Mm.dropL M'); subst e') | (have e' := Mm.isB (Mm.dropL M'); subst e') | (have e' := Mm.isN (Mm.dropL M'); subst e') | (obtain ⟨p2', e'⟩ := Mm.isT (Mm.dropL M'); subst e') | (obtain ⟨p2', e'⟩ := Mm.isL (Mm.dropL M'); subst e') | (obtain ⟨p2', e'⟩ := Mm.isO (Mm.dropL M'); subst e') | skip); (first | (have e' := Mm.isI (Mm.dropL (Mm.dropL M')); subst e') | (have e' := Mm.isS (Mm.dropL (Mm.dropL M')); subst e') | (have e' := Mm.isB (Mm.dropL (Mm.dropL M')); subst e') | (have e' := Mm.isN (Mm.dropL (Mm.dropL M')); subst e') | (obtain ⟨p3', e'⟩ := Mm.isT (Mm.dropL (Mm.dropL M')); subst e') | (obtain ⟨p3', e'⟩ := Mm.isL (Mm.dropL (Mm.dropL M')); subst e') | (obtain ⟨p3', e'⟩ := Mm.isO (Mm.dropL (Mm.dropL M')); subst e') | skip))
  | (refine' d_app0 ?k1 ?k2 ?k3 ?_; (case k1 => assumption); (case k2 => walk_at "has1"); (case k3 => walk_at "size"); intro H' M')
  | (refine' d_app1 ?k1 ?k2 ?k3 ?_; (case k1 => assumption); (case k2 => walk_at "has1"); (case k3 => walk_at "size"); intro H' M')
  | (refine' d_app2 ?k1 ?k2 ?k3 ?_; (case k1 => assumption); (case k2 => walk_at "has1"); (case k3 => walk_at "size"); intro H' M')
  | (refine' d_app3 ?k1 ?k2 ?k3 ?_; (case k1 => assumption); (case k2 => walk_at "has1"); (case k3 => walk_at "size"); intro H' M')
  | (refine' d_set0 ?k1 ?k2 ?k3 ?k4 ?_; (case k1 => assumption); (case k2 => walk_at "has1"); (case k3 => omega); (case k4 => walk_at "lt"); intro H' M')
  | (refine' d_set1 ?k1 ?k2 ?k3 ?k4 ?_; (case k1 => assumption); (case k2 => walk_at "has1"); (case k3 => omega); (case k4 => walk_at "lt"); intro H' M')
  | (refine' d_set2 ?k1 ?k2 ?k3 ?k4 ?_; (case k1 => assumption); (case k2 => walk_at "has1"); (case k3 => omega); (case k4 => walk_at "lt"); intro H' M')
  | (refine' d_set3 ?k1 ?k2 ?k3 ?k4 ?_; (case k1 => assumption); (case k2 => walk_at "has1"); (case k3 => omega); (case k4 => walk_at "lt"); intro H' M')
  | (refine' d_reverse0 ?k1 ?_; (case k1 => assumption); intro H' M')
  | (refine' d_reverse1 ?k1 ?_; (case k1 => assumption); intro H' M')
  | (refine' d_reverse2 ?k1 ?_; (case k1 => assumption); intro H' M')
  | (refine' d_clear0 ?k1 ?_; (case k1 => assumption); intro H' M')
  | (refine' d_clear1 ?k1 ?_; (case k1 => assumption); intro H' M')
  | (refine' d_clear2 ?k1 ?_; (case k1 => assumption); intro H' M')
  | (refine' d_sfld0 ?k1 ?k2 ?k3 ?k4 ?k5 ?_; (case k1 => assumption); (case k2 => walk_at "has1"); (case k3 => assumption); (case k4 => assumption); (case k5 => walk_at "few"); intro H' M')
  | (refine' d_sfld1 ?k1 ?k2 ?k3 ?k4 ?k5 ?_; (case k1 => assumption); (case k2 => walk_at "has1"); (case k3 => assumption); (case k4 => assumption); (case k5 => walk_at "few"); intro H' M')
  | (refine' d_tyL2 ?k1 ?k2 ?_; (case k1 => assumption); (case k2 => walk_at "inl"))
  | (refine' d_inIL ?k1 ?k2 ?_; (case k1 => assumption); (case k2 => walk_at "inl"))
  | (refine' d_notIL ?k1 ?k2 ?_; (case k1 => assumption); (case k2 => walk_at "inl"))
  | (refine' d_inIT ?k1 ?k2 ?_; (case k1 => assumption); (case k2 => walk_at "mem"))
  | (refine' d_notIT ?k1 ?k2 ?_; (case k1 => assumption); (case k2 => walk_at "mem"))
  | (refine' d_eqE ?k1 ?k2 ?k3 ?_; (case k1 => assumption); (case k2 => walk_at "inl"); (case k3 => walk_at "inl"))
  | (refine' d_neE ?k1 ?k2 ?k3 ?_; (case k1 => assumption); (case k2 => walk_at "inl"); (case k3 => walk_at "inl"))
  | (refine' d_eq ?k1 ?k2 ?k3 ?k4 ?k5 ?_; (case k1 => assumption); (case k2 => walk_at "kn"); (case k3 => walk_at "kn"); (case k4 => walk_at "sh"); (case k5 => walk_at "sh"))
  | (refine' d_ne ?k1 ?k2 ?k3 ?k4 ?k5 ?_; (case k1 => assumption); (case k2 => walk_at "kn"); (case k3 => walk_at "kn"); (case k4 => walk_at "sh"); (case k5 => walk_at "sh"))
  | (refine' d_inD ?k1 ?k2 ?k3 ?k4 ?k5 ?_; (case k1 => assumption); (case k2 => walk_at "kn"); (case k3 => walk_at "kn"); (case k4 => walk_at "sh"); (case k5 => walk_at "sh"))
  | (refine' d_notInD ?k1 ?k2 ?k3 ?k4 ?k5 ?_; (case k1 => assumption); (case k2 => walk_at "kn"); (case k3 => walk_at "kn"); (case k4 => walk_at "sh"); (case k5 => walk_at "sh"))
  | (refine' d_isiT ?k1 ?k2 ?k3 ?_; (case k1 => assumption); (case k2 => walk_at "mem"); (case k3 => assumption))
  | (refine' d_isiL ?k1 ?k2 ?k3 ?_; (case k1 => assumption); (case k2 => walk_at "inl"); (case k3 => assumption))
  | (refine' d_isiO ?k1 ?k2 ?k3 ?k4 ?k5 ?k6 ?k7 ?_; (case k1 => assumption); (case k2 => walk_at "mem"); (case k3 => assumption); (case k4 => assumption); (case k5 => assumption); (case k6 => assumption); (case k7 => assumption))
  | walk_at "lof"
  | (refine' d_tupOfL ?k1 ?k2 ?_; (case k1 => assumption); (case k2 => walk_at "inl"); intro p' H' M')
  | (refine' d_tupOfT ?k1 ?k2 ?_; (case k1 => assumption); (case k2 => walk_at "mem"))
  | (refine' d_tupOfQ ?k1 ?k2 ?_; (case k1 => assumption); (case k2 => walk_at "mem"); intro p' H' M')
  | (refine' d_catT ?k1 ?k2 ?k3 ?k4 ?_; (case k1 => assumption); (case k2 => walk_at "mem"); (case k3 => walk_at "mem"); (case k4 => walk_at "size"); intro p' H' M')
  | (refine' d_slL ?k1 ?k2 ?_; (case k1 => assumption); (case k2 => walk_at "inl"); intro p' H' M')
  | refine d_revL ?_
  | (refine' d_rev ?k1 ?k2 ?_; (case k1 => assumption); (case k2 => walk_at "inl"); intro p' H' M')
  | (refine' d_cat ?k1 ?k2 ?k3 ?k4 ?_; (case k1 => assumption); (case k2 => walk_at "inl"); (case k3 => walk_at "inl"); (case k4 => walk_at "size"); intro p' H' M')
  | (refine' d_all ?k1 ?k2 ?_; (case k1 => assumption); (case k2 => walk_at "inl"))
  | (refine' d_any ?k1 ?k2 ?_; (case k1 => assumption); (case k2 => walk_at "inl"))
  | (refine' d_lstAt ?k1 ?k2 ?_; (case k1 => assumption); (case k2 => walk_at "inl"))
  | (refine' d_tupAt ?k1 ?k2 ?_; (case k1 => assumption); (case k2 => walk_at "mem"))
  | (refine' d_meth ?k1 ?k2 ?k3 ?_; (case k1 => assumption); (case k2 => walk_at "mem"); (case k3 => walk_at "fld"))
  | (refine' d_ownN ?k1 ?k2 ?_; (case k1 => assumption); (case k2 => walk_at "mem"))
  | (refine' d_ownO ?k1 ?k2 ?k3 ?_; (case k1 => assumption); (case k2 => walk_at "mem"); (case k3 => walk_at "mem"))
  | (refine' d_ownEq ?k1 ?k2 ?k3 ?_; (case k1 => assumption); (case k2 => walk_at "mem"); (case k3 => walk_at "mem"))
  | (refine' d_ownIn ?k1 ?k2 ?_; (case k1 => assumption); (case k2 => walk_at "mem"))
  | (refine' d_ownU ?k1 ?k2 ?_; (case k1 => assumption); (case k2 => walk_at "mem"))
  | (refine' d_ownStr ?k1 ?k2 ?_; (case k1 => assumption); (case k2 => walk_at "mem"))
  | (refine' d_prop ?k1 ?k2 ?_; (case k1 => assumption); (case k2 => walk_at "mem"))
  | (refine' d_dnew ?k1 ?_; (case k1 => assumption); intro p' H' M')
  | refine d_din0 ?_ | refine d_dnotin0 ?_ | refine d_dget0 ?_ | refine d_dput0 ?_ | refine d_items0 ?_
  | (refine' d_din ?k1 ?k2 ?k3 ?_; (case k1 => assumption); (case k2 => walk_at "inl"); (case k3 => first | exact (rfl : V.str _ = kV (Sum.inr _)) | exact (rfl : V.int _ = kV (Sum.inl _)) | fail))
  | (refine' d_dnotin ?k1 ?k2 ?k3 ?_; (case k1 => assumption); (case k2 => walk_at "inl"); (case k3 => first | exact (rfl : V.str _ = kV (Sum.inr _)) | exact (rfl : V.int _ = kV (Sum.inl _)) | fail))
  | (refine' d_items ?k1 ?k2 ?_; (case k1 => assumption); (case k2 => walk_at "inl"); intro p' H' M')
  | (refine' d_range1 ?k1 ?_; (case k1 => assumption); intro p' H' hp' M')
  | (refine' d_listRng ?k1 ?k2 ?k3 ?k4 ?_; (case k1 => assumption); (case k2 => assumption); (case k3 => omega); (case k4 => omega); intro p' H' M')
  | walk_at "use")
local macro_rules | `(tactic| walk_at "go") => `(tactic| repeat' (walk_at "go1"))

local macro_rules | `(tactic| walk_at "hp") => `(tactic| first | assumption | fail)
local macro_rules | `(tactic| walk_at "fld") => `(tactic| first | exact fd_nil | exact fd_hd | (refine' fd_tl ?k1 ?k2; (case k1 => decide +kernel); (case k2 => walk_at "fld")) | fail)
local macro_rules | `(tactic| walk_at "size") => `(tactic| first | exact Nat.lt_of_le_of_lt (m := 50000) (by first | omega | (simp only [List.length_map, List.length_range, List.length_append, List.length_cons, List.length_nil, List.length_replicate, List.length_set, List.length_reverse]; omega)) (by decide) | exact Nat.le_trans (m := 50000) (by first | omega | (simp only [List.length_map, List.length_range, List.length_append, List.length_cons, List.length_nil, List.length_replicate, List.length_set, List.length_reverse]; omega)) (by decide) | fail)
section
variable {P : Program} {w : World} {K : PySem.W.Frag} {mg : Str → Option Value} {base : Heap} {C CO fO CE fE : Addr}
local macro_rules | `(tactic| walk_at "use") => `(tactic| with_reducible first
  | (refine' d_tnew ?k1 ?_; (case k1 => assumption); intro p' H' M')
  | (refine' d_tput ?k1 ?k2 ?k3 ?k4 ?_; (case k1 => assumption); (case k2 => walk_at "mem"); (case k3 => assumption); (case k4 => omega); intro H' M')
  | (refine' d_tnotin ?k1 ?k2 ?k3 ?_; (case k1 => assumption); (case k2 => walk_at "inl"); (case k3 => walk_at "mem"))
  | fail)
def leR (rs : List Pr) : List Pr := rs.filter fun x => !decide ((x.1 + 1, x.2) ∈ rs) && !decide ((x.1, x.2 - 1) ∈ rs)
def grR (rs : List Pr) : List Pr := rs.filter fun x => !decide ((x.1 - 1, x.2) ∈ rs) && !decide ((x.1, x.2 + 1) ∈ rs)
theorem leR_of {ns : List Nt} {last : Int} {rs : List Pr} (h : Lof (Fit ns last) rs) : Lof (Least ns last) (leR rs) := (h.filter _).imp fun x => by
  simp only [Bool.and_eq_true, Bool.not_eq_true', decide_eq_false_iff_not, h.me]
  exact Iff.rfl
theorem grR_of {ns : List Nt} {last : Int} {rs : List Pr} (h : Lof (Fit ns last) rs) : Lof (Great ns last) (grR rs) := (h.filter _).imp fun x => by
  simp only [Bool.and_eq_true, Bool.not_eq_true', decide_eq_false_iff_not, h.me]
  exact Iff.rfl
theorem not_take {rs : List Pr} {i : Nat} {x : Pr} (nd : rs.Nodup) (h : rs[i]? = some x) : (x.1, x.2) ∉ rs.take i := fun z => by
  obtain ⟨hi, e⟩ := List.getElem?_eq_some_iff.mp h
  have e2 : rs = rs.take i ++ x :: rs.drop (i + 1) := by rw [← e, ← List.drop_eq_getElem_cons hi, List.take_append_drop]
  rw [e2, List.nodup_append] at nd
  exact nd.2.2 _ z _ List.mem_cons_self rfl
def sp_lle (K : PySem.W.Frag) : Sp := fun vs H Q E => ∃ (G : Hp) (rs : List Pr), Same G H ∧ AtL K G vs [.lst (rs.map prD)] ∧ (rs.Nodup) ∧ (rs.length ≤ 3721) ∧ (∀ (p : Addr) H', Mm K H G [] ([(p, .lst ((leR rs).map prD))]) [] H' → Q (.ref p) H')
theorem ok_lle {f : Addr} {fd : FuncData} (F : Fun K "_law_least" "_law_least" s__law_least f fd) (T : Txt P K mg C CO fO CE fE)  :
    FnOk P w K mg base (L2.CX P w) (0 + 1) f fd ["_law_rows"] (sp_lle K) := by
  refine okT F sc__law_least (fun vs H Q E h => ?_) (fun cdv A outer s H vs Q E hr tk h => ?_)
  · obtain ⟨G, rs, _, hA, _⟩ := h
    rcases hA with _ | ⟨ha0, hA0⟩
    cases hA0
    rfl
  obtain ⟨G, rs, hsG, hA, p0, p1, k⟩ := h
  have f1 := T.i1; have f2 := T.i2; have f3 := T.i3; have f4 := T.i4; have f5 := T.i5; have f6 := T.cl; have f7 := T.nc; have f8 := T.ng; have f9 := T.oa; have f10 := T.on; have f11 := T.ot; have f12 := T.om
  rcases hA with _ | ⟨ha0, hA0⟩
  cases hA0
  obtain ⟨q0, rfl⟩ := ha0.refL
  have M : Mm K H G [] [] [(.ref q0, .lst (rs.map prD))] H := Mm.start hsG (fun z hz => by
    simp only [List.mem_cons, List.not_mem_nil, or_false] at hz
    rcases hz with rfl
    · exact ha0)
  refine ⟨_, (pss_cons (ps_set (i := 1) sc__law_least.nd rfl (Or.inr rfl) pe_dnewT)
      (pss_cons (ps_for (passes_of rfl) rfl (pi_list (pv 0)) (pg_name (i := 2) sc__law_least.nd rfl (Or.inl rfl)) (pss_one (ps_dput (hu_of hr) (pv 1) (pv 2) pe_bl rfl)))
      (pss_one (ps_ret (pe_lc (own := [("_law_row", 2)]) (g := gName 2) rfl sc__law_least.nd (pi_list (pv 0)) (blkOk_by (own := [("_law_row", 2)]) (N := N__law_least) (sc := defScope s__law_least) (by decide +kernel)) (fun _ _ _ _ _ => pg_name (i := 2) sc__law_least.nd rfl (Or.inl rfl)) (fun _ _ _ _ _ => pts_one (PW.pt (pw_and (pt_cmp (pc_dnotin (hu_of hr) (pe_tup (pa_cons (pe_op op_add (pe_ix (ix_tup : IxR _ (rIxT K)) (pv 2) pe_int (fun _ _ => rfl)) pe_int) (pa_cons (pe_ix (ix_tup : IxR _ (rIxT K)) (pv 2) pe_int (fun _ _ => rfl)) pa_nil))) (pv 1))) (pw_and1 (pt_cmp (pc_dnotin (hu_of hr) (pe_tup (pa_cons (pe_ix (ix_tup : IxR _ (rIxT K)) (pv 2) pe_int (fun _ _ => rfl)) (pa_cons (pe_op op_sub (pe_ix (ix_tup : IxR _ (rIxT K)) (pv 2) pe_int (fun _ _ => rfl)) pe_int) pa_nil))) (pv 1))))))) (fun _ _ _ _ _ => (pv 2))))))), ?_⟩
  simp only [cxK, st__law_least]
  have hl : (rs.map prD).length = rs.length := List.length_map _
  walk_at "go"
  rename_i kn H1' M1
  refine forS (src_lst (ds := rs.map prD)) (fun i => [(kn, setD (rs.take i))]) M1 (fun i σ' => ∃ v2, σ' = [some (.ref q0), some (.ref kn), v2]) (fun _ => .inl (by walk_at "mem")) ⟨_, rfl⟩ ?_ ?_
  · rintro i x σ' H' hi ⟨v2, rfl⟩ M'
    rw [hl] at hi
    have htk := take_succ' hi
    have hnt := not_take p0 (MyL.getD_at hi)
    have htl := List.length_take_le' i rs
    rw [getD_map hi] at M'
    generalize rs.getD i default = y at M' hnt htk
    obtain ⟨px, rfl⟩ := M'.isT
    walk_at "go"
    rename_i M9
    refine ⟨⟨_, rfl⟩, ?_⟩
    rw [htk]
    exact M9.sub (by walk_at "sub")
  · rintro σ' H' ⟨v2, rfl⟩ N'
    rw [hl, List.take_length] at N'
    have M2 := N'.freeze
    clear N' M1
    walk_at "go"
    refine lcS (src_lst (ds := rs.map prD)) M2 (fun i => ((rs.take i).filter fun x => !decide ((x.1 + 1, x.2) ∈ rs) && !decide ((x.1, x.2 - 1) ∈ rs)).map prD) (fun _ _ => .inl (by walk_at "mem")) rfl ?_ ?_
    · intro i x A0 H' hi M'
      rw [hl] at hi
      have htk := take_succ' hi
      have hfl := List.length_filter_le (fun x : Pr => !decide ((x.1 + 1, x.2) ∈ rs) && !decide ((x.1, x.2 - 1) ∈ rs)) (rs.take i)
      have htl := List.length_take_le' i rs
      rw [getD_map hi] at M'
      generalize rs.getD i default = y at M' htk
      obtain ⟨px, rfl⟩ := M'.isT
      walk_at "go"
      all_goals refine ⟨rfl, ?_⟩
      walk_at "go"
      · rename_i h1 p8 H8 M8 h2
        refine lc_add M8 (H1.mem (by walk_at "mem")) (by walk_at "sub") (by rw [List.length_map]; omega) ?_
        rw [htk, List.filter_append, List.filter_cons_of_pos (by simp [h1, h2]), List.filter_nil, List.map_append]
        rfl
      · rename_i h1 p8 H8 M8 h2
        rw [htk, List.filter_append, List.filter_cons_of_neg (by simp [h2]), List.filter_nil, List.append_nil]
        exact M8.sub (by walk_at "sub")
      · rename_i p8 H8 M8 h1
        rw [htk, List.filter_append, List.filter_cons_of_neg (by simp [h1]), List.filter_nil, List.append_nil]
        exact M8.sub (by walk_at "sub")
    · intro A0 H' M'
      rw [hl, List.take_length] at M'
      exact k _ _ (Mm.noL M')
theorem use_lle {B G0 H : Hp} {ms : List Addr} {X : List (Addr × D)} {L : List (V × D)} {Q : VK} {E : XK} {ws : List V} {rs : List Pr} (M : Mm K B G0 ms X L H) (ha : Hs L ws [.lst (rs.map prD)]) (p0 : rs.Nodup) (p1 : rs.length ≤ 3721) (k0 : ∀ (p : Addr) H', Mm K B G0 ms ((p, .lst ((leR rs).map prD)) :: X) L H' → Q (.ref p) H') : sp_lle K ws H Q E := by
  obtain ⟨G, W⟩ := M
  exact ⟨G, rs, W.s1, ha K G W.ok, p0, p1, fun p H' M2 => k0 p H' (W.comp M2)⟩
def sp_lgr (K : PySem.W.Frag) : Sp := fun vs H Q E => ∃ (G : Hp) (rs : List Pr), Same G H ∧ AtL K G vs [.lst (rs.map prD)] ∧ (rs.Nodup) ∧ (rs.length ≤ 3721) ∧ (∀ (p : Addr) H', Mm K H G [] ([(p, .lst ((grR rs).map prD))]) [] H' → Q (.ref p) H')
theorem ok_lgr {f : Addr} {fd : FuncData} (F : Fun K "_law_greatest" "_law_greatest" s__law_greatest f fd) (T : Txt P K mg C CO fO CE fE)  :
    FnOk P w K mg base (L2.CX P w) (0 + 1) f fd ["_law_rows"] (sp_lgr K) := by
  refine okT F sc__law_greatest (fun vs H Q E h => ?_) (fun cdv A outer s H vs Q E hr tk h => ?_)
  · obtain ⟨G, rs, _, hA, _⟩ := h
    rcases hA with _ | ⟨ha0, hA0⟩
    cases hA0
    rfl
  obtain ⟨G, rs, hsG, hA, p0, p1, k⟩ := h
  have f1 := T.i1; have f2 := T.i2; have f3 := T.i3; have f4 := T.i4; have f5 := T.i5; have f6 := T.cl; have f7 := T.nc; have f8 := T.ng; have f9 := T.oa; have f10 := T.on; have f11 := T.ot; have f12 := T.om
  rcases hA with _ | ⟨ha0, hA0⟩
  cases hA0
  obtain ⟨q0, rfl⟩ := ha0.refL
  have M : Mm K H G [] [] [(.ref q0, .lst (rs.map prD))] H := Mm.start hsG (fun z hz => by
    simp only [List.mem_cons, List.not_mem_nil, or_false] at hz
    rcases hz with rfl
    · exact ha0)
  refine ⟨_, (pss_cons (ps_set (i := 1) sc__law_greatest.nd rfl (Or.inr rfl) pe_dnewT)
      (pss_cons (ps_for (passes_of rfl) rfl (pi_list (pv 0)) (pg_name (i := 2) sc__law_greatest.nd rfl (Or.inl rfl)) (pss_one (ps_dput (hu_of hr) (pv 1) (pv 2) pe_bl rfl)))
      (pss_one (ps_ret (pe_lc (own := [("_law_row", 2)]) (g := gName 2) rfl sc__law_greatest.nd (pi_list (pv 0)) (blkOk_by (own := [("_law_row", 2)]) (N := N__law_greatest) (sc := defScope s__law_greatest) (by decide +kernel)) (fun _ _ _ _ _ => pg_name (i := 2) sc__law_greatest.nd rfl (Or.inl rfl)) (fun _ _ _ _ _ => pts_one (PW.pt (pw_and (pt_cmp (pc_dnotin (hu_of hr) (pe_tup (pa_cons (pe_op op_sub (pe_ix (ix_tup : IxR _ (rIxT K)) (pv 2) pe_int (fun _ _ => rfl)) pe_int) (pa_cons (pe_ix (ix_tup : IxR _ (rIxT K)) (pv 2) pe_int (fun _ _ => rfl)) pa_nil))) (pv 1))) (pw_and1 (pt_cmp (pc_dnotin (hu_of hr) (pe_tup (pa_cons (pe_ix (ix_tup : IxR _ (rIxT K)) (pv 2) pe_int (fun _ _ => rfl)) (pa_cons (pe_op op_add (pe_ix (ix_tup : IxR _ (rIxT K)) (pv 2) pe_int (fun _ _ => rfl)) pe_int) pa_nil))) (pv 1))))))) (fun _ _ _ _ _ => (pv 2))))))), ?_⟩
  simp only [cxK, st__law_greatest]
  have hl : (rs.map prD).length = rs.length := List.length_map _
  walk_at "go"
  rename_i kn H1' M1
  refine forS (src_lst (ds := rs.map prD)) (fun i => [(kn, setD (rs.take i))]) M1 (fun i σ' => ∃ v2, σ' = [some (.ref q0), some (.ref kn), v2]) (fun _ => .inl (by walk_at "mem")) ⟨_, rfl⟩ ?_ ?_
  · rintro i x σ' H' hi ⟨v2, rfl⟩ M'
    rw [hl] at hi
    have htk := take_succ' hi
    have hnt := not_take p0 (MyL.getD_at hi)
    have htl := List.length_take_le' i rs
    rw [getD_map hi] at M'
    generalize rs.getD i default = y at M' hnt htk
    obtain ⟨px, rfl⟩ := M'.isT
    walk_at "go"
    rename_i M9
    refine ⟨⟨_, rfl⟩, ?_⟩
    rw [htk]
    exact M9.sub (by walk_at "sub")
  · rintro σ' H' ⟨v2, rfl⟩ N'
    rw [hl, List.take_length] at N'
    have M2 := N'.freeze
    clear N' M1
    walk_at "go"
    refine lcS (src_lst (ds := rs.map prD)) M2 (fun i => ((rs.take i).filter fun x => !decide ((x.1 - 1, x.2) ∈ rs) && !decide ((x.1, x.2 + 1) ∈ rs)).map prD) (fun _ _ => .inl (by walk_at "mem")) rfl ?_ ?_
    · intro i x A0 H' hi M'
      rw [hl] at hi
      have htk := take_succ' hi
      have hfl := List.length_filter_le (fun x : Pr => !decide ((x.1 - 1, x.2) ∈ rs) && !decide ((x.1, x.2 + 1) ∈ rs)) (rs.take i)
      have htl := List.length_take_le' i rs
      rw [getD_map hi] at M'
      generalize rs.getD i default = y at M' htk
      obtain ⟨px, rfl⟩ := M'.isT
      walk_at "go"
      all_goals refine ⟨rfl, ?_⟩
      walk_at "go"
      · rename_i h1 p8 H8 M8 h2
        refine lc_add M8 (H1.mem (by walk_at "mem")) (by walk_at "sub") (by rw [List.length_map]; omega) ?_
        rw [htk, List.filter_append, List.filter_cons_of_pos (by simp [h1, h2]), List.filter_nil, List.map_append]
        rfl
      · rename_i h1 p8 H8 M8 h2
        rw [htk, List.filter_append, List.filter_cons_of_neg (by simp [h2]), List.filter_nil, List.append_nil]
        exact M8.sub (by walk_at "sub")
      · rename_i p8 H8 M8 h1
        rw [htk, List.filter_append, List.filter_cons_of_neg (by simp [h1]), List.filter_nil, List.append_nil]
        exact M8.sub (by walk_at "sub")
    · intro A0 H' M'
      rw [hl, List.take_length] at M'
      exact k _ _ (Mm.noL M')
theorem use_lgr {B G0 H : Hp} {ms : List Addr} {X : List (Addr × D)} {L : List (V × D)} {Q : VK} {E : XK} {ws : List V} {rs : List Pr} (M : Mm K B G0 ms X L H) (ha : Hs L ws [.lst (rs.map prD)]) (p0 : rs.Nodup) (p1 : rs.length ≤ 3721) (k0 : ∀ (p : Addr) H', Mm K B G0 ms ((p, .lst ((grR rs).map prD)) :: X) L H' → Q (.ref p) H') : sp_lgr K ws H Q E := by
  obtain ⟨G, W⟩ := M
  exact ⟨G, rs, W.s1, ha K G W.ok, p0, p1, fun p H' M2 => k0 p H' (W.comp M2)⟩
local macro_rules | `(tactic| walk_at "use") => `(tactic| with_reducible first
  | fail)
def sp_common (K : PySem.W.Frag) : Sp := fun vs H Q E => ∃ (G : Hp) (x y : Pr), Same G H ∧ AtL K G vs [prD x, prD y] ∧ (∀ H', Mm K H G [] ([]) [] H' → Q (.bl (mt x y)) H')
theorem ok_common {f : Addr} {fd : FuncData} (F : Fun K "_law_common" "_law_common" s__law_common f fd) (T : Txt P K mg C CO fO CE fE)  :
    FnOk P w K mg base (L2.CX P w) (0 + 1) f fd ["_law_one", "_law_other"] (sp_common K) := by
  refine okT F sc__law_common (fun vs H Q E h => ?_) (fun cdv A outer s H vs Q E hr tk h => ?_)
  · obtain ⟨G, x, y, _, hA, _⟩ := h
    rcases hA with _ | ⟨ha0, hA0⟩
    rcases hA0 with _ | ⟨ha1, hA1⟩
    cases hA1
    rfl
  obtain ⟨G, x, y, hsG, hA, k⟩ := h
  have f1 := T.i1; have f2 := T.i2; have f3 := T.i3; have f4 := T.i4; have f5 := T.i5; have f6 := T.cl; have f7 := T.nc; have f8 := T.ng; have f9 := T.oa; have f10 := T.on; have f11 := T.ot; have f12 := T.om
  rcases hA with _ | ⟨ha0, hA0⟩
  rcases hA0 with _ | ⟨ha1, hA1⟩
  cases hA1
  obtain ⟨a0, rfl⟩ := ha0.refT
  obtain ⟨a1, rfl⟩ := ha1.refT
  have M : Mm K H G [] [] [(.ref a0, prD x), (.ref a1, prD y)] H := Mm.start hsG (fun z hz => by
    simp only [List.mem_cons, List.not_mem_nil, or_false] at hz
    rcases hz with rfl | rfl
    · exact ha0
    · exact ha1)
  refine ⟨_, (pss_one (ps_ret (pe_and (pe_cmpR op_le (pe_ix ix_tup (pv 0) pe_int (fun _ _ => rfl)) (pe_ix ix_tup (pv 1) pe_int (fun _ _ => rfl)) (nomark _)) (pe_one (pe_cmpR op_le (pe_ix ix_tup (pv 1) pe_int (fun _ _ => rfl)) (pe_ix ix_tup (pv 0) pe_int (fun _ _ => rfl)) (nomark _)))))), ?_⟩
  simp only [cxK, st__law_common]
  walk_at "go"
  all_goals
    rename_i hc
    simp only [mt, hc, true_and, false_and, decide_false] at k
    exact k _ (Mm.none (by assumption))
theorem use_common {B G0 H : Hp} {ms : List Addr} {X : List (Addr × D)} {L : List (V × D)} {Q : VK} {E : XK} {ws : List V} {x y : Pr} (M : Mm K B G0 ms X L H) (ha : Hs L ws [prD x, prD y]) (k0 : ∀ H', Mm K B G0 ms (X) L H' → Q (.bl (mt x y)) H') : sp_common K ws H Q E := by
  obtain ⟨G, W⟩ := M
  exact ⟨G, x, y, W.s1, ha K G W.ok, fun H' M2 => k0 H' (W.comp M2)⟩
def pairP : Option (Pr × Pr) → D
  | none => .non
  | some z => .tup [prD z.1, prD z.2]
def sp_lfpair (K : PySem.W.Frag) : Sp := fun vs H Q E => ∃ (G : Hp) (xs ys : List Pr) (b : Bool), Same G H ∧ AtL K G vs [.lst (xs.map prD), .lst (ys.map prD), .bl b] ∧ (xs.length ≤ 5000) ∧ (ys.length ≤ 5000) ∧ (∀ (v : V) H', Mm K H G [] ([]) [(v, pairP (firstP xs ys b))] H' → Q (v) H')
theorem ok_lfpair {f : Addr} {fd : FuncData} (F : Fun K "_law_first_pair" "_law_first_pair" s__law_first_pair f fd) (T : Txt P K mg C CO fO CE fE) (c__law_common : Cal P w K mg base 1 "_law_common" (sp_common K)) :
    FnOk P w K mg base (L2.CX P w) (1 + 1) f fd ["_law_rows", "_law_others", "_law_common_here"] (sp_lfpair K) := by
  refine okT F sc__law_first_pair (fun vs H Q E h => ?_) (fun cdv A outer s H vs Q E hr tk h => ?_)
  · obtain ⟨G, xs, ys, b, _, hA, _⟩ := h
    rcases hA with _ | ⟨ha0, hA0⟩
    rcases hA0 with _ | ⟨ha1, hA1⟩
    rcases hA1 with _ | ⟨ha2, hA2⟩
    cases hA2
    rfl
  obtain ⟨G, xs, ys, b, hsG, hA, p0, p1, k⟩ := h
  have f1 := T.i1; have f2 := T.i2; have f3 := T.i3; have f4 := T.i4; have f5 := T.i5; have f6 := T.cl; have f7 := T.nc; have f8 := T.ng; have f9 := T.oa; have f10 := T.on; have f11 := T.ot; have f12 := T.om
  rcases hA with _ | ⟨ha0, hA0⟩
  rcases hA0 with _ | ⟨ha1, hA1⟩
  rcases hA1 with _ | ⟨ha2, hA2⟩
  cases hA2
  obtain ⟨l0, rfl⟩ := ha0.refL
  obtain ⟨l1, rfl⟩ := ha1.refL
  obtain rfl := ha2.isB
  have M : Mm K H G [] [] [(.ref l0, .lst (xs.map prD)), (.ref l1, .lst (ys.map prD))] H := Mm.start hsG (fun z hz => by
    simp only [List.mem_cons, List.not_mem_nil, or_false] at hz
    rcases hz with rfl | rfl
    · exact ha0
    · exact ha1)
  refine ⟨_, (pss_cons (ps_for (passes_of rfl) rfl (pi_list (pv 0)) (pg_name (i := 3) sc__law_first_pair.nd rfl (Or.inl rfl)) (pss_one (ps_for (passes_of rfl) rfl (pi_list (pv 1)) (pg_name (i := 4) sc__law_first_pair.nd rfl (Or.inl rfl)) (pss_one (ps_if (pt_cmpR op_eq (c_call c__law_common tk hr (by decide) (pa_cons (pv 3) (pa_cons (pv 4) pa_nil))) (pv 2) (nomark _)) (pss_one (ps_ret (pe_tup (pa_cons (pv 3) (pa_cons (pv 4) pa_nil))))) pss_nil)))))
      (pss_one (ps_ret pe_non))), ?_⟩
  simp only [cxK, st__law_first_pair]
  have hxl : (xs.map prD).length = xs.length := List.length_map _
  have hyl : (ys.map prD).length = ys.length := List.length_map _
  walk_at "go"
  refine forS (src_lst (ds := xs.map prD)) (fun _ => []) M (fun i σ' => (∃ v3 v4, σ' = [some (.ref l0), some (.ref l1), some (.bl b), v3, v4]) ∧ firstP xs ys b = (xs.drop i).findSome? fun x => (ys.find? fun y => mt x y == b).map fun y => (x, y)) (fun _ => .inl (by walk_at "mem")) ⟨⟨_, _, rfl⟩, rfl⟩ ?_ ?_
  · rintro i x σ' H' hi ⟨⟨v3, v4, rfl⟩, hf⟩ M'
    rw [hxl] at hi
    rw [some_drop (MyL.getD_at hi)] at hf
    rw [getD_map hi] at M'
    generalize xs.getD i default = xx at M' hf
    obtain ⟨px, rfl⟩ := M'.isT
    walk_at "go"
    refine forS (src_lst (ds := ys.map prD)) (fun _ => []) M' (fun j σ' => (∃ v4, σ' = [some (.ref l0), some (.ref l1), some (.bl b), some (.ref px), v4]) ∧ (ys.find? fun y => mt xx y == b) = (ys.drop j).find? fun y => mt xx y == b) (fun _ => .inl (by walk_at "mem")) ⟨⟨_, rfl⟩, rfl⟩ ?_ ?_
    · rintro j y σ' H2 hj ⟨⟨v4, rfl⟩, hg⟩ M2
      rw [hyl] at hj
      have hat := MyL.getD_at hj
      rw [getD_map hj] at M2
      generalize ys.getD j default = yy at M2 hat
      obtain ⟨py, rfl⟩ := M2.isT
      walk_at "go"
      refine' use_common (x := xx) (y := yy) ?m0 ?h0  ?_
      case m0 => assumption
      case h0 => walk_at "hass"
      intro H3 M3
      walk_at "go"
      cases hc : (mt xx yy == b) with
      | true =>
        rw [find_hit hat hc] at hg
        rw [hg] at hf
        walk_at "go"
        rename_i M9
        refine k _ _ ?_
        rw [hf]
        exact M9.oneL List.mem_cons_self
      | false =>
        rw [find_drop hat hc] at hg
        walk_at "go"
        exact ⟨⟨⟨_, rfl⟩, hg⟩, M3.sub (by walk_at "sub")⟩
    · rintro σ' H2 ⟨⟨v4, rfl⟩, hg⟩ M2
      rw [hyl, List.drop_length] at hg
      rw [hg] at hf
      exact ⟨⟨⟨_, _, rfl⟩, hf⟩, M2.sub (by walk_at "sub")⟩
  · rintro σ' H' ⟨⟨v3, v4, rfl⟩, hf⟩ M'
    rw [hxl, List.drop_length] at hf
    walk_at "go"
    refine k _ _ ?_
    rw [hf]
    exact (M'.add (d := .non) H1.non).oneL List.mem_cons_self
theorem use_lfpair {B G0 H : Hp} {ms : List Addr} {X : List (Addr × D)} {L : List (V × D)} {Q : VK} {E : XK} {ws : List V} {xs ys : List Pr} {b : Bool} (M : Mm K B G0 ms X L H) (ha : Hs L ws [.lst (xs.map prD), .lst (ys.map prD), .bl b]) (p0 : xs.length ≤ 5000) (p1 : ys.length ≤ 5000) (k0 : ∀ (v : V) H', Mm K B G0 ms (X) ((v, pairP (firstP xs ys b)) :: L) H' → Q (v) H') : sp_lfpair K ws H Q E := by
  obtain ⟨G, W⟩ := M
  exact ⟨G, xs, ys, b, W.s1, ha K G W.ok, p0, p1, fun v H' M2 => k0 v H' (W.comp M2)⟩
def sp_item (K : PySem.W.Frag) (C : Addr) : Sp := fun vs H Q E => ∃ (G : Hp) (o : Option (Pr × Pr)), Same G H ∧ AtL K G vs [pairD C o, pairP o] ∧ (∀ H', Mm K H G [] ([]) [] H' → Q (.bl true) H')
theorem ok_item {f : Addr} {fd : FuncData} (F : Fun K "_law_item" "_law_item" s__law_item f fd) (T : Txt P K mg C CO fO CE fE) (c__law_is : Cal P w K mg base 2 "_law_is" (sp_is K C)) :
    FnOk P w K mg base (L2.CX P w) (2 + 1) f fd ["_law_actual", "_law_due"] (sp_item K C) := by
  refine okT F sc__law_item (fun vs H Q E h => ?_) (fun cdv A outer s H vs Q E hr tk h => ?_)
  · obtain ⟨G, o, _, hA, _⟩ := h
    rcases hA with _ | ⟨ha0, hA0⟩
    rcases hA0 with _ | ⟨ha1, hA1⟩
    cases hA1
    rfl
  obtain ⟨G, o, hsG, hA, k⟩ := h
  have f1 := T.i1; have f2 := T.i2; have f3 := T.i3; have f4 := T.i4; have f5 := T.i5; have f6 := T.cl; have f7 := T.nc; have f8 := T.ng; have f9 := T.oa; have f10 := T.on; have f11 := T.ot; have f12 := T.om
  rcases hA with _ | @⟨v0, _, _, _, ha0, hA0⟩
  rcases hA0 with _ | @⟨v1, _, _, _, ha1, hA1⟩
  cases hA1
  have M : Mm K H G [] [] [(v0, pairD C o), (v1, pairP o)] H := Mm.start hsG (fun z hz => by
    simp only [List.mem_cons, List.not_mem_nil, or_false] at hz
    rcases hz with rfl | rfl
    · exact ha0
    · exact ha1)
  refine ⟨_, (pss_cons (ps_if (pt_cmpR op_isN0 (pv 1) pe_non (nomark _)) (pss_one (ps_ret (pe_cmpR op_isN0 (pv 0) pe_non (nomark _)))) pss_nil)
      (pss_cons (ps_if (PW.pt (pw_or (pt_not (pt_val (pe_callB call_isi (by rfl) T.b_isinstance (by decide +kernel) (pa_cons (pv 0) (pa_cons (g_ty (n := "tuple") T.b_tuple (by decide +kernel)) pa_nil))))) (pw_or1 (pt_cmpR op_ne (pe_callB b_len (by rfl) T.b_len (by decide +kernel) (pa_cons (pv 0) pa_nil)) pe_int (nomark _))))) (pss_one (ps_ret pe_bl)) pss_nil)
      (pss_one (ps_ret (pe_and (c_call c__law_is tk hr (by decide) (pa_cons (pe_ix ix_tup (pv 0) pe_int (fun _ _ => rfl)) (pa_cons (pe_ix ix_tup (pv 1) pe_int (fun _ _ => rfl)) pa_nil))) (pe_one (c_call c__law_is tk hr (by decide) (pa_cons (pe_ix ix_tup (pv 0) pe_int (fun _ _ => rfl)) (pa_cons (pe_ix ix_tup (pv 1) pe_int (fun _ _ => rfl)) pa_nil))))))))), ?_⟩
  simp only [cxK, st__law_item]
  cases o with
  | none =>
    obtain rfl := ha0.isN
    obtain rfl := ha1.isN
    walk_at "go"
    exact k _ M.none
  | some z =>
    obtain ⟨x0, rfl⟩ := ha0.refT
    obtain ⟨x1, rfl⟩ := ha1.refT
    have M1 : Mm K H G [] [] [(V.ref x0, D.tup [stD C z.1, stD C z.2]), (V.ref x1, D.tup [prD z.1, prD z.2])] H := M
    clear M ha0 ha1
    walk_at "go"
    · rename_i hc
      cases hc
    · rename_i h1 h2
      exact absurd rfl h2
    rename_i h1 h2 y0 M2 y1 M3
    refine' use_is (x := z.1) (y := z.1) ?m0 ?h0  ?_
    case m0 => assumption
    case h0 => walk_at "hass"
    intro H4 M4
    rw [decide_eq_true rfl]
    walk_at "go"
    rename_i y2 M5 y3 M6
    refine' use_is (x := z.2) (y := z.2) ?m0 ?h0  ?_
    case m0 => assumption
    case h0 => walk_at "hass"
    intro H7 M7
    rw [decide_eq_true rfl]
    exact k _ M7.none
theorem use_item {B G0 H : Hp} {ms : List Addr} {X : List (Addr × D)} {L : List (V × D)} {Q : VK} {E : XK} {ws : List V} {o : Option (Pr × Pr)} (M : Mm K B G0 ms X L H) (ha : Hs L ws [pairD C o, pairP o]) (k0 : ∀ H', Mm K B G0 ms (X) L H' → Q (.bl true) H') : sp_item K C ws H Q E := by
  obtain ⟨G, W⟩ := M
  exact ⟨G, o, W.s1, ha K G W.ok, fun H' M2 => k0 H' (W.comp M2)⟩
end
end K20

set_option Elab.async false
set_option linter.all false
set_option maxRecDepth 100000
set_option maxHeartbeats 8000000
namespace K20
open PySem L2 MyL
local macro_rules | `(tactic| walk_at "sub") => `(tactic| first | exact sub_nil | exact sub_self | (refine' sub_cons ?k1 ?k2; (case k1 => walk_at "mem"); (case k2 => walk_at "sub")) | (refine' sub_app ?k1 ?k2; (case k1 => walk_at "sub"); (case k2 => walk_at "sub")) | (refine sub_tail ?_; walk_at "sub") | fail)
local macro_rules | `(tactic| walk_at "mem") => `(tactic| first | exact List.mem_cons_self | (refine List.mem_cons_of_mem _ ?_; walk_at "mem") | (refine List.mem_append_right _ ?_; walk_at "mem") | (refine List.mem_append_left _ ?_; walk_at "mem") | assumption | fail)
local macro_rules | `(tactic| walk_at "inl") => `(tactic| first | (refine Or.inl ?_; walk_at "mem") | (refine Or.inr ?_; walk_at "mem") | fail)
local macro_rules | `(tactic| walk_at "has1") => `(tactic| first | exact H1.int | exact H1.str | exact H1.bl | exact H1.non | exact H1.mem (by walk_at "mem") | assumption | fail)
local macro_rules | `(tactic| walk_at "hass") => `(tactic| first | exact Hs.nil | (refine' Hs.cons ?k1 ?k2; (case k1 => walk_at "has1"); (case k2 => walk_at "hass")) | exact Hs.ints _ | assumption | fail)
local macro_rules | `(tactic| walk_at "kn") => `(tactic| first | (refine Or.inl ?_; walk_at "has1") | (refine Or.inr ⟨_, _, rfl, rfl, ?_⟩; walk_at "mem") | fail)
local macro_rules | `(tactic| walk_at "sh") => `(tactic| first | exact Sh.int | exact Sh.bl | exact Sh.non | exact Sh.str (by decide) | assumption | (refine Sh.tupM ?_; intro x' hx'; walk_at "sh") | (refine Sh.lstM ?_; intro x' hx'; walk_at "sh") | (refine Sh.tup ?_; walk_at "shs") | (refine Sh.lst ?_; walk_at "shs") | fail)
local macro_rules | `(tactic| walk_at "shs") => `(tactic| first | exact Sh.nil | (refine' Sh.cons ?k1 ?k2; (case k1 => walk_at "sh"); (case k2 => walk_at "shs")) | fail)
local macro_rules | `(tactic| walk_at "lt") => `(tactic| first | omega | (simp only [List.length_map, List.length_range, List.length_append, List.length_cons, List.length_nil, List.length_replicate, List.length_set]; omega) | fail)
local macro_rules | `(tactic| walk_at "few") => `(tactic| first | decide | simp | fail)
local macro_rules | `(tactic| walk_at "lof") => `(tactic| (refine' d_listI ?k1 ?k2 ?_; (case k1 => assumption); (case k2 => first | (refine Or.inl ?_; walk_at "inl") | (refine Or.inr ?_; walk_at "mem") | fail); intro p' H' M'))
local macro_rules | `(tactic| walk_at "lst") => `(tactic| (refine' d_lst ?k1 ?k2 ?k3 ?_; (case k1 => assumption); (case k2 => walk_at "hass"); (case k3 => walk_at "size"); intro p' H' M'))
local macro_rules | `(tactic| walk_at "cond") => `(tactic| first | omega | assumption | exact mulR (by omega) (by omega) | exact mulL (by omega) (by omega) | exact divW (by omega) (by omega) | decide)
local macro_rules | `(tactic| walk_at "look") => `(tactic| first | assumption | with_unfolding_all rfl | exact atI_mapI (by omega) (by omega) | exact atI_mapL (by omega) (by omega) | exact atI_mapD (by omega) (by omega) | fail)
local macro_rules | `(tactic| walk_at "go1") => `(tactic| with_reducible first
  | refine k_yes ?_ | refine k_seq ?_ | refine k_gName ?_ | refine k_asg ?_ | refine k_ret ?_ | refine k_ifS ?_ | refine k_drop ?_ | refine k_next ?_ | refine k_break ?_ | refine k_cont ?_ | refine k_retN ?_
  | (refine' k_var ?k1 ?_; (case k1 => with_unfolding_all rfl)) | refine k_c ?_ | refine k_op ?_ | refine k_un ?_ | refine k_test ?_ | refine k_B ?_ | refine k_bl ?_ | refine k_and ?_ | refine k_or ?_ | refine k_not ?_
  | refine k_andV ?_ | refine k_orV ?_ | refine k_notV ?_ | refine k_ifE ?_ | refine k_nil ?_ | refine k_cons ?_ | refine k_cb ?_ | refine k_callS ?_ | refine k_lst0 ?_ | refine k_tup0 ?_ | refine k_fld0 ?_ | refine k_sub0 ?_ | refine k_make0 ?_ | refine k_prop0 ?_ | refine k_sta0 ?_ | refine k_sta ?_ | refine k_bm ?_ | refine k_bm0 ?_ | refine k_chain ?_ | refine k_makeK0 ?_ | refine k_swapK ?_ | refine k_meth0 ?_ | refine k_ownN0 ?_ | refine k_ownO0 ?_ | refine k_sfldS ?_ | refine k_jnil ?_ | refine k_jcons ?_ | refine k_fmt0 ?_ | refine k_sl0 ?_ | refine k_nopart ?_ | refine k_part ?_ | refine k_forR1 ?_ | refine k_forR2 ?_ | refine k_forL ?_ | refine k_forT ?_ | refine k_lcR1 ?_ | refine k_lc2R1 ?_ | refine k_lc2R2 ?_ | refine k_lc2L ?_ | refine k_lc2T ?_ | refine k_iR1 ?_ | refine k_iR2 ?_ | refine k_iL ?_ | refine k_iT ?_ | refine k_lcR2 ?_ | refine k_lcL ?_ | refine k_lcT ?_ | refine k_err0 ?_ | refine k_xf0 ?_ | refine k_errQ1 ?_ | refine k_errQ0 ?_ | refine k_errQ2 ?_ | refine k_errQ3 ?_
  | refine k_I0 ?_ | (refine k_I ?k1 ?_; (case k1 => walk_at "cond")) | refine k_U ?_ | refine k_eqI ?_ | refine k_neI ?_ | refine k_eqB ?_ | refine k_neB ?_ | refine k_eqS ?_ | refine k_neS ?_
  | refine k_int1 ?_ | refine k_abs1 ?_ | refine k_min2 ?_ | refine k_max2 ?_
  | (refine' k_lenS ?k1 ?_; (case k1 => assumption)) | (refine' k_ixS ?k1 ?k2 ?_; (case k1 => assumption); (case k2 => walk_at "look"))
  | refine iteT ?_ | refine iteF ?_ | refine k_iteNE ?_ | refine k_iteNS ?_ | refine k_iteNT ?_ | refine k_iteNF ?_
  | (refine k_iteD ?_ ?_ <;> intro hc <;> first | (exfalso; omega) | skip)
  | (refine k_iteN ?_ ?_ <;> intro hc <;> first | (exfalso; omega) | skip)
  | (refine' k_isiI ?k1 ?_; (case k1 => assumption))
  | (refine' k_jst ?k1 ?_; (case k1 => walk_at "size")) | (refine' k_fmtI ?k1 ?_; (case k1 => exact log2_64 (by omega) (by omega))) | (refine' k_strI ?k1 ?_; (case k1 => exact log2_64 (by omega) (by omega)))
  | (refine k_addS ?k1 ?_; (case k1 => walk_at "size")) | refine k_st ?_ | refine k_parti ?_
  | (refine k_rng1 ?k1 ?k2 ?_; (case k1 => omega); (case k2 => omega)) | (refine k_rng2 ?k1 ?k2 ?k3 ?k4 ?_; (case k1 => omega); (case k2 => omega); (case k3 => omega); (case k4 => omega))
  | (refine' k_isXs ?k1 ?k2 ?_; (case k1 => assumption); (case k2 => walk_at "hp")) | (refine' k_isXo ?k1 ?k2 ?k3 ?_; (case k1 => assumption); (case k2 => walk_at "hp"); (case k3 => assumption)) | (refine' k_isXt ?k1 ?k2 ?k3 ?_; (case k1 => assumption); (case k2 => walk_at "hp"); (case k3 => assumption))
  | (refine' k_isX3 ?k1 ?k2 ?k3 ?k4 ?_; (case k1 => assumption); (case k2 => walk_at "hp"); (case k3 => walk_at "hp"); (case k4 => assumption)) | (refine' k_isX2 ?k1 ?k2 ?k3 ?k4 ?_; (case k1 => assumption); (case k2 => walk_at "hp"); (case k3 => walk_at "hp"); (case k4 => assumption))
  | (refine' k_isX0s ?k1 ?_; (case k1 => assumption)) | (refine' k_isX0o ?k1 ?k2 ?_; (case k1 => assumption); (case k2 => assumption)) | (refine' k_isX0t ?k1 ?k2 ?_; (case k1 => assumption); (case k2 => assumption)) | (refine' k_isX04 ?k1 ?k2 ?k3 ?_; (case k1 => assumption); (case k2 => walk_at "hp"); (case k3 => assumption))
  | (refine' k_isX4 ?k1 ?k2 ?k3 ?k4 ?_; (case k1 => assumption); (case k2 => walk_at "hp"); (case k3 => walk_at "hp"); (case k4 => assumption)) | (refine' k_ixT2 ?k1 ?k2 ?k3 ?_; (case k1 => walk_at "hp"); (case k2 => omega); (case k3 => omega); intro n' hn')
  | (refine k_iteNEq ?k1 ?_; (case k1 => (rw [Bool.eq_iff_iff]; first | (simp; done) | (simp; omega))))
  | (refine' k_xf ?k1 ?k2 ?_; (case k1 => walk_at "hp"); (case k2 => first | exact xd1 | exact xdH | exact xd2 (by decide +kernel)))
  | (refine' k_caught ?k1 ?_; (case k1 => assumption); intro a' ha')
  | refine k_asgT ?_ | refine k_gCons ?_ | refine k_gNil ?_ | refine k_par ?_ | refine k_two ?_ | refine k_isNn ?_ | refine k_isNi ?_ | refine k_notNn ?_ | refine k_notNi ?_ | refine k_isN ?_ | refine k_notN ?_
  | (refine' k_xfB ?k1 ?k2 ?_; (case k1 => walk_at "hp"); (case k2 => first | exact xd1 | exact xdH | exact xd2 (by decide +kernel)))
  | (refine' d_ixLI ?k1 ?k2 ?k3 ?_; (case k1 => assumption); (case k2 => walk_at "inl"); (case k3 => walk_at "look"))
  | (refine' d_ixLS ?k1 ?k2 ?k3 ?_; (case k1 => assumption); (case k2 => walk_at "inl"); (case k3 => walk_at "look"))
  | (refine' d_ixLB ?k1 ?k2 ?k3 ?_; (case k1 => assumption); (case k2 => walk_at "inl"); (case k3 => walk_at "look"))
  | (refine' d_ixL ?k1 ?k2 ?k3 ?_; (case k1 => assumption); (case k2 => walk_at "inl"); (case k3 => walk_at "look"); intro v' M'; first | (have e' := Mm.isI M'; subst e') | (have e' := Mm.isS M'; subst e') | (have e' := Mm.isB M'; subst e') | (have e' := Mm.isN M'; subst e') | (obtain ⟨p', e'⟩ := Mm.isT M'; subst e') | (obtain ⟨p', e'⟩ := Mm.isL M'; subst e') | (obtain ⟨p', e'⟩ := Mm.isO M'; subst e') | skip)
  | (refine' d_ixTI ?k1 ?k2 ?k3 ?_; (case k1 => assumption); (case k2 => walk_at "mem"); (case k3 => walk_at "look"))
  | (refine' d_ixTS ?k1 ?k2 ?k3 ?_; (case k1 => assumption); (case k2 => walk_at "mem"); (case k3 => walk_at "look"))
  | (refine' d_ixTB ?k1 ?k2 ?k3 ?_; (case k1 => assumption); (case k2 => walk_at "mem"); (case k3 => walk_at "look"))
  | (refine' d_ixT ?k1 ?k2 ?k3 ?_; (case k1 => assumption); (case k2 => walk_at "mem"); (case k3 => walk_at "look"); intro v' M'; first | (have e' := Mm.isI M'; subst e') | (have e' := Mm.isS M'; subst e') | (have e' := Mm.isB M'; subst e') | (have e' := Mm.isN M'; subst e') | (obtain ⟨p', e'⟩ := Mm.isT M'; subst e') | (obtain ⟨p', e'⟩ := Mm.isL M'; subst e') | (obtain ⟨p', e'⟩ := Mm.isO M'; subst e') | skip)
  | (refine' d_ixc2 ?k1 ?k2 ?k3 ?k4 ?_; (case k1 => assumption); (case k2 => walk_at "inl"); (case k3 => omega); (case k4 => omega); intro n' hn')
  | (refine' d_ixc3 ?k1 ?k2 ?k3 ?k4 ?_; (case k1 => assumption); (case k2 => walk_at "inl"); (case k3 => omega); (case k4 => omega); intro n' hn')
  | (refine' d_ixc4 ?k1 ?k2 ?k3 ?k4 ?_; (case k1 => assumption); (case k2 => walk_at "inl"); (case k3 => omega); (case k4 => omega); intro n' hn')
  | (refine' d_ixc5 ?k1 ?k2 ?k3 ?k4 ?_; (case k1 => assumption); (case k2 => walk_at "inl"); (case k3 => omega); (case k4 => omega); intro n' hn')
  | (refine' d_ixc6 ?k1 ?k2 ?k3 ?k4 ?_; (case k1 => assumption); (case k2 => walk_at "inl"); (case k3 => omega); (case k4 => omega); intro n' hn')
  | (refine' d_ixc7 ?k1 ?k2 ?k3 ?k4 ?_; (case k1 => assumption); (case k2 => walk_at "inl"); (case k3 => omega); (case k4 => omega); intro n' hn')
  | (refine' d_ixc8 ?k1 ?k2 ?k3 ?k4 ?_; (case k1 => assumption); (case k2 => walk_at "inl"); (case k3 => omega); (case k4 => omega); intro n' hn')
  | (refine' d_ixc9 ?k1 ?k2 ?k3 ?k4 ?_; (case k1 => assumption); (case k2 => walk_at "inl"); (case k3 => omega); (case k4 => omega); intro n' hn')
  | (refine' d_lenL ?k1 ?k2 ?_; (case k1 => assumption); (case k2 => walk_at "inl"))
  | (refine' d_lenT ?k1 ?k2 ?_; (case k1 => assumption); (case k2 => walk_at "mem"))
  | (refine' d_lenQ ?k1 ?k2 ?_; (case k1 => assumption); (case k2 => walk_at "mem"))
  | (refine' d_lst0 ?k1 ?_; (case k1 => assumption); intro p' H' M')
  | (refine' d_tup ?k1 ?k2 ?k3 ?_; (case k1 => assumption); (case k2 => walk_at "hass"); (case k3 => walk_at "size"); intro p' H' M')
  | (refine' d_tupR ?k1 ?k2 ?_; (case k1 => assumption); (case k2 => walk_at "size"); intro p' H' hp' M')
  | walk_at "lst"
  | (refine' d_fldI ?k1 ?k2 ?k3 ?k4 ?k5 ?_; (case k1 => assumption); (case k2 => walk_at "mem"); (case k3 => assumption); (case k4 => assumption); (case k5 => walk_at "fld"))
  | (refine' d_fld ?k1 ?k2 ?k3 ?k4 ?k5 ?_; (case k1 => assumption); (case k2 => walk_at "mem"); (case k3 => assumption); (case k4 => assumption); (case k5 => walk_at "fld"); intro v' M'; first | (have e' := Mm.isI M'; subst e') | (have e' := Mm.isS M'; subst e') | (have e' := Mm.isB M'; subst e') | (have e' := Mm.isN M'; subst e') | (obtain ⟨p', e'⟩ := Mm.isT M'; subst e') | (obtain ⟨p', e'⟩ := Mm.isL M'; subst e') | (obtain ⟨p', e'⟩ := Mm.isO M'; subst e') | skip)
  | (refine' d_fldX0 ?k1 ?k2 ?k3 ?k4 ?_; (case k1 => assumption); (case k2 => assumption); (case k3 => assumption); (case k4 => walk_at "fld"); intro v' M'; first | (have e' := Mm.isI M'; subst e') | (have e' := Mm.isS M'; subst e') | (have e' := Mm.isB M'; subst e') | (have e' := Mm.isN M'; subst e') | (obtain ⟨p', e'⟩ := Mm.isT M'; subst e') | (obtain ⟨p', e'⟩ := Mm.isL M'; subst e') | (obtain ⟨p', e'⟩ := Mm.isO M'; subst e') | skip)
  | (refine' d_fldX1 ?k1 ?k2 ?k3 ?k4 ?_; (case k1 => assumption); (case k2 => assumption); (case k3 => assumption); (case k4 => walk_at "fld"); intro v' M'; first | (have e' := Mm.isI M'; subst e') | (have e' := Mm.isS M'; subst e') | (have e' := Mm.isB M'; subst e') | (have e' := Mm.isN M'; subst e') | (obtain ⟨p', e'⟩ := Mm.isT M'; subst e') | (obtain ⟨p', e'⟩ := Mm.isL M'; subst e') | (obtain ⟨p', e'⟩ := Mm.isO M'; subst e') | skip)
  | (refine' d_gT2I ?k1 ?k2 ?k3 ?_; (case k1 => assumption); (case k2 => walk_at "mem"); (case k3 => with_unfolding_all rfl))
  | (refine' d_gT2 ?k1 ?k2 ?k3 ?_; (case k1 => assumption); (case k2 => walk_at "mem"); (case k3 => with_unfolding_all rfl); intro v1' v2' M'; (first | (have e' := Mm.isI M'; subst e') | (have e' := Mm.isS M'; subst e') | (have e' := Mm.isB M'; subst e') | (have e' := Mm.isN M'; subst e') | (obtain ⟨p', e'⟩ := Mm.isT M'; subst e') | (obtain ⟨p', e'⟩ := Mm.isL M'; subst e') | (obtain ⟨p', e'⟩ := Mm.isO M'; subst e') | skip); (first | (have e' := Mm.isI (Mm.dropL M'); subst e') | (have e' := Mm.isS (Mm.dropL M'); subst e') | (have e' := Mm.isB (Mm.dropL M'); subst e') | (have e' := Mm.isN (Mm.dropL M'); subst e') | (obtain ⟨p2', e'⟩ := Mm.isT (Mm.dropL M'); subst e') | (obtain ⟨p2', e'⟩ := Mm.isL (Mm.dropL M'); subst e') | (obtain ⟨p2', e'⟩ := Mm.isO (Mm.dropL M'); subst e') | skip))
  | (refine' d_gT3 ?k1 ?k2 ?k3 ?_; (case k1 => assumption); (case k2 => walk_at "mem"); (case k3 => with_unfolding_all rfl); intro v1' v2' v3' M'; (first | (have e' := Mm.isI M'; subst e') | (have e' := Mm.isS M'; subst e') | (have e' := Mm.isB M'; subst e') | (have e' := Mm.isN M'; subst e') | (obtain ⟨p', e'⟩ := Mm.isT M'; subst e') | (obtain ⟨p', e'⟩ := Mm.isL M'; subst e') | (obtain ⟨p', e'⟩ := Mm.isO M'; subst e') | skip); (first | (have e' := Mm.isI (Mm.dropL M'); subst e') | (have e' := Mm.isS (Mm.dropL M'); subst e') | (have e' := Mm.isB (Mm.dropL M'); subst e') | (have e' := Mm.isN (Mm.dropL M'); subst e') | (obtain ⟨p2', e'⟩ := Mm.isT (Mm.dropL M'); subst e') | (obtain ⟨p2', e'⟩ := Mm.isL (Mm.dropL M'); subst e') | (obtain ⟨p2', e'⟩ := Mm.isO (Mm.dropL M'); subst e') | skip); (first | (have e' := Mm.isI (Mm.dropL (Mm.dropL M')); subst e') | (have e' := Mm.isS (Mm.dropL (Mm.dropL M')); subst e') | (have e' := Mm.isB (Mm.dropL (Mm.dropL M')); subst e') | (have e' := Mm.isN (Mm.dropL (Mm.dropL M')); subst e') | (obtain ⟨p3', e'⟩ := Mm.isT (Mm.dropL (Mm.dropL M')); subst e') | (obtain ⟨p3', e'⟩ := Mm.isL (Mm.dropL (Mm.dropL M')); subst e') | (obtain ⟨p3', e'⟩ := Mm.isO (Mm.dropL (Mm.dropL M')); subst e') | skip))
  | (refine' d_app0 ?k1 ?k2 ?k3 ?_; (case k1 => assumption); (case k2 => walk_at "has1"); (case k3 => walk_at "size"); intro H' M')
  | (refine' d_app1 ?k1 ?k2 ?k3 ?_; (case k1 => assumption); (case k2 => walk_at "has1"); (case k3 => walk_at "size"); intro H' M')
  | (refine' d_app2 ?k1 ?k2 ?k3 ?_; (case k1 => assumption); (case k2 => walk_at "has1"); (case k3 => walk_at "size"); intro H' M')
  | (refine' d_app3 ?k1 ?k2 ?k3 ?_; (case k1 => assumption); (case k2 => walk_at "has1"); (case k3 => walk_at "size"); intro H' M')
  | (refine' d_set0 ?k1 ?k2 ?k3 ?k4 ?_; (case k1 => assumption); (case k2 => walk_at "has1"); (case k3 => omega); (case k4 => walk_at "lt"); intro H' M')
  | (refine' d_set1 ?k1 ?k2 ?k3 ?k4 ?_; (case k1 => assumption); (case k2 => walk_at "has1"); (case k3 => omega); (case k4 => walk_at "lt"); intro H' M')
  | (refine' d_set2 ?k1 ?k2 ?k3 ?k4 ?_; (case k1 => assumption); (case k2 => walk_at "has1"); (case k3 => omega); (case k4 => walk_at "lt"); intro H' M')
  | (refine' d_set3 ?k1 ?k2 ?k3 ?k4 ?_; (case k1 => assumption); (case k2 => walk_at "has1"); (case k3 => omega); (case k4 => walk_at "lt"); intro H' M')
  | (refine' d_reverse0 ?k1 ?_; (case k1 => assumption); intro H' M')
  | (refine' d_reverse1 ?k1 ?_; (case k1 => assumption); intro H' M')
  | (refine' d_reverse2 ?k1 ?_; (case k1 => assumption); intro H' M')
  | (refine' d_clear0 ?k1 ?_; (case k1 => assumption); intro H' M')
  | (refine' d_clear1 ?k1 ?_; (case k1 => assumption); intro H' M')
  | (refine' d_clear2 ?k1 ?_; (case k1 => assumption); intro H' M')
  | (refine' d_sfld0 ?k1 ?k2 ?k3 ?k4 ?k5 ?_; (case k1 => assumption); (case k2 => walk_at "has1"); (case k3 => assumption); (case k4 => assumption); (case k5 => walk_at "few"); intro H' M')
  | (refine' d_sfld1 ?k1 ?k2 ?k3 ?k4 ?k5 ?_; (case k1 => assumption); (case k2 => walk_at "has1"); (case k3 => assumption); (case k4 => assumption); (case k5 => walk_at "few"); intro H' M')
  | (refine' d_tyL2 ?k1 ?k2 ?_; (case k1 => assumption); (case k2 => walk_at "inl"))
  | (refine' d_inIL ?k1 ?k2 ?_; (case k1 => assumption); (case k2 => walk_at "inl"))
  | (refine' d_notIL ?k1 ?k2 ?_; (case k1 => assumption); (case k2 => walk_at "inl"))
  | (refine' d_inIT ?k1 ?k2 ?_; (case k1 => assumption); (case k2 => walk_at "mem"))
  | (refine' d_notIT ?k1 ?k2 ?_; (case k1 => assumption); (case k2 => walk_at "mem"))
  | (refine' d_eqE ?k1 ?k2 ?k3 ?_; (case k1 => assumption); (case k2 => walk_at "inl"); (case k3 => walk_at "inl"))
  | (refine' d_neE ?k1 ?k2 ?k3 ?_; (case k1 => assumption); (case k2 => walk_at "inl"); (case k3 => walk_at "inl"))
  | (refine' d_eq ?k1 ?k2 ?k3 ?k4 ?k5 ?_; (case k1 => assumption); (case k2 => walk_at "kn"); (case k3 => walk_at "kn"); (case k4 => walk_at "sh"); (case k5 => walk_at "sh"))
  | (refine' d_ne ?k1 ?k2 ?k3 ?k4 ?k5 ?_; (case k1 => assumption); (case k2 => walk_at "kn"); (case k3 => walk_at "kn"); (case k4 => walk_at "sh"); (case k5 => walk_at "sh"))
  | (refine' d_inD ?k1 ?k2 ?k3 ?k4 ?k5 ?_; (case k1 => assumption); (case k2 => walk_at "kn"); (case k3 => walk_at "kn"); (case k4 => walk_at "sh"); (case k5 => walk_at "sh"))
  | (refine' d_notInD ?k1 ?k2 ?k3 ?k4 ?k5 ?_; (case k1 => assumption); (case k2 => walk_at "kn"); (case k3 => walk_at "kn"); (case k4 => walk_at "sh"); (case k5 => walk_at "sh"))
  | (refine' d_isiT ?k1 ?k2 ?k3 ?_; (case k1 => assumption); (case k2 => walk_at "mem"); (case k3 => assumption))
  | (refine' d_isiL ?k1 ?k2 ?k3 ?_; (case k1 => assumption); (case k2 => walk_at "inl"); (case k3 => assumption))
  | (refine' d_isiO ?k1 ?k2 ?k3 ?k4 ?k5 ?k6 ?k7 ?_; (case k1 => assumption); (case k2 => walk_at "mem"); (case k3 => assumption); (case k4 => assumption); (case k5 => assumption); (case k6 => assumption); (case k7 => assumption))
  | walk_at "lof"
  | (refine' d_tupOfL ?k1 ?k2 ?_; (case k1 => assumption); (case k2 => walk_at "inl"); intro p' H' M')
  | (refine' d_tupOfT ?k1 ?k2 ?_; (case k1 => assumption); (case k2 => walk_at "mem"))
  | (refine' d_tupOfQ ?k1 ?k2 ?_; (case k1 => assumption); (case k2 => walk_at "mem"); intro p' H' M')
  | (refine' d_catT ?k1 ?k2 ?k3 ?k4 ?_; (case k1 => assumption); (case k2 => walk_at "mem"); (case k3 => walk_at "mem"); (case k4 => walk_at "size"); intro p' H' M')
  | (refine' d_slL ?k1 ?k2 ?_; (case k1 => assumption); (case k2 => walk_at "inl"); intro p' H' M')
  | refine d_revL ?_
  | (refine' d_rev ?k1 ?k2 ?_; (case k1 => assumption); (case k2 => walk_at "inl"); intro p' H' M')
  | (refine' d_cat ?k1 ?k2 ?k3 ?k4 ?_; (case k1 => assumption); (case k2 => walk_at "inl"); (case k3 => walk_at "inl"); (case k4 => walk_at "size"); intro p' H' M')
  | (refine' d_all ?k1 ?k2 ?_; (case k1 => assumption); (case k2 => walk_at "inl"))
  | (refine' d_any ?k1 ?k2 ?_; (case k1 => assumption); (case k2 => walk_at "inl"))
  | (refine' d_lstAt ?k1 ?k2 ?_; (case k1 => assumption); (case k2 => walk_at "inl"))
  | (refine' d_tupAt ?k1 ?k2 ?_; (case k1 => assumption); (case k2 => walk_at "mem"))
  | (refine' d_meth ?k1 ?k2 ?k3 ?_; (case k1 => assumption); (case k2 => walk_at "mem"); (case k3 => walk_at "fld"))
  | (refine' d_ownN ?k1 ?k2 ?_; (case k1 => assumption); (case k2 => walk_at "mem"))
  | (refine' d_ownO ?k1 ?k2 ?k3 ?_; (case k1 => assumption); (case k2 => walk_at "mem"); (case k3 => walk_at "mem"))
  | (refine' d_ownEq ?k1 ?k2 ?k3 ?_; (case k1 => assumption); (case k2 => walk_at "mem"); (case k3 => walk_at "mem"))
  | (refine' d_ownIn ?k1 ?k2 ?_; (case k1 => assumption); (case k2 => walk_at "mem"))
  | (refine' d_ownU ?k1 ?k2 ?_; (case k1 => assumption); (case k2 => walk_at "mem"))
  | (refine' d_ownStr ?k1 ?k2 ?_; (case k1 => assumption); (case k2 => walk_at "mem"))
  | (refine' d_prop ?k1 ?k2 ?_; (case k1 => assumption); (case k2 => walk_at "mem"))
  | (refine' d_dnew ?k1 ?_; (case k1 => assumption); intro p' H' M')
  | refine d_din0 ?_ | refine d_dnotin0 ?_ | refine d_dget0 ?_ | refine d_dput0 ?_ | refine d_items0 ?_
  | (refine' d_din ?k1 ?k2 ?k3 ?_; (case k1 => assumption); (case k2 => walk_at "inl"); (case k3 => first | exact (rfl : V.str _ = kV (Sum.inr _)) | exact (rfl : V.int _ = kV (Sum.inl _)) | fail))
  | (refine' d_dnotin ?k1 ?k2 ?k3 ?_; (case k1 => assumption); (case k2 => walk_at "inl"); (case k3 => first | exact (rfl : V.str _ = kV (Sum.inr _)) | exact (rfl : V.int _ = kV (Sum.inl _)) | fail))
  | (refine' d_items ?k1 ?k2 ?_; (case k1 => assumption); (case k2 => walk_at "inl"); intro p' H' M')
  | (refine' d_range1 ?k1 ?_; (case k1 => assumption); intro p' H' hp' M')
  | (refine' d_listRng ?k1 ?k2 ?k3 ?k4 ?_; (case k1 => assumption); (case k2 => assumption); (case k3 => omega); (case k4 => omega); intro p' H' M')
  | walk_at "use")
local macro_rules | `(tactic| walk_at "go") => `(tactic| repeat' (walk_at "go1"))

local macro_rules | `(tactic| walk_at "hp") => `(tactic| first | assumption | fail)
local macro_rules | `(tactic| walk_at "fld") => `(tactic| first | exact fd_nil | exact fd_hd | (refine' fd_tl ?k1 ?k2; (case k1 => decide +kernel); (case k2 => walk_at "fld")) | fail)
local macro_rules | `(tactic| walk_at "size") => `(tactic| first | exact Nat.lt_of_le_of_lt (m := 50000) (by first | omega | (simp only [List.length_map, List.length_range, List.length_append, List.length_cons, List.length_nil, List.length_replicate, List.length_set, List.length_reverse]; omega)) (by decide) | exact Nat.le_trans (m := 50000) (by first | omega | (simp only [List.length_map, List.length_range, List.length_append, List.length_cons, List.length_nil, List.length_replicate, List.length_set, List.length_reverse]; omega)) (by decide) | fail)
section
variable {P : Program} {w : World} {K : PySem.W.Frag} {mg : Str → Option Value} {base : Heap} {C CO fO CE fE : Addr}
local macro_rules | `(tactic| walk_at "goI") => `(tactic| repeat' (fail_if_success (with_reducible refine k_ifS ?_); walk_at "go1"))
def wordR (rs : List Pr) (d : Int) : Str := if rs = [] then "void" else if (rs.filter fun x => hs x d) = [] then "never" else if (rs.filter fun x => hs x d).length = rs.length then "sure" else "open"
theorem hs_iff {x : Pr} {d : Int} : hs x d = true ↔ (x.1 ≤ d ∧ d ≤ x.2) := decide_eq_true_iff
theorem word_eq {ns : List Nt} {last d : Int} {rs le gr : List Pr} (h : Lof (Fit ns last) rs) (h1 : Lof (Least ns last) le) (h2 : Lof (Great ns last) gr) : wordOn le gr d = wordR rs d := by
  unfold wordOn wordR
  have e0 : le = [] ↔ rs = [] := by
    constructor
    · intro e
      rw [List.eq_nil_iff_forall_not_mem] at e ⊢
      intro x hx
      obtain ⟨y, hy, _, _⟩ := has_least _ x ((h.me x).mp hx) (Nat.le_refl _)
      exact e y ((h1.me y).mpr hy)
    · intro e
      rw [List.eq_nil_iff_forall_not_mem] at e ⊢
      intro x hx
      exact e x ((h.me x).mpr ((h1.me x).mp hx).1)
  have e1 : (le.all fun x => hs x d) = true ↔ (rs.filter fun x => hs x d).length = rs.length := by
    rw [List.length_filter_eq_length_iff, List.all_eq_true]
    constructor
    · intro k x hx
      obtain ⟨y, hy, a, b⟩ := has_least _ x ((h.me x).mp hx) (Nat.le_refl _)
      have := hs_iff.mp (k y ((h1.me y).mpr hy))
      exact hs_iff.mpr (by omega)
    · intro k x hx
      exact k x ((h.me x).mpr ((h1.me x).mp hx).1)
  have e2 : (gr.any fun x => hs x d) = true ↔ ¬ (rs.filter fun x => hs x d) = [] := by
    rw [List.filter_eq_nil_iff, List.any_eq_true]
    constructor
    · rintro ⟨x, hx, k⟩ z
      exact z x ((h.me x).mpr ((h2.me x).mp hx).1) k
    · intro k
      simp only [Classical.not_forall, Classical.not_not] at k
      obtain ⟨x, hx, kx⟩ := k
      obtain ⟨y, hy, a, b⟩ := has_great _ x ((h.me x).mp hx) (Nat.le_refl _)
      have := hs_iff.mp kx
      exact ⟨y, (h2.me y).mpr hy, hs_iff.mpr (by omega)⟩
  by_cases k0 : rs = []
  · rw [if_pos (e0.mpr k0), if_pos k0]
  · rw [if_neg (fun z => k0 (e0.mp z)), if_neg k0]
    by_cases k1 : (rs.filter fun x => hs x d).length = rs.length
    · have k2 : ¬ (rs.filter fun x => hs x d) = [] := fun z => by
        rw [z] at k1
        exact k0 (List.length_eq_zero_iff.mp k1.symm)
      rw [if_pos (e1.mpr k1), if_neg k2, if_pos k1]
    · rw [if_neg (fun z => k1 (e1.mp z))]
      by_cases k2 : (rs.filter fun x => hs x d) = []
      · rw [if_pos k2, if_neg (fun z => (e2.mp z) k2)]
      · rw [if_neg k2, if_pos (e2.mpr k2), if_neg k1]
theorem firstP_none {xs ys : List Pr} {b : Bool} : (firstP xs ys b).isNone = true ↔ ∀ x ∈ xs, ∀ y ∈ ys, ¬ mt x y = b := by
  unfold firstP
  rw [Option.isNone_iff_eq_none, List.findSome?_eq_none_iff]
  simp only [Option.map_eq_none_iff, List.find?_eq_none, beq_iff_eq]
theorem mt_iff {x y : Pr} : mt x y = true ↔ (x.1 ≤ y.2 ∧ y.1 ≤ x.2) := decide_eq_true_iff
theorem apart_eq {ns os : List Nt} {last : Int} {rs ss l1 l2 : List Pr} (h : Lof (Fit ns last) rs) (k : Lof (Fit os last) ss) (h1 : Lof (Least ns last) l1) (k1 : Lof (Least os last) l2) : (firstP l1 l2 false).isNone = (firstP rs ss false).isNone := by
  rw [Bool.eq_iff_iff, firstP_none, firstP_none]
  constructor
  · intro z x hx y hy e
    obtain ⟨x', hx', a, b⟩ := has_least _ x ((h.me x).mp hx) (Nat.le_refl _)
    obtain ⟨y', hy', c, d⟩ := has_least _ y ((k.me y).mp hy) (Nat.le_refl _)
    refine z x' ((h1.me x').mpr hx') y' ((k1.me y').mpr hy') ?_
    rw [← Bool.not_eq_true, mt_iff] at e ⊢
    omega
  · intro z x hx y hy e
    exact z x ((h.me x).mpr ((h1.me x).mp hx).1) y ((k.me y).mpr ((k1.me y).mp hy).1) e
theorem meet_eq {ns os : List Nt} {last : Int} {rs ss l1 l2 : List Pr} (h : Lof (Fit ns last) rs) (k : Lof (Fit os last) ss) (h1 : Lof (Great ns last) l1) (k1 : Lof (Great os last) l2) : (firstP l1 l2 true).isNone = (firstP rs ss true).isNone := by
  rw [Bool.eq_iff_iff, firstP_none, firstP_none]
  constructor
  · intro z x hx y hy e
    obtain ⟨x', hx', a, b⟩ := has_great _ x ((h.me x).mp hx) (Nat.le_refl _)
    obtain ⟨y', hy', c, d⟩ := has_great _ y ((k.me y).mp hy) (Nat.le_refl _)
    refine z x' ((h1.me x').mpr hx') y' ((k1.me y').mpr hy') ?_
    rw [mt_iff] at e ⊢
    omega
  · intro z x hx y hy e
    exact z x ((h.me x).mpr ((h1.me x).mp hx).1) y ((k.me y).mpr ((k1.me y).mp hy).1) e
def sp_word (K : PySem.W.Frag) : Sp := fun vs H Q E => ∃ (G : Hp) (rs : List Pr) (day : Int), Same G H ∧ AtL K G vs [.lst (rs.map prD), .int day] ∧ (rs.length ≤ 3721) ∧ (∀ H', Mm K H G [] ([]) [] H' → Q (.str (wordR rs day)) H')
theorem ok_word {f : Addr} {fd : FuncData} (F : Fun K "_law_word" "_law_word" s__law_word f fd) (T : Txt P K mg C CO fO CE fE)  :
    FnOk P w K mg base (L2.CX P w) (0 + 1) f fd ["_law_rows", "_law_day"] (sp_word K) := by
  refine okT F sc__law_word (fun vs H Q E h => ?_) (fun cdv A outer s H vs Q E hr tk h => ?_)
  · obtain ⟨G, rs, day, _, hA, _⟩ := h
    rcases hA with _ | ⟨ha0, hA0⟩
    rcases hA0 with _ | ⟨ha1, hA1⟩
    cases hA1
    rfl
  obtain ⟨G, rs, day, hsG, hA, p0, k⟩ := h
  have f1 := T.i1; have f2 := T.i2; have f3 := T.i3; have f4 := T.i4; have f5 := T.i5; have f6 := T.cl; have f7 := T.nc; have f8 := T.ng; have f9 := T.oa; have f10 := T.on; have f11 := T.ot; have f12 := T.om
  rcases hA with _ | ⟨ha0, hA0⟩
  rcases hA0 with _ | ⟨ha1, hA1⟩
  cases hA1
  obtain ⟨q0, rfl⟩ := ha0.refL
  obtain rfl := ha1.isI
  have M : Mm K H G [] [] [(.ref q0, .lst (rs.map prD))] H := Mm.start hsG (fun z hz => by
    simp only [List.mem_cons, List.not_mem_nil, or_false] at hz
    rcases hz with rfl
    · exact ha0)
  refine ⟨_, (pss_cons (ps_setLc (i := 2) (own := [("_law_row", 3)]) (g := gName 3) rfl sc__law_word.nd rfl rfl (sw_true rfl rfl rfl (by decide +kernel)) (pi_list (pv 0)) (blkOk_by (own := [("_law_row", 3)]) (N := N__law_word) (sc := defScope s__law_word) (by decide +kernel)) (fun _ _ _ _ _ => pg_name (i := 3) sc__law_word.nd rfl (Or.inl rfl)) (fun _ _ _ _ _ => pts_one (PW.pt (pw_and (pt_cmpR op_le (pe_ix (ix_tup : IxR _ (rIxT K)) (pv 3) pe_int (fun _ _ => rfl)) (pv 1) (nomark _)) (pw_and1 (pt_cmpR op_le (pv 1) (pe_ix (ix_tup : IxR _ (rIxT K)) (pv 3) pe_int (fun _ _ => rfl)) (nomark _)))))) (fun _ _ _ _ _ => (pv 3)))
      (pss_cons (ps_if (pt_cmpR (op_eqE hr.units) (pv 0) (pe_lst pa_nil) (nomark _)) (pss_one (ps_ret pe_str)) pss_nil)
      (pss_cons (ps_if (pt_cmpR (op_eqE hr.units) (pv 2) (pe_lst pa_nil) (nomark _)) (pss_one (ps_ret pe_str)) pss_nil)
      (pss_cons (ps_if (pt_cmpR op_eq (pe_callB b_len (by rfl) T.b_len (by decide +kernel) (pa_cons (pv 2) pa_nil)) (pe_callB b_len (by rfl) T.b_len (by decide +kernel) (pa_cons (pv 0) pa_nil)) (nomark _)) (pss_one (ps_ret pe_str)) pss_nil)
      (pss_one (ps_ret pe_str)))))), ?_⟩
  simp only [cxK, st__law_word]
  have hl : (rs.map prD).length = rs.length := List.length_map _
  walk_at "go"
  refine lcS (src_lst (ds := rs.map prD)) M (fun i => ((rs.take i).filter fun x => hs x day).map prD) (fun _ _ => .inl (by walk_at "mem")) rfl ?_ ?_
  · intro i x A0 H' hi M'
    rw [hl] at hi
    have htk := take_succ' hi
    have hfl := List.length_filter_le (fun x : Pr => hs x day) (rs.take i)
    have htl := List.length_take_le' i rs
    rw [getD_map hi] at M'
    generalize rs.getD i default = y at M' htk
    obtain ⟨px, rfl⟩ := M'.isT
    walk_at "go"
    all_goals refine ⟨rfl, ?_⟩
    walk_at "go"
    · rename_i h1 h2
      refine lc_add M' (H1.mem (by walk_at "mem")) (by walk_at "sub") (by rw [List.length_map]; omega) ?_
      rw [htk, List.filter_append, List.filter_cons_of_pos (p := fun x => hs x day) (hs_iff.mpr ⟨h1, h2⟩), List.filter_nil, List.map_append]
      rfl
    all_goals
      rw [htk, List.filter_append, List.filter_cons_of_neg (p := fun x => hs x day) (fun z => by have := hs_iff.mp z; omega), List.filter_nil, List.append_nil]
      exact M'.sub (by walk_at "sub")
  · intro A0 H' N'
    rw [hl, List.take_length] at N'
    have M' := N'.freeze
    clear N' M
    unfold wordR at k
    by_cases h0 : rs = []
    · have e1 : (rs.map prD).isEmpty = true := by rw [h0]; rfl
      rw [if_pos h0] at k
      walk_at "go"
      refine k_iteT0 e1 ?_
      walk_at "go"
      exact k _ (Mm.none (by assumption))
    · have e1 : (rs.map prD).isEmpty = false := by
        cases rs with
        | nil => exact absurd rfl h0
        | cons x l => rfl
      rw [if_neg h0] at k
      walk_at "go"
      refine k_iteF0 e1 ?_
      walk_at "go"
      by_cases h2 : (rs.filter fun x => hs x day) = []
      · rw [if_pos h2] at k
        refine k_iteT0 (by rw [h2]; rfl) ?_
        walk_at "go"
        exact k _ (Mm.none (by assumption))
      · rw [if_neg h2] at k
        refine k_iteF0 (by
          cases h9 : rs.filter fun x => hs x day with
          | nil => exact absurd h9 h2
          | cons x l => rfl) ?_
        walk_at "go"
        · rename_i hc
          rw [List.length_map, List.length_map] at hc
          rw [if_pos (by omega)] at k
          exact k _ (Mm.none (by assumption))
        · rename_i hc
          rw [List.length_map, List.length_map] at hc
          rw [if_neg (by omega)] at k
          exact k _ (Mm.none (by assumption))
theorem use_word {B G0 H : Hp} {ms : List Addr} {X : List (Addr × D)} {L : List (V × D)} {Q : VK} {E : XK} {ws : List V} {rs : List Pr} {day : Int} (M : Mm K B G0 ms X L H) (ha : Hs L ws [.lst (rs.map prD), .int day]) (p0 : rs.length ≤ 3721) (k0 : ∀ H', Mm K B G0 ms (X) L H' → Q (.str (wordR rs day)) H') : sp_word K ws H Q E := by
  obtain ⟨G, W⟩ := M
  exact ⟨G, rs, day, W.s1, ha K G W.ok, p0, fun H' M2 => k0 H' (W.comp M2)⟩
local macro_rules | `(tactic| walk_at "use") => `(tactic| with_reducible first
  | (refine' use_take ?k1 ?k2 ?k3 ?k4 ?k5 ?_; (case k1 => assumption); (case k2 => walk_at "hass"); (case k3 => assumption); (case k4 => omega); (case k5 => omega); intro d' a' b' c' H' hc' M'; obtain ⟨hd1', hd2', hb'⟩ := hc')
  | (refine' use_take1 ?k1 ?k2 ?k3 ?k4 ?k5 ?_; (case k1 => assumption); (case k2 => walk_at "hass"); (case k3 => assumption); (case k4 => omega); (case k5 => omega); intro d' a' b' c' H' hc' M'; obtain ⟨hd1', hd2', hb'⟩ := hc')
  | (refine' use_take2 ?k1 ?k2 ?k3 ?k4 ?k5 ?_; (case k1 => assumption); (case k2 => walk_at "hass"); (case k3 => assumption); (case k4 => omega); (case k5 => omega); intro d' a' b' c' H' hc' M'; obtain ⟨hd1', hd2', hb'⟩ := hc')
  | (refine' k_isiS ?k1 ?_; (case k1 => assumption))
  | fail)
local macro_rules | `(tactic| walk_at "lst") => `(tactic| (refine' d_lstX ?k1 ?k2 ?k3 ?_; (case k1 => assumption); (case k2 => walk_at "hass"); (case k3 => walk_at "size"); intro p' H' M'))
def sp_words (K : PySem.W.Frag) (C : Addr) : Sp := fun vs H Q E => ∃ (G : Hp) (bg : Addr) (ws : List V) (cs : List Int) (a b c : Int) (t : Bool) (ns : List Nt) (last : Int) (rs : List Pr), vs = .ref bg :: ws ∧ Same G H ∧ Mt K G H bg (boxD cs a b c) ∧ G bg = none ∧ AtL K G ws [sq t (ns.map ntD), .int last, .lst (rs.map prD)] ∧ (Box cs a b c) ∧ (0 ≤ last) ∧ (last ≤ 60) ∧ (InR ns last) ∧ (ns.length ≤ 1000) ∧ (Lof (Fit ns last) rs) ∧ (rs.length ≤ 3721) ∧ (∀ (a' b' c' : Int) H', (Box cs a' b' c') → Mm K H G [bg] ((bg, boxD cs a' b' c') :: []) [] H' → Q (.bl true) H')
theorem ok_words {f : Addr} {fd : FuncData} (F : Fun K "_law_words" "_law_words" s__law_words f fd) (T : Txt P K mg C CO fO CE fE) (c__law_take : Cal P w K mg base 1 "_law_take" (sp_take K)) (c_surely_on : Cal P w K mg base 4 "surely_on" (sp_sure K C)) (c__law_word : Cal P w K mg base 1 "_law_word" (sp_word K)) :
    FnOk P w K mg base (L2.CX P w) (4 + 1) f fd ["_law_box", "_law_notes_here", "_law_last", "_law_rows"] (sp_words K C) := by
  refine okT F sc__law_words (fun vs H Q E h => ?_) (fun cdv A outer s H vs Q E hr tk h => ?_)
  · obtain ⟨G, bg, ws, cs, a, b, c, t, ns, last, rs, rfl, _, _, _, hA, _⟩ := h
    rcases hA with _ | ⟨ha0, hA0⟩
    rcases hA0 with _ | ⟨ha1, hA1⟩
    rcases hA1 with _ | ⟨ha2, hA2⟩
    cases hA2
    rfl
  obtain ⟨G, bg, ws, cs, a, b, c, t, ns, last, rs, rfl, hsG, hmt, hgb, hA, p0, p1, p2, p3, p4, p5, p6, k⟩ := h
  have f1 := T.i1; have f2 := T.i2; have f3 := T.i3; have f4 := T.i4; have f5 := T.i5; have f6 := T.cl; have f7 := T.nc; have f8 := T.ng; have f9 := T.oa; have f10 := T.on; have f11 := T.ot; have f12 := T.om
  rcases hA with _ | ⟨ha0, hA0⟩
  rcases hA0 with _ | ⟨ha1, hA1⟩
  rcases hA1 with _ | ⟨ha2, hA2⟩
  cases hA2
  obtain ⟨q0, rfl⟩ := ha0.refQ
  obtain rfl := ha1.isI
  obtain ⟨q2, rfl⟩ := ha2.refL
  have M : Mm K H G [bg] [(bg, boxD cs a b c)] [(.ref q0, sq t (ns.map ntD)), (.ref q2, .lst (rs.map prD))] H := Mm.start1 hsG hmt hgb (fun z hz => by
    simp only [List.mem_cons, List.not_mem_nil, or_false] at hz
    rcases hz with rfl | rfl
    · exact ha0
    · exact ha2)
  refine ⟨_, (pss_cons (ps_setLc (i := 4) (own := [("_law_day", 6)]) (g := gName 6) (tt := tYes) rfl sc__law_words.nd rfl rfl (sw_true rfl rfl rfl (by decide +kernel)) (pi_range1 (by rfl) T.b_range (pa_cons (pe_op op_add (pv 2) pe_int) pa_nil)) (blkOk_by (own := [("_law_day", 6)]) (N := N__law_words) (sc := defScope s__law_words) (by decide +kernel)) (fun _ _ _ _ _ => pg_name (i := 6) sc__law_words.nd rfl (Or.inl rfl)) (fun _ _ _ _ _ => pts_nil) (fun _ _ _ _ _ => (pe_op op_sub (pv 6) pe_int)))
      (pss_cons (ps_if (pt_cmpR op_gt (pv 2) pe_int (nomark _)) (pss_one (ps_set (i := 4) sc__law_words.nd rfl (Or.inl rfl) (pe_lst (pa_cons pe_negC (pa_cons (pv 2) (pa_cons (c_call c__law_take tk hr (by decide) (pa_cons (pv 0) (pa_cons (pe_op op_add (pv 2) pe_int) pa_nil))) pa_nil)))))) pss_nil)
      (pss_cons (ps_set (i := 5) sc__law_words.nd rfl (Or.inl rfl) (c_call c__law_take tk hr (by decide) (pa_cons (pv 0) (pa_cons (pe_powC (n := 100000000000000000)) pa_nil))))
      (pss_cons (ps_for (passes_of rfl) rfl (pi_list (pe_op op_cat (pv 4) (pe_lst (pa_cons (pe_op op_sub pe_negC (pv 5)) (pa_cons (pe_op op_add (pe_op op_add (pv 2) pe_int) (pv 5)) pa_nil))))) (pg_name (i := 6) sc__law_words.nd rfl (Or.inl rfl)) (pss_cons (ps_set (i := 7) sc__law_words.nd rfl (Or.inl rfl) (c_call c_surely_on tk hr (by decide) (pa_cons (pv 1) (pa_cons (pv 2) (pa_cons (pv 6) pa_nil)))))
      (pss_one (ps_if (PW.pt (pw_or (pt_not (pt_val (pe_callB call_isi (by rfl) T.b_isinstance (by decide +kernel) (pa_cons (pv 7) (pa_cons (g_ty (n := "str") T.b_str (by decide +kernel)) pa_nil))))) (pw_or1 (pt_cmpR op_ne (pv 7) (c_call c__law_word tk hr (by decide) (pa_cons (pv 3) (pa_cons (pv 6) pa_nil))) (nomark _))))) (pss_one (ps_ret pe_bl)) pss_nil))))
      (pss_one (ps_ret pe_bl)))))), ?_⟩
  simp only [cxK, st__law_words]
  walk_at "go"
  refine lcS src_rng M (fun i => ((List.range i).map fun (z : Nat) => (z : Int) - 1).map D.int) (fun _ _ => trivial) rfl ?_ ?_
  · intro i x A0 H' hi M'
    obtain rfl := M'.isI
    walk_at "go"
    refine ⟨rfl, ?_⟩
    walk_at "go"
    refine lc_add M' H1.int (by walk_at "sub") (by simp; omega) ?_
    rw [List.range_succ, List.map_append, List.map_append, Int.zero_add]
    rfl
  intro A1 H1' N1
  have M1 := N1.freeze
  clear N1 M
  walk_at "goI"
  refine k_seq ?_
  refine join (fun σ' H' => ∃ (dl : Addr) (ds : List Int) (a1 b1 c1 : Int) (v5 v6 v7 : Option V), σ' = [some (.ref bg), some (.ref q0), some (.int last), some (.ref q2), some (.ref dl), v5, v6, v7] ∧ ds.length ≤ 100 ∧ Box cs a1 b1 c1 ∧ Mm K H G [bg] [(bg, boxD cs a1 b1 c1)] [(.ref dl, .lst (ds.map D.int)), (.ref q0, sq t (ns.map ntD)), (.ref q2, .lst (rs.map prD))] H') (fun nx hnx => ?_) ?_
  · walk_at "go"
    · rename_i hc d2 a2 b2 c2 H2 M2 e1 e2 e3 dl H3 M3
      exact hnx _ _ ⟨dl, [-1, last, d2], _, _, _, _, _, _, rfl, by simp, e3, M3.freeze.sub (by walk_at "sub")⟩
    · exact hnx _ _ ⟨A1, (List.range (last + 3).toNat).map fun (z : Nat) => (z : Int) - 1, _, _, _, _, _, _, rfl, by rw [List.length_map, List.length_range]; omega, p0, M1.sub (by walk_at "sub")⟩
  · rintro σ' H' ⟨dl, ds, a1, b1, c1, v5, v6, v7, rfl, hdl, hbx, M2⟩
    have hl9 : (ds.map D.int).length = ds.length := List.length_map _
    clear M1
    walk_at "go"
    rename_i d3 a3 b3 c3 H3 M3 e1 e2 e3 p4' H4 M4 p5' H5 N5
    rw [show ds.map D.int ++ [D.int (-2 - d3), D.int (last + 2 + d3)] = (ds ++ [-2 - d3, last + 2 + d3]).map D.int by rw [List.map_append]; rfl] at N5
    have M5 := N5.freeze.dropX
    generalize ds ++ [-2 - d3, last + 2 + d3] = es at M5
    have hl5 : (es.map D.int).length = es.length := List.length_map _
    clear M2 M3 M4 N5
    refine forS (src_lst (ds := es.map D.int)) (fun _ => [(bg, boxD cs a3 b3 c3)]) M5 (fun i σ' => ∃ v6 v7, σ' = [some (.ref bg), some (.ref q0), some (.int last), some (.ref q2), some (.ref dl), some (.int d3), v6, v7]) (fun _ => .inl (by walk_at "mem")) ⟨_, _, rfl⟩ ?_ ?_
    · rintro i x σ' H' hi ⟨v6, v7, rfl⟩ M'
      rw [hl5] at hi
      rw [getD_map hi] at M'
      generalize es.getD i default = e at M'
      obtain rfl := M'.isI
      walk_at "go"
      refine' use_sure (t := t) (ns := ns) (last := last) (day := e) ?m0 ?h0 ?q0 ?q1 ?q2 ?q3 ?_
      case m0 => assumption
      case h0 => walk_at "hass"
      case q0 => exact p3
      case q1 => exact p1
      case q2 => omega
      case q3 => exact p4
      intro le gr H6 hc6 M6
      rw [word_eq (d := e) p5 hc6.1 hc6.2]
      walk_at "go"
      refine' use_word (rs := rs) (day := e) ?m0 ?h0 ?q0 ?_
      case m0 => assumption
      case h0 => walk_at "hass"
      case q0 => exact p6
      intro H7 M7
      walk_at "go"
      exact ⟨⟨_, _, rfl⟩, M7.sub (by walk_at "sub")⟩
    · rintro σ' H' ⟨v6, v7, rfl⟩ M'
      walk_at "go"
      exact k _ _ _ _ e3 M'.noL
theorem use_words {B G0 H : Hp} {ms : List Addr} {X : List (Addr × D)} {L : List (V × D)} {Q : VK} {E : XK} {ws : List V} {bg : Addr} {cs : List Int} {a b c : Int} {t : Bool} {ns : List Nt} {last : Int} {rs : List Pr} (M : Mm K B G0 ms ((bg, boxD cs a b c) :: X) L H) (ha : Hs L ws [sq t (ns.map ntD), .int last, .lst (rs.map prD)]) (p0 : Box cs a b c) (p1 : 0 ≤ last) (p2 : last ≤ 60) (p3 : InR ns last) (p4 : ns.length ≤ 1000) (p5 : Lof (Fit ns last) rs) (p6 : rs.length ≤ 3721) (k0 : ∀ (a' b' c' : Int) H', (Box cs a' b' c') → Mm K B G0 ms ((bg, boxD cs a' b' c') :: X) L H' → Q (.bl true) H') : sp_words K C (.ref bg :: ws) H Q E := by
  obtain ⟨G, W⟩ := M
  exact ⟨G, bg, ws, cs, a, b, c, t, ns, last, rs, rfl, W.s1, W.chg (bg, boxD cs a b c) List.mem_cons_self, W.off (bg, boxD cs a b c) List.mem_cons_self, ha K G W.ok, p0, p1, p2, p3, p4, p5, p6, fun a' b' c' H' hc M2 => k0 a' b' c' H' hc (W.compAt (X1 := []) M2)⟩
theorem use_words1 {B G0 H : Hp} {ms : List Addr} {X : List (Addr × D)} {L : List (V × D)} {Q : VK} {E : XK} {ws : List V} {z0 : Addr × D} {bg : Addr} {cs : List Int} {a b c : Int} {t : Bool} {ns : List Nt} {last : Int} {rs : List Pr} (M : Mm K B G0 ms (z0 :: (bg, boxD cs a b c) :: X) L H) (ha : Hs L ws [sq t (ns.map ntD), .int last, .lst (rs.map prD)]) (p0 : Box cs a b c) (p1 : 0 ≤ last) (p2 : last ≤ 60) (p3 : InR ns last) (p4 : ns.length ≤ 1000) (p5 : Lof (Fit ns last) rs) (p6 : rs.length ≤ 3721) (k0 : ∀ (a' b' c' : Int) H', (Box cs a' b' c') → Mm K B G0 ms (z0 :: (bg, boxD cs a' b' c') :: X) L H' → Q (.bl true) H') : sp_words K C (.ref bg :: ws) H Q E := by
  obtain ⟨G, W⟩ := M
  exact ⟨G, bg, ws, cs, a, b, c, t, ns, last, rs, rfl, W.s1, W.chg (bg, boxD cs a b c) (by simp), W.off (bg, boxD cs a b c) (by simp), ha K G W.ok, p0, p1, p2, p3, p4, p5, p6, fun a' b' c' H' hc M2 => k0 a' b' c' H' hc (W.compAt (X1 := [z0]) M2)⟩
theorem use_words2 {B G0 H : Hp} {ms : List Addr} {X : List (Addr × D)} {L : List (V × D)} {Q : VK} {E : XK} {ws : List V} {z0 z1 : Addr × D} {bg : Addr} {cs : List Int} {a b c : Int} {t : Bool} {ns : List Nt} {last : Int} {rs : List Pr} (M : Mm K B G0 ms (z0 :: z1 :: (bg, boxD cs a b c) :: X) L H) (ha : Hs L ws [sq t (ns.map ntD), .int last, .lst (rs.map prD)]) (p0 : Box cs a b c) (p1 : 0 ≤ last) (p2 : last ≤ 60) (p3 : InR ns last) (p4 : ns.length ≤ 1000) (p5 : Lof (Fit ns last) rs) (p6 : rs.length ≤ 3721) (k0 : ∀ (a' b' c' : Int) H', (Box cs a' b' c') → Mm K B G0 ms (z0 :: z1 :: (bg, boxD cs a' b' c') :: X) L H' → Q (.bl true) H') : sp_words K C (.ref bg :: ws) H Q E := by
  obtain ⟨G, W⟩ := M
  exact ⟨G, bg, ws, cs, a, b, c, t, ns, last, rs, rfl, W.s1, W.chg (bg, boxD cs a b c) (by simp), W.off (bg, boxD cs a b c) (by simp), ha K G W.ok, p0, p1, p2, p3, p4, p5, p6, fun a' b' c' H' hc M2 => k0 a' b' c' H' hc (W.compAt (X1 := [z0, z1]) M2)⟩
theorem use_words3 {B G0 H : Hp} {ms : List Addr} {X : List (Addr × D)} {L : List (V × D)} {Q : VK} {E : XK} {ws : List V} {z0 z1 z2 : Addr × D} {bg : Addr} {cs : List Int} {a b c : Int} {t : Bool} {ns : List Nt} {last : Int} {rs : List Pr} (M : Mm K B G0 ms (z0 :: z1 :: z2 :: (bg, boxD cs a b c) :: X) L H) (ha : Hs L ws [sq t (ns.map ntD), .int last, .lst (rs.map prD)]) (p0 : Box cs a b c) (p1 : 0 ≤ last) (p2 : last ≤ 60) (p3 : InR ns last) (p4 : ns.length ≤ 1000) (p5 : Lof (Fit ns last) rs) (p6 : rs.length ≤ 3721) (k0 : ∀ (a' b' c' : Int) H', (Box cs a' b' c') → Mm K B G0 ms (z0 :: z1 :: z2 :: (bg, boxD cs a' b' c') :: X) L H' → Q (.bl true) H') : sp_words K C (.ref bg :: ws) H Q E := by
  obtain ⟨G, W⟩ := M
  exact ⟨G, bg, ws, cs, a, b, c, t, ns, last, rs, rfl, W.s1, W.chg (bg, boxD cs a b c) (by simp), W.off (bg, boxD cs a b c) (by simp), ha K G W.ok, p0, p1, p2, p3, p4, p5, p6, fun a' b' c' H' hc M2 => k0 a' b' c' H' hc (W.compAt (X1 := [z0, z1, z2]) M2)⟩
end
end K20

set_option Elab.async false
set_option linter.all false
set_option maxRecDepth 100000
set_option maxHeartbeats 8000000
namespace K20
open PySem L2 MyL
local macro_rules | `(tactic| walk_at "sub") => `(tactic| first | exact sub_nil | exact sub_self | (refine' sub_cons ?k1 ?k2; (case k1 => walk_at "mem"); (case k2 => walk_at "sub")) | (refine' sub_app ?k1 ?k2; (case k1 => walk_at "sub"); (case k2 => walk_at "sub")) | (refine sub_tail ?_; walk_at "sub") | fail)
local macro_rules | `(tactic| walk_at "mem") => `(tactic| first | exact List.mem_cons_self | (refine List.mem_cons_of_mem _ ?_; walk_at "mem") | (refine List.mem_append_right _ ?_; walk_at "mem") | (refine List.mem_append_left _ ?_; walk_at "mem") | assumption | fail)
local macro_rules | `(tactic| walk_at "inl") => `(tactic| first | (refine Or.inl ?_; walk_at "mem") | (refine Or.inr ?_; walk_at "mem") | fail)
local macro_rules | `(tactic| walk_at "has1") => `(tactic| first | exact H1.int | exact H1.str | exact H1.bl | exact H1.non | exact H1.mem (by walk_at "mem") | assumption | fail)
local macro_rules | `(tactic| walk_at "hass") => `(tactic| first | exact Hs.nil | (refine' Hs.cons ?k1 ?k2; (case k1 => walk_at "has1"); (case k2 => walk_at "hass")) | exact Hs.ints _ | assumption | fail)
local macro_rules | `(tactic| walk_at "kn") => `(tactic| first | (refine Or.inl ?_; walk_at "has1") | (refine Or.inr ⟨_, _, rfl, rfl, ?_⟩; walk_at "mem") | fail)
local macro_rules | `(tactic| walk_at "sh") => `(tactic| first | exact Sh.int | exact Sh.bl | exact Sh.non | exact Sh.str (by decide) | assumption | (refine Sh.tupM ?_; intro x' hx'; walk_at "sh") | (refine Sh.lstM ?_; intro x' hx'; walk_at "sh") | (refine Sh.tup ?_; walk_at "shs") | (refine Sh.lst ?_; walk_at "shs") | fail)
local macro_rules | `(tactic| walk_at "shs") => `(tactic| first | exact Sh.nil | (refine' Sh.cons ?k1 ?k2; (case k1 => walk_at "sh"); (case k2 => walk_at "shs")) | fail)
local macro_rules | `(tactic| walk_at "lt") => `(tactic| first | omega | (simp only [List.length_map, List.length_range, List.length_append, List.length_cons, List.length_nil, List.length_replicate, List.length_set]; omega) | fail)
local macro_rules | `(tactic| walk_at "few") => `(tactic| first | decide | simp | fail)
local macro_rules | `(tactic| walk_at "lof") => `(tactic| (refine' d_listI ?k1 ?k2 ?_; (case k1 => assumption); (case k2 => first | (refine Or.inl ?_; walk_at "inl") | (refine Or.inr ?_; walk_at "mem") | fail); intro p' H' M'))
local macro_rules | `(tactic| walk_at "lst") => `(tactic| (refine' d_lst ?k1 ?k2 ?k3 ?_; (case k1 => assumption); (case k2 => walk_at "hass"); (case k3 => walk_at "size"); intro p' H' M'))
local macro_rules | `(tactic| walk_at "cond") => `(tactic| first | omega | assumption | exact mulR (by omega) (by omega) | exact mulL (by omega) (by omega) | exact divW (by omega) (by omega) | decide)
local macro_rules | `(tactic| walk_at "look") => `(tactic| first | assumption | with_unfolding_all rfl | exact atI_mapI (by omega) (by omega) | exact atI_mapL (by omega) (by omega) | exact atI_mapD (by omega) (by omega) | fail)
local macro_rules | `(tactic| walk_at "go1") => `(tactic| with_reducible first
  | refine k_yes ?_ | refine k_seq ?_ | refine k_gName ?_ | refine k_asg ?_ | refine k_ret ?_ | refine k_ifS ?_ | refine k_drop ?_ | refine k_next ?_ | refine k_break ?_ | refine k_cont ?_ | refine k_retN ?_
  | (refine' k_var ?k1 ?_; (case k1 => with_unfolding_all rfl)) | refine k_c ?_ | refine k_op ?_ | refine k_un ?_ | refine k_test ?_ | refine k_B ?_ | refine k_bl ?_ | refine k_and ?_ | refine k_or ?_ | refine k_not ?_
  | refine k_andV ?_ | refine k_orV ?_ | refine k_notV ?_ | refine k_ifE ?_ | refine k_nil ?_ | refine k_cons ?_ | refine k_cb ?_ | refine k_callS ?_ | refine k_lst0 ?_ | refine k_tup0 ?_ | refine k_fld0 ?_ | refine k_sub0 ?_ | refine k_make0 ?_ | refine k_prop0 ?_ | refine k_sta0 ?_ | refine k_sta ?_ | refine k_bm ?_ | refine k_bm0 ?_ | refine k_chain ?_ | refine k_makeK0 ?_ | refine k_swapK ?_ | refine k_meth0 ?_ | refine k_ownN0 ?_ | refine k_ownO0 ?_ | refine k_sfldS ?_ | refine k_jnil ?_ | refine k_jcons ?_ | refine k_fmt0 ?_ | refine k_sl0 ?_ | refine k_nopart ?_ | refine k_part ?_ | refine k_forR1 ?_ | refine k_forR2 ?_ | refine k_forL ?_ | refine k_forT ?_ | refine k_lcR1 ?_ | refine k_lc2R1 ?_ | refine k_lc2R2 ?_ | refine k_lc2L ?_ | refine k_lc2T ?_ | refine k_iR1 ?_ | refine k_iR2 ?_ | refine k_iL ?_ | refine k_iT ?_ | refine k_lcR2 ?_ | refine k_lcL ?_ | refine k_lcT ?_ | refine k_err0 ?_ | refine k_xf0 ?_ | refine k_errQ1 ?_ | refine k_errQ0 ?_ | refine k_errQ2 ?_ | refine k_errQ3 ?_
  | refine k_I0 ?_ | (refine k_I ?k1 ?_; (case k1 => walk_at "cond")) | refine k_U ?_ | refine k_eqI ?_ | refine k_neI ?_ | refine k_eqB ?_ | refine k_neB ?_ | refine k_eqS ?_ | refine k_neS ?_
  | refine k_int1 ?_ | refine k_abs1 ?_ | refine k_min2 ?_ | refine k_max2 ?_
  | (refine' k_lenS ?k1 ?_; (case k1 => assumption)) | (refine' k_ixS ?k1 ?k2 ?_; (case k1 => assumption); (case k2 => walk_at "look"))
  | refine iteT ?_ | refine iteF ?_ | refine k_iteNE ?_ | refine k_iteNS ?_ | refine k_iteNT ?_ | refine k_iteNF ?_
  | (refine k_iteD ?_ ?_ <;> intro hc <;> first | (exfalso; omega) | skip)
  | (refine k_iteN ?_ ?_ <;> intro hc <;> first | (exfalso; omega) | skip)
  | (refine' k_isiI ?k1 ?_; (case k1 => assumption))
  | (refine' k_jst ?k1 ?_; (case k1 => walk_at "size")) | (refine' k_fmtI ?k1 ?_; (case k1 => exact log2_64 (by omega) (by omega))) | (refine' k_strI ?k1 ?_; (case k1 => exact log2_64 (by omega) (by omega)))
  | (refine k_addS ?k1 ?_; (case k1 => walk_at "size")) | refine k_st ?_ | refine k_parti ?_
  | (refine k_rng1 ?k1 ?k2 ?_; (case k1 => omega); (case k2 => omega)) | (refine k_rng2 ?k1 ?k2 ?k3 ?k4 ?_; (case k1 => omega); (case k2 => omega); (case k3 => omega); (case k4 => omega))
  | (refine' k_isXs ?k1 ?k2 ?_; (case k1 => assumption); (case k2 => walk_at "hp")) | (refine' k_isXo ?k1 ?k2 ?k3 ?_; (case k1 => assumption); (case k2 => walk_at "hp"); (case k3 => assumption)) | (refine' k_isXt ?k1 ?k2 ?k3 ?_; (case k1 => assumption); (case k2 => walk_at "hp"); (case k3 => assumption))
  | (refine' k_isX3 ?k1 ?k2 ?k3 ?k4 ?_; (case k1 => assumption); (case k2 => walk_at "hp"); (case k3 => walk_at "hp"); (case k4 => assumption)) | (refine' k_isX2 ?k1 ?k2 ?k3 ?k4 ?_; (case k1 => assumption); (case k2 => walk_at "hp"); (case k3 => walk_at "hp"); (case k4 => assumption))
  | (refine' k_isX0s ?k1 ?_; (case k1 => assumption)) | (refine' k_isX0o ?k1 ?k2 ?_; (case k1 => assumption); (case k2 => assumption)) | (refine' k_isX0t ?k1 ?k2 ?_; (case k1 => assumption); (case k2 => assumption)) | (refine' k_isX04 ?k1 ?k2 ?k3 ?_; (case k1 => assumption); (case k2 => walk_at "hp"); (case k3 => assumption))
  | (refine' k_isX4 ?k1 ?k2 ?k3 ?k4 ?_; (case k1 => assumption); (case k2 => walk_at "hp"); (case k3 => walk_at "hp"); (case k4 => assumption)) | (refine' k_ixT2 ?k1 ?k2 ?k3 ?_; (case k1 => walk_at "hp"); (case k2 => omega); (case k3 => omega); intro n' hn')
  | (refine k_iteNEq ?k1 ?_; (case k1 => (rw [Bool.eq_iff_iff]; first | (simp; done) | (simp; omega))))
  | (refine' k_xf ?k1 ?k2 ?_; (case k1 => walk_at "hp"); (case k2 => first | exact xd1 | exact xdH | exact xd2 (by decide +kernel)))
  | (refine' k_caught ?k1 ?_; (case k1 => assumption); intro a' ha')
  | refine k_asgT ?_ | refine k_gCons ?_ | refine k_gNil ?_ | refine k_par ?_ | refine k_two ?_ | refine k_isNn ?_ | refine k_isNi ?_ | refine k_notNn ?_ | refine k_notNi ?_ | refine k_isN ?_ | refine k_notN ?_
  | (refine' k_xfB ?k1 ?k2 ?_; (case k1 => walk_at "hp"); (case k2 => first | exact xd1 | exact xdH | exact xd2 (by decide +kernel)))
  | (refine' d_ixLI ?k1 ?k2 ?k3 ?_; (case k1 => assumption); (case k2 => walk_at "inl"); (case k3 => walk_at "look"))
  | (refine' d_ixLS ?k1 ?k2 ?k3 ?_; (case k1 => assumption); (case k2 => walk_at "inl"); (case k3 => walk_at "look"))
  | (refine' d_ixLB ?k1 ?k2 ?k3 ?_; (case k1 => assumption); (case k2 => walk_at "inl"); (case k3 => walk_at "look"))
  | (refine' d_ixL ?k1 ?k2 ?k3 ?_; (case k1 => assumption); (case k2 => walk_at "inl"); (case k3 => walk_at "look"); intro v' M'; first | (have e' := Mm.isI M'; subst e') | (have e' := Mm.isS M'; subst e') | (have e' := Mm.isB M'; subst e') | (have e' := Mm.isN M'; subst e') | (obtain ⟨p', e'⟩ := Mm.isT M'; subst e') | (obtain ⟨p', e'⟩ := Mm.isL M'; subst e') | (obtain ⟨p', e'⟩ := Mm.isO M'; subst e') | skip)
  | (refine' d_ixTI ?k1 ?k2 ?k3 ?_; (case k1 => assumption); (case k2 => walk_at "mem"); (case k3 => walk_at "look"))
  | (refine' d_ixTS ?k1 ?k2 ?k3 ?_; (case k1 => assumption); (case k2 => walk_at "mem"); (case k3 => walk_at "look"))
  | (refine' d_ixTB ?k1 ?k2 ?k3 ?_; (case k1 => assumption); (case k2 => walk_at "mem"); (case k3 => walk_at "look"))
  | (refine' d_ixT ?k1 ?k2 ?k3 ?_; (case k1 => assumption); (case k2 => walk_at "mem"); (case k3 => walk_at "look"); intro v' M'; first | (have e' := Mm.isI M'; subst e') | (have e' := Mm.isS M'; subst e') | (have e' := Mm.isB M'; subst e') | (have e' := Mm.isN M'; subst e') | (obtain ⟨p', e'⟩ := Mm.isT M'; subst e') | (obtain ⟨p', e'⟩ := Mm.isL M'; subst e') | (obtain ⟨p', e'⟩ := Mm.isO M'; subst e') | skip)
  | (refine' d_ixc2 ?k1 ?k2 ?k3 ?k4 ?_; (case k1 => assumption); (case k2 => walk_at "inl"); (case k3 => omega); (case k4 => omega); intro n' hn')
  | (refine' d_ixc3 ?k1 ?k2 ?k3 ?k4 ?_; (case k1 => assumption); (case k2 => walk_at "inl"); (case k3 => omega); (case k4 => omega); intro n' hn')
  | (refine' d_ixc4 ?k1 ?k2 ?k3 ?k4 ?_; (case k1 => assumption); (case k2 => walk_at "inl"); (case k3 => omega); (case k4 => omega); intro n' hn')
  | (refine' d_ixc5 ?k1 ?k2 ?k3 ?k4 ?_; (case k1 => assumption); (case k2 => walk_at "inl"); (case k3 => omega); (case k4 => omega); intro n' hn')
  | (refine' d_ixc6 ?k1 ?k2 ?k3 ?k4 ?_; (case k1 => assumption); (case k2 => walk_at "inl"); (case k3 => omega); (case k4 => omega); intro n' hn')
  | (refine' d_ixc7 ?k1 ?k2 ?k3 ?k4 ?_; (case k1 => assumption); (case k2 => walk_at "inl"); (case k3 => omega); (case k4 => omega); intro n' hn')
  | (refine' d_ixc8 ?k1 ?k2 ?k3 ?k4 ?_; (case k1 => assumption); (case k2 => walk_at "inl"); (case k3 => omega); (case k4 => omega); intro n' hn')
  | (refine' d_ixc9 ?k1 ?k2 ?k3 ?k4 ?_; (case k1 => assumption); (case k2 => walk_at "inl"); (case k3 => omega); (case k4 => omega); intro n' hn')
  | (refine' d_lenL ?k1 ?k2 ?_; (case k1 => assumption); (case k2 => walk_at "inl"))
  | (refine' d_lenT ?k1 ?k2 ?_; (case k1 => assumption); (case k2 => walk_at "mem"))
  | (refine' d_lenQ ?k1 ?k2 ?_; (case k1 => assumption); (case k2 => walk_at "mem"))
  | (refine' d_lst0 ?k1 ?_; (case k1 => assumption); intro p' H' M')
  | (refine' d_tup ?k1 ?k2 ?k3 ?_; (case k1 => assumption); (case k2 => walk_at "hass"); (case k3 => walk_at "size"); intro p' H' M')
  | (refine' d_tupR ?k1 ?k2 ?_; (case k1 => assumption); (case k2 => walk_at "size"); intro p' H' hp' M')
  | walk_at "lst"
  | (refine' d_fldI ?k1 ?k2 ?k3 ?k4 ?k5 ?_; (case k1 => assumption); (case k2 => walk_at "mem"); (case k3 => assumption); (case k4 => assumption); (case k5 => walk_at "fld"))
  | (refine' d_fld ?k1 ?k2 ?k3 ?k4 ?k5 ?_; (case k1 => assumption); (case k2 => walk_at "mem"); (case k3 => assumption); (case k4 => assumption); (case k5 => walk_at "fld"); intro v' M'; first | (have e' := Mm.isI M'; subst e') | (have e' := Mm.isS M'; subst e') | (have e' := Mm.isB M'; subst e') | (have e' := Mm.isN M'; subst e') | (obtain ⟨p', e'⟩ := Mm.isT M'; subst e') | (obtain ⟨p', e'⟩ := Mm.isL M'; subst e') | (obtain ⟨p', e'⟩ := Mm.isO M'; subst e') | skip)
  | (refine' d_fldX0 ?k1 ?k2 ?k3 ?k4 ?_; (case k1 => assumption); (case k2 => assumption); (case k3 => assumption); (case k4 => walk_at "fld"); intro v' M'; first | (have e' := Mm.isI M'; subst e') | (have e' := Mm.isS M'; subst e') | (have e' := Mm.isB M'; subst e') | (have e' := Mm.isN M'; subst e') | (obtain ⟨p', e'⟩ := Mm.isT M'; subst e') | (obtain ⟨p', e'⟩ := Mm.isL M'; subst e') | (obtain ⟨p', e'⟩ := Mm.isO M'; subst e') | skip)
  | (refine' d_fldX1 ?k1 ?k2 ?k3 ?k4 ?_; (case k1 => assumption); (case k2 => assumption); (case k3 => assumption); (case k4 => walk_at "fld"); intro v' M'; first | (have e' := Mm.isI M'; subst e') | (have e' := Mm.isS M'; subst e') | (have e' := Mm.isB M'; subst e') | (have e' := Mm.isN M'; subst e') | (obtain ⟨p', e'⟩ := Mm.isT M'; subst e') | (obtain ⟨p', e'⟩ := Mm.isL M'; subst e') | (obtain ⟨p', e'⟩ := Mm.isO M'; subst e') | skip)
  | (refine' d_gT2I ?k1 ?k2 ?k3 ?_; (case k1 => assumption); (case k2 => walk_at "mem"); (case k3 => with_unfolding_all rfl))
  | (refine' d_gT2 ?k1 ?k2 ?k3 ?_; (case k1 => assumption); (case k2 => walk_at "mem"); (case k3 => with_unfolding_all rfl); intro v1' v2' M'; (first | (have e' := Mm.isI M'; subst e') | (have e' := Mm.isS M'; subst e') | (have e' := Mm.isB M'; subst e') | (have e' := Mm.isN M'; subst e') | (obtain ⟨p', e'⟩ := Mm.isT M'; subst e') | (obtain ⟨p', e'⟩ := Mm.isL M'; subst e') | (obtain ⟨p', e'⟩ := Mm.isO M'; subst e') | skip); (first | (have e' := Mm.isI (Mm.dropL M'); subst e') | (have e' := Mm.isS (Mm.dropL M'); subst e') | (have e' := Mm.isB (Mm.dropL M'); subst e') | (have e' := Mm.isN (Mm.dropL M'); subst e') | (obtain ⟨p2', e'⟩ := Mm.isT (Mm.dropL M'); subst e') | (obtain ⟨p2', e'⟩ := Mm.isL (Mm.dropL M'); subst e') | (obtain ⟨p2', e'⟩ := Mm.isO (Mm.dropL M'); subst e') | skip))
  | (refine' d_gT3 ?k1 ?k2 ?k3 ?_; (case k1 => assumption); (case k2 => walk_at "mem"); (case k3 => with_unfolding_all rfl); intro v1' v2' v3' M'; (first | (have e' := Mm.isI M'; subst e') | (have e' := Mm.isS M'; subst e') | (have e' := Mm.isB M'; subst e') | (have e' := Mm.isN M'; subst e') | (obtain ⟨p', e'⟩ := Mm.isT M'; subst e') | (obtain ⟨p', e'⟩ := Mm.isL M'; subst e') | (obtain ⟨p', e'⟩ := Mm.isO M'; subst e') | skip); (first | (have e' := Mm.isI (Mm.dropL M'); subst e') | (have e' := Mm.isS (Mm.dropL M'); subst e') | (have e' := Mm.isB (Mm.dropL M'); subst e') | (have e' := Mm.isN (Mm.dropL M'); subst e') | (obtain ⟨p2', e'⟩ := Mm.isT (Mm.dropL M'); subst e') | (obtain ⟨p2', e'⟩ := Mm.isL (Mm.dropL M'); subst e') | (obtain ⟨p2', e'⟩ := Mm.isO (Mm.dropL M'); subst e') | skip); (first | (have e' := Mm.isI (Mm.dropL (Mm.dropL M')); subst e') | (have e' := Mm.isS (Mm.dropL (Mm.dropL M')); subst e') | (have e' := Mm.isB (Mm.dropL (Mm.dropL M')); subst e') | (have e' := Mm.isN (Mm.dropL (Mm.dropL M')); subst e') | (obtain ⟨p3', e'⟩ := Mm.isT (Mm.dropL (Mm.dropL M')); subst e') | (obtain ⟨p3', e'⟩ := Mm.isL (Mm.dropL (Mm.dropL M')); subst e') | (obtain ⟨p3', e'⟩ := Mm.isO (Mm.dropL (Mm.dropL M')); subst e') | skip))
  | (refine' d_app0 ?k1 ?k2 ?k3 ?_; (case k1 => assumption); (case k2 => walk_at "has1"); (case k3 => walk_at "size"); intro H' M')
  | (refine' d_app1 ?k1 ?k2 ?k3 ?_; (case k1 => assumption); (case k2 => walk_at "has1"); (case k3 => walk_at "size"); intro H' M')
  | (refine' d_app2 ?k1 ?k2 ?k3 ?_; (case k1 => assumption); (case k2 => walk_at "has1"); (case k3 => walk_at "size"); intro H' M')
  | (refine' d_app3 ?k1 ?k2 ?k3 ?_; (case k1 => assumption); (case k2 => walk_at "has1"); (case k3 => walk_at "size"); intro H' M')
  | (refine' d_set0 ?k1 ?k2 ?k3 ?k4 ?_; (case k1 => assumption); (case k2 => walk_at "has1"); (case k3 => omega); (case k4 => walk_at "lt"); intro H' M')
  | (refine' d_set1 ?k1 ?k2 ?k3 ?k4 ?_; (case k1 => assumption); (case k2 => walk_at "has1"); (case k3 => omega); (case k4 => walk_at "lt"); intro H' M')
  | (refine' d_set2 ?k1 ?k2 ?k3 ?k4 ?_; (case k1 => assumption); (case k2 => walk_at "has1"); (case k3 => omega); (case k4 => walk_at "lt"); intro H' M')
  | (refine' d_set3 ?k1 ?k2 ?k3 ?k4 ?_; (case k1 => assumption); (case k2 => walk_at "has1"); (case k3 => omega); (case k4 => walk_at "lt"); intro H' M')
  | (refine' d_reverse0 ?k1 ?_; (case k1 => assumption); intro H' M')
  | (refine' d_reverse1 ?k1 ?_; (case k1 => assumption); intro H' M')
  | (refine' d_reverse2 ?k1 ?_; (case k1 => assumption); intro H' M')
  | (refine' d_clear0 ?k1 ?_; (case k1 => assumption); intro H' M')
  | (refine' d_clear1 ?k1 ?_; (case k1 => assumption); intro H' M')
  | (refine' d_clear2 ?k1 ?_; (case k1 => assumption); intro H' M')
  | (refine' d_sfld0 ?k1 ?k2 ?k3 ?k4 ?k5 ?_; (case k1 => assumption); (case k2 => walk_at "has1"); (case k3 => assumption); (case k4 => assumption); (case k5 => walk_at "few"); intro H' M')
  | (refine' d_sfld1 ?k1 ?k2 ?k3 ?k4 ?k5 ?_; (case k1 => assumption); (case k2 => walk_at "has1"); (case k3 => assumption); (case k4 => assumption); (case k5 => walk_at "few"); intro H' M')
  | (refine' d_tyL2 ?k1 ?k2 ?_; (case k1 => assumption); (case k2 => walk_at "inl"))
  | (refine' d_inIL ?k1 ?k2 ?_; (case k1 => assumption); (case k2 => walk_at "inl"))
  | (refine' d_notIL ?k1 ?k2 ?_; (case k1 => assumption); (case k2 => walk_at "inl"))
  | (refine' d_inIT ?k1 ?k2 ?_; (case k1 => assumption); (case k2 => walk_at "mem"))
  | (refine' d_notIT ?k1 ?k2 ?_; (case k1 => assumption); (case k2 => walk_at "mem"))
  | (refine' d_eqE ?k1 ?k2 ?k3 ?_; (case k1 => assumption); (case k2 => walk_at "inl"); (case k3 => walk_at "inl"))
  | (refine' d_neE ?k1 ?k2 ?k3 ?_; (case k1 => assumption); (case k2 => walk_at "inl"); (case k3 => walk_at "inl"))
  | (refine' d_eq ?k1 ?k2 ?k3 ?k4 ?k5 ?_; (case k1 => assumption); (case k2 => walk_at "kn"); (case k3 => walk_at "kn"); (case k4 => walk_at "sh"); (case k5 => walk_at "sh"))
  | (refine' d_ne ?k1 ?k2 ?k3 ?k4 ?k5 ?_; (case k1 => assumption); (case k2 => walk_at "kn"); (case k3 => walk_at "kn"); (case k4 => walk_at "sh"); (case k5 => walk_at "sh"))
  | (refine' d_inD ?k1 ?k2 ?k3 ?k4 ?k5 ?_; (case k1 => assumption); (case k2 => walk_at "kn"); (case k3 => walk_at "kn"); (case k4 => walk_at "sh"); (case k5 => walk_at "sh"))
  | (refine' d_notInD ?k1 ?k2 ?k3 ?k4 ?k5 ?_; (case k1 => assumption); (case k2 => walk_at "kn"); (case k3 => walk_at "kn"); (case k4 => walk_at "sh"); (case k5 => walk_at "sh"))
  | (refine' d_isiT ?k1 ?k2 ?k3 ?_; (case k1 => assumption); (case k2 => walk_at "mem"); (case k3 => assumption))
  | (refine' d_isiL ?k1 ?k2 ?k3 ?_; (case k1 => assumption); (case k2 => walk_at "inl"); (case k3 => assumption))
  | (refine' d_isiO ?k1 ?k2 ?k3 ?k4 ?k5 ?k6 ?k7 ?_; (case k1 => assumption); (case k2 => walk_at "mem"); (case k3 => assumption); (case k4 => assumption); (case k5 => assumption); (case k6 => assumption); (case k7 => assumption))
  | walk_at "lof"
  | (refine' d_tupOfL ?k1 ?k2 ?_; (case k1 => assumption); (case k2 => walk_at "inl"); intro p' H' M')
  | (refine' d_tupOfT ?k1 ?k2 ?_; (case k1 => assumption); (case k2 => walk_at "mem"))
  | (refine' d_tupOfQ ?k1 ?k2 ?_; (case k1 => assumption); (case k2 => walk_at "mem"); intro p' H' M')
  | (refine' d_catT ?k1 ?k2 ?k3 ?k4 ?_; (case k1 => assumption); (case k2 => walk_at "mem"); (case k3 => walk_at "mem"); (case k4 => walk_at "size"); intro p' H' M')
  | (refine' d_slL ?k1 ?k2 ?_; (case k1 => assumption); (case k2 => walk_at "inl"); intro p' H' M')
  | refine d_revL ?_
  | (refine' d_rev ?k1 ?k2 ?_; (case k1 => assumption); (case k2 => walk_at "inl"); intro p' H' M')
  | (refine' d_cat ?k1 ?k2 ?k3 ?k4 ?_; (case k1 => assumption); (case k2 => walk_at "inl"); (case k3 => walk_at "inl"); (case k4 => walk_at "size"); intro p' H' M')
  | (refine' d_all ?k1 ?k2 ?_; (case k1 => assumption); (case k2 => walk_at "inl"))
  | (refine' d_any ?k1 ?k2 ?_; (case k1 => assumption); (case k2 => walk_at "inl"))
  | (refine' d_lstAt ?k1 ?k2 ?_; (case k1 => assumption); (case k2 => walk_at "inl"))
  | (refine' d_tupAt ?k1 ?k2 ?_; (case k1 => assumption); (case k2 => walk_at "mem"))
  | (refine' d_meth ?k1 ?k2 ?k3 ?_; (case k1 => assumption); (case k2 => walk_at "mem"); (case k3 => walk_at "fld"))
  | (refine' d_ownN ?k1 ?k2 ?_; (case k1 => assumption); (case k2 => walk_at "mem"))
  | (refine' d_ownO ?k1 ?k2 ?k3 ?_; (case k1 => assumption); (case k2 => walk_at "mem"); (case k3 => walk_at "mem"))
  | (refine' d_ownEq ?k1 ?k2 ?k3 ?_; (case k1 => assumption); (case k2 => walk_at "mem"); (case k3 => walk_at "mem"))
  | (refine' d_ownIn ?k1 ?k2 ?_; (case k1 => assumption); (case k2 => walk_at "mem"))
  | (refine' d_ownU ?k1 ?k2 ?_; (case k1 => assumption); (case k2 => walk_at "mem"))
  | (refine' d_ownStr ?k1 ?k2 ?_; (case k1 => assumption); (case k2 => walk_at "mem"))
  | (refine' d_prop ?k1 ?k2 ?_; (case k1 => assumption); (case k2 => walk_at "mem"))
  | (refine' d_dnew ?k1 ?_; (case k1 => assumption); intro p' H' M')
  | refine d_din0 ?_ | refine d_dnotin0 ?_ | refine d_dget0 ?_ | refine d_dput0 ?_ | refine d_items0 ?_
  | (refine' d_din ?k1 ?k2 ?k3 ?_; (case k1 => assumption); (case k2 => walk_at "inl"); (case k3 => first | exact (rfl : V.str _ = kV (Sum.inr _)) | exact (rfl : V.int _ = kV (Sum.inl _)) | fail))
  | (refine' d_dnotin ?k1 ?k2 ?k3 ?_; (case k1 => assumption); (case k2 => walk_at "inl"); (case k3 => first | exact (rfl : V.str _ = kV (Sum.inr _)) | exact (rfl : V.int _ = kV (Sum.inl _)) | fail))
  | (refine' d_items ?k1 ?k2 ?_; (case k1 => assumption); (case k2 => walk_at "inl"); intro p' H' M')
  | (refine' d_range1 ?k1 ?_; (case k1 => assumption); intro p' H' hp' M')
  | (refine' d_listRng ?k1 ?k2 ?k3 ?k4 ?_; (case k1 => assumption); (case k2 => assumption); (case k3 => omega); (case k4 => omega); intro p' H' M')
  | walk_at "use")
local macro_rules | `(tactic| walk_at "go") => `(tactic| repeat' (walk_at "go1"))

local macro_rules | `(tactic| walk_at "hp") => `(tactic| first | assumption | fail)
local macro_rules | `(tactic| walk_at "fld") => `(tactic| first | exact fd_nil | exact fd_hd | (refine' fd_tl ?k1 ?k2; (case k1 => decide +kernel); (case k2 => walk_at "fld")) | fail)
local macro_rules | `(tactic| walk_at "size") => `(tactic| first | exact Nat.lt_of_le_of_lt (m := 50000) (by first | omega | (simp only [List.length_map, List.length_range, List.length_append, List.length_cons, List.length_nil, List.length_replicate, List.length_set, List.length_reverse]; omega)) (by decide) | exact Nat.le_trans (m := 50000) (by first | omega | (simp only [List.length_map, List.length_range, List.length_append, List.length_cons, List.length_nil, List.length_replicate, List.length_set, List.length_reverse]; omega)) (by decide) | fail)
section
variable {P : Program} {w : World} {K : PySem.W.Frag} {mg : Str → Option Value} {base : Heap} {C CO fO CE fE : Addr}
theorem isNon {B G0 H : Hp} {ms : List Addr} {X : List (Addr × D)} {L : List (V × D)} {v : V} {o : Option (Pr × Pr)} (M : Mm K B G0 ms X ((v, pairD C o) :: L) H) : decide (v = V.non) = o.isNone := by
  obtain ⟨G, W⟩ := M
  have h := W.ok _ List.mem_cons_self
  cases o with
  | none =>
    have h : At K G v .non := h
    rw [h.isN]; rfl
  | some z =>
    have h : At K G v (.tup [stD C z.1, stD C z.2]) := h
    obtain ⟨p, rfl⟩ := h.refT
    rfl
theorem isNonP {B G0 H : Hp} {ms : List Addr} {X : List (Addr × D)} {L : List (V × D)} {v : V} {o : Option (Pr × Pr)} (M : Mm K B G0 ms X ((v, pairP o) :: L) H) : decide (v = V.non) = o.isNone := by
  obtain ⟨G, W⟩ := M
  have h := W.ok _ List.mem_cons_self
  cases o with
  | none =>
    have h : At K G v .non := h
    rw [h.isN]; rfl
  | some z =>
    have h : At K G v (.tup [prD z.1, prD z.2]) := h
    obtain ⟨p, rfl⟩ := h.refT
    rfl
theorem leR_len {rs : List Pr} : (leR rs).length ≤ rs.length := List.length_filter_le _ _
theorem grR_len {rs : List Pr} : (grR rs).length ≤ rs.length := List.length_filter_le _ _
def sp_pairs (K : PySem.W.Frag) (C : Addr) : Sp := fun vs H Q E => ∃ (G : Hp) (rs ss : List Pr), Same G H ∧ AtL K G vs [.tup [pairD C (firstP (leR rs) (leR ss) false), pairD C (firstP (grR rs) (grR ss) true)], .lst (rs.map prD), .lst (ss.map prD)] ∧ (rs.Nodup) ∧ (ss.Nodup) ∧ (rs.length ≤ 3721) ∧ (ss.length ≤ 3721) ∧ ((firstP (leR rs) (leR ss) false).isNone = (firstP rs ss false).isNone) ∧ ((firstP (grR rs) (grR ss) true).isNone = (firstP rs ss true).isNone) ∧ (∀ H', Mm K H G [] ([]) [] H' → Q (.bl true) H')
theorem ok_pairs {f : Addr} {fd : FuncData} (F : Fun K "_law_pairs" "_law_pairs" s__law_pairs f fd) (T : Txt P K mg C CO fO CE fE) (c__law_item : Cal P w K mg base 3 "_law_item" (sp_item K C)) (c__law_first_pair : Cal P w K mg base 2 "_law_first_pair" (sp_lfpair K)) (c__law_least : Cal P w K mg base 1 "_law_least" (sp_lle K)) (c__law_greatest : Cal P w K mg base 1 "_law_greatest" (sp_lgr K)) :
    FnOk P w K mg base (L2.CX P w) (3 + 1) f fd ["_law_actual", "_law_mine", "_law_others"] (sp_pairs K C) := by
  refine okT F sc__law_pairs (fun vs H Q E h => ?_) (fun cdv A outer s H vs Q E hr tk h => ?_)
  · obtain ⟨G, rs, ss, _, hA, _⟩ := h
    rcases hA with _ | ⟨ha0, hA0⟩
    rcases hA0 with _ | ⟨ha1, hA1⟩
    rcases hA1 with _ | ⟨ha2, hA2⟩
    cases hA2
    rfl
  obtain ⟨G, rs, ss, hsG, hA, p0, p1, p2, p3, p4, p5, k⟩ := h
  have f1 := T.i1; have f2 := T.i2; have f3 := T.i3; have f4 := T.i4; have f5 := T.i5; have f6 := T.cl; have f7 := T.nc; have f8 := T.ng; have f9 := T.oa; have f10 := T.on; have f11 := T.ot; have f12 := T.om
  rcases hA with _ | ⟨ha0, hA0⟩
  rcases hA0 with _ | ⟨ha1, hA1⟩
  rcases hA1 with _ | ⟨ha2, hA2⟩
  cases hA2
  obtain ⟨q0, rfl⟩ := ha0.refT
  obtain ⟨q1, rfl⟩ := ha1.refL
  obtain ⟨q2, rfl⟩ := ha2.refL
  have M : Mm K H G [] [] [(.ref q0, .tup [pairD C (firstP (leR rs) (leR ss) false), pairD C (firstP (grR rs) (grR ss) true)]), (.ref q1, .lst (rs.map prD)), (.ref q2, .lst (ss.map prD))] H := Mm.start hsG (fun z hz => by
    simp only [List.mem_cons, List.not_mem_nil, or_false] at hz
    rcases hz with rfl | rfl | rfl
    · exact ha0
    · exact ha1
    · exact ha2)
  refine ⟨_, (pss_cons (ps_if (PW.pt (pw_or (pt_not (pt_val (pe_callB call_isi (by rfl) T.b_isinstance (by decide +kernel) (pa_cons (pv 0) (pa_cons (g_ty (n := "tuple") T.b_tuple (by decide +kernel)) pa_nil))))) (pw_or1 (pt_cmpR op_ne (pe_callB b_len (by rfl) T.b_len (by decide +kernel) (pa_cons (pv 0) pa_nil)) pe_int (nomark _))))) (pss_one (ps_ret pe_bl)) pss_nil)
      (pss_cons (ps_if (pt_not (pt_val (c_call c__law_item tk hr (by decide) (pa_cons (pe_ix ix_tup (pv 0) pe_int (fun _ _ => rfl)) (pa_cons (c_call c__law_first_pair tk hr (by decide) (pa_cons (c_call c__law_least tk hr (by decide) (pa_cons (pv 1) pa_nil)) (pa_cons (c_call c__law_least tk hr (by decide) (pa_cons (pv 2) pa_nil)) (pa_cons pe_bl pa_nil)))) pa_nil))))) (pss_one (ps_ret pe_bl)) pss_nil)
      (pss_cons (ps_if (pt_not (pt_val (c_call c__law_item tk hr (by decide) (pa_cons (pe_ix ix_tup (pv 0) pe_int (fun _ _ => rfl)) (pa_cons (c_call c__law_first_pair tk hr (by decide) (pa_cons (c_call c__law_greatest tk hr (by decide) (pa_cons (pv 1) pa_nil)) (pa_cons (c_call c__law_greatest tk hr (by decide) (pa_cons (pv 2) pa_nil)) (pa_cons pe_bl pa_nil)))) pa_nil))))) (pss_one (ps_ret pe_bl)) pss_nil)
      (pss_cons (ps_if (pt_cmpR op_gt (pe_op op_mulU (pe_callB b_len (by rfl) T.b_len (by decide +kernel) (pa_cons (pv 1) pa_nil)) (pe_callB b_len (by rfl) T.b_len (by decide +kernel) (pa_cons (pv 2) pa_nil))) pe_int (nomark _)) (pss_one (ps_ret pe_bl)) pss_nil)
      (pss_cons (ps_if (pt_cmpR op_ne (pe_cmpR op_isN0 (pe_ix ix_tup (pv 0) pe_int (fun _ _ => rfl)) pe_non (nomark _)) (pe_cmpR op_isN0 (c_call c__law_first_pair tk hr (by decide) (pa_cons (pv 1) (pa_cons (pv 2) (pa_cons pe_bl pa_nil)))) pe_non (nomark _)) (nomark _)) (pss_one (ps_ret pe_bl)) pss_nil)
      (pss_one (ps_ret (pe_cmpR op_eq (pe_cmpR op_isN0 (pe_ix ix_tup (pv 0) pe_int (fun _ _ => rfl)) pe_non (nomark _)) (pe_cmpR op_isN0 (c_call c__law_first_pair tk hr (by decide) (pa_cons (pv 1) (pa_cons (pv 2) (pa_cons pe_bl pa_nil)))) pe_non (nomark _)) (nomark _))))))))), ?_⟩
  simp only [cxK, st__law_pairs]
  have g1 := leR_len (rs := rs)
  have g2 := leR_len (rs := ss)
  have g3 := grR_len (rs := rs)
  have g4 := grR_len (rs := ss)
  have hl1 : (rs.map prD).length = rs.length := List.length_map _
  have hl2 : (ss.map prD).length = ss.length := List.length_map _
  walk_at "go"
  · rename_i hc
    exact absurd rfl hc
  rename_i hc v1 M1
  refine' use_lle (rs := rs) ?m0 ?h0 ?q0 ?q1 ?_
  case m0 => assumption
  case h0 => walk_at "hass"
  case q0 => exact p0
  case q1 => exact p2
  intro a2 H2 N2
  have M2 := N2.freeze
  clear N2
  walk_at "go"
  refine' use_lle (rs := ss) ?m0 ?h0 ?q0 ?q1 ?_
  case m0 => assumption
  case h0 => walk_at "hass"
  case q0 => exact p1
  case q1 => exact p3
  intro a3 H3 N3
  have M3 := N3.freeze
  clear N3 M2
  walk_at "go"
  refine' use_lfpair (xs := leR rs) (ys := leR ss) (b := false) ?m0 ?h0 ?q0 ?q1 ?_
  case m0 => assumption
  case h0 => walk_at "hass"
  case q0 => omega
  case q1 => omega
  intro v4 H4 M4
  walk_at "go"
  refine' use_item (o := firstP (leR rs) (leR ss) false) ?m0 ?h0  ?_
  case m0 => assumption
  case h0 => walk_at "hass"
  intro H5 M5
  clear M3 M4
  walk_at "go"
  rename_i v6 M6
  refine' use_lgr (rs := rs) ?m0 ?h0 ?q0 ?q1 ?_
  case m0 => assumption
  case h0 => walk_at "hass"
  case q0 => exact p0
  case q1 => exact p2
  intro a7 H7 N7
  have M7 := N7.freeze
  clear N7
  walk_at "go"
  refine' use_lgr (rs := ss) ?m0 ?h0 ?q0 ?q1 ?_
  case m0 => assumption
  case h0 => walk_at "hass"
  case q0 => exact p1
  case q1 => exact p3
  intro a8 H8 N8
  have M8 := N8.freeze
  clear N8 M7
  walk_at "go"
  refine' use_lfpair (xs := grR rs) (ys := grR ss) (b := true) ?m0 ?h0 ?q0 ?q1 ?_
  case m0 => assumption
  case h0 => walk_at "hass"
  case q0 => omega
  case q1 => omega
  intro v9 H9 M9
  walk_at "go"
  refine' use_item (o := firstP (grR rs) (grR ss) true) ?m0 ?h0  ?_
  case m0 => assumption
  case h0 => walk_at "hass"
  intro H10 M10
  clear M8 M9 M5 M6
  walk_at "go"
  · exact k _ M10.none
  rename_i hc9 v11 M11
  rw [isNon M11, p4]
  refine' use_lfpair (xs := rs) (ys := ss) (b := false) ?m0 ?h0 ?q0 ?q1 ?_
  case m0 => assumption
  case h0 => walk_at "hass"
  case q0 => omega
  case q1 => omega
  intro v12 H12 M12
  walk_at "go"
  rw [isNonP M12]
  walk_at "go"
  rename_i v13 M13
  rw [isNon M13, p5]
  refine' use_lfpair (xs := rs) (ys := ss) (b := true) ?m0 ?h0 ?q0 ?q1 ?_
  case m0 => assumption
  case h0 => walk_at "hass"
  case q0 => omega
  case q1 => omega
  intro v14 H14 M14
  walk_at "go"
  rw [isNonP M14, beq_self_eq_true]
  exact k _ M14.none
theorem use_pairs {B G0 H : Hp} {ms : List Addr} {X : List (Addr × D)} {L : List (V × D)} {Q : VK} {E : XK} {ws : List V} {rs ss : List Pr} (M : Mm K B G0 ms X L H) (ha : Hs L ws [.tup [pairD C (firstP (leR rs) (leR ss) false), pairD C (firstP (grR rs) (grR ss) true)], .lst (rs.map prD), .lst (ss.map prD)]) (p0 : rs.Nodup) (p1 : ss.Nodup) (p2 : rs.length ≤ 3721) (p3 : ss.length ≤ 3721) (p4 : (firstP (leR rs) (leR ss) false).isNone = (firstP rs ss false).isNone) (p5 : (firstP (grR rs) (grR ss) true).isNone = (firstP rs ss true).isNone) (k0 : ∀ H', Mm K B G0 ms (X) L H' → Q (.bl true) H') : sp_pairs K C ws H Q E := by
  obtain ⟨G, W⟩ := M
  exact ⟨G, rs, ss, W.s1, ha K G W.ok, p0, p1, p2, p3, p4, p5, fun H' M2 => k0 H' (W.comp M2)⟩
end
end K20

set_option Elab.async false
set_option linter.all false
set_option maxRecDepth 100000
set_option maxHeartbeats 8000000
namespace K20
open PySem L2 MyL
local macro_rules | `(tactic| walk_at "sub") => `(tactic| first | exact sub_nil | exact sub_self | (refine' sub_cons ?k1 ?k2; (case k1 => walk_at "mem"); (case k2 => walk_at "sub")) | (refine' sub_app ?k1 ?k2; (case k1 => walk_at "sub"); (case k2 => walk_at "sub")) | (refine sub_tail ?_; walk_at "sub") | fail)
local macro_rules | `(tactic| walk_at "mem") => `(tactic| first | exact List.mem_cons_self | (refine List.mem_cons_of_mem _ ?_; walk_at "mem") | (refine List.mem_append_right _ ?_; walk_at "mem") | (refine List.mem_append_left _ ?_; walk_at "mem") | assumption | fail)
local macro_rules | `(tactic| walk_at "inl") => `(tactic| first | (refine Or.inl ?_; walk_at "mem") | (refine Or.inr ?_; walk_at "mem") | fail)
local macro_rules | `(tactic| walk_at "has1") => `(tactic| first | exact H1.int | exact H1.str | exact H1.bl | exact H1.non | exact H1.mem (by walk_at "mem") | assumption | fail)
local macro_rules | `(tactic| walk_at "hass") => `(tactic| first | exact Hs.nil | (refine' Hs.cons ?k1 ?k2; (case k1 => walk_at "has1"); (case k2 => walk_at "hass")) | exact Hs.ints _ | assumption | fail)
local macro_rules | `(tactic| walk_at "kn") => `(tactic| first | (refine Or.inl ?_; walk_at "has1") | (refine Or.inr ⟨_, _, rfl, rfl, ?_⟩; walk_at "mem") | fail)
local macro_rules | `(tactic| walk_at "sh") => `(tactic| first | exact Sh.int | exact Sh.bl | exact Sh.non | exact Sh.str (by decide) | assumption | (refine Sh.tupM ?_; intro x' hx'; walk_at "sh") | (refine Sh.lstM ?_; intro x' hx'; walk_at "sh") | (refine Sh.tup ?_; walk_at "shs") | (refine Sh.lst ?_; walk_at "shs") | fail)
local macro_rules | `(tactic| walk_at "shs") => `(tactic| first | exact Sh.nil | (refine' Sh.cons ?k1 ?k2; (case k1 => walk_at "sh"); (case k2 => walk_at "shs")) | fail)
local macro_rules | `(tactic| walk_at "lt") => `(tactic| first | omega | (simp only [List.length_map, List.length_range, List.length_append, List.length_cons, List.length_nil, List.length_replicate, List.length_set]; omega) | fail)
local macro_rules | `(tactic| walk_at "few") => `(tactic| first | decide | simp | fail)
local macro_rules | `(tactic| walk_at "lof") => `(tactic| (refine' d_listI ?k1 ?k2 ?_; (case k1 => assumption); (case k2 => first | (refine Or.inl ?_; walk_at "inl") | (refine Or.inr ?_; walk_at "mem") | fail); intro p' H' M'))
local macro_rules | `(tactic| walk_at "lst") => `(tactic| (refine' d_lst ?k1 ?k2 ?k3 ?_; (case k1 => assumption); (case k2 => walk_at "hass"); (case k3 => walk_at "size"); intro p' H' M'))
local macro_rules | `(tactic| walk_at "cond") => `(tactic| first | omega | assumption | exact mulR (by omega) (by omega) | exact mulL (by omega) (by omega) | exact divW (by omega) (by omega) | decide)
local macro_rules | `(tactic| walk_at "look") => `(tactic| first | assumption | with_unfolding_all rfl | exact atI_mapI (by omega) (by omega) | exact atI_mapL (by omega) (by omega) | exact atI_mapD (by omega) (by omega) | fail)
local macro_rules | `(tactic| walk_at "go1") => `(tactic| with_reducible first
  | refine k_yes ?_ | refine k_seq ?_ | refine k_gName ?_ | refine k_asg ?_ | refine k_ret ?_ | refine k_ifS ?_ | refine k_drop ?_ | refine k_next ?_ | refine k_break ?_ | refine k_cont ?_ | refine k_retN ?_
  | (refine' k_var ?k1 ?_; (case k1 => with_unfolding_all rfl)) | refine k_c ?_ | refine k_op ?_ | refine k_un ?_ | refine k_test ?_ | refine k_B ?_ | refine k_bl ?_ | refine k_and ?_ | refine k_or ?_ | refine k_not ?_
  | refine k_andV ?_ | refine k_orV ?_ | refine k_notV ?_ | refine k_ifE ?_ | refine k_nil ?_ | refine k_cons ?_ | refine k_cb ?_ | refine k_callS ?_ | refine k_lst0 ?_ | refine k_tup0 ?_ | refine k_fld0 ?_ | refine k_sub0 ?_ | refine k_make0 ?_ | refine k_prop0 ?_ | refine k_sta0 ?_ | refine k_sta ?_ | refine k_bm ?_ | refine k_bm0 ?_ | refine k_chain ?_ | refine k_makeK0 ?_ | refine k_swapK ?_ | refine k_meth0 ?_ | refine k_ownN0 ?_ | refine k_ownO0 ?_ | refine k_sfldS ?_ | refine k_jnil ?_ | refine k_jcons ?_ | refine k_fmt0 ?_ | refine k_sl0 ?_ | refine k_nopart ?_ | refine k_part ?_ | refine k_forR1 ?_ | refine k_forR2 ?_ | refine k_forL ?_ | refine k_forT ?_ | refine k_lcR1 ?_ | refine k_lc2R1 ?_ | refine k_lc2R2 ?_ | refine k_lc2L ?_ | refine k_lc2T ?_ | refine k_iR1 ?_ | refine k_iR2 ?_ | refine k_iL ?_ | refine k_iT ?_ | refine k_lcR2 ?_ | refine k_lcL ?_ | refine k_lcT ?_ | refine k_err0 ?_ | refine k_xf0 ?_ | refine k_errQ1 ?_ | refine k_errQ0 ?_ | refine k_errQ2 ?_ | refine k_errQ3 ?_
  | refine k_I0 ?_ | (refine k_I ?k1 ?_; (case k1 => walk_at "cond")) | refine k_U ?_ | refine k_eqI ?_ | refine k_neI ?_ | refine k_eqB ?_ | refine k_neB ?_ | refine k_eqS ?_ | refine k_neS ?_
  | refine k_int1 ?_ | refine k_abs1 ?_ | refine k_min2 ?_ | refine k_max2 ?_
  | (refine' k_lenS ?k1 ?_; (case k1 => assumption)) | (refine' k_ixS ?k1 ?k2 ?_; (case k1 => assumption); (case k2 => walk_at "look"))
  | refine iteT ?_ | refine iteF ?_ | refine k_iteNE ?_ | refine k_iteNS ?_ | refine k_iteNT ?_ | refine k_iteNF ?_
  | (refine k_iteD ?_ ?_ <;> intro hc <;> first | (exfalso; omega) | skip)
  | (refine k_iteN ?_ ?_ <;> intro hc <;> first | (exfalso; omega) | skip)
  | (refine' k_isiI ?k1 ?_; (case k1 => assumption))
  | (refine' k_jst ?k1 ?_; (case k1 => walk_at "size")) | (refine' k_fmtI ?k1 ?_; (case k1 => exact log2_64 (by omega) (by omega))) | (refine' k_strI ?k1 ?_; (case k1 => exact log2_64 (by omega) (by omega)))
  | (refine k_addS ?k1 ?_; (case k1 => walk_at "size")) | refine k_st ?_ | refine k_parti ?_
  | (refine k_rng1 ?k1 ?k2 ?_; (case k1 => omega); (case k2 => omega)) | (refine k_rng2 ?k1 ?k2 ?k3 ?k4 ?_; (case k1 => omega); (case k2 => omega); (case k3 => omega); (case k4 => omega))
  | (refine' k_isXs ?k1 ?k2 ?_; (case k1 => assumption); (case k2 => walk_at "hp")) | (refine' k_isXo ?k1 ?k2 ?k3 ?_; (case k1 => assumption); (case k2 => walk_at "hp"); (case k3 => assumption)) | (refine' k_isXt ?k1 ?k2 ?k3 ?_; (case k1 => assumption); (case k2 => walk_at "hp"); (case k3 => assumption))
  | (refine' k_isX3 ?k1 ?k2 ?k3 ?k4 ?_; (case k1 => assumption); (case k2 => walk_at "hp"); (case k3 => walk_at "hp"); (case k4 => assumption)) | (refine' k_isX2 ?k1 ?k2 ?k3 ?k4 ?_; (case k1 => assumption); (case k2 => walk_at "hp"); (case k3 => walk_at "hp"); (case k4 => assumption))
  | (refine' k_isX0s ?k1 ?_; (case k1 => assumption)) | (refine' k_isX0o ?k1 ?k2 ?_; (case k1 => assumption); (case k2 => assumption)) | (refine' k_isX0t ?k1 ?k2 ?_; (case k1 => assumption); (case k2 => assumption)) | (refine' k_isX04 ?k1 ?k2 ?k3 ?_; (case k1 => assumption); (case k2 => walk_at "hp"); (case k3 => assumption))
  | (refine' k_isX4 ?k1 ?k2 ?k3 ?k4 ?_; (case k1 => assumption); (case k2 => walk_at "hp"); (case k3 => walk_at "hp"); (case k4 => assumption)) | (refine' k_ixT2 ?k1 ?k2 ?k3 ?_; (case k1 => walk_at "hp"); (case k2 => omega); (case k3 => omega); intro n' hn')
  | (refine k_iteNEq ?k1 ?_; (case k1 => (rw [Bool.eq_iff_iff]; first | (simp; done) | (simp; omega))))
  | (refine' k_xf ?k1 ?k2 ?_; (case k1 => walk_at "hp"); (case k2 => first | exact xd1 | exact xdH | exact xd2 (by decide +kernel)))
  | (refine' k_caught ?k1 ?_; (case k1 => assumption); intro a' ha')
  | refine k_asgT ?_ | refine k_gCons ?_ | refine k_gNil ?_ | refine k_par ?_ | refine k_two ?_ | refine k_isNn ?_ | refine k_isNi ?_ | refine k_notNn ?_ | refine k_notNi ?_ | refine k_isN ?_ | refine k_notN ?_
  | (refine' k_xfB ?k1 ?k2 ?_; (case k1 => walk_at "hp"); (case k2 => first | exact xd1 | exact xdH | exact xd2 (by decide +kernel)))
  | (refine' d_ixLI ?k1 ?k2 ?k3 ?_; (case k1 => assumption); (case k2 => walk_at "inl"); (case k3 => walk_at "look"))
  | (refine' d_ixLS ?k1 ?k2 ?k3 ?_; (case k1 => assumption); (case k2 => walk_at "inl"); (case k3 => walk_at "look"))
  | (refine' d_ixLB ?k1 ?k2 ?k3 ?_; (case k1 => assumption); (case k2 => walk_at "inl"); (case k3 => walk_at "look"))
  | (refine' d_ixL ?k1 ?k2 ?k3 ?_; (case k1 => assumption); (case k2 => walk_at "inl"); (case k3 => walk_at "look"); intro v' M'; first | (have e' := Mm.isI M'; subst e') | (have e' := Mm.isS M'; subst e') | (have e' := Mm.isB M'; subst e') | (have e' := Mm.isN M'; subst e') | (obtain ⟨p', e'⟩ := Mm.isT M'; subst e') | (obtain ⟨p', e'⟩ := Mm.isL M'; subst e') | (obtain ⟨p', e'⟩ := Mm.isO M'; subst e') | skip)
  | (refine' d_ixTI ?k1 ?k2 ?k3 ?_; (case k1 => assumption); (case k2 => walk_at "mem"); (case k3 => walk_at "look"))
  | (refine' d_ixTS ?k1 ?k2 ?k3 ?_; (case k1 => assumption); (case k2 => walk_at "mem"); (case k3 => walk_at "look"))
  | (refine' d_ixTB ?k1 ?k2 ?k3 ?_; (case k1 => assumption); (case k2 => walk_at "mem"); (case k3 => walk_at "look"))
  | (refine' d_ixT ?k1 ?k2 ?k3 ?_; (case k1 => assumption); (case k2 => walk_at "mem"); (case k3 => walk_at "look"); intro v' M'; first | (have e' := Mm.isI M'; subst e') | (have e' := Mm.isS M'; subst e') | (have e' := Mm.isB M'; subst e') | (have e' := Mm.isN M'; subst e') | (obtain ⟨p', e'⟩ := Mm.isT M'; subst e') | (obtain ⟨p', e'⟩ := Mm.isL M'; subst e') | (obtain ⟨p', e'⟩ := Mm.isO M'; subst e') | skip)
  | (refine' d_ixc2 ?k1 ?k2 ?k3 ?k4 ?_; (case k1 => assumption); (case k2 => walk_at "inl"); (case k3 => omega); (case k4 => omega); intro n' hn')
  | (refine' d_ixc3 ?k1 ?k2 ?k3 ?k4 ?_; (case k1 => assumption); (case k2 => walk_at "inl"); (case k3 => omega); (case k4 => omega); intro n' hn')
  | (refine' d_ixc4 ?k1 ?k2 ?k3 ?k4 ?_; (case k1 => assumption); (case k2 => walk_at "inl"); (case k3 => omega); (case k4 => omega); intro n' hn')
  | (refine' d_ixc5 ?k1 ?k2 ?k3 ?k4 ?_; (case k1 => assumption); (case k2 => walk_at "inl"); (case k3 => omega); (case k4 => omega); intro n' hn')
  | (refine' d_ixc6 ?k1 ?k2 ?k3 ?k4 ?_; (case k1 => assumption); (case k2 => walk_at "inl"); (case k3 => omega); (case k4 => omega); intro n' hn')
  | (refine' d_ixc7 ?k1 ?k2 ?k3 ?k4 ?_; (case k1 => assumption); (case k2 => walk_at "inl"); (case k3 => omega); (case k4 => omega); intro n' hn')
  | (refine' d_ixc8 ?k1 ?k2 ?k3 ?k4 ?_; (case k1 => assumption); (case k2 => walk_at "inl"); (case k3 => omega); (case k4 => omega); intro n' hn')
  | (refine' d_ixc9 ?k1 ?k2 ?k3 ?k4 ?_; (case k1 => assumption); (case k2 => walk_at "inl"); (case k3 => omega); (case k4 => omega); intro n' hn')
  | (refine' d_lenL ?k1 ?k2 ?_; (case k1 => assumption); (case k2 => walk_at "inl"))
  | (refine' d_lenT ?k1 ?k2 ?_; (case k1 => assumption); (case k2 => walk_at "mem"))
  | (refine' d_lenQ ?k1 ?k2 ?_; (case k1 => assumption); (case k2 => walk_at "mem"))
  | (refine' d_lst0 ?k1 ?_; (case k1 => assumption); intro p' H' M')
  | (refine' d_tup ?k1 ?k2 ?k3 ?_; (case k1 => assumption); (case k2 => walk_at "hass"); (case k3 => walk_at "size"); intro p' H' M')
  | (refine' d_tupR ?k1 ?k2 ?_; (case k1 => assumption); (case k2 => walk_at "size"); intro p' H' hp' M')
  | walk_at "lst"
  | (refine' d_fldI ?k1 ?k2 ?k3 ?k4 ?k5 ?_; (case k1 => assumption); (case k2 => walk_at "mem"); (case k3 => assumption); (case k4 => assumption); (case k5 => walk_at "fld"))
  | (refine' d_fld ?k1 ?k2 ?k3 ?k4 ?k5 ?_; (case k1 => assumption); (case k2 => walk_at "mem"); (case k3 => assumption); (case k4 => assumption); (case k5 => walk_at "fld"); intro v' M'; first | (have e' := Mm.isI M'; subst e') | (have e' := Mm.isS M'; subst e') | (have e' := Mm.isB M'; subst e') | (have e' := Mm.isN M'; subst e') | (obtain ⟨p', e'⟩ := Mm.isT M'; subst e') | (obtain ⟨p', e'⟩ := Mm.isL M'; subst e') | (obtain ⟨p', e'⟩ := Mm.isO M'; subst e') | skip)
  | (refine' d_fldX0 ?k1 ?k2 ?k3 ?k4 ?_; (case k1 => assumption); (case k2 => assumption); (case k3 => assumption); (case k4 => walk_at "fld"); intro v' M'; first | (have e' := Mm.isI M'; subst e') | (have e' := Mm.isS M'; subst e') | (have e' := Mm.isB M'; subst e') | (have e' := Mm.isN M'; subst e') | (obtain ⟨p', e'⟩ := Mm.isT M'; subst e') | (obtain ⟨p', e'⟩ := Mm.isL M'; subst e') | (obtain ⟨p', e'⟩ := Mm.isO M'; subst e') | skip)
  | (refine' d_fldX1 ?k1 ?k2 ?k3 ?k4 ?_; (case k1 => assumption); (case k2 => assumption); (case k3 => assumption); (case k4 => walk_at "fld"); intro v' M'; first | (have e' := Mm.isI M'; subst e') | (have e' := Mm.isS M'; subst e') | (have e' := Mm.isB M'; subst e') | (have e' := Mm.isN M'; subst e') | (obtain ⟨p', e'⟩ := Mm.isT M'; subst e') | (obtain ⟨p', e'⟩ := Mm.isL M'; subst e') | (obtain ⟨p', e'⟩ := Mm.isO M'; subst e') | skip)
  | (refine' d_gT2I ?k1 ?k2 ?k3 ?_; (case k1 => assumption); (case k2 => walk_at "mem"); (case k3 => with_unfolding_all rfl))
  | (refine' d_gT2 ?k1 ?k2 ?k3 ?_; (case k1 => assumption); (case k2 => walk_at "mem"); (case k3 => with_unfolding_all rfl); intro v1' v2' M'; (first | (have e' := Mm.isI M'; subst e') | (have e' := Mm.isS M'; subst e') | (have e' := Mm.isB M'; subst e') | (have e' := Mm.isN M'; subst e') | (obtain ⟨p', e'⟩ := Mm.isT M'; subst e') | (obtain ⟨p', e'⟩ := Mm.isL M'; subst e') | (obtain ⟨p', e'⟩ := Mm.isO M'; subst e') | skip); (first | (have e' := Mm.isI (Mm.dropL M'); subst e') | (have e' := Mm.isS (Mm.dropL M'); subst e') | (have e' := Mm.isB (Mm.dropL M'); subst e') | (have e' := Mm.isN (Mm.dropL M'); subst e') | (obtain ⟨p2', e'⟩ := Mm.isT (Mm.dropL M'); subst e') | (obtain ⟨p2', e'⟩ := Mm.isL (Mm.dropL M'); subst e') | (obtain ⟨p2', e'⟩ := Mm.isO (Mm.dropL M'); subst e') | skip))
  | (refine' d_gT3 ?k1 ?k2 ?k3 ?_; (case k1 => assumption); (case k2 => walk_at "mem"); (case k3 => with_unfolding_all rfl); intro v1' v2' v3' M'; (first | (have e' := Mm.isI M'; subst e') | (have e' := Mm.isS M'; subst e') | (have e' := Mm.isB M'; subst e') | (have e' := Mm.isN M'; subst e') | (obtain ⟨p', e'⟩ := Mm.isT M'; subst e') | (obtain ⟨p', e'⟩ := Mm.isL M'; subst e') | (obtain ⟨p', e'⟩ := Mm.isO M'; subst e') | skip); (first | (have e' := Mm.isI (Mm.dropL M'); subst e') | (have e' := Mm.isS (Mm.dropL M'); subst e') | (have e' := Mm.isB (Mm.dropL M'); subst e') | (have e' := Mm.isN (Mm.dropL M'); subst e') | (obtain ⟨p2', e'⟩ := Mm.isT (Mm.dropL M'); subst e') | (obtain ⟨p2', e'⟩ := Mm.isL (Mm.dropL M'); subst e') | (obtain ⟨p2', e'⟩ := Mm.isO (Mm.dropL M'); subst e') | skip); (first | (have e' := Mm.isI (Mm.dropL (Mm.dropL M')); subst e') | (have e' := Mm.isS (Mm.dropL (Mm.dropL M')); subst e') | (have e' := Mm.isB (Mm.dropL (Mm.dropL M')); subst e') | (have e' := Mm.isN (Mm.dropL (Mm.dropL M')); subst e') | (obtain ⟨p3', e'⟩ := Mm.isT (Mm.dropL (Mm.dropL M')); subst e') | (obtain ⟨p3', e'⟩ := Mm.isL (Mm.dropL (Mm.dropL M')); subst e') | (obtain ⟨p3', e'⟩ := Mm.isO (Mm.dropL (Mm.dropL M')); subst e') | skip))
  | (refine' d_app0 ?k1 ?k2 ?k3 ?_; (case k1 => assumption); (case k2 => walk_at "has1"); (case k3 => walk_at "size"); intro H' M')
  | (refine' d_app1 ?k1 ?k2 ?k3 ?_; (case k1 => assumption); (case k2 => walk_at "has1"); (case k3 => walk_at "size"); intro H' M')
  | (refine' d_app2 ?k1 ?k2 ?k3 ?_; (case k1 => assumption); (case k2 => walk_at "has1"); (case k3 => walk_at "size"); intro H' M')
  | (refine' d_app3 ?k1 ?k2 ?k3 ?_; (case k1 => assumption); (case k2 => walk_at "has1"); (case k3 => walk_at "size"); intro H' M')
  | (refine' d_set0 ?k1 ?k2 ?k3 ?k4 ?_; (case k1 => assumption); (case k2 => walk_at "has1"); (case k3 => omega); (case k4 => walk_at "lt"); intro H' M')
  | (refine' d_set1 ?k1 ?k2 ?k3 ?k4 ?_; (case k1 => assumption); (case k2 => walk_at "has1"); (case k3 => omega); (case k4 => walk_at "lt"); intro H' M')
  | (refine' d_set2 ?k1 ?k2 ?k3 ?k4 ?_; (case k1 => assumption); (case k2 => walk_at "has1"); (case k3 => omega); (case k4 => walk_at "lt"); intro H' M')
  | (refine' d_set3 ?k1 ?k2 ?k3 ?k4 ?_; (case k1 => assumption); (case k2 => walk_at "has1"); (case k3 => omega); (case k4 => walk_at "lt"); intro H' M')
  | (refine' d_reverse0 ?k1 ?_; (case k1 => assumption); intro H' M')
  | (refine' d_reverse1 ?k1 ?_; (case k1 => assumption); intro H' M')
  | (refine' d_reverse2 ?k1 ?_; (case k1 => assumption); intro H' M')
  | (refine' d_clear0 ?k1 ?_; (case k1 => assumption); intro H' M')
  | (refine' d_clear1 ?k1 ?_; (case k1 => assumption); intro H' M')
  | (refine' d_clear2 ?k1 ?_; (case k1 => assumption); intro H' M')
  | (refine' d_sfld0 ?k1 ?k2 ?k3 ?k4 ?k5 ?_; (case k1 => assumption); (case k2 => walk_at "has1"); (case k3 => assumption); (case k4 => assumption); (case k5 => walk_at "few"); intro H' M')
  | (refine' d_sfld1 ?k1 ?k2 ?k3 ?k4 ?k5 ?_; (case k1 => assumption); (case k2 => walk_at "has1"); (case k3 => assumption); (case k4 => assumption); (case k5 => walk_at "few"); intro H' M')
  | (refine' d_tyL2 ?k1 ?k2 ?_; (case k1 => assumption); (case k2 => walk_at "inl"))
  | (refine' d_inIL ?k1 ?k2 ?_; (case k1 => assumption); (case k2 => walk_at "inl"))
  | (refine' d_notIL ?k1 ?k2 ?_; (case k1 => assumption); (case k2 => walk_at "inl"))
  | (refine' d_inIT ?k1 ?k2 ?_; (case k1 => assumption); (case k2 => walk_at "mem"))
  | (refine' d_notIT ?k1 ?k2 ?_; (case k1 => assumption); (case k2 => walk_at "mem"))
  | (refine' d_eqE ?k1 ?k2 ?k3 ?_; (case k1 => assumption); (case k2 => walk_at "inl"); (case k3 => walk_at "inl"))
  | (refine' d_neE ?k1 ?k2 ?k3 ?_; (case k1 => assumption); (case k2 => walk_at "inl"); (case k3 => walk_at "inl"))
  | (refine' d_eq ?k1 ?k2 ?k3 ?k4 ?k5 ?_; (case k1 => assumption); (case k2 => walk_at "kn"); (case k3 => walk_at "kn"); (case k4 => walk_at "sh"); (case k5 => walk_at "sh"))
  | (refine' d_ne ?k1 ?k2 ?k3 ?k4 ?k5 ?_; (case k1 => assumption); (case k2 => walk_at "kn"); (case k3 => walk_at "kn"); (case k4 => walk_at "sh"); (case k5 => walk_at "sh"))
  | (refine' d_inD ?k1 ?k2 ?k3 ?k4 ?k5 ?_; (case k1 => assumption); (case k2 => walk_at "kn"); (case k3 => walk_at "kn"); (case k4 => walk_at "sh"); (case k5 => walk_at "sh"))
  | (refine' d_notInD ?k1 ?k2 ?k3 ?k4 ?k5 ?_; (case k1 => assumption); (case k2 => walk_at "kn"); (case k3 => walk_at "kn"); (case k4 => walk_at "sh"); (case k5 => walk_at "sh"))
  | (refine' d_isiT ?k1 ?k2 ?k3 ?_; (case k1 => assumption); (case k2 => walk_at "mem"); (case k3 => assumption))
  | (refine' d_isiL ?k1 ?k2 ?k3 ?_; (case k1 => assumption); (case k2 => walk_at "inl"); (case k3 => assumption))
  | (refine' d_isiO ?k1 ?k2 ?k3 ?k4 ?k5 ?k6 ?k7 ?_; (case k1 => assumption); (case k2 => walk_at "mem"); (case k3 => assumption); (case k4 => assumption); (case k5 => assumption); (case k6 => assumption); (case k7 => assumption))
  | walk_at "lof"
  | (refine' d_tupOfL ?k1 ?k2 ?_; (case k1 => assumption); (case k2 => walk_at "inl"); intro p' H' M')
  | (refine' d_tupOfT ?k1 ?k2 ?_; (case k1 => assumption); (case k2 => walk_at "mem"))
  | (refine' d_tupOfQ ?k1 ?k2 ?_; (case k1 => assumption); (case k2 => walk_at "mem"); intro p' H' M')
  | (refine' d_catT ?k1 ?k2 ?k3 ?k4 ?_; (case k1 => assumption); (case k2 => walk_at "mem"); (case k3 => walk_at "mem"); (case k4 => walk_at "size"); intro p' H' M')
  | (refine' d_slL ?k1 ?k2 ?_; (case k1 => assumption); (case k2 => walk_at "inl"); intro p' H' M')
  | refine d_revL ?_
  | (refine' d_rev ?k1 ?k2 ?_; (case k1 => assumption); (case k2 => walk_at "inl"); intro p' H' M')
  | (refine' d_cat ?k1 ?k2 ?k3 ?k4 ?_; (case k1 => assumption); (case k2 => walk_at "inl"); (case k3 => walk_at "inl"); (case k4 => walk_at "size"); intro p' H' M')
  | (refine' d_all ?k1 ?k2 ?_; (case k1 => assumption); (case k2 => walk_at "inl"))
  | (refine' d_any ?k1 ?k2 ?_; (case k1 => assumption); (case k2 => walk_at "inl"))
  | (refine' d_lstAt ?k1 ?k2 ?_; (case k1 => assumption); (case k2 => walk_at "inl"))
  | (refine' d_tupAt ?k1 ?k2 ?_; (case k1 => assumption); (case k2 => walk_at "mem"))
  | (refine' d_meth ?k1 ?k2 ?k3 ?_; (case k1 => assumption); (case k2 => walk_at "mem"); (case k3 => walk_at "fld"))
  | (refine' d_ownN ?k1 ?k2 ?_; (case k1 => assumption); (case k2 => walk_at "mem"))
  | (refine' d_ownO ?k1 ?k2 ?k3 ?_; (case k1 => assumption); (case k2 => walk_at "mem"); (case k3 => walk_at "mem"))
  | (refine' d_ownEq ?k1 ?k2 ?k3 ?_; (case k1 => assumption); (case k2 => walk_at "mem"); (case k3 => walk_at "mem"))
  | (refine' d_ownIn ?k1 ?k2 ?_; (case k1 => assumption); (case k2 => walk_at "mem"))
  | (refine' d_ownU ?k1 ?k2 ?_; (case k1 => assumption); (case k2 => walk_at "mem"))
  | (refine' d_ownStr ?k1 ?k2 ?_; (case k1 => assumption); (case k2 => walk_at "mem"))
  | (refine' d_prop ?k1 ?k2 ?_; (case k1 => assumption); (case k2 => walk_at "mem"))
  | (refine' d_dnew ?k1 ?_; (case k1 => assumption); intro p' H' M')
  | refine d_din0 ?_ | refine d_dnotin0 ?_ | refine d_dget0 ?_ | refine d_dput0 ?_ | refine d_items0 ?_
  | (refine' d_din ?k1 ?k2 ?k3 ?_; (case k1 => assumption); (case k2 => walk_at "inl"); (case k3 => first | exact (rfl : V.str _ = kV (Sum.inr _)) | exact (rfl : V.int _ = kV (Sum.inl _)) | fail))
  | (refine' d_dnotin ?k1 ?k2 ?k3 ?_; (case k1 => assumption); (case k2 => walk_at "inl"); (case k3 => first | exact (rfl : V.str _ = kV (Sum.inr _)) | exact (rfl : V.int _ = kV (Sum.inl _)) | fail))
  | (refine' d_items ?k1 ?k2 ?_; (case k1 => assumption); (case k2 => walk_at "inl"); intro p' H' M')
  | (refine' d_range1 ?k1 ?_; (case k1 => assumption); intro p' H' hp' M')
  | (refine' d_listRng ?k1 ?k2 ?k3 ?k4 ?_; (case k1 => assumption); (case k2 => assumption); (case k3 => omega); (case k4 => omega); intro p' H' M')
  | walk_at "use")
local macro_rules | `(tactic| walk_at "go") => `(tactic| repeat' (walk_at "go1"))

local macro_rules | `(tactic| walk_at "hp") => `(tactic| first | assumption | fail)
local macro_rules | `(tactic| walk_at "fld") => `(tactic| first | exact fd_nil | exact fd_hd | (refine' fd_tl ?k1 ?k2; (case k1 => decide +kernel); (case k2 => walk_at "fld")) | fail)
local macro_rules | `(tactic| walk_at "size") => `(tactic| first | exact Nat.lt_of_le_of_lt (m := 50000) (by first | omega | (simp only [List.length_map, List.length_range, List.length_append, List.length_cons, List.length_nil, List.length_replicate, List.length_set, List.length_reverse]; omega)) (by decide) | exact Nat.le_trans (m := 50000) (by first | omega | (simp only [List.length_map, List.length_range, List.length_append, List.length_cons, List.length_nil, List.length_replicate, List.length_set, List.length_reverse]; omega)) (by decide) | fail)
section
variable {P : Program} {w : World} {K : PySem.W.Frag} {mg : Str → Option Value} {base : Heap} {C CO fO CE fE : Addr}
local macro_rules | `(tactic| walk_at "goA") => `(tactic| repeat' (fail_if_success (with_reducible refine k_seq ?_); walk_at "go1"))
local macro_rules | `(tactic| walk_at "st") => `(tactic| (refine k_seq ?_; walk_at "goA"))
theorem sh_notes {ns : List Nt} : Sh 60 (.lst (ns.map ntD)) := Sh.lstM fun x _ => Sh.tup (Sh.cons Sh.int (Sh.cons Sh.bl Sh.nil))
theorem eqd_nt (x y : Nt) : eqd (ntD x) (ntD y) = decide (x = y) := by
  obtain ⟨a, b⟩ := x; obtain ⟨c, d⟩ := y
  unfold ntD
  rw [eqd_tup, eqdL_cons, eqdL_cons, eqdL_nil, eqd_int, eqd_bl, Bool.eq_iff_iff]
  simp [Prod.ext_iff]
theorem d_listQ {B G0 H : Hp} {ms : List Addr} {X : List (Addr × D)} {L : List (V × D)} {Q : VK} {p : Addr} {t : Bool} {ds : List D} (M : Mm K B G0 ms X L H) (hm : (V.ref p, sq t ds) ∈ L) (q : ∀ a H', Mm K B G0 ms X ((.ref a, .lst ds) :: L) H' → Q (.ref a) H') : rListOf K [.ref p] H Q := by
  cases t with
  | true => exact d_listI M (.inr hm) q
  | false => exact d_listI M (.inl (.inl hm)) q
local macro_rules | `(tactic| walk_at "use") => `(tactic| with_reducible first
  | (refine' use_take ?k1 ?k2 ?k3 ?k4 ?k5 ?_; (case k1 => assumption); (case k2 => walk_at "hass"); (case k3 => assumption); (case k4 => omega); (case k5 => omega); intro d' a' b' c' H' hc' M'; obtain ⟨hd1', hd2', hb'⟩ := hc')
  | (refine' use_take1 ?k1 ?k2 ?k3 ?k4 ?k5 ?_; (case k1 => assumption); (case k2 => walk_at "hass"); (case k3 => assumption); (case k4 => omega); (case k5 => omega); intro d' a' b' c' H' hc' M'; obtain ⟨hd1', hd2', hb'⟩ := hc')
  | (refine' use_take2 ?k1 ?k2 ?k3 ?k4 ?k5 ?_; (case k1 => assumption); (case k2 => walk_at "hass"); (case k3 => assumption); (case k4 => omega); (case k5 => omega); intro d' a' b' c' H' hc' M'; obtain ⟨hd1', hd2', hb'⟩ := hc')
  | fail)
theorem ok_law {f : Addr} {fd : FuncData} (F : Fun K "law" "law" s_law f fd) (T : Txt P K mg C CO fO CE fE) (c__law_draws : Cal P w K mg base 1 "_law_draws" (sp_draws K)) (c__law_take : Cal P w K mg base 1 "_law_take" (sp_take K)) (c__law_person : Cal P w K mg base 4 "_law_person" (sp_person K)) (c__law_fitting : Cal P w K mg base 1 "_law_fitting" (sp_fitting K)) (c__law_words : Cal P w K mg base 5 "_law_words" (sp_words K C)) (c_meeting_pairs : Cal P w K mg base 4 "meeting_pairs" (sp_mpairs K C)) (k_meeting_pairs : CalK P w K mg base 4 "meeting_pairs" ["last", "notes", "other"] [1, 2, 0] (sp_mpairs K C)) (c__law_pairs : Cal P w K mg base 4 "_law_pairs" (sp_pairs K C)) :
    FnOk P w K mg base (L2.CX P w) (5 + 1) f fd ["_law_script"] (spLaw K) := by
  refine okT F sc_law (fun vs H Q E h => ?_) (fun cdv A outer s H vs Q E hr tk h => ?_)
  · obtain ⟨a, ns, rfl, _⟩ := h
    rfl
  obtain ⟨a, ns, rfl, hS, hlen, k⟩ := h
  have f1 := T.i1; have f2 := T.i2; have f3 := T.i3; have f4 := T.i4; have f5 := T.i5; have f6 := T.cl; have f7 := T.nc; have f8 := T.ng; have f9 := T.oa; have f10 := T.on; have f11 := T.ot; have f12 := T.om
  refine ⟨_, (pss_cons (ps_set (i := 1) sc_law.nd rfl (Or.inl rfl) (c_call c__law_draws tk hr (by decide) (pa_cons (pv 0) pa_nil)))
      (pss_cons (ps_set (i := 2) sc_law.nd rfl (Or.inl rfl) (c_call c__law_take tk hr (by decide) (pa_cons (pv 1) (pa_cons pe_int pa_nil))))
      (pss_cons (ps_set (i := 3) sc_law.nd rfl (Or.inl rfl) (pe_cmpR op_eq (c_call c__law_take tk hr (by decide) (pa_cons (pv 1) (pa_cons pe_int pa_nil))) pe_int (nomark _)))
      (pss_cons (ps_if (pt_val (pv 3)) (pss_one (ps_set (i := 2) sc_law.nd rfl (Or.inl rfl) (pe_op op_add pe_int (c_call c__law_take tk hr (by decide) (pa_cons (pv 1) (pa_cons pe_int pa_nil)))))) pss_nil)
      (pss_cons (ps_set (i := 4) sc_law.nd rfl (Or.inl rfl) (c_call c__law_person tk hr (by decide) (pa_cons (pv 1) (pa_cons (pv 2) (pa_cons (pv 3) pa_nil)))))
      (pss_cons (ps_set (i := 5) sc_law.nd rfl (Or.inl rfl) (c_call c__law_person tk hr (by decide) (pa_cons (pv 1) (pa_cons (pv 2) (pa_cons (pv 3) pa_nil)))))
      (pss_cons (ps_if (pt_cmpR op_eq (c_call c__law_take tk hr (by decide) (pa_cons (pv 1) (pa_cons pe_int pa_nil))) pe_int (nomark _)) (pss_one (ps_set (i := 5) sc_law.nd rfl (Or.inl rfl) (pe_callTy b_listOf (by rfl) T.b_list (by decide +kernel) (pa_cons (pv 4) pa_nil)))) pss_nil)
      (pss_cons (ps_set (i := 6) sc_law.nd rfl (Or.inl rfl) (c_call c__law_fitting tk hr (by decide) (pa_cons (pv 4) (pa_cons (pv 2) pa_nil))))
      (pss_cons (ps_set (i := 7) sc_law.nd rfl (Or.inl rfl) (c_call c__law_fitting tk hr (by decide) (pa_cons (pv 5) (pa_cons (pv 2) pa_nil))))
      (pss_cons (ps_set (i := 8) sc_law.nd rfl (Or.inl rfl) (pe_callTy b_listOf (by rfl) T.b_list (by decide +kernel) (pa_cons (pv 4) pa_nil)))
      (pss_cons (ps_set (i := 9) sc_law.nd rfl (Or.inl rfl) (pe_callTy b_listOf (by rfl) T.b_list (by decide +kernel) (pa_cons (pv 5) pa_nil)))
      (pss_cons (ps_if (pt_cmpR op_eq (c_call c__law_take tk hr (by decide) (pa_cons (pv 1) (pa_cons pe_int pa_nil))) pe_int (nomark _)) (pss_one (ps_set (i := 8) sc_law.nd rfl (Or.inl rfl) (pe_callTy b_tupleOf (by rfl) T.b_tuple (by decide +kernel) (pa_cons (pv 4) pa_nil)))) pss_nil)
      (pss_cons (ps_if (PW.pt (pw_or (pt_not (pt_val (c_call c__law_words tk hr (by decide) (pa_cons (pv 1) (pa_cons (pv 8) (pa_cons (pv 2) (pa_cons (pv 6) pa_nil))))))) (pw_or1 (pt_not (pt_val (c_call c__law_words tk hr (by decide) (pa_cons (pv 1) (pa_cons (pv 9) (pa_cons (pv 2) (pa_cons (pv 7) pa_nil)))))))))) (pss_one (ps_ret pe_bl)) pss_nil)
      (pss_cons (ps_if (pt_not (pt_val (c_call c__law_pairs tk hr (by decide) (pa_cons (c_call c_meeting_pairs tk hr (by decide) (pa_cons (pv 8) (pa_cons (pv 9) (pa_cons (pv 2) pa_nil)))) (pa_cons (pv 6) (pa_cons (pv 7) pa_nil)))))) (pss_one (ps_ret pe_bl)) pss_nil)
      (pss_cons (ps_if (pt_not (pt_val (c_call c__law_pairs tk hr (by decide) (pa_cons (c_callKw k_meeting_pairs tk hr (by decide) (pk_cons (pv 2) (pk_cons (pv 9) (pk_cons (pv 8) pk_nil)))) (pa_cons (pv 7) (pa_cons (pv 6) pa_nil)))))) (pss_one (ps_ret pe_bl)) pss_nil)
      (pss_cons (ps_if (PW.pt (pw_and (pt_not (pt_val (pv 3))) (pw_and1 (pt_not (pt_val (c_call c__law_pairs tk hr (by decide) (pa_cons (c_call c_meeting_pairs tk hr (by decide) (pa_cons (pv 8) (pa_cons (pv 8) (pa_cons (pv 2) pa_nil)))) (pa_cons (pv 6) (pa_cons (pv 6) pa_nil))))))))) (pss_one (ps_ret pe_bl)) pss_nil)
      (pss_one (ps_ret (pe_and (pe_cmpR (op_eqD hr.units) (pe_callTy b_listOf (by rfl) T.b_list (by decide +kernel) (pa_cons (pv 8) pa_nil)) (pv 4) (nomark _)) (pe_one (pe_cmpR (op_eqD hr.units) (pv 9) (pv 5) (nomark _)))))))))))))))))))))), ?_⟩
  simp only [cxK, st_law]
  have M : Mm K H H [] [] [] H := Mm.start (fun _ _ e => e) (fun z hz => nomatch hz)
  walk_at "go"
  refine use_draws M hS fun bg cs c0 H1' hbx M1 => ?_
  clear M
  refine k_seq ?_
  refine join (fun σ' H' => ∃ (d2 a9 b9 c9 : Int), σ' = [some (.ref a), some (.ref bg), some (.int d2), none, none, none, none, none, none, none] ∧ 0 ≤ d2 ∧ d2 < 10 ∧ Box cs a9 b9 c9 ∧ Mm K H H [] [(bg, boxD cs a9 b9 c9)] [] H') (fun nx hnx => ?_) ?_
  · walk_at "go"
    exact hnx _ _ ⟨_, _, _, _, rfl, by assumption, by assumption, by assumption, by assumption⟩
  rintro σ1 H2 ⟨d2, a2, b2, c2, rfl, e1, e2, hb2, M2⟩
  clear M1
  refine k_seq ?_
  refine join (fun σ' H' => ∃ (w : Bool) (a9 b9 c9 : Int), σ' = [some (.ref a), some (.ref bg), some (.int d2), some (.bl w), none, none, none, none, none, none] ∧ Box cs a9 b9 c9 ∧ Mm K H H [] [(bg, boxD cs a9 b9 c9)] [] H') (fun nx hnx => ?_) ?_
  · walk_at "go"
    exact hnx _ _ ⟨_, _, _, _, rfl, by assumption, by assumption⟩
  rintro σ1 H3 ⟨wide, a3, b3, c3, rfl, hb3, M3⟩
  clear M2
  refine k_seq ?_
  refine join (fun σ' H' => ∃ (last a9 b9 c9 : Int), σ' = [some (.ref a), some (.ref bg), some (.int last), some (.bl wide), none, none, none, none, none, none] ∧ 0 ≤ last ∧ last ≤ 60 ∧ Box cs a9 b9 c9 ∧ Mm K H H [] [(bg, boxD cs a9 b9 c9)] [] H') (fun nx hnx => ?_) ?_
  · cases wide with
    | true =>
      walk_at "go"
      exact hnx _ _ ⟨_, _, _, _, rfl, by omega, by omega, by assumption, by assumption⟩
    | false =>
      walk_at "go"
      exact hnx _ _ ⟨_, _, _, _, rfl, by omega, by omega, by assumption, by assumption⟩
  rintro σ1 H4 ⟨last, a4, b4, c4, rfl, hla0, hla1, hb4, M4⟩
  clear M3
  refine k_seq ?_
  refine join (fun σ' H' => ∃ (p5 : Addr) (n5 : List Nt) (a9 b9 c9 : Int), σ' = [some (.ref a), some (.ref bg), some (.int last), some (.bl wide), some (.ref p5), none, none, none, none, none] ∧ InR n5 last ∧ n5.length ≤ 130 ∧ Box cs a9 b9 c9 ∧ Mm K H H [] [(bg, boxD cs a9 b9 c9)] [(.ref p5, .lst (n5.map ntD))] H') (fun nx hnx => ?_) ?_
  · walk_at "go"
    refine use_person (last := last) (wide := wide) M4 (by walk_at "hass") hb4 hla0 hla1 fun p5 n5 a5 b5 c5 H5 hc5 N5 => ?_
    walk_at "go"
    exact hnx _ _ ⟨_, n5, _, _, _, rfl, hc5.1, hc5.2.1, hc5.2.2, N5.freeze⟩
  rintro σ1 H5 ⟨p5, n5, a5, b5, c5, rfl, hin5, hl5, hb5, M5⟩
  clear M4
  refine k_seq ?_
  refine join (fun σ' H' => ∃ (p6 : Addr) (n6 : List Nt) (a9 b9 c9 : Int), σ' = [some (.ref a), some (.ref bg), some (.int last), some (.bl wide), some (.ref p5), some (.ref p6), none, none, none, none] ∧ InR n6 last ∧ n6.length ≤ 130 ∧ Box cs a9 b9 c9 ∧ Mm K H H [] [(bg, boxD cs a9 b9 c9)] [(.ref p6, .lst (n6.map ntD)), (.ref p5, .lst (n5.map ntD))] H') (fun nx hnx => ?_) ?_
  · walk_at "go"
    refine use_person (last := last) (wide := wide) M5 (by walk_at "hass") hb5 hla0 hla1 fun p6 n6 a6 b6 c6 H6 hc6 N6 => ?_
    walk_at "go"
    exact hnx _ _ ⟨_, n6, _, _, _, rfl, hc6.1, hc6.2.1, hc6.2.2, N6.freeze⟩
  rintro σ1 H6 ⟨p6, n6, a6, b6, c6, rfl, hin6, hl6, hb6, M6⟩
  clear M5
  refine k_seq ?_
  refine join (fun σ' H' => ∃ (p7 : Addr) (n7 : List Nt) (a9 b9 c9 : Int), σ' = [some (.ref a), some (.ref bg), some (.int last), some (.bl wide), some (.ref p5), some (.ref p7), none, none, none, none] ∧ InR n7 last ∧ n7.length ≤ 130 ∧ Box cs a9 b9 c9 ∧ Mm K H H [] [(bg, boxD cs a9 b9 c9)] [(.ref p7, .lst (n7.map ntD)), (.ref p5, .lst (n5.map ntD))] H') (fun nx hnx => ?_) ?_
  · walk_at "go"
    all_goals first
      | exact hnx _ _ ⟨_, n6, _, _, _, rfl, hin6, hl6, by assumption, Mm.sub (by assumption) (by walk_at "sub")⟩
      | (rename_i M9; exact hnx _ _ ⟨_, n5, _, _, _, rfl, hin5, hl5, by assumption, M9.sub (by walk_at "sub")⟩)
  rintro σ1 H7 ⟨p7, n7, a7, b7, c7, rfl, hin7, hl7, hb7, M7⟩
  clear M6
  walk_at "go"
  refine' use_fitting (ns := n5) (last := last) ?m0 ?h0 ?q0 ?q1 ?q2 ?q3 ?_
  case m0 => assumption
  case h0 => walk_at "hass"
  case q0 => exact hin5
  case q1 => exact hla0
  case q2 => exact hla1
  case q3 => omega
  intro p8 rs H8 hc8 N8
  have M8 := N8.freeze
  clear M7 N8
  walk_at "go"
  refine' use_fitting (ns := n7) (last := last) ?m0 ?h0 ?q0 ?q1 ?q2 ?q3 ?_
  case m0 => assumption
  case h0 => walk_at "hass"
  case q0 => exact hin7
  case q1 => exact hla0
  case q2 => exact hla1
  case q3 => omega
  intro p9 ss H9 hc9 N9
  have M9 := N9.freeze
  clear M8 N9
  refine k_gName ?_
  refine join (fun σ' H' => ∃ (f1 : Addr), σ' = [some (.ref a), some (.ref bg), some (.int last), some (.bl wide), some (.ref p5), some (.ref p7), some (.ref p8), some (.ref p9), some (.ref f1), none] ∧ Mm K H H [] [(bg, boxD cs a7 b7 c7)] [(.ref f1, .lst (n5.map ntD)), (.ref p9, .lst (ss.map prD)), (.ref p8, .lst (rs.map prD)), (.ref p7, .lst (n7.map ntD)), (.ref p5, .lst (n5.map ntD))] H') (fun nx hnx => ?_) ?_
  · walk_at "go"
    rename_i M10
    exact hnx _ _ ⟨_, rfl, M10⟩
  rintro σ1 H10 ⟨f1, rfl, M10⟩
  clear M9
  refine k_seq ?_
  refine join (fun σ' H' => ∃ (s1 : Addr), σ' = [some (.ref a), some (.ref bg), some (.int last), some (.bl wide), some (.ref p5), some (.ref p7), some (.ref p8), some (.ref p9), some (.ref f1), some (.ref s1)] ∧ Mm K H H [] [(bg, boxD cs a7 b7 c7)] [(.ref s1, .lst (n7.map ntD)), (.ref f1, .lst (n5.map ntD)), (.ref p9, .lst (ss.map prD)), (.ref p8, .lst (rs.map prD)), (.ref p7, .lst (n7.map ntD)), (.ref p5, .lst (n5.map ntD))] H') (fun nx hnx => ?_) ?_
  · walk_at "go"
    rename_i M11
    exact hnx _ _ ⟨_, rfl, M11⟩
  rintro σ1 H11 ⟨s1, rfl, M11⟩
  clear M10
  refine k_seq ?_
  refine join (fun σ' H' => ∃ (t : Bool) (f2 : Addr) (a8 b8 c8 : Int), σ' = [some (.ref a), some (.ref bg), some (.int last), some (.bl wide), some (.ref p5), some (.ref p7), some (.ref p8), some (.ref p9), some (.ref f2), some (.ref s1)] ∧ Box cs a8 b8 c8 ∧ Mm K H H [] [(bg, boxD cs a8 b8 c8)] [(.ref f2, sq t (n5.map ntD)), (.ref s1, .lst (n7.map ntD)), (.ref p9, .lst (ss.map prD)), (.ref p8, .lst (rs.map prD)), (.ref p7, .lst (n7.map ntD)), (.ref p5, .lst (n5.map ntD))] H') (fun nx hnx => ?_) ?_
  · walk_at "go"
    · rename_i M12
      exact hnx _ _ ⟨true, _, _, _, _, rfl, by assumption, M12.sub (by walk_at "sub")⟩
    · exact hnx _ _ ⟨false, _, _, _, _, rfl, by assumption, Mm.sub (by assumption) (by walk_at "sub")⟩
  rintro σ' H' ⟨t, f2, a8, b8, c8, rfl, hb8, M12⟩
  clear M11
  have hr8 := hc8.2
  have hr9 := hc9.2
  have w8 := hc8.1
  have w9 := hc9.1
  walk_at "go"
  refine' use_words (t := t) (ns := n5) (last := last) (rs := rs) ?m0 ?h0 ?q0 ?q1 ?q2 ?q3 ?q4 ?q5 ?q6 ?_
  case m0 => assumption
  case h0 => walk_at "hass"
  case q0 => exact hb8
  case q1 => exact hla0
  case q2 => exact hla1
  case q3 => exact hin5
  case q4 => omega
  case q5 => exact w8
  case q6 => exact hr8
  intro a13 b13 c13 H13 hb13 M13
  clear M12
  walk_at "go"
  refine' use_words (t := false) (ns := n7) (last := last) (rs := ss) ?m0 ?h0 ?q0 ?q1 ?q2 ?q3 ?q4 ?q5 ?q6 ?_
  case m0 => assumption
  case h0 => walk_at "hass"
  case q0 => exact hb13
  case q1 => exact hla0
  case q2 => exact hla1
  case q3 => exact hin7
  case q4 => omega
  case q5 => exact w9
  case q6 => exact hr9
  intro a14 b14 c14 H14 hb14 M14
  clear M13
  walk_at "go"
  refine' use_mpairs (t := t) (u := false) (ns := n5) (os := n7) (last := last) ?m0 ?h0 ?q0 ?q1 ?q2 ?q3 ?q4 ?q5 ?_
  case m0 => assumption
  case h0 => walk_at "hass"
  case q0 => exact hin5
  case q1 => exact hin7
  case q2 => exact hla0
  case q3 => omega
  case q4 => omega
  case q5 => omega
  intro v20 l20 m20 g20 k20 H20' z20 M20
  obtain ⟨z1, z2, z3, z4⟩ := z20
  obtain rfl := z1.uniq (leR_of w8)
  obtain rfl := z2.uniq (leR_of w9)
  obtain rfl := z3.uniq (grR_of w8)
  obtain rfl := z4.uniq (grR_of w9)
  obtain ⟨pv20, rfl⟩ := M20.isT
  walk_at "go"
  refine' use_pairs (rs := rs) (ss := ss) ?m0 ?h0 ?q0 ?q1 ?q2 ?q3 ?q4 ?q5 ?_
  case m0 => assumption
  case h0 => walk_at "hass"
  case q0 => exact w8.nodup
  case q1 => exact w9.nodup
  case q2 => omega
  case q3 => omega
  case q4 => exact (apart_eq w8 w9 (leR_of w8) (leR_of w9))
  case q5 => exact (meet_eq w8 w9 (grR_of w8) (grR_of w9))
  intro H202 M202
  walk_at "go"
  refine k_callKw ?_
  walk_at "go"
  refine k_pick rfl rfl ?_
  refine' use_mpairs (t := false) (u := t) (ns := n7) (os := n5) (last := last) ?m0 ?h0 ?q0 ?q1 ?q2 ?q3 ?q4 ?q5 ?_
  case m0 => assumption
  case h0 => walk_at "hass"
  case q0 => exact hin7
  case q1 => exact hin5
  case q2 => exact hla0
  case q3 => omega
  case q4 => omega
  case q5 => omega
  intro v21 l21 m21 g21 k21 H21' z21 M21
  obtain ⟨z1, z2, z3, z4⟩ := z21
  obtain rfl := z1.uniq (leR_of w9)
  obtain rfl := z2.uniq (leR_of w8)
  obtain rfl := z3.uniq (grR_of w9)
  obtain rfl := z4.uniq (grR_of w8)
  obtain ⟨pv21, rfl⟩ := M21.isT
  walk_at "go"
  refine' use_pairs (rs := ss) (ss := rs) ?m0 ?h0 ?q0 ?q1 ?q2 ?q3 ?q4 ?q5 ?_
  case m0 => assumption
  case h0 => walk_at "hass"
  case q0 => exact w9.nodup
  case q1 => exact w8.nodup
  case q2 => omega
  case q3 => omega
  case q4 => exact (apart_eq w9 w8 (leR_of w9) (leR_of w8))
  case q5 => exact (meet_eq w9 w8 (grR_of w9) (grR_of w8))
  intro H212 M212
  walk_at "go"
  cases wide with
  | true =>
    walk_at "go"
    refine d_listQ (t := t) (ds := n5.map ntD) (by assumption) (by walk_at "mem") fun lc H22 M22 => ?_
    walk_at "go"
    rw [eqd_lst, eqdL_map eqd_nt, decide_eq_true rfl]
    walk_at "go"
    rw [eqd_lst, eqdL_map eqd_nt, decide_eq_true rfl]
    exact k _
  | false =>
    walk_at "go"
    refine' use_mpairs (t := t) (u := t) (ns := n5) (os := n5) (last := last) ?m0 ?h0 ?q0 ?q1 ?q2 ?q3 ?q4 ?q5 ?_
    case m0 => assumption
    case h0 => walk_at "hass"
    case q0 => exact hin5
    case q1 => exact hin5
    case q2 => exact hla0
    case q3 => omega
    case q4 => omega
    case q5 => omega
    intro v22 l22 m22 g22 k22 H22' z22 M22
    obtain ⟨z1, z2, z3, z4⟩ := z22
    obtain rfl := z1.uniq (leR_of w8)
    obtain rfl := z2.uniq (leR_of w8)
    obtain rfl := z3.uniq (grR_of w8)
    obtain rfl := z4.uniq (grR_of w8)
    obtain ⟨pv22, rfl⟩ := M22.isT
    walk_at "go"
    refine' use_pairs (rs := rs) (ss := rs) ?m0 ?h0 ?q0 ?q1 ?q2 ?q3 ?q4 ?q5 ?_
    case m0 => assumption
    case h0 => walk_at "hass"
    case q0 => exact w8.nodup
    case q1 => exact w8.nodup
    case q2 => omega
    case q3 => omega
    case q4 => exact (apart_eq w8 w8 (leR_of w8) (leR_of w8))
    case q5 => exact (meet_eq w8 w8 (grR_of w8) (grR_of w8))
    intro H222 M222
    walk_at "go"
    refine d_listQ (t := t) (ds := n5.map ntD) (by assumption) (by walk_at "mem") fun lc H22 M22 => ?_
    walk_at "go"
    rw [eqd_lst, eqdL_map eqd_nt, decide_eq_true rfl]
    walk_at "go"
    rw [eqd_lst, eqdL_map eqd_nt, decide_eq_true rfl]
    exact k _
end
end K20

set_option Elab.async false
set_option linter.all false
set_option maxRecDepth 100000
set_option maxHeartbeats 8000000
namespace K20
open PySem L2 MyL
abbrev PR : Program := PySem.Challenge.rw_fittingpasts_k20_stays_asked.prog
abbrev s_OutOfRange : Stmt := inClass (top 3) 0
theorem e_OutOfRange : PySem.ErrX.ErrSt PR "OutOfRange.__init__" s_OutOfRange ["value"] :=
  ⟨_, _, _, _, _, _, _, _, _, _, rfl, fun _ => rfl, rfl, rfl, rfl, rfl, rfl, rfl, by decide +kernel, rfl, rfl, rfl, by decide +kernel, by decide +kernel, (.cons (by decide +kernel) .nil), fun _ _ _ _ _ _ us hl => match us, hl with | [_, _], _ => rfl⟩
abbrev s_EmptyStay : Stmt := inClass (top 4) 0
theorem e_EmptyStay : PySem.ErrX.ErrSt PR "EmptyStay.__init__" s_EmptyStay ["come", "go"] :=
  ⟨_, _, _, _, _, _, _, _, _, _, rfl, fun _ => rfl, rfl, rfl, rfl, rfl, rfl, rfl, by decide +kernel, rfl, rfl, rfl, by decide +kernel, by decide +kernel, (.cons (by decide +kernel) (.cons (by decide +kernel) .nil)), fun _ _ _ _ _ _ us hl => match us, hl with | [_, _, _], _ => rfl⟩
theorem b_Stay_init : BindsSt "__init__" "Stay.__init__" s_Stay_init ["self", "come", "go"] := fun _ _ _ _ _ _ us hl => match us, hl with | [_, _, _], _ => rfl
theorem b_Stay_contains : BindsSt "__contains__" "Stay.__contains__" s_Stay_contains ["self", "day"] := fun _ _ _ _ _ _ us hl => match us, hl with | [_, _], _ => rfl
theorem b_Stay_meets : BindsSt "meets" "Stay.meets" s_Stay_meets ["self", "other"] := fun _ _ _ _ _ _ us hl => match us, hl with | [_, _], _ => rfl
theorem b_check_notes : BindsSt "check_notes" "check_notes" s_check_notes ["notes", "last"] := fun _ _ _ _ _ _ us hl => match us, hl with | [_, _], _ => rfl
theorem b_seen_ends : BindsSt "seen_ends" "seen_ends" s_seen_ends ["notes"] := fun _ _ _ _ _ _ us hl => match us, hl with | [_], _ => rfl
theorem b_free_runs : BindsSt "free_runs" "free_runs" s_free_runs ["notes", "last"] := fun _ _ _ _ _ _ us hl => match us, hl with | [_, _], _ => rfl
theorem b_fitting_runs : BindsSt "fitting_runs" "fitting_runs" s_fitting_runs ["notes", "last"] := fun _ _ _ _ _ _ us hl => match us, hl with | [_, _], _ => rfl
theorem b_least_stays : BindsSt "least_stays" "least_stays" s_least_stays ["notes", "last"] := fun _ _ _ _ _ _ us hl => match us, hl with | [_, _], _ => rfl
theorem b_greatest_stays : BindsSt "greatest_stays" "greatest_stays" s_greatest_stays ["notes", "last"] := fun _ _ _ _ _ _ us hl => match us, hl with | [_, _], _ => rfl
theorem b_surely_on : BindsSt "surely_on" "surely_on" s_surely_on ["notes", "last", "day"] := fun _ _ _ _ _ _ us hl => match us, hl with | [_, _, _], _ => rfl
theorem b_first_pair : BindsSt "first_pair" "first_pair" s_first_pair ["stays", "others", "common"] := fun _ _ _ _ _ _ us hl => match us, hl with | [_, _, _], _ => rfl
theorem b_meeting_pairs : BindsSt "meeting_pairs" "meeting_pairs" s_meeting_pairs ["notes", "other", "last"] := fun _ _ _ _ _ _ us hl => match us, hl with | [_, _, _], _ => rfl
theorem b__law_draws : BindsSt "_law_draws" "_law_draws" s__law_draws ["_law_script"] := fun _ _ _ _ _ _ us hl => match us, hl with | [_], _ => rfl
theorem b__law_take : BindsSt "_law_take" "_law_take" s__law_take ["_law_box", "_law_limit"] := fun _ _ _ _ _ _ us hl => match us, hl with | [_, _], _ => rfl
theorem b__law_number : BindsSt "_law_number" "_law_number" s__law_number ["_law_actual", "_law_due"] := fun _ _ _ _ _ _ us hl => match us, hl with | [_, _], _ => rfl
theorem b__law_is : BindsSt "_law_is" "_law_is" s__law_is ["_law_stay", "_law_days"] := fun _ _ _ _ _ _ us hl => match us, hl with | [_, _], _ => rfl
theorem b__law_true_notes : BindsSt "_law_true_notes" "_law_true_notes" s__law_true_notes ["_law_box", "_law_last", "_law_low", "_law_high", "_law_most"] := fun _ _ _ _ _ _ us hl => match us, hl with | [_, _, _, _, _], _ => rfl
theorem b__law_empty_days : BindsSt "_law_empty_days" "_law_empty_days" s__law_empty_days ["_law_box", "_law_last"] := fun _ _ _ _ _ _ us hl => match us, hl with | [_, _], _ => rfl
theorem b__law_notes : BindsSt "_law_notes" "_law_notes" s__law_notes ["_law_box", "_law_last", "_law_low", "_law_high"] := fun _ _ _ _ _ _ us hl => match us, hl with | [_, _, _, _], _ => rfl
theorem b__law_fences : BindsSt "_law_fences" "_law_fences" s__law_fences ["_law_box", "_law_last", "_law_low", "_law_high"] := fun _ _ _ _ _ _ us hl => match us, hl with | [_, _, _, _], _ => rfl
theorem b__law_fitting : BindsSt "_law_fitting" "_law_fitting" s__law_fitting ["_law_notes_here", "_law_last"] := fun _ _ _ _ _ _ us hl => match us, hl with | [_, _], _ => rfl
theorem b__law_least : BindsSt "_law_least" "_law_least" s__law_least ["_law_rows"] := fun _ _ _ _ _ _ us hl => match us, hl with | [_], _ => rfl
theorem b__law_greatest : BindsSt "_law_greatest" "_law_greatest" s__law_greatest ["_law_rows"] := fun _ _ _ _ _ _ us hl => match us, hl with | [_], _ => rfl
theorem b__law_person : BindsSt "_law_person" "_law_person" s__law_person ["_law_box", "_law_last", "_law_wide"] := fun _ _ _ _ _ _ us hl => match us, hl with | [_, _, _], _ => rfl
theorem b__law_word : BindsSt "_law_word" "_law_word" s__law_word ["_law_rows", "_law_day"] := fun _ _ _ _ _ _ us hl => match us, hl with | [_, _], _ => rfl
theorem b__law_words : BindsSt "_law_words" "_law_words" s__law_words ["_law_box", "_law_notes_here", "_law_last", "_law_rows"] := fun _ _ _ _ _ _ us hl => match us, hl with | [_, _, _, _], _ => rfl
theorem b__law_common : BindsSt "_law_common" "_law_common" s__law_common ["_law_one", "_law_other"] := fun _ _ _ _ _ _ us hl => match us, hl with | [_, _], _ => rfl
theorem b__law_first_pair : BindsSt "_law_first_pair" "_law_first_pair" s__law_first_pair ["_law_rows", "_law_others", "_law_common_here"] := fun _ _ _ _ _ _ us hl => match us, hl with | [_, _, _], _ => rfl
theorem b__law_item : BindsSt "_law_item" "_law_item" s__law_item ["_law_actual", "_law_due"] := fun _ _ _ _ _ _ us hl => match us, hl with | [_, _], _ => rfl
theorem b__law_pairs : BindsSt "_law_pairs" "_law_pairs" s__law_pairs ["_law_actual", "_law_mine", "_law_others"] := fun _ _ _ _ _ _ us hl => match us, hl with | [_, _, _], _ => rfl
theorem b_law : BindsSt "law" "law" s_law ["_law_script"] := fun _ _ _ _ _ _ us hl => match us, hl with | [_], _ => rfl
theorem bk_mp : KwDef "meeting_pairs" "meeting_pairs" s_meeting_pairs ["notes", "other", "last"] ["last", "notes", "other"] [1, 2, 0] := fun _ _ _ _ _ _ ws hl => match ws, hl with | [_, _, _], _ => rfl
theorem all_mk {w : World} {K : PySem.W.Frag} {h : Heap} {mg : Str → Option Value} {C CO fO CE fE : Addr} (X : K.In h) (G : h.Ns mainGlobals mg)
    (a_Stay : PySem.W.nsIn K mainGlobals "Stay" = some (some (.ref C)))
    (z_isinstance : PySem.W.nsIn K mainGlobals "isinstance" = some none)
    (z_int : PySem.W.nsIn K mainGlobals "int" = some none)
    (z_bool : PySem.W.nsIn K mainGlobals "bool" = some none)
    (z_str : PySem.W.nsIn K mainGlobals "str" = some none)
    (z_len : PySem.W.nsIn K mainGlobals "len" = some none)
    (z_min : PySem.W.nsIn K mainGlobals "min" = some none)
    (z_max : PySem.W.nsIn K mainGlobals "max" = some none)
    (z_list : PySem.W.nsIn K mainGlobals "list" = some none)
    (z_tuple : PySem.W.nsIn K mainGlobals "tuple" = some none)
    (z_range : PySem.W.nsIn K mainGlobals "range" = some none)
    (z_all : PySem.W.nsIn K mainGlobals "all" = some none)
    (z_any : PySem.W.nsIn K mainGlobals "any" = some none)
    (z_enumerate : PySem.W.nsIn K mainGlobals "enumerate" = some none)
    (cl_Stay : Cls K C)
    (na_Stay_come : NoAttr K C "come")
    (na_Stay_go : NoAttr K C "go")
    (mk_Stay : PySem.W.makesIn K C = true)
    (kc_Stay : PySem.W.keepIn K (.ref C) = true)
    (ca_Stay : PySem.W.findIn K (.ref C) "__class__" = some (some (.builtin "object.__class__")))
    (cm_Stay : PySem.W.mroIn K C (.type "object") = some true)
    (cn : PySem.W.specialIn K (.builtin "object.__class__") "__get__" = some (some (.builtin "getset_descriptor.__get__")))
    (ct : PySem.W.takesIn K (.builtin "object.__class__") = some true)
    (er_OutOfRange : PySem.ErrX.ErrTxt PR K mg "OutOfRange" CO fO ["value"])
    (er_EmptyStay : PySem.ErrX.ErrTxt PR K mg "EmptyStay" CE fE ["come", "go"])
    (m_Stay_init : MethAt K C "__init__" "Stay.__init__" s_Stay_init)
    (m_Stay_contains : MethAt K C "__contains__" "Stay.__contains__" s_Stay_contains)
    (m_Stay_meets : MethAt K C "meets" "Stay.meets" s_Stay_meets)
    (d_check_notes : DefAt K mg "check_notes" "check_notes" s_check_notes)
    (d_seen_ends : DefAt K mg "seen_ends" "seen_ends" s_seen_ends)
    (d_free_runs : DefAt K mg "free_runs" "free_runs" s_free_runs)
    (d_fitting_runs : DefAt K mg "fitting_runs" "fitting_runs" s_fitting_runs)
    (d_least_stays : DefAt K mg "least_stays" "least_stays" s_least_stays)
    (d_greatest_stays : DefAt K mg "greatest_stays" "greatest_stays" s_greatest_stays)
    (d_surely_on : DefAt K mg "surely_on" "surely_on" s_surely_on)
    (d_first_pair : DefAt K mg "first_pair" "first_pair" s_first_pair)
    (d_meeting_pairs : DefAt K mg "meeting_pairs" "meeting_pairs" s_meeting_pairs)
    (d__law_draws : DefAt K mg "_law_draws" "_law_draws" s__law_draws)
    (d__law_take : DefAt K mg "_law_take" "_law_take" s__law_take)
    (d__law_number : DefAt K mg "_law_number" "_law_number" s__law_number)
    (d__law_is : DefAt K mg "_law_is" "_law_is" s__law_is)
    (d__law_true_notes : DefAt K mg "_law_true_notes" "_law_true_notes" s__law_true_notes)
    (d__law_empty_days : DefAt K mg "_law_empty_days" "_law_empty_days" s__law_empty_days)
    (d__law_notes : DefAt K mg "_law_notes" "_law_notes" s__law_notes)
    (d__law_fences : DefAt K mg "_law_fences" "_law_fences" s__law_fences)
    (d__law_fitting : DefAt K mg "_law_fitting" "_law_fitting" s__law_fitting)
    (d__law_least : DefAt K mg "_law_least" "_law_least" s__law_least)
    (d__law_greatest : DefAt K mg "_law_greatest" "_law_greatest" s__law_greatest)
    (d__law_person : DefAt K mg "_law_person" "_law_person" s__law_person)
    (d__law_word : DefAt K mg "_law_word" "_law_word" s__law_word)
    (d__law_words : DefAt K mg "_law_words" "_law_words" s__law_words)
    (d__law_common : DefAt K mg "_law_common" "_law_common" s__law_common)
    (d__law_first_pair : DefAt K mg "_law_first_pair" "_law_first_pair" s__law_first_pair)
    (d__law_item : DefAt K mg "_law_item" "_law_item" s__law_item)
    (d__law_pairs : DefAt K mg "_law_pairs" "_law_pairs" s__law_pairs)
    (d_law : DefAt K mg "law" "law" s_law) :
    DefAt K mg "law" "law" s_law ∧ ∀ {f : Addr} {fd : FuncData}, Fun K "law" "law" s_law f fd → ∀ base : Heap, FnOk PR w K mg base (L2.CX PR w) 6 f fd ["_law_script"] (spLaw K) := by
  have z := fun {n : Str} (e : PySem.W.nsIn K mainGlobals n = some none) => PySem.W.mg_none_of X G e
  have y := fun {n : Str} {v : Value} (e : PySem.W.nsIn K mainGlobals n = some (some v)) => PySem.W.mg_of X G e
  have T : Txt PR K mg C CO fO CE fE := ⟨cl_Stay, na_Stay_come, na_Stay_go, z z_isinstance, z z_int, z z_bool, z z_str, z z_len, z z_min, z z_max, z z_list, z z_tuple, z z_range, z z_all, z z_any, z z_enumerate, y a_Stay, er_OutOfRange, er_EmptyStay, kit_ty (by decide +kernel), kit_ty (by decide +kernel), kit_ty (by decide +kernel), kit_ty (by decide +kernel), kit_ty (by decide +kernel), ca_Stay, cn, ct, cm_Stay⟩
  refine ⟨d_law, fun {f fd} F base => ?_⟩
  have c_Stay : Mak PR w K mg base 1 "Stay" C (sp_stay K C) := mak_of m_Stay_init T.g_Stay mk_Stay kc_Stay b_Stay_init fun F => ok_stay F T 
  have c_Stay_contains : Spc PR w K mg base 1 C "__contains__" (sp_has K C) := spc_of m_Stay_contains b_Stay_contains fun F => ok_has F T 
  have c_Stay_meets : Met PR w K mg base 1 C "meets" (sp_meets K C) := met_of m_Stay_meets T.cl b_Stay_meets fun F => ok_meets F T 
  have c__law_number : Cal PR w K mg base 1 "_law_number" (sp_num K) := cal_of d__law_number b__law_number fun F => ok_num F T 
  have c__law_take : Cal PR w K mg base 1 "_law_take" (sp_take K) := cal_of d__law_take b__law_take fun F => ok_take F T 
  have c__law_draws : Cal PR w K mg base 1 "_law_draws" (sp_draws K) := cal_of d__law_draws b__law_draws fun F => ok_draws F T 
  have c_check_notes : Cal PR w K mg base 1 "check_notes" (sp_check K) := cal_of d_check_notes b_check_notes fun F => ok_check F T 
  have c_seen_ends : Cal PR w K mg base 1 "seen_ends" (sp_ends K) := cal_of d_seen_ends b_seen_ends fun F => ok_ends F T 
  have c_free_runs : Cal PR w K mg base 1 "free_runs" (sp_runs K) := cal_of d_free_runs b_free_runs fun F => ok_runs F T 
  have c__law_fitting : Cal PR w K mg base 1 "_law_fitting" (sp_fitting K) := cal_of d__law_fitting b__law_fitting fun F => ok_fitting F T 
  have c__law_least : Cal PR w K mg base 1 "_law_least" (sp_lle K) := cal_of d__law_least b__law_least fun F => ok_lle F T 
  have c__law_greatest : Cal PR w K mg base 1 "_law_greatest" (sp_lgr K) := cal_of d__law_greatest b__law_greatest fun F => ok_lgr F T 
  have c__law_common : Cal PR w K mg base 1 "_law_common" (sp_common K) := cal_of d__law_common b__law_common fun F => ok_common F T 
  have c__law_word : Cal PR w K mg base 1 "_law_word" (sp_word K) := cal_of d__law_word b__law_word fun F => ok_word F T 
  have c__law_is : Cal PR w K mg base 2 "_law_is" (sp_is K C) := cal_of d__law_is b__law_is fun F => ok_is F T c__law_number
  have c_fitting_runs : Cal PR w K mg base 2 "fitting_runs" (sp_fruns K) := cal_of d_fitting_runs b_fitting_runs fun F => ok_fruns F T c_check_notes c_free_runs c_seen_ends
  have c_first_pair : Cal PR w K mg base 2 "first_pair" (sp_fpair K C) := cal_of d_first_pair b_first_pair fun F => ok_fpair F T c_Stay_meets
  have c__law_true_notes : Cal PR w K mg base 2 "_law_true_notes" (sp_tnotes K) := cal_of d__law_true_notes b__law_true_notes fun F => ok_tnotes F T c__law_take
  have c__law_empty_days : Cal PR w K mg base 2 "_law_empty_days" (sp_edays K) := cal_of d__law_empty_days b__law_empty_days fun F => ok_edays F T c__law_take
  have c__law_fences : Cal PR w K mg base 2 "_law_fences" (sp_fences K) := cal_of d__law_fences b__law_fences fun F => ok_fences F T c__law_take
  have c__law_first_pair : Cal PR w K mg base 2 "_law_first_pair" (sp_lfpair K) := cal_of d__law_first_pair b__law_first_pair fun F => ok_lfpair F T c__law_common
  have c_greatest_stays : Cal PR w K mg base 3 "greatest_stays" (sp_great K C) := cal_of d_greatest_stays b_greatest_stays fun F => ok_great F T c_fitting_runs c_Stay
  have c_least_stays : Cal PR w K mg base 3 "least_stays" (sp_least K C) := cal_of d_least_stays b_least_stays fun F => ok_least F T c_fitting_runs c_seen_ends c_Stay
  have c__law_notes : Cal PR w K mg base 3 "_law_notes" (sp_notes K) := cal_of d__law_notes b__law_notes fun F => ok_notes F T c__law_take c__law_empty_days c__law_true_notes
  have c__law_item : Cal PR w K mg base 3 "_law_item" (sp_item K C) := cal_of d__law_item b__law_item fun F => ok_item F T c__law_is
  have k_meeting_pairs : CalK PR w K mg base 4 "meeting_pairs" ["last", "notes", "other"] [1, 2, 0] (sp_mpairs K C) := calK_of d_meeting_pairs bk_mp fun F => ok_mpairs F T c_check_notes c_least_stays c_greatest_stays c_first_pair
  have c_surely_on : Cal PR w K mg base 4 "surely_on" (sp_sure K C) := cal_of d_surely_on b_surely_on fun F => ok_sure F T c_least_stays c_greatest_stays c_Stay_contains
  have c_meeting_pairs : Cal PR w K mg base 4 "meeting_pairs" (sp_mpairs K C) := cal_of d_meeting_pairs b_meeting_pairs fun F => ok_mpairs F T c_check_notes c_least_stays c_greatest_stays c_first_pair
  have c__law_person : Cal PR w K mg base 4 "_law_person" (sp_person K) := cal_of d__law_person b__law_person fun F => ok_person F T c__law_take c__law_notes c__law_fences
  have c__law_pairs : Cal PR w K mg base 4 "_law_pairs" (sp_pairs K C) := cal_of d__law_pairs b__law_pairs fun F => ok_pairs F T c__law_item c__law_first_pair c__law_least c__law_greatest
  have c__law_words : Cal PR w K mg base 5 "_law_words" (sp_words K C) := cal_of d__law_words b__law_words fun F => ok_words F T c__law_take c_surely_on c__law_word
  exact ok_law F T c__law_draws c__law_take c__law_person c__law_fitting c__law_words c_meeting_pairs k_meeting_pairs c__law_pairs
end K20

set_option Elab.async false
set_option linter.all false
open PySem PySem.W PyProof.Rows L2 MyL K20
set_option maxRecDepth 100000 in
set_option maxHeartbeats 0 in
theorem PySem.Challenge.cw_fittingpasts_k20_stays_asked_holds : PySem.Challenge.rw_fittingpasts_k20_stays_asked.Holds := by
  w_on; o_law; k_head; (case hw => w_witness2)
  k_fill
  refine law_walk (l := PySem.Challenge.rw_fittingpasts_k20_stays_asked) (k := 6) (x := "_law_script") (st := s_law) rfl rfl ⟨rfl, by decide, by decide⟩ (fun w h Y => PySem.W.kIn_of Y) (fun _ _ _ _ _ _ _ _ => .of_eq rfl) ?F
  case F =>
    intro w mg h KX G
    refine' K20.all_mk KX G ?a_Stay ?z_isinstance ?z_int ?z_bool ?z_str ?z_len ?z_min ?z_max ?z_list ?z_tuple ?z_range ?z_all ?z_any ?z_enumerate ?cl_Stay ?na_Stay_come ?na_Stay_go ?mk_Stay ?kc_Stay ?ca_Stay ?cm_Stay ?cn ?ct ?er_OutOfRange ?er_EmptyStay ?m_Stay_init ?m_Stay_contains ?m_Stay_meets ?d_check_notes ?d_seen_ends ?d_free_runs ?d_fitting_runs ?d_least_stays ?d_greatest_stays ?d_surely_on ?d_first_pair ?d_meeting_pairs ?d__law_draws ?d__law_take ?d__law_number ?d__law_is ?d__law_true_notes ?d__law_empty_days ?d__law_notes ?d__law_fences ?d__law_fitting ?d__law_least ?d__law_greatest ?d__law_person ?d__law_word ?d__law_words ?d__law_common ?d__law_first_pair ?d__law_item ?d__law_pairs ?d_law
    (case a_Stay => k_is)
    (case z_isinstance => k_is)
    (case z_int => k_is)
    (case z_bool => k_is)
    (case z_str => k_is)
    (case z_len => k_is)
    (case z_min => k_is)
    (case z_max => k_is)
    (case z_list => k_is)
    (case z_tuple => k_is)
    (case z_range => k_is)
    (case z_all => k_is)
    (case z_any => k_is)
    (case z_enumerate => k_is)
    (case cl_Stay => refine' ⟨?a, ?b, ?c, ?d⟩; (case a => k_is); (case b => k_is); (case c => k_is); (case d => k_is))
    (case na_Stay_come => unfold NoAttr; k_is)
    (case na_Stay_go => unfold NoAttr; k_is)
    (case mk_Stay => k_is)
    (case kc_Stay => k_is)
    (case ca_Stay => k_is)
    (case cm_Stay => k_is)
    (case cn => k_is)
    (case ct => k_is)
    (case er_OutOfRange => refine' PySem.ErrX.err_mk KX G e_OutOfRange ?g1 ?g2 ?g3 ?g4 ?g5 ?g6 ?g7 ?g8 ?g9 ?h1 ?h2 ?h3 ?h4 ?h5 ?h6 ?h7 ?h8 ?h9 ?i1 ?i2 ?i3; (case g1 => k_is); (case g2 => k_is); (case g3 => k_is); (case g4 => decide +kernel); (case g5 => k_is); (case g6 => (intro f hf; simp only [List.mem_cons, List.not_mem_nil, or_false] at hf; rcases hf with rfl; all_goals k_is)); (case g7 => k_is); (case g8 => k_is); (case g9 => k_is); (case h1 => k_is); (case h2 => k_is); (case h3 => k_is); (case h4 => k_is); (case h5 => ks_is); (case h6 => k_is); (case h7 => k_is); (case h8 => k_is); (case h9 => k_is); (case i1 => rfl); (case i2 => decide +kernel); (case i3 => k_is))
    (case er_EmptyStay => refine' PySem.ErrX.err_mk KX G e_EmptyStay ?g1 ?g2 ?g3 ?g4 ?g5 ?g6 ?g7 ?g8 ?g9 ?h1 ?h2 ?h3 ?h4 ?h5 ?h6 ?h7 ?h8 ?h9 ?i1 ?i2 ?i3; (case g1 => k_is); (case g2 => k_is); (case g3 => k_is); (case g4 => decide +kernel); (case g5 => k_is); (case g6 => (intro f hf; simp only [List.mem_cons, List.not_mem_nil, or_false] at hf; rcases hf with rfl | rfl; all_goals k_is)); (case g7 => k_is); (case g8 => k_is); (case g9 => k_is); (case h1 => k_is); (case h2 => k_is); (case h3 => k_is); (case h4 => k_is); (case h5 => ks_is); (case h6 => k_is); (case h7 => k_is); (case h8 => k_is); (case h9 => k_is); (case i1 => rfl); (case i2 => decide +kernel); (case i3 => k_is))
    (case m_Stay_init => refine' gmeth (st := s_Stay_init) ?a ?i ?l ?c ?k; (case a => k_is); (case i => k_is); (case l => k_is); (case c => k_is); (case k => k_is))
    (case m_Stay_contains => refine' gmeth (st := s_Stay_contains) ?a ?i ?l ?c ?k; (case a => k_is); (case i => k_is); (case l => k_is); (case c => k_is); (case k => k_is))
    (case m_Stay_meets => refine' gmeth (st := s_Stay_meets) ?a ?i ?l ?c ?k; (case a => k_is); (case i => k_is); (case l => k_is); (case c => k_is); (case k => k_is))
    (case d_check_notes => refine' gdef (st := s_check_notes) KX G ?a ?l ?c ?k; (case a => k_is); (case l => k_is); (case c => k_is); (case k => k_is))
    (case d_seen_ends => refine' gdef (st := s_seen_ends) KX G ?a ?l ?c ?k; (case a => k_is); (case l => k_is); (case c => k_is); (case k => k_is))
    (case d_free_runs => refine' gdef (st := s_free_runs) KX G ?a ?l ?c ?k; (case a => k_is); (case l => k_is); (case c => k_is); (case k => k_is))
    (case d_fitting_runs => refine' gdef (st := s_fitting_runs) KX G ?a ?l ?c ?k; (case a => k_is); (case l => k_is); (case c => k_is); (case k => k_is))
    (case d_least_stays => refine' gdef (st := s_least_stays) KX G ?a ?l ?c ?k; (case a => k_is); (case l => k_is); (case c => k_is); (case k => k_is))
    (case d_greatest_stays => refine' gdef (st := s_greatest_stays) KX G ?a ?l ?c ?k; (case a => k_is); (case l => k_is); (case c => k_is); (case k => k_is))
    (case d_surely_on => refine' gdef (st := s_surely_on) KX G ?a ?l ?c ?k; (case a => k_is); (case l => k_is); (case c => k_is); (case k => k_is))
    (case d_first_pair => refine' gdef (st := s_first_pair) KX G ?a ?l ?c ?k; (case a => k_is); (case l => k_is); (case c => k_is); (case k => k_is))
    (case d_meeting_pairs => refine' gdef (st := s_meeting_pairs) KX G ?a ?l ?c ?k; (case a => k_is); (case l => k_is); (case c => k_is); (case k => k_is))
    (case d__law_draws => refine' gdef (st := s__law_draws) KX G ?a ?l ?c ?k; (case a => k_is); (case l => k_is); (case c => k_is); (case k => k_is))
    (case d__law_take => refine' gdef (st := s__law_take) KX G ?a ?l ?c ?k; (case a => k_is); (case l => k_is); (case c => k_is); (case k => k_is))
    (case d__law_number => refine' gdef (st := s__law_number) KX G ?a ?l ?c ?k; (case a => k_is); (case l => k_is); (case c => k_is); (case k => k_is))
    (case d__law_is => refine' gdef (st := s__law_is) KX G ?a ?l ?c ?k; (case a => k_is); (case l => k_is); (case c => k_is); (case k => k_is))
    (case d__law_true_notes => refine' gdef (st := s__law_true_notes) KX G ?a ?l ?c ?k; (case a => k_is); (case l => k_is); (case c => k_is); (case k => k_is))
    (case d__law_empty_days => refine' gdef (st := s__law_empty_days) KX G ?a ?l ?c ?k; (case a => k_is); (case l => k_is); (case c => k_is); (case k => k_is))
    (case d__law_notes => refine' gdef (st := s__law_notes) KX G ?a ?l ?c ?k; (case a => k_is); (case l => k_is); (case c => k_is); (case k => k_is))
    (case d__law_fences => refine' gdef (st := s__law_fences) KX G ?a ?l ?c ?k; (case a => k_is); (case l => k_is); (case c => k_is); (case k => k_is))
    (case d__law_fitting => refine' gdef (st := s__law_fitting) KX G ?a ?l ?c ?k; (case a => k_is); (case l => k_is); (case c => k_is); (case k => k_is))
    (case d__law_least => refine' gdef (st := s__law_least) KX G ?a ?l ?c ?k; (case a => k_is); (case l => k_is); (case c => k_is); (case k => k_is))
    (case d__law_greatest => refine' gdef (st := s__law_greatest) KX G ?a ?l ?c ?k; (case a => k_is); (case l => k_is); (case c => k_is); (case k => k_is))
    (case d__law_person => refine' gdef (st := s__law_person) KX G ?a ?l ?c ?k; (case a => k_is); (case l => k_is); (case c => k_is); (case k => k_is))
    (case d__law_word => refine' gdef (st := s__law_word) KX G ?a ?l ?c ?k; (case a => k_is); (case l => k_is); (case c => k_is); (case k => k_is))
    (case d__law_words => refine' gdef (st := s__law_words) KX G ?a ?l ?c ?k; (case a => k_is); (case l => k_is); (case c => k_is); (case k => k_is))
    (case d__law_common => refine' gdef (st := s__law_common) KX G ?a ?l ?c ?k; (case a => k_is); (case l => k_is); (case c => k_is); (case k => k_is))
    (case d__law_first_pair => refine' gdef (st := s__law_first_pair) KX G ?a ?l ?c ?k; (case a => k_is); (case l => k_is); (case c => k_is); (case k => k_is))
    (case d__law_item => refine' gdef (st := s__law_item) KX G ?a ?l ?c ?k; (case a => k_is); (case l => k_is); (case c => k_is); (case k => k_is))
    (case d__law_pairs => refine' gdef (st := s__law_pairs) KX G ?a ?l ?c ?k; (case a => k_is); (case l => k_is); (case c => k_is); (case k => k_is))
    (case d_law => refine' gdef (st := s_law) KX G ?a ?l ?c ?k; (case a => k_is); (case l => k_is); (case c => k_is); (case k => k_is))
#print axioms PySem.Challenge.cw_fittingpasts_k20_stays_asked_holds

