import PyProof.Rows.All
import Wide.All
import OpenK.AllK
import Wide.FinOn
import KE.KSuper
import KE.KExcSuper
import HandS.Base
import HandS.Call
import HandS.List
import HandS.Ends
import HandS.Exc
import HandS.ExcInit
import HandS.ExcSuper
import HandS.HeadWalk
import HandS.ExcIs
import HandS.ExcField
import KE.KExcIs
import HandS.Defaults
import HandS.HeadHook1
import HandS.HeadHook2
import KE.KStateDown
import Lean
import HandS.More
import HandS.Words
import HandS.WordsExc
import HandS.Head0
import HandS.Head1
import HandS.Head2
import HandS.HeadEnd
import HandS.HeadHook4
import HandS.HotCalls
import HandS.Dict
import HandS.Comp
import HandS.Iter
import PySem.Challenge.RW_roomends_k07_errors
set_option Elab.async false
set_option linter.all false
set_option maxRecDepth 100000
set_option maxHeartbeats 4000000
/-! k07, part A: an error of the program is made: its __init__ runs super().__init__(text), then stores its fields -/
namespace K7
open PySem PySem.W PySem.Calls PyProof.Rows PySem.HandSPX
abbrev Fp := Str × Pos × Pos × Pos × Pos
def fBody (fs : List Fp) : List Stmt := fs.map fun (f, q1, q2, q3, q4) => .Assign [.Attribute (.Name "self" q1) f q2] (.Name f q3) q4
def sStmt (p0 p1 p2 p3 p4 p5 : Pos) (k : Nat) (txt : Str) : Stmt := .Expr (.Call (.Attribute (.Call (.Name "super" p0) [] [] p1) "__init__" p2) [.Constant (.str txt) k p3] [] p4) p5
def mOf : List (Str × Value) → Str → Option Value
  | [] => fun _ => none
  | (f, v) :: r => fun y => if y = f then some v else mOf r y
abbrev xo (C t : Addr) (d : Option Addr) : Obj := { cls := .ref C, dict := d, data := .fields #[.ref t, .none, .none, .none, .bool false, .none] }
/-- of the heap h0 nothing but x has changed; at x stands an error of the class at C with these fields -/
structure At (h0 : Heap) (x C : Addr) (done : List (Str × Value)) (h : Heap) : Prop where
  keep : ∀ b o, b ≠ x → h0.get? b = some o → h.get? b = some o
  obj : ∃ t, (done = [] ∧ h.get? x = some (xo C t none)) ∨ ∃ dx, done ≠ [] ∧ h0.objs.size ≤ dx ∧ dx ≠ x ∧ h.get? x = some (xo C t (some dx)) ∧ h.Ns1 dx (mOf done)
  grow : h0.objs.size ≤ h.objs.size
theorem within_m : ∀ l : List (Str × Value), Within (mOf l) (l.map (·.1))
  | [] => fun y h => absurd rfl h
  | (f, v) :: r => fun y h => by
    have h : (if y = f then some v else mOf r y) ≠ none := h
    by_cases e : y = f
    · subst e; exact List.mem_cons_self
    · rw [if_neg e] at h; exact List.mem_cons_of_mem _ (within_m r y h)
structure XC (K : Frag) (C : Addr) : Prop where
  cls : ∃ nm q N bs bm sn sub ab col dd k0 k1 k2 k3 k5, K.lookup C = some (excClassObj nm q C N bs bm true sn sub ab col dd k0 k1 k2 k3 k5 "ValueError.__new__") ∧ refsVE bm = true
  sa : findIn K (.ref C) "__setattr__" = some (some (.builtin "object.__setattr__"))
section
variable {prog : Program} {w : World} {A : Around} {E : Value → Shared → Prop} {K : Frag} {C x : Addr} {env : Env} {h0 : Heap} {m : Str → Option Value} {g : Array GenState} {d : Drawn} {os : OsState}
theorem kin_at (X : K.In h0) (hnx : K.lookup x = none) {done : List (Str × Value)} {h : Heap} (a : At h0 x C done h) : K.In h := fun b o e =>
  a.keep b o (fun z => by rw [z, hnx] at e; cases e) (X b o e)
theorem step1 {Q : Unit → Shared → Prop} {f : Str} {v : Value} {done : List (Str × Value)} {h : Heap} {t : Nat} (T : XC K C) {L : Addr} (hn : h0.Ns L m) (X : K.In h0) (hnx : K.lookup x = none)
    (hno : findIn K (.ref C) f = some none) (hl : done.length ≤ 900) (a : At h0 x C done h)
    (q : ∀ h' t', At h0 x C ((f, v) :: done) h' → Q () ⟨h', g, d, t', os⟩) : wpAny (model prog w) A (setAttr (.ref x) f v) Q E ⟨h, g, d, t, os⟩ := by
  obtain ⟨nm, qn, N, bs, bm, sn, sub, ab, col, dd, k0, k1, k2, k3, k5, hC, hbm⟩ := T.cls
  have hcl : clsIn K C = some { name := nm, bases := bs, mro := .ref C :: bm, ns := N, qualname := qn, hasDict := true, slotNames := sn, subclasses := sub, abstract := ab, collection := col, hasDel := false } := by unfold clsIn; rw [hC] <;> rfl
  have Xh : K.In h := kin_at X hnx a
  obtain ⟨t1, ⟨hd, ho⟩ | ⟨dx, hdn, hge, hne, ho, hns⟩⟩ := a.obj
  · subst hd
    refine set_plain Xh (ox := xo C t1 none) (od := none) ⟨ho, rfl, rfl, trivial⟩ T.sa ?_
    refine exc_osa Xh ho hcl (show refsVE (.ref C :: bm) = true from hbm) rfl hno (fun h' tk' dx k dn dne hx hn1 => ?_)
    have hdx : dx < h'.objs.size := by
      obtain ⟨o, _, _, e, _⟩ := hn1
      exact Heap.lt_size e
    exact q h' tk' ⟨fun b o hb e => k b o hb (a.keep b o hb e), ⟨t1, .inr ⟨dx, List.cons_ne_nil _ _, Nat.le_trans a.grow dn, dne, hx, hn1⟩⟩, Nat.le_trans a.grow (Nat.le_trans dn (Nat.le_of_lt hdx))⟩
  · obtain ⟨oD, _, _, hoD, _, _⟩ := hns.count (within_m done)
    refine set_plain Xh (ox := xo C t1 (some dx)) (od := some oD) ⟨ho, rfl, rfl, hoD⟩ T.sa ?_
    refine PySem.OEX.osa_old Xh ho hns (within_m done) (by rw [List.length_map]; omega) hcl (show refsVE (.ref C :: bm) = true from hbm) rfl hno (fun h' tk' k hn' => ?_)
    have hdx : dx < h'.objs.size := by
      obtain ⟨o, _, _, e, _⟩ := hn'
      exact Heap.lt_size e
    refine q h' tk' ⟨fun b o hb e => k b o (fun z => ?_) (a.keep b o hb e), ⟨t1, .inr ⟨dx, List.cons_ne_nil _ _, hge, hne, k _ _ (Ne.symm hne) ho, hn'⟩⟩, Nat.le_trans hge (Nat.le_of_lt hdx)⟩
    have := Heap.lt_size e
    rw [z] at this
    exact absurd (Nat.lt_of_lt_of_le this hge) (Nat.lt_irrefl _)
theorem stepS {Q : Flow → Shared → Prop} {f : Str} {v : Value} {done : List (Str × Value)} {h : Heap} {t : Nat} {q1 q2 q3 q4 : Pos} {rest : List Stmt} (T : XC K C) (hk : env.scope.kind = .function) (hn : h0.Ns env.locals m) (hLx : env.locals ≠ x) (X : K.In h0) (hnx : K.lookup x = none) (hs : m "self" = some (.ref x)) (hks : env.kindOf "self" = some .local)
    (hv : m f = some v) (hkf : env.kindOf f = some .local) (hdb : (f == ("__debug__" : Str)) = false) (hno : findIn K (.ref C) f = some none) (hl : done.length ≤ 900) (a : At h0 x C done h)
    (q : ∀ h' t', At h0 x C ((f, v) :: done) h' → wpAny (model prog w) A (execs rest env) Q E ⟨h', g, d, t', os⟩) : wpAny (model prog w) A (execs (.Assign [.Attribute (.Name "self" q1) f q2] (.Name f q3) q4 :: rest) env) Q E ⟨h, g, d, t, os⟩ := by
  have hnh : h.Ns env.locals m := hn.at fun o e => a.keep _ _ hLx e
  refine wpAny_execs_cons (plainObj_wpAny_Assign_Attribute (hs := rfl) ?_)
  refine wpAny_Name (wpAny_loadName_local hk hkf hnh hv ?_) hdb
  refine wpAny_Name (wpAny_loadName_local hk hks hnh hs ?_) (by decide)
  exact step1 T hn X hnx hno hl a q
end
end K7
set_option Elab.async false
set_option linter.all false
set_option maxRecDepth 100000
set_option maxHeartbeats 4000000
/-! k07, part B: super().__init__(text) -/
namespace K7
open PySem PySem.W PySem.Calls PyProof.Rows PySem.HandSPX
section
variable {prog : Program} {w : World} {M : Model} {A : Around} {E : Value → Shared → Prop} {h : Heap} {g : Array GenState} {d : Drawn} {t : Nat} {os : OsState} {K : Frag} {C x : Addr}
/-- what super() gives, plainly over the heap -/
theorem super_obj {body : List Stmt} {q : Str} {scope : Scope} {p0 p1 : Pos} {attr : Str} {whole : Sem Value} {fd : FuncData} {ar : Arg} {vs : Array Value} {file : Str} {tf : Tok} {oc ccl cl : Value} {od cdd cld : Option Addr} {osl ccs csl : Array (Option Value)} {cdD : ClassData} {ox : Obj} {f cda cc L D : Addr} {m mg mb : Str → Option Value} {Q : Value → Shared → Prop}
    (X : K.In h) (hn : h.Ns L m) (G : h.Ns mainGlobals mg) (B : h.Ns builtinsNs mb) (hmg : mg "super" = none) (hmb : mb "super" = some (.type "super"))
    (hf : K.lookup f = some ⟨oc, od, .func fd, osl⟩) (hp : (fd.params.posonlyargs ++ fd.params.args).head? = some ar) (hv : m ar.arg = some (.ref x)) (hx : h.get? x = some ox) (hxc : ox.cls = .ref C) (hnc : ∀ c, ox.data ≠ .cls c)
    (hcode : K.lookup cda = some ⟨ccl, cdd, .fields vs, ccs⟩) (hvs : vs[2]? = some (.str file tf)) (hfile : ((prog.main.file : Str) == file) = true)
    (hcell : K.lookup cc = some ⟨cl, cld, .cell (some (.ref D)), csl⟩) (hD : clsIn K D = some cdD) (hsub : mroIn K C (.ref D) = some true)
    (hat : (attr == ("__class__" : Str)) = false) (hks : scope.names.lookup ("super" : Str) = some .globalImplicit) (hkc : scope.names.lookup ("__class__" : Str) = some .free) (hka : scope.names.lookup ar.arg = some .local) (hk : scope.kind = .function)
    (htop : (prog.main.scope.names.lookup ("super" : Str)).isSome = false)
    (hq : ∀ h', h'.get? h.objs.size = some (ks_superObj D x C) → (∀ b o, h.get? b = some o → h'.get? b = some o) → Q (.ref h.objs.size) ⟨h', g, d, t, os⟩) :
    PySem.wpAt (model prog w) A (.func body (ksEnv q scope L f (.ref cda) cc)) (attributeBase (.Call (.Name "super" p0) [] [] p1) attr (ksEnv q scope L f (.ref cda) cc) whole) Q E ⟨h, g, d, t, os⟩ := by
  obtain ⟨oD, hD1, hD2⟩ : ∃ oD, h.get? D = some oD ∧ oD.data = .cls cdD := by
    unfold clsIn at hD
    split at hD
    · rename_i c d cd' sl ho
      cases hD
      exact ⟨_, X _ _ ho, rfl⟩
    · cases hD
  refine ks_wpAt_super_base (env := ksEnv q scope L f (.ref cda) cc) hks hkc hat rfl (X _ _ hf) rfl hp rfl (X _ _ hcode) rfl hvs hfile htop ?_
  refine ks_loadName_global hk hks (loadGlobal_builtin (env := ksEnv q scope L f (.ref cda) cc) G hmg B hmb ⟨rfl, ?_⟩)
  refine wpAny_loadName_free hk hkc rfl ⟨_, X _ _ hcell, rfl⟩ ?_
  refine wpAny_loadName_local hk hka hn hv ?_
  refine ks_wpAny_isType_cls hD1 hD2 ⟨rfl, ?_⟩
  exact ks_wpAny_call_super hD1 hD2 hx hxc hnc (looks_mroIn X hsub) hq
/-- the method-wrapper called -/
theorem call_mw {nm qn : Str} {N : Addr} {bs bm : List Value} {hdct : Bool} {sn : List Str} {sub : List Value} {ab : Bool} {col : Option Bool} {dd : Option Addr} {k0 k1 k2 k3 k5 : Option Value} {u t0 : Addr} {rest : List Value} {Q : Value → Shared → Prop}
    (hC : h.get? C = some (excClassObj nm qn C N bs bm hdct sn sub ab col dd k0 k1 k2 k3 k5 "ValueError.__new__")) (he : h.get? x = some (xo C t0 none)) (hu : h.get? u = some (kxs_mw "ValueError.__init__" x)) (hrest : rest.length ≤ sizeLine)
    (hq : ∀ h' t1, (∀ b o, b ≠ x → h.get? b = some o → h'.get? b = some o) → h'.get? x = some (xo C t1 none) → h.objs.size ≤ h'.objs.size → Q .none ⟨h', g, d, t, os⟩) :
    wpAny (model prog w) A (call (.ref u) rest) Q E ⟨h, g, d, t, os⟩ := by
  have FB := F.excBase_ValueError
  refine wpAny_call (codeAny_of_tree ?_)
  show wpAny _ A.in1 (callAny (.ref u) ⟨rest, []⟩) _ _ _
  simp only [callAny]
  refine wpAny_bind (wpAny_load hu ?_)
  simp only [kxs_mw, show (Value.type "method-wrapper" == Value.type "method" || Value.type "method-wrapper" == Value.type "builtin_function_or_method" || Value.type "method-wrapper" == Value.type "method-wrapper") = true by decide, if_true]
  refine KFB.if_so (by decide) ?_
  refine wpAny_bind (check_bound_init FB.toExcCallFacts hC he rfl ?_)
  refine wpAny_bind (wpAny_pure (wpAny_pure ?_))
  refine ⟨plainId_quiet FB.init.plain _, codeAny_builtin FB.initEntry ?_⟩
  rw [Around.under_plainId FB.init.plain _]
  exact exc_init_tree (cls := .ref C) (t0 := t0) (dv := none) (c2 := .none) (c3 := .none) (b4 := .bool false) he hrest fun h' k e t' => hq h' h.objs.size k e (Nat.le_of_lt (Heap.lt_size t'))
theorem super_call {p0 p1 p2 p3 p4 : Pos} {k : Nat} {txt : Str} {env : Env} (hp : (p2.endLine == p4.line) = true) :
    eval (.Call (.Attribute (.Call (.Name "super" p0) [] [] p1) "__init__" p2) [.Constant (.str txt) k p3] [] p4) env = (do
      let ov ← attributeBase (.Call (.Name "super" p0) [] [] p1) "__init__" env (eval (.Call (.Name "super" p0) [] [] p1) env)
      standAt p2.atName
      let (f, first) ← holding [ov] (getMethod ov "__init__" (L2.plainOf (.Call (.Name "super" p0) [] [] p1) env))
      callWith p4 f first (backTo p4 (starEach [.Constant (.str txt) k p3] env)) []) := by
  have e1 : eval (.Call (.Attribute (.Call (.Name "super" p0) [] [] p1) "__init__" p2) [.Constant (.str txt) k p3] [] p4) env = (do
      let ov ← attributeBase (.Call (.Name "super" p0) [] [] p1) "__init__" env (eval (.Call (.Name "super" p0) [] [] p1) env)
      standAt p2.atName
      methodCall (.Call (.Name "super" p0) [] [] p1) "__init__" p2 p4 env ov 1 (backTo p4 (starEach [.Constant (.str txt) k p3] env)) []) := by rfl
  rw [e1]
  congr 1
  funext ov
  congr 1
  funext _
  exact L2.mcall_line rfl hp
/-- what the written part says of an error's class beside -/
structure XS (K : Frag) (C : Addr) : Prop extends XC K C where
  cd : ∃ cdD, clsIn K C = some cdD
  selfsub : mroIn K C (.ref C) = some true
  any : nsIn K cStatics "thirdparty.any" = some none
  sup : ks_superIn K C C "__init__" = some (some (.builtin "ValueError.__init__"))
  ve : subIn K (.ref C) (.type "ValueError") = some true
theorem sup_stmt {body : List Stmt} {q : Str} {scope : Scope} {p0 p1 p2 p3 p4 p5 : Pos} {kk : Nat} {txt : Str} {fd : FuncData} {ar : Arg} {vs : Array Value} {file : Str} {tf : Tok} {oc ccl cl : Value} {od cdd cld : Option Addr} {osl ccs csl : Array (Option Value)} {f cda cc L t0 : Addr} {m mg mb : Str → Option Value} {Q : Flow → Shared → Prop}
    (T : XS K C) (X : K.In h) (hn : h.Ns L m) (G : h.Ns mainGlobals mg) (B : h.Ns builtinsNs mb) (hmg : mg "super" = none) (hmb : mb "super" = some (.type "super"))
    (hf : K.lookup f = some ⟨oc, od, .func fd, osl⟩) (hp : (fd.params.posonlyargs ++ fd.params.args).head? = some ar) (hv : m ar.arg = some (.ref x)) (hx : h.get? x = some (xo C t0 none)) (hxK : K.lookup x = none)
    (hcode : K.lookup cda = some ⟨ccl, cdd, .fields vs, ccs⟩) (hvs : vs[2]? = some (.str file tf)) (hfile : ((prog.main.file : Str) == file) = true)
    (hcell : K.lookup cc = some ⟨cl, cld, .cell (some (.ref C)), csl⟩)
    (hks : scope.names.lookup ("super" : Str) = some .globalImplicit) (hkc : scope.names.lookup ("__class__" : Str) = some .free) (hka : scope.names.lookup ar.arg = some .local) (hk : scope.kind = .function)
    (htop : (prog.main.scope.names.lookup ("super" : Str)).isSome = false)
    (hpos : (p2.endLine == p4.line) = true) (hq : ∀ h' t', At h x C [] h' → Q .next ⟨h', g, d, t', os⟩) :
    PySem.wpAt (model prog w) A (.func body (ksEnv q scope L f (.ref cda) cc)) (exec (sStmt p0 p1 p2 p3 p4 p5 kk txt) (ksEnv q scope L f (.ref cda) cc)) Q E ⟨h, g, d, t, os⟩ := by
  obtain ⟨cdD, hD⟩ := T.cd
  obtain ⟨nm, qn, N, bs, bm, sn, sub, ab, col, dd, k0, k1, k2, k3, k5, hC, hbm⟩ := T.cls
  have hxC : x ≠ C := fun z => by
    rw [z, hC] at hxK
    cases hxK
  have hi : interactive (ksEnv q scope L f (.ref cda) cc) = false := by unfold interactive; simp [ksEnv, envX, hk]
  refine ks_wpAt_Expr_any (hi := hi) (ks_wpAt_MethodCall (he := super_call hpos) ?_)
  refine super_obj (C := C) (D := C) X hn G B hmg hmb hf hp hv hx rfl (fun c z => by cases z) hcode hvs hfile hcell hD T.selfsub rfl hks hkc hka hk htop (fun h1 hso k1 => ?_)
  have X1 : K.In h1 := X.keeps k1
  have hx1 := k1 _ _ hx
  have I1 : InstAt h1 x (xo C t0 none) C none := ⟨hx1, rfl, rfl, trivial⟩
  have hm := T.sup
  unfold ks_superIn at hm
  rw [hD] at hm
  refine kxs_getMethod kxs_ValueError hso (looks_opaque X1 T.any) (l₀ := cdD.mro) ?_ rfl X1 hm (I1.type.andThen (looks_subIn X1 T.ve)) hxC rfl ?_
  · exact fun A Q E s k q => wpAny_bind ((looks_clsIn X1 hD) A _ E s k (wpAny_pure q))
  have hz1 : h.objs.size ≤ h1.objs.size := Nat.le_of_lt (Heap.lt_size hso)
  have k2 : ∀ b o, h1.get? b = some o → (h1.push (kxs_mw "ValueError.__init__" x)).get? b = some o := fun b o e => Heap.get?_push_of_some _ e
  have hu : (h1.push (kxs_mw "ValueError.__init__" x)).get? h1.objs.size = some (kxs_mw "ValueError.__init__" x) := Heap.get?_push_at rfl rfl
  have hz2 : h.objs.size ≤ (h1.push (kxs_mw "ValueError.__init__" x)).objs.size := Nat.le_trans hz1 (Nat.le_of_lt (Heap.lt_size hu))
  show wpAny _ _ (callWith p4 (.ref h1.objs.size) [] (backTo p4 (starEach [.Constant (.str txt) kk p3] (ksEnv q scope L f (.ref cda) cc))) []) _ _ _
  refine kxs_callWith (i := "ValueError.__init__") (x := x) rfl (evalArgs_plain (spliced_cons (Constant_str (k := kk) (pos := p3) (spliced_nil ⟨hu, ?_⟩))))
  refine call_mw (k2 _ _ (X1 _ _ hC)) (k2 _ _ hx1) hu (by rw [sizeLine_eq]; exact (by decide : 1 ≤ 16777216)) fun h' t1 k3 hx3 hz3 => ?_
  exact hq h' _ ⟨fun b o hb e => k3 b o hb (k2 _ _ (k1 _ _ e)), ⟨t1, .inl ⟨rfl, hx3⟩⟩, Nat.le_trans hz2 hz3⟩
end
end K7
set_option Elab.async false
set_option linter.all false
set_option maxRecDepth 100000
set_option maxHeartbeats 4000000
/-! k07, part C: an error's __init__ as a whole -/
namespace K7
open PySem PySem.W PySem.Calls PyProof.Rows PySem.HandSPX
/-- what the written part says of the __init__ at fI of the class at C -/
structure XI (K : Frag) (P : Program) (C fI : Addr) (qual : Str) (params : Arguments) (body : List Stmt) (scope : Scope) : Prop where
  iC : findIn K (.ref C) "__init__" = some (some (.ref fI))
  tI : typeIn K (.ref fI) = some (.type "function")
  fn : ∃ (oc : Value) (od : Option Addr) (kV doc pm : Value) (an : Option Addr) (cda : Addr) (ct : Value) (osl : Array (Option Value)) (cc : Addr) (ccl : Value) (cdd : Option Addr) (vs : Array Value) (ccs : Array (Option Value)) (file : Str) (tf : Tok) (cl : Value) (cld : Option Addr) (csl : Array (Option Value)),
    K.lookup fI = some ⟨oc, od, .func (ksFn "__init__" qual params body scope .none kV doc pm an (.ref cda) ct cc), osl⟩ ∧ codeIn K (.ref cda) qual = true ∧ K.lookup cda = some ⟨ccl, cdd, .fields vs, ccs⟩ ∧ vs[2]? = some (.str file tf) ∧
    ((P.main.file : Str) == file) = true ∧ K.lookup cc = some ⟨cl, cld, .cell (some (.ref C)), csl⟩
/-- the module's names at a heap -/
structure Mods (K : Frag) (h : Heap) : Prop where
  kin : K.In h
  lim : h.NoLimit
  glob : ∃ mg, h.Ns mainGlobals mg ∧ mg "super" = none
  blt : ∃ mb, h.Ns builtinsNs mb ∧ mb "super" = some (.type "super")
theorem Mods.keeps {K : Frag} {h h' : Heap} (M : Mods K h) (k : ∀ b o, h.get? b = some o → h'.get? b = some o) : Mods K h' := by
  obtain ⟨mg, g1, g2⟩ := M.glob
  obtain ⟨mb, b1, b2⟩ := M.blt
  exact ⟨M.kin.keeps k, M.lim.keeps k, ⟨mg, g1.keeps k, g2⟩, ⟨mb, b1.keeps k, b2⟩⟩
section
variable {prog : Program} {w : World} {A : Around} {R : Result → Shared → Prop} {K : Frag} {C fI x : Addr} {s : Shared} {qual : Str} {params : Arguments} {scope : Scope} {p0 p1 p2 p3 p4 p5 : Pos} {kk : Nat} {txt : Str} {rest : List Stmt}
theorem init_gen {ar : Arg} {us : List Value} {binds fin : List (Str × Value)} {t0 : Addr} (T : XS K C) (I : XI K prog C fI qual params (sStmt p0 p1 p2 p3 p4 p5 kk txt :: rest) scope) (M : Mods K s.heap) (hx : s.heap.get? x = some (xo C t0 none)) (hxK : K.lookup x = none)
    (hroom : A.depth < recursionLimit) (hb : ∀ fd : FuncData, fd.params = params → fd.defaults = .none → BindsTo s fd ⟨.ref x :: us, []⟩ binds) (hself : binds.reverse.lookup ("self" : Str) = some (Value.ref x))
    (hp : params.posonlyargs ++ params.args = ar :: (params.posonlyargs ++ params.args).tail) (har : ar.arg = "self") (hpos : (p2.endLine == p4.line) = true)
    (hks : scope.names.lookup ("super" : Str) = some .globalImplicit) (hkc : scope.names.lookup ("__class__" : Str) = some .free) (hka : scope.names.lookup ("self" : Str) = some .local) (hk : scope.kind = .function)
    (hcell : ∀ x ∈ scope.names, x.2 ≠ .cell) (hloc : ∀ y ∈ binds, scope.names.lookup y.1 = some .local) (hco : scope.isCoroutine = false) (hgen : scope.isGenerator = false)
    (htop : (prog.main.scope.names.lookup ("super" : Str)).isSome = false)
    (hrest : ∀ (env : Env) (h1 h2 : Heap) (t : Nat) (A' : Around) (Q : Flow → Shared → Prop) (E : Value → Shared → Prop), env.scope = scope → h1.Ns env.locals (fun y => binds.reverse.lookup y) → env.locals ≠ x → K.In h1 → At h1 x C [] h2 →
      (∀ h' t', At h1 x C fin h' → Q .next ⟨h', s.gens, s.drawn, t', s.os⟩) → wpAny (model prog w) A' (execs rest env) Q E ⟨h2, s.gens, s.drawn, t, s.os⟩)
    (hq : ∀ h' t', At s.heap x C fin h' → R (.ok (.ret .none)) ⟨h', s.gens, s.drawn, t', s.os⟩) :
    codeAny (model prog w) A (.call (.ref fI) ⟨.ref x :: us, []⟩) R s := by
  obtain ⟨oc, od, kV, doc, pm, an, cda, ct, osl, cc, ccl, cdd, vs, ccs, file, tf, cl, cld, csl, hf, hcd, hcode, hvs, hfile, hcellK⟩ := I.fn
  have hLx : s.heap.objs.size ≠ x := Nat.ne_of_gt (Heap.lt_size hx)
  refine ks_codeAny_call_defAt (fd := ksFn "__init__" qual params (sStmt p0 p1 p2 p3 p4 p5 kk txt :: rest) scope .none kV doc pm an (.ref cda) ct cc) (body := sStmt p0 p1 p2 p3 p4 p5 kk txt :: rest) (binds := binds) hroom (M.kin _ _ hf) rfl M.lim (codeRec_of M.kin hcd) rfl (hb _ rfl rfl) hcell hloc (fun h₁ hns hk₁ => ?_) hco hgen hk
  have M1 := M.keeps hk₁
  obtain ⟨mg, g1, g2⟩ := M1.glob
  obtain ⟨mb, b1, b2⟩ := M1.blt
  have hhead : ((ksFn "__init__" qual params (sStmt p0 p1 p2 p3 p4 p5 kk txt :: rest) scope .none kV doc pm an (.ref cda) ct cc).params.posonlyargs ++ (ksFn "__init__" qual params (sStmt p0 p1 p2 p3 p4 p5 kk txt :: rest) scope .none kV doc pm an (.ref cda) ct cc).params.args).head? = some ar := by
    show (params.posonlyargs ++ params.args).head? = some ar
    rw [hp]; rfl
  refine ks_wpAt_execs_cons ?_
  refine sup_stmt (C := C) (x := x) (t0 := t0) (m := fun y => binds.reverse.lookup y) (q := qual) (scope := scope) (f := fI) (cda := cda) (cc := cc) T M1.kin hns g1 b1 g2 b2 hf hhead (by rw [har]; exact hself) (hk₁ _ _ hx) hxK hcode hvs hfile hcellK hks hkc (by rw [har]; exact hka) hk htop hpos fun h2 t2 a2 => ?_
  refine wpAt_of_wpAny (hrest _ h₁ h2 t2 _ _ _ rfl hns hLx M1.kin a2 fun h' t' a' => ?_)
  refine hq h' t' ⟨fun b o hb e => a'.keep b o hb (hk₁ b o e), ?_, ?_⟩
  · obtain ⟨t1, h⟩ := a'.obj
    refine ⟨t1, ?_⟩
    rcases h with h | ⟨dx, a0, a1, a2, a3, a4⟩
    · exact .inl h
    · refine .inr ⟨dx, a0, Nat.le_trans ?_ a1, a2, a3, a4⟩
      have := hns.lt
      exact Nat.le_of_lt this
  · exact Nat.le_trans (Nat.le_of_lt hns.lt) a'.grow
end
end K7
set_option Elab.async false
set_option linter.all false
set_option maxRecDepth 100000
set_option maxHeartbeats 4000000
/-! k07, part D: the three shapes of __init__; an error made -/
namespace K7
open PySem PySem.W PySem.Calls PyProof.Rows PySem.HandSPX
def pA (l : List (Str × Pos)) : Arguments := { posonlyargs := [], args := l.map fun p => { arg := p.1, annotation := none, pos := p.2 }, vararg := none, kwonlyargs := [], kw_defaults := [], kwarg := none, defaults := [] }
/-- the scope of such an __init__ -/
structure ScOk (fs : List Str) (scope : Scope) : Prop where
  sup : scope.names.lookup ("super" : Str) = some .globalImplicit
  cls : scope.names.lookup ("__class__" : Str) = some .free
  self : scope.names.lookup ("self" : Str) = some .local
  fs : ∀ f ∈ fs, scope.names.lookup f = some .local
  kind : scope.kind = .function
  cell : ∀ x ∈ scope.names, x.2 ≠ .cell
  co : scope.isCoroutine = false
  gen : scope.isGenerator = false
/-- the fields behind __init__ -/
def finA {α : Type} : List Str → List α → List (Str × α) → List (Str × α)
  | f :: fs, u :: us, acc => finA fs us ((f, u) :: acc)
  | _, _, acc => acc
def finOf {α : Type} (fs : List Str) (us : List α) : List (Str × α) := finA fs us []
def InitOk (prog : Program) (w : World) (K : Frag) (C fI : Addr) (fs : List Str) : Prop :=
  ∀ (A : Around) (s : Shared) (x t0 : Addr) (us : List Value) (R : Result → Shared → Prop), us.length = fs.length → Mods K s.heap → s.heap.get? x = some (xo C t0 none) → K.lookup x = none → A.depth < recursionLimit →
    (∀ h' t', At s.heap x C (finOf fs us) h' → R (.ok (.ret .none)) ⟨h', s.gens, s.drawn, t', s.os⟩) → codeAny (model prog w) A (.call (.ref fI) ⟨.ref x :: us, []⟩) R s
section
variable {prog : Program} {w : World} {K : Frag} {C fI : Addr} {qual : Str} {p0 p1 p2 p3 p4 p5 a0 a1 a2 : Pos} {kk : Nat} {txt f f1 f2 : Str} {q1 q2 q3 q4 r1 r2 r3 r4 : Pos}
variable {scope : Scope}
theorem init0 (T : XS K C) (I : XI K prog C fI qual (pA [("self", a0)]) (sStmt p0 p1 p2 p3 p4 p5 kk txt :: []) scope) (S : ScOk [] scope) (hpos : (p2.endLine == p4.line) = true) (htop : (prog.main.scope.names.lookup ("super" : Str)).isSome = false) : InitOk prog w K C fI [] := by
  intro A s x t0 us R hu M hx hxK hr hq
  obtain rfl : us = [] := List.eq_nil_of_length_eq_zero hu
  refine init_gen (ar := { arg := "self", annotation := none, pos := a0 }) (binds := [("self", .ref x)]) (fin := []) T I M hx hxK hr (fun fd h1 h2 => BindsTo.of_eq (by unfold bindArgs; rw [h1, h2]; rfl)) rfl rfl rfl hpos S.sup S.cls S.self S.kind S.cell (fun y hy => by
    rcases List.mem_cons.mp hy with rfl | hy
    · exact S.self
    · cases hy) S.co S.gen htop (fun env h1 h2 t A' Q E _ _ _ _ a q => wpAny_execs_nil (q h2 t a)) hq
theorem kind_of {env : Env} {x : Str} (e : env.scope = scope) (h : scope.names.lookup x = some .local) : env.kindOf x = some .local := by
  unfold Env.kindOf
  rw [e]; exact h
theorem init1 (T : XS K C) (I : XI K prog C fI qual (pA [("self", a0), (f, a1)]) (sStmt p0 p1 p2 p3 p4 p5 kk txt :: .Assign [.Attribute (.Name "self" q1) f q2] (.Name f q3) q4 :: []) scope) (S : ScOk [f] scope) (hpos : (p2.endLine == p4.line) = true) (htop : (prog.main.scope.names.lookup ("super" : Str)).isSome = false)
    (hno : findIn K (.ref C) f = some none) (hfs : (("self" : Str) == f) = false) (hb : ∀ (fd : FuncData) (x u : Value), fd.params = pA [("self", a0), (f, a1)] → fd.defaults = .none → bindArgs fd ⟨[x, u], []⟩ = pure [(("self" : Str), x), (f, u)]) (hdb : (f == ("__debug__" : Str)) = false) : InitOk prog w K C fI [f] := by
  intro A s x t0 us R hu M hx hxK hr hq
  obtain ⟨u, rfl⟩ : ∃ u, us = [u] := by
    cases us with
    | nil => cases hu
    | cons u r => cases r with
      | nil => exact ⟨u, rfl⟩
      | cons _ _ => simp at hu
  have l1 : [(f, u), (("self" : Str), Value.ref x)].lookup ("self" : Str) = some (Value.ref x) := by simp [List.lookup, hfs]
  have l2 : [(f, u), (("self" : Str), Value.ref x)].lookup f = some u := by simp [List.lookup]
  refine init_gen (ar := { arg := "self", annotation := none, pos := a0 }) (binds := [("self", .ref x), (f, u)]) (fin := [(f, u)]) T I M hx hxK hr (fun fd h1 h2 => BindsTo.of_eq (hb fd _ _ h1 h2)) l1 rfl rfl hpos S.sup S.cls S.self S.kind S.cell (fun y hy => by
    rcases List.mem_cons.mp hy with rfl | hy
    · exact S.self
    · rcases List.mem_cons.mp hy with rfl | hy
      · exact S.fs _ List.mem_cons_self
      · cases hy) S.co S.gen htop (fun env h1 h2 t A' Q E es hn hL hX a q => ?_) hq
  exact stepS T.toXC (by rw [es]; exact S.kind) hn hL hX hxK l1 (kind_of es S.self) l2 (kind_of es (S.fs _ List.mem_cons_self)) hdb hno (Nat.zero_le _) a fun h' t' a' => wpAny_execs_nil (q h' t' a')
theorem init2 (T : XS K C) (I : XI K prog C fI qual (pA [("self", a0), (f1, a1), (f2, a2)]) (sStmt p0 p1 p2 p3 p4 p5 kk txt :: .Assign [.Attribute (.Name "self" q1) f1 q2] (.Name f1 q3) q4 :: .Assign [.Attribute (.Name "self" r1) f2 r2] (.Name f2 r3) r4 :: []) scope)
    (S : ScOk [f1, f2] scope) (hpos : (p2.endLine == p4.line) = true) (htop : (prog.main.scope.names.lookup ("super" : Str)).isSome = false)
    (hno1 : findIn K (.ref C) f1 = some none) (hno2 : findIn K (.ref C) f2 = some none) (hfs1 : (("self" : Str) == f1) = false) (hfs2 : (("self" : Str) == f2) = false) (h12 : (f1 == f2) = false) (hb : ∀ (fd : FuncData) (x u v : Value), fd.params = pA [("self", a0), (f1, a1), (f2, a2)] → fd.defaults = .none → bindArgs fd ⟨[x, u, v], []⟩ = pure [(("self" : Str), x), (f1, u), (f2, v)]) (hdb1 : (f1 == ("__debug__" : Str)) = false) (hdb2 : (f2 == ("__debug__" : Str)) = false) : InitOk prog w K C fI [f1, f2] := by
  intro A s x t0 us R hu M hx hxK hr hq
  obtain ⟨u, v, rfl⟩ : ∃ u v, us = [u, v] := by
    cases us with
    | nil => cases hu
    | cons u r => cases r with
      | nil => simp at hu
      | cons v r => cases r with
        | nil => exact ⟨u, v, rfl⟩
        | cons _ _ => simp at hu
  have l0 : [(f2, v), (f1, u), (("self" : Str), Value.ref x)].lookup ("self" : Str) = some (Value.ref x) := by simp [List.lookup, hfs1, hfs2]
  have l1 : [(f2, v), (f1, u), (("self" : Str), Value.ref x)].lookup f1 = some u := by simp [List.lookup, h12]
  have l2 : [(f2, v), (f1, u), (("self" : Str), Value.ref x)].lookup f2 = some v := by simp [List.lookup]
  refine init_gen (ar := { arg := "self", annotation := none, pos := a0 }) (binds := [("self", .ref x), (f1, u), (f2, v)]) (fin := [(f2, v), (f1, u)]) T I M hx hxK hr (fun fd h1 h2 => BindsTo.of_eq (hb fd _ _ _ h1 h2)) l0 rfl rfl hpos S.sup S.cls S.self S.kind S.cell (fun y hy => by
    rcases List.mem_cons.mp hy with rfl | hy
    · exact S.self
    · exact S.fs _ (by
        rcases List.mem_cons.mp hy with rfl | hy
        · exact List.mem_cons_self
        · rcases List.mem_cons.mp hy with rfl | hy
          · exact List.mem_cons_of_mem _ List.mem_cons_self
          · cases hy)) S.co S.gen htop (fun env h1 h2 t A' Q E es hn hL hX a q => ?_) hq
  refine stepS T.toXC (by rw [es]; exact S.kind) hn hL hX hxK l0 (kind_of es S.self) l1 (kind_of es (S.fs _ List.mem_cons_self)) hdb1 hno1 (Nat.zero_le _) a fun h' t' a' => ?_
  exact stepS T.toXC (by rw [es]; exact S.kind) hn hL hX hxK l0 (kind_of es S.self) l2 (kind_of es (S.fs _ (List.mem_cons_of_mem _ List.mem_cons_self))) hdb2 hno2 (by show 1 ≤ 900; omega) a' fun h' t' a' => wpAny_execs_nil (q h' t' a')
end
end K7
set_option Elab.async false
set_option linter.all false
set_option maxRecDepth 100000
set_option maxHeartbeats 4000000
/-! k07, part E: an error made and raised -/
namespace K7
open PySem PySem.W PySem.Calls PyProof.Rows PySem.HandSPX
section
variable {prog : Program} {w : World} {A : Around} {R : Result → Shared → Prop} {K : Frag} {C fI : Addr} {s : Shared} {fs : List Str} {us : List Value}
/-- a made error -/
structure Made (h h' : Heap) (e C : Addr) (fin : List (Str × Value)) : Prop where
  keep : ∀ b o, h.get? b = some o → h'.get? b = some o
  new : h.objs.size ≤ e
  obj : ∃ t, (fin = [] ∧ h'.get? e = some (xo C t none)) ∨ ∃ dx, fin ≠ [] ∧ h.objs.size ≤ dx ∧ dx ≠ e ∧ h'.get? e = some (xo C t (some dx)) ∧ h'.Ns1 dx (mOf fin)
theorem made (T : XC K C) (iC : findIn K (.ref C) "__init__" = some (some (.ref fI))) (tI : typeIn K (.ref fI) = some (.type "function")) (IO : InitOk prog w K C fI fs) (M : Mods K s.heap) (hroom : A.depth + 1 < recursionLimit) (hu : us.length = fs.length) (hz : us.length ≤ sizeLine)
    (hq : ∀ h' t' e, Made s.heap h' e C (finOf fs us) → R (.ok (.ret (.ref e))) ⟨h', s.gens, s.drawn, t', s.os⟩) : codeAny (model prog w) A (.call (.ref C) ⟨us, []⟩) R s := by
  obtain ⟨nm, q, N, bs, bm, sn, sub, ab, col, dd, k0, k1, k2, k3, k5, hC, hbm⟩ := T.cls
  obtain ⟨hp, g, dr, tk, os⟩ := s
  have k : ∀ b o, hp.get? b = some o → ((hp.push (kdv_tup us)).push (excO C hp.objs.size)).get? b = some o := fun b o e => Heap.get?_push_of_some _ (Heap.get?_push_of_some _ e)
  have hget : ((hp.push (kdv_tup us)).push (excO C hp.objs.size)).get? (hp.objs.size + 1) = some (excO C hp.objs.size) := by heap_get
  have hnx : K.lookup (hp.objs.size + 1) = none := by
    cases e : K.lookup (hp.objs.size + 1) with
    | none => rfl
    | some o =>
      have z : hp.get? (hp.objs.size + 1) = some o := M.kin _ _ e
      exact absurd (Nat.lt_of_succ_lt (Heap.lt_size z)) (Nat.lt_irrefl _)
  refine call_own F.excBase_ValueError (fun X => refsVE_contains X bm hbm) (M.kin _ _ hC) (looks_findIn M.kin iC) (fun self => bind_fn M.kin self tI) hz ?_
  refine IO _ ⟨(hp.push (kdv_tup us)).push (excO C hp.objs.size), g, dr, tk, os⟩ (hp.objs.size + 1) hp.objs.size us _ hu (M.keeps k) hget hnx hroom fun h' t' a => ?_
  have gr : hp.objs.size ≤ ((hp.push (kdv_tup us)).push (excO C hp.objs.size)).objs.size := Nat.le_of_lt (Nat.lt_of_succ_lt (Heap.lt_size hget))
  refine ⟨rfl, hq h' t' (hp.objs.size + 1) ⟨fun b o e => a.keep b o (Nat.ne_of_lt (Nat.lt_succ_of_lt (Heap.lt_size e))) (k b o e), Nat.le_succ _, ?_⟩⟩
  obtain ⟨t1, z | ⟨dx, a0, a1, a2, a3, a4⟩⟩ := a.obj
  · exact ⟨t1, .inl z⟩
  · exact ⟨t1, .inr ⟨dx, a0, Nat.le_trans gr a1, a2, a3, a4⟩⟩
end
end K7
namespace L2
open PySem PySem.Spec PyProof.Rows
theorem relO_fin : ∀ {fs : List Str} {vs : List V} {us : List Value} {l : List (Str × V)} {m : List (Str × Value)}, Vals vs us → (∀ f, RelO (l.lookup f) (K7.mOf m f)) → ∀ f, RelO ((K7.finA fs vs l).lookup f) (K7.mOf (K7.finA fs us m) f)
  | [], _, _, _, _, _, h, f => by
    unfold K7.finA
    exact h f
  | g :: fs, _, _, l, m, r, h, f => by
    cases r with
    | nil => exact h f
    | cons r1 r2 => exact relO_fin r2 (relO_put r1 h) f
theorem fin_len : ∀ {fs : List Str} {vs : List V} {us : List Value} {l : List (Str × V)} {m : List (Str × Value)}, Vals vs us → m.length = l.length → (K7.finA fs us m).length = (K7.finA fs vs l).length
  | [], _, _, _, _, _, h => by
    unfold K7.finA
    exact h
  | g :: fs, _, _, l, m, r, h => by
    cases r with
    | nil => exact h
    | cons r1 r2 => exact fin_len (fs := fs) (l := (g, _) :: l) (m := (g, _) :: m) r2 (by rw [List.length_cons, List.length_cons, h])
/-- the module's names at hand -/
theorem Inv.mods7 {X : Cx} {pins : List (Addr × Obj)} {σ : St} {H : Hp} {s : Shared} (I : Inv X pins σ H s) (hm : X.mg "super" = none) : K7.Mods X.K s.heap := by
  obtain ⟨mb, h1, h2⟩ := I.mod.blt
  exact ⟨I.kIn, I.nolimit, ⟨X.mg, I.mod.glob.keeps I.bk, hm⟩, ⟨mb, h1.keeps I.bk, (h2 "super" (by decide)).trans (by kernel_rfl)⟩⟩
/-- C(e, ..) of an error's class with the fields fs -/
def tMkX (C : Addr) (fs : List Str) (ta : TA) : St → Hp → XK → Prop := fun σ H Q => ta σ H fun vs H1 => vs.length = fs.length ∧
  (K7.finOf fs vs = [] → Q (.ref C) none H1) ∧ ∀ d, K7.finOf fs vs ≠ [] → H1 d = none → Q (.ref C) (some d) (upd H1 d (.xd (K7.finOf fs vs)))
/-- what the written part says of an error's class, to make and raise it -/
structure MkX (X : Cx) (C fI : Addr) (fs : List Str) : Prop where
  txt : K7.XC X.K C
  iC : PySem.W.findIn X.K (.ref C) "__init__" = some (some (.ref fI))
  tI : PySem.W.typeIn X.K (.ref fI) = some (.type "function")
  kC : PySem.W.keepIn X.K (.ref C) = true
  exC : PySem.W.subIn X.K (.ref C) (.type "BaseException") = some true
  tyC : PySem.W.typeIn X.K (.ref C) = some (.type "type")
  ini : K7.InitOk X.prog X.w X.K C fI fs
  sm : fs.length ≤ 100
section
variable {X : Cx} {C fI : Addr} {fs : List Str} {x : Str} {e : Expr} {es : List Expr} {ta : TA} {p pos : Pos}
theorem mk_x {pins : List (Addr × Obj)} {σ : St} {H1 : Hp} {Q : XK} {vs : List V} {us : List Value} {s1 : Shared} (T : MkX X C fI fs) (hr : X.A.depth + 1 < recursionLimit) (hsup : X.mg "super" = none) (I1 : Inv X pins σ H1 s1) (r1 : Vals vs us) (hl : vs.length = fs.length)
    (q0 : K7.finOf fs vs = [] → Q (.ref C) none H1) (q1 : ∀ d, K7.finOf fs vs ≠ [] → H1 d = none → Q (.ref C) (some d) (upd H1 d (.xd (K7.finOf fs vs)))) : wpAny (model X.prog X.w) X.A (call (.ref C) us) (MkP X pins σ Q) X.xe s1 := by
  have hu : us.length = fs.length := by rw [← hl]; exact (Paired.length r1).symm
  have hz : us.length ≤ sizeLine := by
    rw [hu, sizeLine_eq]
    have := T.sm
    omega
  refine wpAny_call (K7.made T.txt T.iC T.tI T.ini (I1.mods7 hsup) hr hu hz fun h' t' e M => ?_)
  obtain ⟨hp, g, dr, tk, os⟩ := s1
  show MkP X pins σ Q (.ref e) ⟨h', g, dr, t', os⟩
  have hne : hp.get? e = none := by
    cases z : hp.get? e with
    | none => rfl
    | some o => exact absurd (Nat.lt_of_lt_of_le (Heap.lt_size z) M.new) (Nat.lt_irrefl _)
  have na : H1 e = none := I1.hok.fresh M.new
  obtain ⟨t1, ⟨ef, ho⟩ | ⟨d, hfn, hd, hne2, ho, hns⟩⟩ := M.obj
  · have ev : K7.finOf fs vs = [] := by
      have : (K7.finOf fs us).length = (K7.finOf fs vs).length := fin_len r1 rfl
      rw [ef] at this
      exact List.eq_nil_of_length_eq_zero this.symm
    exact ⟨e, _, _, ⟨hp, g, dr, tk, os⟩, H1, .ref C, none, rfl, I1, M.keep, hne, ho, ⟨rfl, rfl⟩, rfl, rfl, na, rfl, I1.bare, raises_own T.exC T.tyC, q0 ev⟩
  · have hfv : K7.finOf fs vs ≠ [] := fun z => by
      have : (K7.finOf fs us).length = (K7.finOf fs vs).length := fin_len r1 rfl
      rw [z] at this
      exact hfn (List.eq_nil_of_length_eq_zero this)
    obtain ⟨G', g1, g2⟩ := restrict h' fun b => decide (b ≠ e)
    have gk : ∀ b, b ≠ e → G'.get? b = h'.get? b := fun b hb => g1 b (decide_eq_true hb)
    have ge : G'.get? e = none := g2 e (by simp)
    have old : ∀ b o, hp.get? b = some o → G'.get? b = some o := fun b o q => (gk b (Nat.ne_of_lt (Nat.lt_of_lt_of_le (Heap.lt_size q) M.new))).trans (M.keep b o q)
    have ob : ObjOk X.prog X.w (upd H1 d (.xd (K7.finOf fs vs))) G' d (.xd (K7.finOf fs vs)) := ⟨_, hns.at (fun o q => (gk d hne2).trans q), relO_fin r1 fun f => True.intro⟩
    have J : Inv X pins σ (upd H1 d (.xd (K7.finOf fs vs))) ⟨G', g, dr, t', os⟩ := I1.laid (t' := t') old hd ob
    refine ⟨e, _, _, ⟨G', g, dr, t', os⟩, _, .ref C, some d, rfl, J, fun b o q => ?_, ge, ho, ⟨rfl, rfl⟩, rfl, rfl, ?_, rfl, I1.bare, raises_own T.exC T.tyC, q1 d hfv (I1.hok.fresh hd)⟩
    · by_cases hb : b = e
      · have q' : G'.get? b = some o := q
        rw [hb, ge] at q'; cases q'
      · exact (gk b hb).symm.trans q
    · rw [upd_ne (Ne.symm hne2)]
      exact na
theorem pmk_x (T : MkX X C fI fs) {k : Nat} (hr : Room k X.A) (hsup : X.mg "super" = none) (hg : Gl X x) (hm : X.mg x = some (.ref C)) (ha : PA X (e :: es) ta)
    (hdb : (x == ("__debug__" : Str)) = false := by decide) (he : starEach (e :: es) X.env = (false, eval e X.env) :: starEach es X.env := by rfl) (hpl : (backTo pos (starEach es X.env)).any (·.1) = false := by rfl) :
    PMk X (.Call (.Name x p) (e :: es) [] pos) (tMkX C fs ta) := by
  intro pins s σ H Q I h
  refine wpAny_Call_Name_kw (ld_glob I hg hm ?_ hdb)
  refine PySem.W.callWith_K (h₀ := X.base) I.ok.mod.kin T.kC (thn (ha.run pos pins s σ H _ I h) fun us s1 ⟨vs, H1, I1, r1, hl, q0, q1⟩ => ⟨I1.kIn, ?_⟩) he hpl
  exact mk_x T (by have := hr.dp; omega) hsup I1 r1 hl q0 q1
theorem pmk_x0 (T : MkX X C fI []) {k : Nat} (hr : Room k X.A) (hsup : X.mg "super" = none) (hg : Gl X x) (hm : X.mg x = some (.ref C)) (hdb : (x == ("__debug__" : Str)) = false := by decide) :
    PMk X (.Call (.Name x p) [] [] pos) (fun _ H Q => Q (.ref C) none H) := by
  intro pins s σ H Q I h
  refine wpAny_Call_Name_kw (ld_glob I hg hm ?_ hdb)
  refine PySem.W.callWith_K0 I.kIn T.kC ?_
  exact mk_x T (by have := hr.dp; omega) hsup I (vs := []) .nil rfl (fun _ => h) (fun d z _ => absurd rfl z)
end
end L2
set_option Elab.async false
set_option linter.all false
set_option maxRecDepth 100000
set_option maxHeartbeats 4000000
/-! k07, part F: a caught error handed to a def -/
namespace L2
open PySem PySem.Spec PyProof.Rows
/-- at a stands just oe -/
def exn (a : Addr) (oe : Obj) : HO := .ext fun h => h.get? a = some oe
theorem exn_ne_own {a x : Addr} {oe : Obj} : exn a oe ≠ .own x := fun z => by
  have z' : HO.ext _ = HO.own x := z
  cases z'
theorem exn_ne_tup {a : Addr} {oe : Obj} {xs : List V} : exn a oe ≠ .tup xs := fun z => by
  have z' : HO.ext _ = HO.tup xs := z
  cases z'
theorem exn_ne_frz {a : Addr} {oe o : Obj} {u : HO} : exn a oe ≠ .frz o u := fun z => by
  have z' : HO.ext _ = HO.frz o u := z
  cases z'
theorem exn_ne_tbl {a : Addr} {oe : Obj} {ps : Array Value} : exn a oe ≠ .tbl ps := fun z => by
  have z' : HO.ext _ = HO.tbl ps := z
  cases z'
theorem exn_ok {P : Program} {w : World} {H : Hp} {h : Heap} {a : Addr} {oe : Obj} (e : h.get? a = some oe) : ObjOk P w H h a (exn a oe) := ⟨e, ⟨_, e⟩, fun _ _ z k => k _ z⟩
theorem exn_at {P : Program} {w : World} {H : Hp} {h : Heap} {a : Addr} {oe : Obj} (hok : HOk P w H h) (e : H a = some (exn a oe)) : h.get? a = some oe := by
  have x : ObjOk P w H h a (.ext fun h => h.get? a = some oe) := hok a _ e
  exact x.1
/-- the heap with one object told more -/
theorem hok_put {P : Program} {w : World} {H : Hp} {h : Heap} {a : Addr} {oe : Obj} (hok : HOk P w H h) (na : H a = none) (e : h.get? a = some oe) : HOk P w (upd H a (exn a oe)) h := fun b o q => by
  by_cases hb : b = a
  · subst hb
    rw [upd_same] at q
    cases q
    exact exn_ok e
  · rw [upd_ne hb] at q
    exact (hok b o q).stay (fun _ _ _ z => z) (fun c hc => by rw [upd_ne (ne_of_none hc na)]; exact hc) (fun c xs hc => by rw [upd_ne (ne_of_none hc na)]; exact hc)
theorem hok_del {P : Program} {w : World} {H : Hp} {h : Heap} {a : Addr} {oe : Obj} (hok : HOk P w H h) (e : H a = some (exn a oe)) : HOk P w (del H a) h := fun b o q => by
  have hb : b ≠ a := fun z => by
    rw [z, del_same] at q
    cases q
  rw [del_ne hb] at q
  exact (hok b o q).stay (fun _ _ _ z => z) (fun c hc => by rw [del_ne (at_ne e hc exn_ne_own)]; exact hc) (fun c xs hc => by rw [del_ne (at_ne e hc exn_ne_tup)]; exact hc)
section
variable {X : Cx} {CX : CXT} {k : Nat} {f a : Addr} {oe : Obj} {fd : FuncData} {ps : List Str} {sp : Sp} {x : Str} {p pos : Pos} {e : Expr} {es : List Expr} {t : TA} {pn : List (Addr × Obj)}
/-- f(.., err, ..) within the suite that holds err -/
def tCallX (base : Heap) (a : Addr) (oe : Obj) (sp : Sp) (t : TA) : TE := fun σ H Q => t σ H fun vs H1 => (base.get? a = none → H1 a = none → sp vs (upd H1 a (exn a oe)) (fun v H2 => H2 a = some (exn a oe) ∧ Q v (del H2 a)) (fun _ _ _ => False)) ∧
  (base.get? a = some oe → sp vs H1 Q (fun _ _ _ => False))
theorem run_callX {pins : List (Addr × Obj)} {σ : St} {H : Hp} {s : Shared} {Q : VK} {us : List Value} {vs : List V} (hpn : (a, oe) ∈ X.pn) (hba : X.base.get? a = none) (F : FnOk X.prog X.w X.K X.mg X.base (fun _ _ _ _ _ _ => False) k f fd ps sp) (hr : Room k X.A) (hb : Binds X.K fd ps [])
    (I : Inv X pins σ H s) (r : Vals vs us) (h : sp vs (upd H a (exn a oe)) (fun v H2 => H2 a = some (exn a oe) ∧ Q v (del H2 a)) (fun _ _ _ => False)) : wpAny (model X.prog X.w) X.A (call (.ref f) us) (EP X pins σ Q) X.xe s := by
  obtain ⟨ha, na, nL, nF, _⟩ := I.pin (a, oe) (List.mem_append_left _ hpn)
  have hl : us.length = ps.length := by rw [← r.length]; exact F.len _ _ _ _ h
  have b := hb s us I.kIn (by rw [List.append_nil]; exact hl)
  rw [List.append_nil] at b
  have E0 := I.env0
  have up : ∀ {b : Addr}, b ≠ a → H b = none → upd H a (exn a oe) b = none := fun {b} hb n => by rw [upd_ne hb]; exact n
  have nfr : a ∉ frs X.stack := fun hm => by
    rcases List.mem_cons.mp (I.stkSub a hm) with z | z
    · exact nL z
    · exact nF z
  have E1 : Env0 X.prog X.w X.K X.mg X.base X.A X.stack s (upd H a (exn a oe)) := ⟨E0.frames, E0.mod, fun b o q => ⟨(E0.bs b o q).1, up (fun z => by rw [z, hba] at q; cases q) (E0.bs b o q).2⟩, E0.bsz, E0.funs,
    fun b hb => up (fun z => nfr (z ▸ hb)) (E0.frf b hb), hok_put I.hok na ha, E0.bare⟩
  refine wpAny_call (codeAny_mono (F.run X.A X.stack s _ ⟨us, []⟩ us vs _ _ hr E1 b r h) fun r s' hq => ?_)
  cases r with
  | error e => exact False.elim hq
  | ok fl =>
    cases fl with
    | next => exact False.elim hq
    | brk => exact False.elim hq
    | cont => exact False.elim hq
    | ret u =>
      obtain ⟨v, H2, os, bare, un, hok, rv, ea, q⟩ := hq
      have a2 := exn_at hok ea
      have U : Un (frs X.stack) [] H (del H2 a) s.heap s'.heap := {
        keep := fun b o z n hf hx => by
          by_cases hb : b = a
          · rw [hb] at z ⊢
            rw [a2, ← z, ha]
          · exact un.keep b o z (up hb n) hf hx
        slot := fun b o z n hf hx => un.slot b o z (up (fun w => nfr (w ▸ hf)) n) hf hx
        free := fun b o z n hx => by
          by_cases hb : b = a
          · rw [hb, del_same]
          · rw [del_ne hb]
            exact un.free b o z (up hb n) hx
        there := un.there
        tups := fun b xs z => by
          rw [del_ne (ne_of_none z na)]
          exact un.tups b xs (by rw [upd_ne (ne_of_none z na)]; exact z)
        frzs := fun b o v z => by
          rw [del_ne (ne_of_none z na)]
          exact un.frzs b o v (by rw [upd_ne (ne_of_none z na)]; exact z)
        tbls := fun b ps z => by
          rw [del_ne (ne_of_none z na)]
          exact un.tbls b ps (by rw [upd_ne (ne_of_none z na)]; exact z) }
      exact I.after ⟨v, del H2 a, os, bare, U, hok_del hok ea, rv, q⟩
theorem run_callB {pins : List (Addr × Obj)} {σ : St} {H : Hp} {s : Shared} {Q : VK} {us : List Value} {vs : List V} (F : FnOk X.prog X.w X.K X.mg X.base (fun _ _ _ _ _ _ => False) k f fd ps sp) (hr : Room k X.A) (hb : Binds X.K fd ps [])
    (I : Inv X pins σ H s) (r : Vals vs us) (h : sp vs H Q (fun _ _ _ => False)) : wpAny (model X.prog X.w) X.A (call (.ref f) us) (EP X pins σ Q) X.xe s := by
  have hl : us.length = ps.length := by rw [← r.length]; exact F.len _ _ _ _ h
  have b := hb s us I.kIn (by rw [List.append_nil]; exact hl)
  rw [List.append_nil] at b
  refine wpAny_call (codeAny_mono (F.run X.A X.stack s _ ⟨us, []⟩ us vs _ _ hr I.env0 b r h) fun r s' hq => ?_)
  cases r with
  | error e => exact False.elim hq
  | ok fl =>
    cases fl with
    | next => exact False.elim hq
    | brk => exact False.elim hq
    | cont => exact False.elim hq
    | ret u => exact I.after hq
theorem pe_callX (hpn : (a, oe) ∈ X.pn) (F : FnOk X.prog X.w X.K X.mg X.base (fun _ _ _ _ _ _ => False) k f fd ps sp) (hr : Room k X.A) (hg : Gl X x) (hm : X.mg x = some (.ref f)) (hk : PySem.W.keepIn X.K (.ref f) = true) (hb : Binds X.K fd ps [])
    (ht : PA X (e :: es) t) (hdb : (x == ("__debug__" : Str)) = false := by decide) (he : starEach (e :: es) X.env = (false, eval e X.env) :: starEach es X.env := by rfl) (hpl : (backTo pos (starEach es X.env)).any (·.1) = false := by rfl) :
    PE X (.Call (.Name x p) (e :: es) [] pos) (tCallX X.base a oe sp t) := by
  refine ⟨fun pins s σ H Q I h => ?_⟩
  refine wpAny_Call_Name_kw (ld_glob I hg hm ?_ hdb)
  refine PySem.W.callWith_K (h₀ := X.base) I.ok.mod.kin hk (thn (ht.run pos pins s σ H _ I h) fun us s1 ⟨vs, H1, I1, r, q, q'⟩ => ⟨I1.kIn, ?_⟩) he hpl
  cases z : X.base.get? a with
  | none =>
    obtain ⟨_, na, _⟩ := I1.pin (a, oe) (List.mem_append_left _ hpn)
    exact run_callX hpn z F hr hb I1 r (q z na)
  | some o =>
    obtain ⟨ha, _⟩ := I1.pin (a, oe) (List.mem_append_left _ hpn)
    have e1 := I1.bk a o z
    have e2 : o = oe := Option.some.inj (e1.symm.trans ha)
    exact run_callB F hr hb I1 r (q' (by rw [z, e2]))
end
end L2
set_option Elab.async false
set_option linter.all false
set_option maxRecDepth 100000
set_option maxHeartbeats 4000000
/-! k07, part G: isinstance and fields of an error that a def was given -/
namespace L2
open PySem PySem.Spec PyProof.Rows
/-- an error of the class at C stands at a, its dict d -/
structure ErrAt (base : Heap) (K : PySem.W.Frag) (H : Hp) (a C : Addr) (d : Option Addr) (oe : Obj) : Prop where
  at_ : H a = some (exn a oe) ∨ base.get? a = some oe
  z : Zc (.ref C) d oe
  fld : ∃ vs, oe.data = .fields vs
  dct : ∀ dx, d = some dx → ∃ fs, H dx = some (.xd fs)
section
variable {X : Cx} {a C : Addr} {d : Option Addr} {oe : Obj} {pins : List (Addr × Obj)} {σ : St} {H : Hp} {s : Shared}
theorem ErrAt.got (Z : ErrAt X.base X.K H a C d oe) (I : Inv X pins σ H s) : s.heap.get? a = some oe := by
  rcases Z.at_ with e | e
  · exact exn_at I.hok e
  · exact I.bk a oe e
theorem ErrAt.inst (Z : ErrAt X.base X.K H a C d oe) (I : Inv X pins σ H s) : ∃ od, PySem.W.InstAt s.heap a oe C od := by
  have e := Z.got I
  obtain ⟨vs, hv⟩ := Z.fld
  cases d with
  | none => exact ⟨none, e, Z.z.1, by unfold PySem.W.notCls; rw [hv] <;> rfl, by rw [Z.z.2]; trivial⟩
  | some dx =>
    obtain ⟨fs, hd⟩ := Z.dct dx rfl
    have hx : ObjOk X.prog X.w H s.heap dx (.xd fs) := I.hok dx _ hd
    obtain ⟨mA, ⟨od, _, _, ho, _⟩, _⟩ := hx
    exact ⟨some od, e, Z.z.1, by unfold PySem.W.notCls; rw [hv] <;> rfl, by rw [Z.z.2]; exact ho⟩
/-- isinstance(e, c) -/
def rIsX (base : Heap) (K : PySem.W.Frag) : List V → Hp → VK → Prop := fun xs H Q => ∃ (a C : Addr) (d : Option Addr) (oe : Obj) (c : V) (cv : Value) (b : Bool), xs = [.ref a, c] ∧ ErrAt base K H a C d oe ∧ ExcC K C ∧ (∀ u, RelV c u → u = cv) ∧ PySem.W.kitOne K (.ref C) cv = some b ∧ Q (.bl b) H
theorem call_isX : CallR X (.builtin "isinstance") (rIsX X.base X.K) := by
  intro pins s σ H xs us Q I r h
  obtain ⟨a, C, d, oe, c, cv, b, rfl, Z, T, hcv, e, q⟩ := h
  cases r with
  | cons rx rr =>
    cases rr with
    | cons rt rr =>
      cases rr
      cases rx
      have ec := hcv _ rt
      subst ec
      obtain ⟨od, J⟩ := Z.inst I
      have hcl : (PySem.W.clsIn X.K C).isSome = true := by
        obtain ⟨cd, hc, _⟩ := PySem.W.any_some T.hd
        rw [hc]; rfl
      exact PySem.W.kia_one (PySem.W.kitx_exc hcl T.hg T.hk T.hs T.ha T.hn T.ht T.hm) I.kIn J e (fun z => nomatch z) fun tk => ⟨.bl b, H, I.kept (t' := tk) fun _ _ z => z, rfl, q⟩
/-- e.f -/
def tXfX (base : Heap) (K : PySem.W.Frag) (f : Str) (te : TE) : TE := fun σ H Q => te σ H fun x H1 => ∃ (a C dd : Addr) (oe : Obj) (fs : List (Str × V)) (v : V), x = .ref a ∧ ErrAt base K H1 a C (some dd) oe ∧ XfC K C ∧ PySem.W.findIn K (.ref C) f = some none ∧ H1 dd = some (.xd fs) ∧ fs.lookup f = some v ∧ Q v H1
theorem pe_xfX {e : Expr} {te : TE} {pos : Pos} {n : Str} (he : PE X e te) (hb : attributeBase e n X.env (eval e X.env) = eval e X.env := by rfl) : PE X (.Attribute e n pos) (tXfX X.base X.K n te) := by
  refine ⟨fun pins s σ H Q I h => ?_⟩
  refine attr_of hb (thn (he.run pins s σ H _ I h) fun u s1 hh => ?_)
  obtain ⟨x, H1, I1, rx, a, C, dd, oe, fs, v, ex, Z, T, hno, ea, l, q⟩ := hh
  subst ex
  obtain rfl : u = Value.ref a := rx
  have ha := Z.got I1
  obtain ⟨vs, hd⟩ := Z.fld
  have hx : ObjOk X.prog X.w H1 s1.heap dd (.xd fs) := I1.hok dd _ ea
  obtain ⟨mA, hns, hr⟩ := hx
  obtain ⟨od, ho, hl⟩ := lookIn_ns hns
  obtain ⟨u, hu, ru⟩ := RelO.some_of (v := v) (o := mA n) (by rw [← l]; exact hr n)
  have J : PySem.W.InstAt s1.heap a oe C (some od) := ⟨ha, Z.z.1, by unfold PySem.W.notCls; rw [hd] <;> rfl, by rw [Z.z.2]; exact ho⟩
  exact HandSPX.exc_get I1.kIn J T.ga T.gg T.exC (PySem.W.findObj_own T.hdC hno rfl (by rw [hl, hu])) (handed_of ru) ⟨v, H1, I1.tok _, ru, q⟩
/-- isinstance(e, c) in the suite that holds e -/
def rIsP (K : PySem.W.Frag) (a C : Addr) (d : Option Addr) : List V → Hp → VK → Prop := fun xs H Q => ∃ (c : V) (cv : Value) (b : Bool), xs = [.ref a, c] ∧ (∀ dx, d = some dx → ∃ fs, H dx = some (.xd fs)) ∧ (∀ u, RelV c u → u = cv) ∧ PySem.W.kitOne K (.ref C) cv = some b ∧ Q (.bl b) H
theorem call_isP (hpn : (a, oe) ∈ X.pn) (T : ExcC X.K C) (hz : Zc (.ref C) d oe) (hf : ∃ vs, oe.data = .fields vs) : CallR X (.builtin "isinstance") (rIsP X.K a C d) := by
  intro pins s σ H xs us Q I r h
  obtain ⟨c, cv, b, rfl, hd, hcv, e, q⟩ := h
  cases r with
  | cons rx rr =>
    cases rr with
    | cons rt rr =>
      cases rr
      cases rx
      have ec := hcv _ rt
      subst ec
      obtain ⟨ha, na, _⟩ := I.pin (a, oe) (List.mem_append_left _ hpn)
      obtain ⟨od, J⟩ : ∃ od, PySem.W.InstAt s.heap a oe C od := by
        obtain ⟨vs, hv⟩ := hf
        cases d with
        | none => exact ⟨none, ha, hz.1, by unfold PySem.W.notCls; rw [hv] <;> rfl, by rw [hz.2]; trivial⟩
        | some dx =>
          obtain ⟨fs, hd⟩ := hd dx rfl
          have hx : ObjOk X.prog X.w H s.heap dx (.xd fs) := I.hok dx _ hd
          obtain ⟨mA, ⟨od, _, _, ho, _⟩, _⟩ := hx
          exact ⟨some od, ha, hz.1, by unfold PySem.W.notCls; rw [hv] <;> rfl, by rw [hz.2]; exact ho⟩
      have hcl : (PySem.W.clsIn X.K C).isSome = true := by
        obtain ⟨cd, hc, _⟩ := PySem.W.any_some T.hd
        rw [hc]; rfl
      exact PySem.W.kia_one (PySem.W.kitx_exc hcl T.hg T.hk T.hs T.ha T.hn T.ht T.hm) I.kIn J e (fun z => nomatch z) fun tk => ⟨.bl b, H, I.kept (t' := tk) fun _ _ z => z, rfl, q⟩
end
end L2
set_option Elab.async false
set_option linter.all false
set_option maxRecDepth 100000
set_option maxHeartbeats 4000000
/-! k07, part H: what the head says of the errors' classes -/
namespace K7
open PySem PySem.W PySem.Calls PyProof.Rows PySem.HandSPX L2
/-- one error of the program: its class's name, its fields, its __init__ as the text has it -/
structure XD where
  cls : Str
  fs : List Str
  qual : Str
  params : Arguments
  body : List Stmt
  scope : Scope
def clsB (K : Frag) (C : Addr) : Bool := match K.lookup C with
  | some ⟨.type "type", _, .cls cd, sl⟩ => (match cd.mro, sl.toList with
    | .ref C' :: bm, [_, _, _, _, some (.builtin n), _] => decide (C' = C) && (decide (n = "ValueError.__new__") && (!cd.hasDel && (cd.hasDict && refsVE bm)))
    | _, _ => false)
  | _ => false
theorem clsB_ok {K : Frag} {C : Addr} (h : clsB K C = true) : ∃ nm q N bs bm sn sub ab col dd k0 k1 k2 k3 k5, K.lookup C = some (excClassObj nm q C N bs bm true sn sub ab col dd k0 k1 k2 k3 k5 "ValueError.__new__") ∧ refsVE bm = true := by
  unfold clsB at h
  split at h
  · rename_i dd cd sl ho
    split at h
    · rename_i C' bm k0 k1 k2 k3 n k5 hm hs
      obtain ⟨h1, h⟩ := He.ba h
      obtain ⟨h2, h⟩ := He.ba h
      obtain ⟨h3, h⟩ := He.ba h
      obtain ⟨h4, h5⟩ := He.ba h
      have e1 := of_decide_eq_true h1
      have e2 := of_decide_eq_true h2
      subst e1 e2
      obtain ⟨nm, bs, mro, ns, qn, hd, sn, sub, ab, col, del⟩ := cd
      dsimp only at hm h3 h4
      have h3' : del = false := by cases del <;> simp_all
      subst hm h3' h4
      have hsl : sl = #[k0, k1, k2, k3, some (.builtin "ValueError.__new__"), k5] := by
        obtain ⟨l⟩ := sl
        simp only at hs
        rw [hs]
      subst hsl
      exact ⟨nm, qn, ns, bs, bm, sn, sub, ab, col, dd, k0, k1, k2, k3, k5, ho, h5⟩
    · cases h
  · cases h
def fileB (K : Frag) (cda : Addr) (file : Str) : Bool := match K.lookup cda with
  | some o => (match o.data with
    | .fields vs => (match vs.toList with
      | _ :: _ :: .str f _ :: _ => decide (file = f)
      | _ => false)
    | _ => false)
  | none => false
theorem fileB_ok {K : Frag} {cda : Addr} {file : Str} (h : fileB K cda file = true) : ∃ (ccl : Value) (cdd : Option Addr) (vs : Array Value) (ccs : Array (Option Value)) (tf : Tok), K.lookup cda = some ⟨ccl, cdd, .fields vs, ccs⟩ ∧ vs[2]? = some (.str file tf) := by
  unfold fileB at h
  split at h
  · rename_i o q
    obtain ⟨ccl, cdd, dt, ccs⟩ := o
    dsimp only at h
    split at h
    · rename_i vs
      split at h
      · rename_i a b f tf r e
        have ef := of_decide_eq_true h
        subst ef
        refine ⟨ccl, cdd, vs, ccs, tf, q, ?_⟩
        obtain ⟨l⟩ := vs
        simp only at e
        subst e
        rfl
      · cases h
    · cases h
  · cases h
def cellB (K : Frag) (cc C : Addr) : Bool := match K.lookup cc with
  | some o => (match o.data with
    | .cell (some (.ref C')) => decide (C' = C)
    | _ => false)
  | none => false
theorem cellB_ok {K : Frag} {cc C : Addr} (h : cellB K cc C = true) : ∃ (cl : Value) (cld : Option Addr) (csl : Array (Option Value)), K.lookup cc = some ⟨cl, cld, .cell (some (.ref C)), csl⟩ := by
  unfold cellB at h
  split at h
  · rename_i o q
    obtain ⟨cl, cld, dt, csl⟩ := o
    dsimp only at h
    split at h
    · have ec := of_decide_eq_true h
      subst ec
      exact ⟨cl, cld, csl, q⟩
    · cases h
  · cases h
/-- the function record of an __init__, its cell and its code -/
def iniB (K : Frag) (C : Addr) (file : Str) : Bool := match K.lookup (He.ma K C "__init__") with
  | some ⟨_, _, .func fd, _⟩ => (match fd.code, fd.defaults, fd.closure with
    | .ref cda, .none, [(y, cc)] => decide (y = ("__class__" : Str)) && (codeIn K (.ref cda) fd.qualname && (fileB K cda file && cellB K cc C))
    | _, _, _ => false)
  | _ => false
abbrev IniW : Type := Option (Str × Str × Arguments × FuncBody × Scope × Addr × Addr)
def iniW (K : Frag) (C : Addr) : IniW := match K.lookup (He.ma K C "__init__") with
  | some ⟨_, _, .func fd, _⟩ => some (fd.name, fd.qualname, fd.params, fd.body, fd.scope, fd.globals, fd.builtins)
  | _ => none
def XD.val (d : XD) : IniW := some ("__init__", d.qual, d.params, .stmts d.body, d.scope, mainGlobals, builtinsNs)
theorem ini_ok {K : Frag} {P : Program} {C : Addr} {d : XD} (e : iniW K C = d.val) (h : iniB K C (P.main.file : Str) = true) (iC : findIn K (.ref C) "__init__" = some (some (.ref (He.ma K C "__init__")))) (tI : typeIn K (.ref (He.ma K C "__init__")) = some (.type "function")) :
    XI K P C (He.ma K C "__init__") d.qual d.params d.body d.scope := by
  refine ⟨iC, tI, ?_⟩
  unfold iniB at h
  unfold iniW at e
  cases q : K.lookup (He.ma K C "__init__") with
  | none =>
    rw [q] at h
    cases h
  | some o =>
    obtain ⟨oc, od, dt, osl⟩ := o
    rw [q] at h e
    cases dt with
    | func fd =>
      obtain ⟨n1, n2, n3, n4, n5, n6, n7, n8, n9, n10, n11, n12, n13, n14, n15⟩ := fd
      dsimp only at h e
      simp only [XD.val, Option.some.injEq, Prod.mk.injEq] at e
      obtain ⟨e1, e2, e3, e4, e5, e6, e7⟩ := e
      subst e1 e2 e3 e4 e5 e6 e7
      split at h
      · rename_i cda y cc
        obtain ⟨h1, h⟩ := He.ba h
        obtain ⟨h2, h⟩ := He.ba h
        obtain ⟨h3, h4⟩ := He.ba h
        have ey := of_decide_eq_true h1
        subst ey
        obtain ⟨ccl, cdd, vs, ccs, tf, q2, q3⟩ := fileB_ok h3
        obtain ⟨cl, cld, csl, q4⟩ := cellB_ok h4
        exact ⟨oc, od, n9, n10, n11, n12, cda, n14, osl, cc, ccl, cdd, vs, ccs, _, tf, cl, cld, csl, rfl, h2, q2, q3, beq_self_eq_true _, q4⟩
      · cases h
    | _ => cases h
end K7
set_option Elab.async false
set_option linter.all false
set_option maxRecDepth 100000
set_option maxHeartbeats 4000000
/-! k07, part I: the head's hook with the errors' classes -/
namespace K7
open PySem PySem.W PySem.Calls PyProof.Rows PySem.HandSPX L2
def dB (a b : Option (Option Value)) : Bool := decide (a = b)
def oB (a b : Option Bool) : Bool := decide (a = b)
/-- what is said of an error -/
structure XAll (K : Frag) (P : Program) (d : XD) : Prop where
  xs : XS K (He.ga K d.cls)
  no : ∀ f ∈ d.fs, findIn K (.ref (He.ga K d.cls)) f = some none
  xi : XI K P (He.ga K d.cls) (He.ma K (He.ga K d.cls) "__init__") d.qual d.params d.body d.scope
  kC : keepIn K (.ref (He.ga K d.cls)) = true
  exC : subIn K (.ref (He.ga K d.cls)) (.type "BaseException") = some true
  tyC : typeIn K (.ref (He.ga K d.cls)) = some (.type "type")
  ec : ExcC K (He.ga K d.cls)
  xf : XfC K (He.ga K d.cls)
  ex : exmOne K (.ref (He.ga K d.cls)) (.ref (He.ga K "RoomError")) = some true
def anyB (K : Frag) : Bool := decide (nsIn K cStatics "thirdparty.any" = some none)
def supB' (K : Frag) (C : Addr) (file : Str) (fs : List Str) : Bool :=
  clsB K C && (dB (findIn K (.ref C) "__setattr__") (some (some (.builtin "object.__setattr__"))) && ((clsIn K C).isSome && (oB (mroIn K C (.ref C)) (some true) && (anyB K &&
   (dB (ks_superIn K C C "__init__") (some (some (.builtin "ValueError.__init__"))) && (oB (subIn K (.ref C) (.type "ValueError")) (some true) && ((fs.all fun f => dB (findIn K (.ref C) f) (some none)) &&
   (dB (findIn K (.ref C) "__init__") (some (some (.ref (He.ma K C "__init__")))) && (decide (typeIn K (.ref (He.ma K C "__init__")) = some (.type "function")) && (keepIn K (.ref C) && (oB (subIn K (.ref C) (.type "BaseException")) (some true) && (decide (typeIn K (.ref C) = some (.type "type")) &&
   (iniB K C file && (dB (findIn K (.ref C) "__getattribute__") (some (some (.builtin "BaseException.__getattribute__"))) && (dB (findIn K (.ref C) "__getattr__") (some none) && (hasDictIn K C && (dB (findIn K (.ref C) "__class__") (some (some (.builtin "object.__class__"))) &&
   (dB (specialIn K (.builtin "object.__class__") "__get__") (some (some (.builtin "getset_descriptor.__get__"))) && (oB (takesIn K (.builtin "object.__class__")) (some true) && (oB (mroIn K C (.type "object")) (some true) && oB (exmOne K (.ref C) (.ref (He.ga K "RoomError"))) (some true)))))))))))))))))))))
theorem xall {K : Frag} {P : Program} {d : XD} (e : iniW K (He.ga K d.cls) = d.val) (h : supB' K (He.ga K d.cls) (P.main.file : Str) d.fs = true) : XAll K P d := by
  obtain ⟨h1, h⟩ := He.ba h
  obtain ⟨h2, h⟩ := He.ba h
  obtain ⟨h3, h⟩ := He.ba h
  obtain ⟨h4, h⟩ := He.ba h
  obtain ⟨h5, h⟩ := He.ba h
  obtain ⟨h6, h⟩ := He.ba h
  obtain ⟨h7, h⟩ := He.ba h
  obtain ⟨h8, h⟩ := He.ba h
  obtain ⟨h9, h⟩ := He.ba h
  obtain ⟨h10, h⟩ := He.ba h
  obtain ⟨h11, h⟩ := He.ba h
  obtain ⟨h12, h⟩ := He.ba h
  obtain ⟨h13, h⟩ := He.ba h
  obtain ⟨h14, h⟩ := He.ba h
  obtain ⟨h15, h⟩ := He.ba h
  obtain ⟨h16, h⟩ := He.ba h
  obtain ⟨h17, h⟩ := He.ba h
  obtain ⟨h18, h⟩ := He.ba h
  obtain ⟨h19, h⟩ := He.ba h
  obtain ⟨h20, h⟩ := He.ba h
  obtain ⟨h21, h22⟩ := He.ba h
  refine ⟨⟨⟨clsB_ok h1, of_decide_eq_true h2⟩, Option.isSome_iff_exists.mp h3, of_decide_eq_true h4, of_decide_eq_true h5, of_decide_eq_true h6, of_decide_eq_true h7⟩, fun f hf => of_decide_eq_true (List.all_eq_true.mp h8 f hf),
    ini_ok e h14 (of_decide_eq_true h9) (of_decide_eq_true h10), h11, of_decide_eq_true h12, of_decide_eq_true h13, ⟨of_decide_eq_true h15, of_decide_eq_true h16, of_decide_eq_true h12, h17, of_decide_eq_true h18, of_decide_eq_true h19, of_decide_eq_true h20, of_decide_eq_true h21⟩,
    ⟨of_decide_eq_true h15, of_decide_eq_true h16, of_decide_eq_true h12, h17⟩, of_decide_eq_true h22⟩
/-- isinstance of the errors -/
def kitB (K : Frag) (xs : List XD) : Bool := xs.all fun d => decide (kitOne K (.ref (He.ga K d.cls)) (.type "ValueError") = some true) && xs.all fun e => decide (kitOne K (.ref (He.ga K d.cls)) (.ref (He.ga K e.cls)) = some (decide (d.cls = e.cls)))
/-! ### the hook -/
def asX (g : Addr → Option Obj) : Nat → List Addr
  | 0 => [mainGlobals, cStatics]
  | n + 1 => He.growD g (asX g n)
abbrev AlX : Type := He.AlD × (Bool × List IniW)
def obsX (file : Str) (fa : List He.Fa) (fn : List He.DefD) (xs : List XD) (K : Frag) : AlX := (He.obsD fa fn K, ((xs.all fun d => supB' K (He.ga K d.cls) file d.fs) && kitB K xs, xs.map fun d => iniW K (He.ga K d.cls)))
def valX (fn : List He.DefD) (xs : List XD) : AlX := (He.valD fn, (true, xs.map XD.val))
def SaysX (file : Str) (fa : List He.Fa) (fn : List He.DefD) (xs : List XD) (K : Frag) : Prop := obsX file fa fn xs K = valX fn xs
def obsXG (file : Str) (n : Nat) (fa : List He.Fa) (fn : List He.DefD) (xs : List XD) (g : Addr → Option Obj) : AlX := obsX file fa fn xs (He.frG g (asX g n))
def hookX (file : Str) (n : Nat) (fa : List He.Fa) (fn : List He.DefD) (xs : List XD) : Hook where
  α := AlX
  obs := fun s => obsXG file n fa fn xs s.heap.get?
  val := fun _ => valX fn xs
  says := fun _ h => ∃ K : Frag, K.In h ∧ SaysX file fa fn xs K
  of := fun _ _ e => ⟨_, He.frG_in, e⟩
  keeps := fun _ _ _ ⟨K, hK, c⟩ k => ⟨K, Frag.In.keeps hK k, c⟩
theorem obsXG_eq {file : Str} {n : Nat} {fa : List He.Fa} {fn : List He.DefD} {xs : List XD} {g : Addr → Option Obj} {s : Shared} (h : ∀ a, g a = s.heap.get? a) : obsXG file n fa fn xs g = (hookX file n fa fn xs).obs s := by
  have e : g = s.heap.get? := funext h
  rw [e] <;> rfl
theorem SaysX.base {file : Str} {fa : List He.Fa} {fn : List He.DefD} {xs : List XD} {K : Frag} (c : SaysX file fa fn xs K) : He.SaysD fa fn K := congrArg (fun z : AlX => z.1) c
theorem SaysX.err {P : Program} {fa : List He.Fa} {fn : List He.DefD} {xs : List XD} {K : Frag} (c : SaysX (P.main.file : Str) fa fn xs K) (i : Nat) {d : XD} (h : xs[i]? = some d := by rfl) : XAll K P d := by
  have c1 : ((xs.all fun d => supB' K (He.ga K d.cls) (P.main.file : Str) d.fs) && kitB K xs) = true := congrArg (fun z : AlX => z.2.1) c
  have c2 := (He.ba c1).1
  have e : xs.map (fun d => iniW K (He.ga K d.cls)) = xs.map XD.val := congrArg (fun z : AlX => z.2.2) c
  have e2 : (xs.map fun d => iniW K (He.ga K d.cls))[i]? = (xs.map XD.val)[i]? := by rw [e]
  rw [List.getElem?_map, List.getElem?_map, h] at e2
  exact xall (Option.some.inj e2) (List.all_eq_true.mp c2 d (List.mem_of_getElem? h))
theorem SaysX.kit {file : Str} {fa : List He.Fa} {fn : List He.DefD} {xs : List XD} {K : Frag} (c : SaysX file fa fn xs K) (i : Nat) {d : XD} (h : xs[i]? = some d := by rfl) : kitOne K (.ref (He.ga K d.cls)) (.type "ValueError") = some true ∧ ∀ e ∈ xs, kitOne K (.ref (He.ga K d.cls)) (.ref (He.ga K e.cls)) = some (decide (d.cls = e.cls)) := by
  have c1 : ((xs.all fun d => supB' K (He.ga K d.cls) file d.fs) && kitB K xs) = true := congrArg (fun z : AlX => z.2.1) c
  obtain ⟨h1, h2⟩ := He.ba (List.all_eq_true.mp (He.ba c1).2 d (List.mem_of_getElem? h))
  exact ⟨of_decide_eq_true h1, fun e he => of_decide_eq_true (List.all_eq_true.mp h2 e he)⟩
end K7
set_option Elab.async false
set_option linter.all false
set_option maxRecDepth 100000
set_option maxHeartbeats 0
namespace K7H
open PySem PySem.Spec PyProof.Rows L2
def top (i : Nat) : Stmt := PySem.Challenge.pw_roomends_k07_errors.main.body.getD i (.Pass ⟨0, 0, 0, 0⟩)
def fn : List He.DefD := [⟨("_law_pen", none), "_law_pen", "_law_pen", defArgs (top 16), defBody (top 16), defScope (top 16), [], []⟩,
  ⟨("_law_draw", none), "_law_draw", "_law_draw", defArgs (top 17), defBody (top 17), defScope (top 17), [], []⟩,
  ⟨("_law_pick", none), "_law_pick", "_law_pick", defArgs (top 18), defBody (top 18), defScope (top 18), [], []⟩,
  ⟨("_law_raised", none), "_law_raised", "_law_raised", defArgs (top 19), defBody (top 19), defScope (top 19), [], []⟩,
  ⟨("_law_kinds", none), "_law_kinds", "_law_kinds", defArgs (top 20), defBody (top 20), defScope (top 20), [], []⟩,
  ⟨("_law_fields", none), "_law_fields", "_law_fields", defArgs (top 21), defBody (top 21), defScope (top 21), [], []⟩,
  ⟨("_law_caught", none), "_law_caught", "_law_caught", defArgs (top 22), defBody (top 22), defScope (top 22), [], []⟩,
  ⟨("law", none), "law", "law", defArgs (top 23), defBody (top 23), defScope (top 23), [], []⟩]
def fa : List He.Fa := [.glo "_law_pen", .glo "_law_draw", .glo "_law_pick", .glo "_law_raised", .glo "_law_kinds", .glo "_law_fields", .glo "_law_caught", .glo "law", .glo "RoomError", .glo "BadText", .glo "TooMany", .glo "NotRun", .glo "BadPick", .glo "BadSpot", .glo "BadRoom", .glo "Dropped", .glo "Unlike", .glo "NoFault", .glo "NoFunction", .glo "NoRoom", .glo "Refused", .glo "NothingLeft", .free "int", .free "isinstance", .free "len", .free "list", .free "min", .free "range", .free "super", .free "ValueError"]
def xs : List K7.XD := [⟨"BadText", ["line"], "BadText.__init__", defArgs (inClass (top 2) 0), defBody (inClass (top 2) 0), defScope (inClass (top 2) 0)⟩,
  ⟨"TooMany", ["what"], "TooMany.__init__", defArgs (inClass (top 3) 0), defBody (inClass (top 3) 0), defScope (inClass (top 3) 0)⟩,
  ⟨"NotRun", ["index"], "NotRun.__init__", defArgs (inClass (top 4) 0), defBody (inClass (top 4) 0), defScope (inClass (top 4) 0)⟩,
  ⟨"BadPick", ["index"], "BadPick.__init__", defArgs (inClass (top 5) 0), defBody (inClass (top 5) 0), defScope (inClass (top 5) 0)⟩,
  ⟨"BadSpot", ["spot"], "BadSpot.__init__", defArgs (inClass (top 6) 0), defBody (inClass (top 6) 0), defScope (inClass (top 6) 0)⟩,
  ⟨"BadRoom", ["spot"], "BadRoom.__init__", defArgs (inClass (top 7) 0), defBody (inClass (top 7) 0), defScope (inClass (top 7) 0)⟩,
  ⟨"Dropped", ["index", "record"], "Dropped.__init__", defArgs (inClass (top 8) 0), defBody (inClass (top 8) 0), defScope (inClass (top 8) 0)⟩,
  ⟨"Unlike", [], "Unlike.__init__", defArgs (inClass (top 9) 0), defBody (inClass (top 9) 0), defScope (inClass (top 9) 0)⟩,
  ⟨"NoFault", [], "NoFault.__init__", defArgs (inClass (top 10) 0), defBody (inClass (top 10) 0), defScope (inClass (top 10) 0)⟩,
  ⟨"NoFunction", ["name"], "NoFunction.__init__", defArgs (inClass (top 11) 0), defBody (inClass (top 11) 0), defScope (inClass (top 11) 0)⟩,
  ⟨"NoRoom", ["line"], "NoRoom.__init__", defArgs (inClass (top 12) 0), defBody (inClass (top 12) 0), defScope (inClass (top 12) 0)⟩,
  ⟨"Refused", ["guard"], "Refused.__init__", defArgs (inClass (top 13) 0), defBody (inClass (top 13) 0), defScope (inClass (top 13) 0)⟩,
  ⟨"NothingLeft", [], "NothingLeft.__init__", defArgs (inClass (top 14) 0), defBody (inClass (top 14) 0), defScope (inClass (top 14) 0)⟩]
def ns0 : List PySem.Str := ["__name__", "RoomError", "BadText", "TooMany", "NotRun", "BadPick", "BadSpot", "BadRoom", "Dropped", "Unlike", "NoFault", "NoFunction", "NoRoom", "Refused", "NothingLeft", "_law_pen", "_law_draw", "_law_pick", "_law_raised", "_law_kinds", "_law_fields", "_law_caught"]
abbrev loose : List PySem.Str := ns0
abbrev R : PySem.W.OpenRow := PySem.W.OpenLaw.row PySem.Challenge.rw_roomends_k07_errors
abbrev file : PySem.Str := (R.prog.main.file : PySem.Str)
abbrev hk : PySem.W.Hook := K7.hookX file 5 fa fn xs
def ob (s : PySem.W.SharedT) : K7.AlX := K7.obsXG file 5 fa fn xs (HandSHeadRun.getT s)
theorem ob_eq (s : PySem.W.SharedT) : ob s = hk.obs s.abs := K7.obsXG_eq (HandSHeadRun.getT_eq s)
theorem run (w : World) : HandSHeadRun.RunEq R (PySem.W.view R.prog [23]) hk ob 4000 loose w := by
  intro os
  kernel_rfl
end K7H
set_option Elab.async false
set_option linter.all false
set_option maxRecDepth 100000
set_option maxHeartbeats 4000000
/-! k07, part K: each error made -/
namespace K7H
open PySem PySem.Spec PyProof.Rows L2 K7
variable {w : World} {K : PySem.W.Frag}
abbrev P7 : Program := PySem.Challenge.pw_roomends_k07_errors
abbrev Says (K : PySem.W.Frag) : Prop := SaysX file fa fn xs K
abbrev Ca (K : PySem.W.Frag) (x : Str) : Addr := He.ga K x
abbrev Ia (K : PySem.W.Frag) (x : Str) : Addr := He.ma K (He.ga K x) "__init__"
theorem top7 : (P7.main.scope.names.lookup ("super" : Str)).isSome = false := by decide +kernel
abbrev d_BadText : XD := xs[0]'(by decide)
theorem all_BadText (c : Says K) : XAll K P7 d_BadText := SaysX.err (P := P7) c 0
theorem ini_BadText (c : Says K) : InitOk P7 w K (Ca K "BadText") (Ia K "BadText") ["line"] := by
  have x := all_BadText c
  exact init1 (f := "line") x.xs x.xi ⟨rfl, rfl, rfl, by decide, rfl, by decide, rfl, rfl⟩ rfl top7 (x.no _ List.mem_cons_self) (by decide) (fun fd x u h1 h2 => by unfold bindArgs; rw [h1, h2]; rfl) (by decide)
abbrev d_TooMany : XD := xs[1]'(by decide)
theorem all_TooMany (c : Says K) : XAll K P7 d_TooMany := SaysX.err (P := P7) c 1
theorem ini_TooMany (c : Says K) : InitOk P7 w K (Ca K "TooMany") (Ia K "TooMany") ["what"] := by
  have x := all_TooMany c
  exact init1 (f := "what") x.xs x.xi ⟨rfl, rfl, rfl, by decide, rfl, by decide, rfl, rfl⟩ rfl top7 (x.no _ List.mem_cons_self) (by decide) (fun fd x u h1 h2 => by unfold bindArgs; rw [h1, h2]; rfl) (by decide)
abbrev d_NotRun : XD := xs[2]'(by decide)
theorem all_NotRun (c : Says K) : XAll K P7 d_NotRun := SaysX.err (P := P7) c 2
theorem ini_NotRun (c : Says K) : InitOk P7 w K (Ca K "NotRun") (Ia K "NotRun") ["index"] := by
  have x := all_NotRun c
  exact init1 (f := "index") x.xs x.xi ⟨rfl, rfl, rfl, by decide, rfl, by decide, rfl, rfl⟩ rfl top7 (x.no _ List.mem_cons_self) (by decide) (fun fd x u h1 h2 => by unfold bindArgs; rw [h1, h2]; rfl) (by decide)
abbrev d_BadPick : XD := xs[3]'(by decide)
theorem all_BadPick (c : Says K) : XAll K P7 d_BadPick := SaysX.err (P := P7) c 3
theorem ini_BadPick (c : Says K) : InitOk P7 w K (Ca K "BadPick") (Ia K "BadPick") ["index"] := by
  have x := all_BadPick c
  exact init1 (f := "index") x.xs x.xi ⟨rfl, rfl, rfl, by decide, rfl, by decide, rfl, rfl⟩ rfl top7 (x.no _ List.mem_cons_self) (by decide) (fun fd x u h1 h2 => by unfold bindArgs; rw [h1, h2]; rfl) (by decide)
abbrev d_BadSpot : XD := xs[4]'(by decide)
theorem all_BadSpot (c : Says K) : XAll K P7 d_BadSpot := SaysX.err (P := P7) c 4
theorem ini_BadSpot (c : Says K) : InitOk P7 w K (Ca K "BadSpot") (Ia K "BadSpot") ["spot"] := by
  have x := all_BadSpot c
  exact init1 (f := "spot") x.xs x.xi ⟨rfl, rfl, rfl, by decide, rfl, by decide, rfl, rfl⟩ rfl top7 (x.no _ List.mem_cons_self) (by decide) (fun fd x u h1 h2 => by unfold bindArgs; rw [h1, h2]; rfl) (by decide)
abbrev d_BadRoom : XD := xs[5]'(by decide)
theorem all_BadRoom (c : Says K) : XAll K P7 d_BadRoom := SaysX.err (P := P7) c 5
theorem ini_BadRoom (c : Says K) : InitOk P7 w K (Ca K "BadRoom") (Ia K "BadRoom") ["spot"] := by
  have x := all_BadRoom c
  exact init1 (f := "spot") x.xs x.xi ⟨rfl, rfl, rfl, by decide, rfl, by decide, rfl, rfl⟩ rfl top7 (x.no _ List.mem_cons_self) (by decide) (fun fd x u h1 h2 => by unfold bindArgs; rw [h1, h2]; rfl) (by decide)
abbrev d_Dropped : XD := xs[6]'(by decide)
theorem all_Dropped (c : Says K) : XAll K P7 d_Dropped := SaysX.err (P := P7) c 6
theorem ini_Dropped (c : Says K) : InitOk P7 w K (Ca K "Dropped") (Ia K "Dropped") ["index", "record"] := by
  have x := all_Dropped c
  exact init2 (f1 := "index") (f2 := "record") x.xs x.xi ⟨rfl, rfl, rfl, by decide, rfl, by decide, rfl, rfl⟩ rfl top7 (x.no _ List.mem_cons_self) (x.no _ (List.mem_cons_of_mem _ List.mem_cons_self)) (by decide) (by decide) (by decide) (fun fd x u v h1 h2 => by unfold bindArgs; rw [h1, h2]; rfl) (by decide) (by decide)
abbrev d_Unlike : XD := xs[7]'(by decide)
theorem all_Unlike (c : Says K) : XAll K P7 d_Unlike := SaysX.err (P := P7) c 7
theorem ini_Unlike (c : Says K) : InitOk P7 w K (Ca K "Unlike") (Ia K "Unlike") [] := by
  have x := all_Unlike c
  exact init0 x.xs x.xi ⟨rfl, rfl, rfl, by decide, rfl, by decide, rfl, rfl⟩ rfl top7
abbrev d_NoFault : XD := xs[8]'(by decide)
theorem all_NoFault (c : Says K) : XAll K P7 d_NoFault := SaysX.err (P := P7) c 8
theorem ini_NoFault (c : Says K) : InitOk P7 w K (Ca K "NoFault") (Ia K "NoFault") [] := by
  have x := all_NoFault c
  exact init0 x.xs x.xi ⟨rfl, rfl, rfl, by decide, rfl, by decide, rfl, rfl⟩ rfl top7
abbrev d_NoFunction : XD := xs[9]'(by decide)
theorem all_NoFunction (c : Says K) : XAll K P7 d_NoFunction := SaysX.err (P := P7) c 9
theorem ini_NoFunction (c : Says K) : InitOk P7 w K (Ca K "NoFunction") (Ia K "NoFunction") ["name"] := by
  have x := all_NoFunction c
  exact init1 (f := "name") x.xs x.xi ⟨rfl, rfl, rfl, by decide, rfl, by decide, rfl, rfl⟩ rfl top7 (x.no _ List.mem_cons_self) (by decide) (fun fd x u h1 h2 => by unfold bindArgs; rw [h1, h2]; rfl) (by decide)
abbrev d_NoRoom : XD := xs[10]'(by decide)
theorem all_NoRoom (c : Says K) : XAll K P7 d_NoRoom := SaysX.err (P := P7) c 10
theorem ini_NoRoom (c : Says K) : InitOk P7 w K (Ca K "NoRoom") (Ia K "NoRoom") ["line"] := by
  have x := all_NoRoom c
  exact init1 (f := "line") x.xs x.xi ⟨rfl, rfl, rfl, by decide, rfl, by decide, rfl, rfl⟩ rfl top7 (x.no _ List.mem_cons_self) (by decide) (fun fd x u h1 h2 => by unfold bindArgs; rw [h1, h2]; rfl) (by decide)
abbrev d_Refused : XD := xs[11]'(by decide)
theorem all_Refused (c : Says K) : XAll K P7 d_Refused := SaysX.err (P := P7) c 11
theorem ini_Refused (c : Says K) : InitOk P7 w K (Ca K "Refused") (Ia K "Refused") ["guard"] := by
  have x := all_Refused c
  exact init1 (f := "guard") x.xs x.xi ⟨rfl, rfl, rfl, by decide, rfl, by decide, rfl, rfl⟩ rfl top7 (x.no _ List.mem_cons_self) (by decide) (fun fd x u h1 h2 => by unfold bindArgs; rw [h1, h2]; rfl) (by decide)
abbrev d_NothingLeft : XD := xs[12]'(by decide)
theorem all_NothingLeft (c : Says K) : XAll K P7 d_NothingLeft := SaysX.err (P := P7) c 12
theorem ini_NothingLeft (c : Says K) : InitOk P7 w K (Ca K "NothingLeft") (Ia K "NothingLeft") [] := by
  have x := all_NothingLeft c
  exact init0 x.xs x.xi ⟨rfl, rfl, rfl, by decide, rfl, by decide, rfl, rfl⟩ rfl top7
theorem mkX_of {X : Cx} {d : XD} {fs : List Str} (hP : X.prog = P7) (hK : X.K = K) (x : XAll K P7 d) (ini : InitOk P7 X.w K (He.ga K d.cls) (He.ma K (He.ga K d.cls) "__init__") fs) (hl : fs.length ≤ 100) : MkX X (He.ga K d.cls) (He.ma K (He.ga K d.cls) "__init__") fs := by
  subst hK
  exact ⟨x.xs.toXC, x.xi.iC, x.xi.tI, x.kC, x.exC, x.tyC, by rw [hP]; exact ini, hl⟩
end K7H
set_option Elab.async false
set_option linter.all false
set_option maxRecDepth 100000
set_option maxHeartbeats 4000000
/-! k07, part L: names, heaps -/
namespace K7H
open PySem PySem.Spec PyProof.Rows L2 K7
section
variable {P : Program} {w : World} {K : PySem.W.Frag} {mg : Str → Option Value} {base : Heap} {f : Addr} {fd : FuncData}
abbrev FnP (K : PySem.W.Frag) (x : Str) (st : Stmt) (f : Addr) (fd : FuncData) : Prop := FunD K x x (defArgs st) (defBody st) (defScope st) [] [] f fd
abbrev sKinds : Stmt := top 20
theorem sc_kinds : FnScope ["_law_e", "_law_found"] ["_law_e"] (defScope sKinds) := ⟨rfl, rfl, rfl, by decide +kernel, rfl, by decide +kernel, by decide +kernel⟩
def names : List Str := ["BadText", "TooMany", "NotRun", "BadPick", "BadSpot", "BadRoom", "Dropped", "Unlike", "NoFault", "NoFunction", "NoRoom", "Refused", "NothingLeft"]
/-- all that stood stands -/
def Ext (H H' : Hp) : Prop := ∀ x o, H x = some o → H' x = some o
end
end K7H
set_option Elab.async false
set_option linter.all false
set_option maxRecDepth 100000
set_option maxHeartbeats 4000000
/-! k07, part M: an error raised by its number -/
namespace K7H
open PySem PySem.Spec PyProof.Rows L2 K7
def what (b : Str) : Str := if b = "mk" then "characters" else "lines"
/-- the dict of the raised error -/
def DictOk (k : Nat) (a : Int) (b : Str) (d : Option Addr) (H : Hp) : Prop := match k with
  | 0 => ∃ dd, d = some dd ∧ H dd = some (.xd [(("line" : Str), .int a)])
  | 1 => ∃ dd, d = some dd ∧ H dd = some (.xd [(("what" : Str), .str (what b))])
  | 2 => ∃ dd, d = some dd ∧ H dd = some (.xd [(("index" : Str), .int a)])
  | 3 => ∃ dd, d = some dd ∧ H dd = some (.xd [(("index" : Str), .int a)])
  | 4 => ∃ dd t, d = some dd ∧ H dd = some (.xd [(("spot" : Str), .ref t)]) ∧ H t = some (.tup [.int a, .int 3])
  | 5 => ∃ dd t, d = some dd ∧ H dd = some (.xd [(("spot" : Str), .ref t)]) ∧ H t = some (.tup [.int 3, .int a])
  | 6 => ∃ dd, d = some dd ∧ H dd = some (.xd [(("record" : Str), .int 7), (("index" : Str), .int a)])
  | 9 => ∃ dd, d = some dd ∧ H dd = some (.xd [(("name" : Str), .str b)])
  | 10 => ∃ dd, d = some dd ∧ H dd = some (.xd [(("line" : Str), .int a)])
  | 11 => ∃ dd t, d = some dd ∧ H dd = some (.xd [(("guard" : Str), .ref t)]) ∧ H t = some (.tup [.str "peak", .int a])
  | _ => d = none
def nm (k : Nat) : Str := names.getD k "NothingLeft"
def spRaised (K : PySem.W.Frag) : Sp := fun vs H _ E => ∃ (k : Nat) (a : Int) (b : Str), vs = [.int (k : Int), .int a, .str b] ∧ k < 13 ∧ ∀ H' d, Ext H H' → DictOk k a b d H' → E (.ref (He.ga K (nm k))) d H'
theorem ext_put {H : Hp} {p : Addr} {o : HO} (n : H p = none) : Ext H (upd H p o) := fun x y e => by
  rw [upd_ne (ne_of_none e n)]; exact e
theorem Ext.trans {H H1 H2 : Hp} (a : Ext H H1) (b : Ext H1 H2) : Ext H H2 := fun x y e => b x y (a x y e)
theorem what_of {b : Str} (h : (V.str b) = V.str "mk") : what b = "characters" := by
  injection h with h
  exact if_pos h
theorem what_no {b : Str} (h : ¬ (V.str b) = V.str "mk") : what b = "lines" := if_neg fun e => h (by rw [e])
theorem tup_at {H : Hp} {t d : Addr} {o o2 : HO} (hd : upd H t o d = none) : upd (upd H t o) d o2 t = some o := by
  rw [upd_ne (ne_of_none upd_same hd)]
  exact upd_same
theorem ifT {c : Bool} {A B : Prop} (hc : c = true) (h : A) : if c = true then A else B := by
  rw [if_pos hc]; exact h
theorem ifF {c : Bool} {A B : Prop} (hc : c = false) (h : B) : if c = true then A else B := by
  rw [hc, if_neg Bool.false_ne_true]; exact h
section
variable {P : Program} {w : World} {K : PySem.W.Frag} {mg : Str → Option Value} {base : Heap} {f : Addr} {fd : FuncData}
abbrev sRaised : Stmt := top 19
theorem sc_raised : FnScope ["_law_k", "_law_a", "_law_b"] ["_law_k", "_law_a", "_law_b"] (defScope sRaised) := ⟨rfl, rfl, rfl, by decide +kernel, rfl, by decide +kernel, by decide +kernel⟩
theorem ok_raised (F : FnP K "_law_raised" sRaised f fd) (c : Says K) (g : ∀ n ∈ names, mg n = some (.ref (He.ga K n))) (gs : mg "super" = none) : FnOk P7 w K mg base (L2.CX P7 w) 3 f fd ["_law_k", "_law_a", "_law_b"] (spRaised K) := by
  have g' : ∀ n, n ∈ names → mg n = some (.ref (He.ga K n)) := g
  refine F.ok sc_raised (fun vs H Q E h => ?_) (fun cdv A outer s H vs Q E hr h => ⟨_, 
    pss_cons (ps_if (pt_cmpR op_eq (pv 0) pe_int (nomark _)) (pss_one (ps_raise rfl (takes_of rfl rfl rfl rfl) (pmk_x (mkX_of rfl rfl (all_BadText c) (ini_BadText c) (by decide)) hr gs rfl (g' _ (by decide)) (by exact pa_cons (pv 1) pa_nil)))) pss_nil)
    (pss_cons (ps_if (pt_cmpR op_eq (pv 0) pe_int (nomark _)) (pss_one (ps_raise rfl (takes_of rfl rfl rfl rfl) (pmk_x (mkX_of rfl rfl (all_TooMany c) (ini_TooMany c) (by decide)) hr gs rfl (g' _ (by decide)) (by exact pa_cons (pe_ifExp (pt_cmpR op_eq (pv 2) pe_str (nomark _)) pe_str pe_str) pa_nil)))) pss_nil)
    (pss_cons (ps_if (pt_cmpR op_eq (pv 0) pe_int (nomark _)) (pss_one (ps_raise rfl (takes_of rfl rfl rfl rfl) (pmk_x (mkX_of rfl rfl (all_NotRun c) (ini_NotRun c) (by decide)) hr gs rfl (g' _ (by decide)) (by exact pa_cons (pv 1) pa_nil)))) pss_nil)
    (pss_cons (ps_if (pt_cmpR op_eq (pv 0) pe_int (nomark _)) (pss_one (ps_raise rfl (takes_of rfl rfl rfl rfl) (pmk_x (mkX_of rfl rfl (all_BadPick c) (ini_BadPick c) (by decide)) hr gs rfl (g' _ (by decide)) (by exact pa_cons (pv 1) pa_nil)))) pss_nil)
    (pss_cons (ps_if (pt_cmpR op_eq (pv 0) pe_int (nomark _)) (pss_one (ps_raise rfl (takes_of rfl rfl rfl rfl) (pmk_x (mkX_of rfl rfl (all_BadSpot c) (ini_BadSpot c) (by decide)) hr gs rfl (g' _ (by decide)) (by exact pa_cons (pe_tup (pa_cons (pv 1) (pa_cons pe_int pa_nil))) pa_nil)))) pss_nil)
    (pss_cons (ps_if (pt_cmpR op_eq (pv 0) pe_int (nomark _)) (pss_one (ps_raise rfl (takes_of rfl rfl rfl rfl) (pmk_x (mkX_of rfl rfl (all_BadRoom c) (ini_BadRoom c) (by decide)) hr gs rfl (g' _ (by decide)) (by exact pa_cons (pe_tup (pa_cons pe_int (pa_cons (pv 1) pa_nil))) pa_nil)))) pss_nil)
    (pss_cons (ps_if (pt_cmpR op_eq (pv 0) pe_int (nomark _)) (pss_one (ps_raise rfl (takes_of rfl rfl rfl rfl) (pmk_x (mkX_of rfl rfl (all_Dropped c) (ini_Dropped c) (by decide)) hr gs rfl (g' _ (by decide)) (by exact pa_cons (pv 1) (pa_cons pe_int pa_nil))))) pss_nil)
    (pss_cons (ps_if (pt_cmpR op_eq (pv 0) pe_int (nomark _)) (pss_one (ps_raise rfl (takes_of rfl rfl rfl rfl) (pmk_x0 (mkX_of rfl rfl (all_Unlike c) (ini_Unlike c) (by decide)) hr gs rfl (g' _ (by decide))))) pss_nil)
    (pss_cons (ps_if (pt_cmpR op_eq (pv 0) pe_int (nomark _)) (pss_one (ps_raise rfl (takes_of rfl rfl rfl rfl) (pmk_x0 (mkX_of rfl rfl (all_NoFault c) (ini_NoFault c) (by decide)) hr gs rfl (g' _ (by decide))))) pss_nil)
    (pss_cons (ps_if (pt_cmpR op_eq (pv 0) pe_int (nomark _)) (pss_one (ps_raise rfl (takes_of rfl rfl rfl rfl) (pmk_x (mkX_of rfl rfl (all_NoFunction c) (ini_NoFunction c) (by decide)) hr gs rfl (g' _ (by decide)) (by exact pa_cons (pv 2) pa_nil)))) pss_nil)
    (pss_cons (ps_if (pt_cmpR op_eq (pv 0) pe_int (nomark _)) (pss_one (ps_raise rfl (takes_of rfl rfl rfl rfl) (pmk_x (mkX_of rfl rfl (all_NoRoom c) (ini_NoRoom c) (by decide)) hr gs rfl (g' _ (by decide)) (by exact pa_cons (pv 1) pa_nil)))) pss_nil)
    (pss_cons (ps_if (pt_cmpR op_eq (pv 0) pe_int (nomark _)) (pss_one (ps_raise rfl (takes_of rfl rfl rfl rfl) (pmk_x (mkX_of rfl rfl (all_Refused c) (ini_Refused c) (by decide)) hr gs rfl (g' _ (by decide)) (by exact pa_cons (pe_tup (pa_cons pe_str (pa_cons (pv 1) pa_nil))) pa_nil)))) pss_nil)
    (pss_one (ps_raise rfl (takes_of rfl rfl rfl rfl) (pmk_x0 (mkX_of rfl rfl (all_NothingLeft c) (ini_NothingLeft c) (by decide)) hr gs rfl (g' _ (by decide)))))))))))))))), ?_⟩)
  · obtain ⟨k, a, b, rfl, _⟩ := h
    rfl
  · obtain ⟨k, a, b, rfl, hk, q⟩ := h
    have sl2 : (2 : Nat) ≤ sizeLine := by rw [sizeLine_eq]; decide
    match k, hk, q with
    | 0, _, q =>
      refine ⟨_, rfl, rfl, _, rfl, ifT rfl ⟨_, rfl, rfl, fun z => absurd z (by simp [finOf, finA]), fun d _ hd => q _ _ (ext_put hd) ⟨d, rfl, upd_same⟩⟩⟩
    | 1, _, q => exact ⟨_, rfl, rfl, _, rfl, ifF rfl ⟨_, rfl, rfl, _, rfl, ifT rfl ⟨_, rfl, rfl, _, rfl, ite2 (fun hb => ⟨rfl, fun z => absurd z (by simp [finOf, finA]), fun d _ hd => q _ _ (ext_put hd) ⟨d, rfl, by rw [upd_same, what_of (of_decide_eq_true hb)]; rfl⟩⟩) (fun hb => ⟨rfl, fun z => absurd z (by simp [finOf, finA]), fun d _ hd => q _ _ (ext_put hd) ⟨d, rfl, by rw [upd_same, what_no (fun e => hb (decide_eq_true e))]; rfl⟩⟩)⟩⟩⟩
    | 2, _, q => exact ⟨_, rfl, rfl, _, rfl, ifF rfl ⟨_, rfl, rfl, _, rfl, ifF rfl ⟨_, rfl, rfl, _, rfl, ifT rfl ⟨_, rfl, rfl, fun z => absurd z (by simp [finOf, finA]), fun d _ hd => q _ _ (ext_put hd) ⟨d, rfl, upd_same⟩⟩⟩⟩⟩
    | 3, _, q => exact ⟨_, rfl, rfl, _, rfl, ifF rfl ⟨_, rfl, rfl, _, rfl, ifF rfl ⟨_, rfl, rfl, _, rfl, ifF rfl ⟨_, rfl, rfl, _, rfl, ifT rfl ⟨_, rfl, rfl, fun z => absurd z (by simp [finOf, finA]), fun d _ hd => q _ _ (ext_put hd) ⟨d, rfl, upd_same⟩⟩⟩⟩⟩⟩
    | 4, _, q => exact ⟨_, rfl, rfl, _, rfl, ifF rfl ⟨_, rfl, rfl, _, rfl, ifF rfl ⟨_, rfl, rfl, _, rfl, ifF rfl ⟨_, rfl, rfl, _, rfl, ifF rfl ⟨_, rfl, rfl, _, rfl, ifT rfl ⟨_, rfl, sl2, fun t ht => ⟨rfl, fun z => absurd z (by simp [finOf, finA]), fun d _ hd => q _ _ ((ext_put ht).trans (ext_put hd)) ⟨d, t, rfl, upd_same, tup_at hd⟩⟩⟩⟩⟩⟩⟩⟩
    | 5, _, q => exact ⟨_, rfl, rfl, _, rfl, ifF rfl ⟨_, rfl, rfl, _, rfl, ifF rfl ⟨_, rfl, rfl, _, rfl, ifF rfl ⟨_, rfl, rfl, _, rfl, ifF rfl ⟨_, rfl, rfl, _, rfl, ifF rfl ⟨_, rfl, rfl, _, rfl, ifT rfl ⟨_, rfl, sl2, fun t ht => ⟨rfl, fun z => absurd z (by simp [finOf, finA]), fun d _ hd => q _ _ ((ext_put ht).trans (ext_put hd)) ⟨d, t, rfl, upd_same, tup_at hd⟩⟩⟩⟩⟩⟩⟩⟩⟩
    | 6, _, q => exact ⟨_, rfl, rfl, _, rfl, ifF rfl ⟨_, rfl, rfl, _, rfl, ifF rfl ⟨_, rfl, rfl, _, rfl, ifF rfl ⟨_, rfl, rfl, _, rfl, ifF rfl ⟨_, rfl, rfl, _, rfl, ifF rfl ⟨_, rfl, rfl, _, rfl, ifF rfl ⟨_, rfl, rfl, _, rfl, ifT rfl ⟨_, rfl, rfl, fun z => absurd z (by simp [finOf, finA]), fun d _ hd => q _ _ (ext_put hd) ⟨d, rfl, upd_same⟩⟩⟩⟩⟩⟩⟩⟩⟩
    | 7, _, q => exact ⟨_, rfl, rfl, _, rfl, ifF rfl ⟨_, rfl, rfl, _, rfl, ifF rfl ⟨_, rfl, rfl, _, rfl, ifF rfl ⟨_, rfl, rfl, _, rfl, ifF rfl ⟨_, rfl, rfl, _, rfl, ifF rfl ⟨_, rfl, rfl, _, rfl, ifF rfl ⟨_, rfl, rfl, _, rfl, ifF rfl ⟨_, rfl, rfl, _, rfl, ifT rfl (q _ _ (fun _ _ e => e) rfl)⟩⟩⟩⟩⟩⟩⟩⟩
    | 8, _, q => exact ⟨_, rfl, rfl, _, rfl, ifF rfl ⟨_, rfl, rfl, _, rfl, ifF rfl ⟨_, rfl, rfl, _, rfl, ifF rfl ⟨_, rfl, rfl, _, rfl, ifF rfl ⟨_, rfl, rfl, _, rfl, ifF rfl ⟨_, rfl, rfl, _, rfl, ifF rfl ⟨_, rfl, rfl, _, rfl, ifF rfl ⟨_, rfl, rfl, _, rfl, ifF rfl ⟨_, rfl, rfl, _, rfl, ifT rfl (q _ _ (fun _ _ e => e) rfl)⟩⟩⟩⟩⟩⟩⟩⟩⟩
    | 9, _, q => exact ⟨_, rfl, rfl, _, rfl, ifF rfl ⟨_, rfl, rfl, _, rfl, ifF rfl ⟨_, rfl, rfl, _, rfl, ifF rfl ⟨_, rfl, rfl, _, rfl, ifF rfl ⟨_, rfl, rfl, _, rfl, ifF rfl ⟨_, rfl, rfl, _, rfl, ifF rfl ⟨_, rfl, rfl, _, rfl, ifF rfl ⟨_, rfl, rfl, _, rfl, ifF rfl ⟨_, rfl, rfl, _, rfl, ifF rfl ⟨_, rfl, rfl, _, rfl, ifT rfl ⟨_, rfl, rfl, fun z => absurd z (by simp [finOf, finA]), fun d _ hd => q _ _ (ext_put hd) ⟨d, rfl, upd_same⟩⟩⟩⟩⟩⟩⟩⟩⟩⟩⟩⟩
    | 10, _, q => exact ⟨_, rfl, rfl, _, rfl, ifF rfl ⟨_, rfl, rfl, _, rfl, ifF rfl ⟨_, rfl, rfl, _, rfl, ifF rfl ⟨_, rfl, rfl, _, rfl, ifF rfl ⟨_, rfl, rfl, _, rfl, ifF rfl ⟨_, rfl, rfl, _, rfl, ifF rfl ⟨_, rfl, rfl, _, rfl, ifF rfl ⟨_, rfl, rfl, _, rfl, ifF rfl ⟨_, rfl, rfl, _, rfl, ifF rfl ⟨_, rfl, rfl, _, rfl, ifF rfl ⟨_, rfl, rfl, _, rfl, ifT rfl ⟨_, rfl, rfl, fun z => absurd z (by simp [finOf, finA]), fun d _ hd => q _ _ (ext_put hd) ⟨d, rfl, upd_same⟩⟩⟩⟩⟩⟩⟩⟩⟩⟩⟩⟩⟩
    | 11, _, q => exact ⟨_, rfl, rfl, _, rfl, ifF rfl ⟨_, rfl, rfl, _, rfl, ifF rfl ⟨_, rfl, rfl, _, rfl, ifF rfl ⟨_, rfl, rfl, _, rfl, ifF rfl ⟨_, rfl, rfl, _, rfl, ifF rfl ⟨_, rfl, rfl, _, rfl, ifF rfl ⟨_, rfl, rfl, _, rfl, ifF rfl ⟨_, rfl, rfl, _, rfl, ifF rfl ⟨_, rfl, rfl, _, rfl, ifF rfl ⟨_, rfl, rfl, _, rfl, ifF rfl ⟨_, rfl, rfl, _, rfl, ifF rfl ⟨_, rfl, rfl, _, rfl, ifT rfl ⟨_, rfl, sl2, fun t ht => ⟨rfl, fun z => absurd z (by simp [finOf, finA]), fun d _ hd => q _ _ ((ext_put ht).trans (ext_put hd)) ⟨d, t, rfl, upd_same, tup_at hd⟩⟩⟩⟩⟩⟩⟩⟩⟩⟩⟩⟩⟩⟩⟩
    | 12, _, q => exact ⟨_, rfl, rfl, _, rfl, ifF rfl ⟨_, rfl, rfl, _, rfl, ifF rfl ⟨_, rfl, rfl, _, rfl, ifF rfl ⟨_, rfl, rfl, _, rfl, ifF rfl ⟨_, rfl, rfl, _, rfl, ifF rfl ⟨_, rfl, rfl, _, rfl, ifF rfl ⟨_, rfl, rfl, _, rfl, ifF rfl ⟨_, rfl, rfl, _, rfl, ifF rfl ⟨_, rfl, rfl, _, rfl, ifF rfl ⟨_, rfl, rfl, _, rfl, ifF rfl ⟨_, rfl, rfl, _, rfl, ifF rfl ⟨_, rfl, rfl, _, rfl, ifF rfl (q _ _ (fun _ _ e => e) rfl)⟩⟩⟩⟩⟩⟩⟩⟩⟩⟩⟩⟩
    | n + 13, h, _ => omega
end
end K7H
set_option Elab.async false
set_option linter.all false
set_option maxRecDepth 100000
set_option maxHeartbeats 4000000
/-! k07, part P: a def called in the suite that holds an error: the error is pinned -/
namespace L2
open PySem PySem.Spec PyProof.Rows L2H
abbrev EF : XK := fun _ _ _ => False
/-- the promise of a def while p stands -/
structure FnPin (P : Program) (w : World) (K : PySem.W.Frag) (mg : Str → Option Value) (base : Heap) (k : Nat) (f : Addr) (fd : FuncData) (ps : List Str) (p : Addr × Obj) (sp : Sp) : Prop where
  len : ∀ vs H Q E, sp vs H Q E → vs.length = ps.length
  run : ∀ (A : Around) (outer : List Env) (s : Shared) (H : Hp) (args : Args) (us : List Value) (vs : List V) (Q : VK), RoomH k A → PinOk outer H s p → Env0 P w K mg base A outer s H →
    BindsTo s fd args (ps.zip us) → Vals vs us → sp vs H Q EF → codeAny (model P w) A (.call (.ref f) args) (CR CX0 outer P w H s Q EF) s
section
variable {P : Program} {w : World} {K : PySem.W.Frag} {mg : Str → Option Value} {base : Heap} {k : Nat} {f : Addr} {fd : FuncData} {x qual : Str} {params : Arguments} {body : List Stmt} {scope : Scope} {N ps : List Str} {p : Addr × Obj} {sp : Sp}
theorem pin_of (F : FunD K x qual params body scope [] [] f fd) (S : FnScope N ps scope) (len : ∀ vs H Q E, sp vs H Q E → vs.length = ps.length)
    (hbody : ∀ (cdv : Value) (A : Around) (outer : List Env) (s : Shared) (H : Hp) (vs : List V) (Q : VK), RoomH k (A.deeper (envOfC qual scope s.heap.objs.size f cdv)) → sp vs H Q EF →
      ∃ t, PSs (cxH CX0 P w K mg base N qual scope f cdv A outer s H EF p) body t ∧ t { nx := fun _ H' => Q .non H', rt := Q } (start N vs) H) :
    FnPin P w K mg base (k + 1) f fd ps p sp := by
  obtain ⟨oc, od, dV, kV, doc, pm, an, cdv, ct, osl, rfl, lk, hcd, _, _⟩ := F.ex
  constructor
  · exact len
  intro A outer s H args us vs Q hr hpin e0 hb r hsp
  have KX : K.In s.heap := e0.mod.kin.keeps fun b o e => (e0.bs b o e).1
  have lim : s.heap.NoLimit := e0.mod.nolimit.keeps fun b o e => (e0.bs b o e).1
  have pk : ∀ y ∈ ps.zip us, scope.names.lookup y.1 = some .local ∨
      (scope.names.lookup y.1 = some .cell ∧ ((cellsFrom (s.heap.objs.size + 1) scope.names []).lookup y.1).isSome = true) := by
    rintro ⟨n, v⟩ hy
    cases S.par n (List.of_mem_zip hy).1 with
    | inl q => exact Or.inl q
    | inr q => exact Or.inr ⟨q, PySem.W.cellsFrom_some _ _ _ (Or.inl q)⟩
  obtain ⟨t, ht, hq⟩ := hbody cdv A outer s H vs Q (hr.deeper _) hsp
  apply codeAny_call_function hr.depth (KX _ _ lk) rfl S.co S.gen rfl (PySem.W.codeRec_of KX hcd)
  apply hb
  apply wpAny_newFunctionEnv_cells S.kind pk
  intro env he s1 x
  subst he
  refine ⟨lim.keeps x.toInCall.keep, codeAny_func (wpAny_mono (ht.run [] s1 _ H _ (inv_startH S hpin e0 (len _ _ _ _ hsp) r x) hq) ?_ fun e s' hs => hs)⟩
  intro fl s' hs
  cases fl with
  | next =>
    obtain ⟨σ', H', J, q⟩ := hs
    exact ⟨V.non, H', J.os, J.bare, J.base, J.hok, rfl, q⟩
  | ret u =>
    obtain ⟨v, σ', H', J, rv, q⟩ := hs
    exact ⟨v, H', J.os, J.bare, J.base, J.hok, rv, q⟩
  | brk =>
    obtain ⟨_, _, _, q⟩ := hs
    exact q.elim
  | cont =>
    obtain ⟨_, _, _, q⟩ := hs
    exact q.elim
end
section
variable {X : Cx} {k : Nat} {f : Addr} {fd : FuncData} {ps : List Str} {sp : Sp} {x : Str} {q pos : Pos} {e : Expr} {es : List Expr} {t : TA} {p : Addr × Obj}
theorem pe_callP (hp : p ∈ X.pn) (F : FnPin X.prog X.w X.K X.mg X.base k f fd ps p sp) (hr : RoomH k X.A) (hg : Gl X x) (hm : X.mg x = some (.ref f)) (hk : PySem.W.keepIn X.K (.ref f) = true) (hb : Binds X.K fd ps [])
    (ht : PA X (e :: es) t) (hdb : (x == ("__debug__" : Str)) = false := by decide) (he : starEach (e :: es) X.env = (false, eval e X.env) :: starEach es X.env := by rfl) (hpl : (backTo pos (starEach es X.env)).any (·.1) = false := by rfl) :
    PE X (.Call (.Name x q) (e :: es) [] pos) (tCall sp [] EF t) := by
  constructor
  intro pins s σ H Q I h
  refine wpAny_Call_Name_kw (ld_glob I hg hm ?_ hdb)
  refine PySem.W.callWith_K (h₀ := X.base) I.ok.mod.kin hk (thn (ht.run pos pins s σ H _ I h) ?_) he hpl
  rintro us s1 ⟨vs, H1, I1, r, q'⟩
  rw [List.append_nil] at q'
  refine ⟨I1.kIn, ?_⟩
  have hl : us.length = ps.length := (r.length).symm.trans (F.len _ _ _ _ q')
  have b := hb s1 us I1.kIn (by rw [List.append_nil]; exact hl)
  rw [List.append_nil] at b
  obtain ⟨p1, p2, p3, p4, p5⟩ := I1.pin p (List.mem_append_left _ hp)
  have hpin : PinOk X.stack H1 s1 p := ⟨p1, p2, fun z => (List.mem_cons.mp (I1.stkSub p.1 z)).elim p3 p4, p5⟩
  refine wpAny_call (codeAny_mono (F.run X.A X.stack s1 H1 ⟨us, []⟩ us vs Q hr hpin I1.env0 b r q') ?_)
  intro fl s' hq
  match fl, hq with
  | .ok (.ret u), hq => exact I1.after hq
/-- e.f, e the pinned error -/
def tXfP (K : PySem.W.Frag) (a C : Addr) (d : Option Addr) (f : Str) (te : TE) : TE := fun σ H Q => te σ H fun x H1 => ∃ (dd : Addr) (fs : List (Str × V)) (v : V), x = .ref a ∧ d = some dd ∧ XfC K C ∧ PySem.W.findIn K (.ref C) f = some none ∧ H1 dd = some (.xd fs) ∧ fs.lookup f = some v ∧ Q v H1
theorem pe_xfP {a C : Addr} {d : Option Addr} {oe : Obj} {e : Expr} {te : TE} {pos : Pos} {n : Str} (hpn : (a, oe) ∈ X.pn) (hz : Zc (.ref C) d oe) (hf : ∃ vs, oe.data = .fields vs) (he : PE X e te) (hb : attributeBase e n X.env (eval e X.env) = eval e X.env := by rfl) :
    PE X (.Attribute e n pos) (tXfP X.K a C d n te) := by
  refine ⟨fun pins s σ H Q I h => ?_⟩
  refine attr_of hb (thn (he.run pins s σ H _ I h) fun u s1 hh => ?_)
  obtain ⟨x, H1, I1, rx, dd, fs, v, ex, ed, T, hno, ea, l, q⟩ := hh
  subst ex ed
  obtain rfl : u = Value.ref a := rx
  obtain ⟨ha, _⟩ := I1.pin (a, oe) (List.mem_append_left _ hpn)
  obtain ⟨vs, hd⟩ := hf
  have hx : ObjOk X.prog X.w H1 s1.heap dd (.xd fs) := I1.hok dd _ ea
  obtain ⟨mA, hns, hr⟩ := hx
  obtain ⟨od, ho, hl⟩ := lookIn_ns hns
  obtain ⟨u, hu, ru⟩ := RelO.some_of (v := v) (o := mA n) (by rw [← l]; exact hr n)
  have J : PySem.W.InstAt s1.heap a oe C (some od) := ⟨ha, hz.1, by unfold PySem.W.notCls; rw [hd] <;> rfl, by rw [hz.2]; exact ho⟩
  exact HandSPX.exc_get I1.kIn J T.ga T.gg T.exC (PySem.W.findObj_own T.hdC hno rfl (by rw [hl, hu])) (handed_of ru) ⟨v, H1, I1.tok _, ru, q⟩
end
end L2
set_option Elab.async false
set_option linter.all false
set_option maxRecDepth 100000
set_option maxHeartbeats 4000000
/-! k07, part Q: of which classes an error is -/
namespace K7H
open PySem PySem.Spec PyProof.Rows L2 K7 L2H
def DAt (d : Option Addr) (H : Hp) : Prop := ∀ dx, d = some dx → ∃ fs, H dx = some (.xd fs)
def spKinds (K : PySem.W.Frag) (a : Addr) (cls : Value) (d : Option Addr) : Sp := fun vs H Q _ => ∃ (C : Addr) (b : Str → Bool), cls = .ref C ∧ vs = [.ref a] ∧ DAt d H ∧ ExcC K C ∧ (∀ n ∈ names, PySem.W.kitOne K (.ref C) (.ref (He.ga K n)) = some (b n)) ∧
  ∀ H' l, Ext H H' → H l = none → H' l = some (.lst (names.map fun n => .bl (b n))) → Q (.ref l) H'
def tIs (K : PySem.W.Frag) (a C : Addr) (d : Option Addr) (n : Str) : TE := tCB (rIsP K a C d) (tCons (tVar 0) (tCons (tC (.ref (He.ga K n))) tNil))
def tIss (K : PySem.W.Frag) (a C : Addr) (d : Option Addr) : List Str → TA
  | [] => tNil
  | n :: r => tCons (tIs K a C d n) (tIss K a C d r)
def t_kinds (K : PySem.W.Frag) (a C : Addr) (d : Option Addr) : TS := tSeq (tAsg (tLst (tIss K a C d ["BadText", "TooMany", "NotRun", "BadPick"])) (gName 1)) (tSeq (tAsg (tOp rCat (tVar 1) (tLst (tIss K a C d ["BadSpot", "BadRoom", "Dropped"]))) (gName 1))
  (tSeq (tAsg (tOp rCat (tVar 1) (tLst (tIss K a C d ["Unlike", "NoFault", "NoFunction"]))) (gName 1)) (tRet (tOp rCat (tVar 1) (tLst (tIss K a C d ["NoRoom", "Refused", "NothingLeft"]))))))
theorem DAt.laid {H : Hp} {d : Option Addr} {p : Addr} {o : HO} (Z : DAt d H) (n : H p = none) : DAt d (upd H p o) := fun dx e => by
  obtain ⟨fs, h⟩ := Z dx e
  exact ⟨fs, by rw [upd_ne (ne_of_none h n)]; exact h⟩
section
variable {P : Program} {w : World} {K : PySem.W.Frag} {mg : Str → Option Value} {base : Heap} {f : Addr} {fd : FuncData}
theorem iss {a C : Addr} {d : Option Addr} {b : Str → Bool} {σ : L2.St} {H : Hp} : ∀ (ns : List Str), (∀ n ∈ ns, PySem.W.kitOne K (.ref C) (.ref (He.ga K n)) = some (b n)) → σ[0]? = some (some (V.ref a)) → DAt d H →
    ∀ {Q : List V → Hp → Prop}, Q (ns.map fun n => .bl (b n)) H → tIss K a C d ns σ H Q
  | [], _, _, _, _, q => q
  | n :: ns, hk, h0, Z, Q, q => by
    refine ⟨_, h0, .ref (He.ga K n), .ref (He.ga K n), b n, rfl, Z, fun u r => r, hk n List.mem_cons_self, ?_⟩
    exact iss ns (fun m hm => hk m (List.mem_cons_of_mem _ hm)) h0 Z q
def l4 : List Str := ["BadText", "TooMany", "NotRun", "BadPick"]
def l3 : List Str := ["BadSpot", "BadRoom", "Dropped"]
def m3 : List Str := ["Unlike", "NoFault", "NoFunction"]
theorem pin_kinds (F : FnP K "_law_kinds" sKinds f fd) (g : ∀ n ∈ names, mg n = some (.ref (He.ga K n))) (gi : mg "isinstance" = none) {a : Addr} {oe : Obj} {cls : Value} {d : Option Addr} (hz : Zc cls d oe) (hf : ∃ vs, oe.data = .fields vs) :
    FnPin P w K mg base 1 f fd ["_law_e"] (a, oe) (spKinds K a cls d) := by
  have g' : ∀ n, n ∈ names → mg n = some (.ref (He.ga K n)) := g
  refine pin_of F sc_kinds (fun vs H Q E h => ?_) (fun cdv A outer s H vs Q hr h => ?_)
  · obtain ⟨C, b, _, rfl, _⟩ := h
    rfl
  obtain ⟨C, b, rfl, rfl, Z, T, hk, q⟩ := h
  have cis : CallR (cxH CX0 P w K mg base ["_law_e", "_law_found"] "_law_kinds" (defScope sKinds) f cdv A outer s H EF (a, oe)) (.builtin "isinstance") (rIsP K a C d) := call_isP (oe := oe) List.mem_cons_self T hz hf
  refine ⟨t_kinds K a C d, pss_cons (ps_set (i := 1) sc_kinds.nd rfl (Or.inl rfl) (pe_lst (pa_cons (pe_callB cis rfl gi PyProof.Rows.boot_isinstance (pa_cons (pv 0) (pa_cons (pe_glob rfl (g' _ (by decide)) rfl) pa_nil))) (pa_cons (pe_callB cis rfl gi PyProof.Rows.boot_isinstance (pa_cons (pv 0) (pa_cons (pe_glob rfl (g' _ (by decide)) rfl) pa_nil))) (pa_cons (pe_callB cis rfl gi PyProof.Rows.boot_isinstance (pa_cons (pv 0) (pa_cons (pe_glob rfl (g' _ (by decide)) rfl) pa_nil))) (pa_cons (pe_callB cis rfl gi PyProof.Rows.boot_isinstance (pa_cons (pv 0) (pa_cons (pe_glob rfl (g' _ (by decide)) rfl) pa_nil))) pa_nil)))))) (pss_cons (ps_set (i := 1) sc_kinds.nd rfl (Or.inl rfl) (pe_op op_cat (pv 1) (pe_lst (pa_cons (pe_callB cis rfl gi PyProof.Rows.boot_isinstance (pa_cons (pv 0) (pa_cons (pe_glob rfl (g' _ (by decide)) rfl) pa_nil))) (pa_cons (pe_callB cis rfl gi PyProof.Rows.boot_isinstance (pa_cons (pv 0) (pa_cons (pe_glob rfl (g' _ (by decide)) rfl) pa_nil))) (pa_cons (pe_callB cis rfl gi PyProof.Rows.boot_isinstance (pa_cons (pv 0) (pa_cons (pe_glob rfl (g' _ (by decide)) rfl) pa_nil))) pa_nil)))))) (pss_cons (ps_set (i := 1) sc_kinds.nd rfl (Or.inl rfl) (pe_op op_cat (pv 1) (pe_lst (pa_cons (pe_callB cis rfl gi PyProof.Rows.boot_isinstance (pa_cons (pv 0) (pa_cons (pe_glob rfl (g' _ (by decide)) rfl) pa_nil))) (pa_cons (pe_callB cis rfl gi PyProof.Rows.boot_isinstance (pa_cons (pv 0) (pa_cons (pe_glob rfl (g' _ (by decide)) rfl) pa_nil))) (pa_cons (pe_callB cis rfl gi PyProof.Rows.boot_isinstance (pa_cons (pv 0) (pa_cons (pe_glob rfl (g' _ (by decide)) rfl) pa_nil))) pa_nil)))))) (pss_one (ps_ret (pe_op op_cat (pv 1) (pe_lst (pa_cons (pe_callB cis rfl gi PyProof.Rows.boot_isinstance (pa_cons (pv 0) (pa_cons (pe_glob rfl (g' _ (by decide)) rfl) pa_nil))) (pa_cons (pe_callB cis rfl gi PyProof.Rows.boot_isinstance (pa_cons (pv 0) (pa_cons (pe_glob rfl (g' _ (by decide)) rfl) pa_nil))) (pa_cons (pe_callB cis rfl gi PyProof.Rows.boot_isinstance (pa_cons (pv 0) (pa_cons (pe_glob rfl (g' _ (by decide)) rfl) pa_nil))) pa_nil))))))))), ?_⟩
  have k : ∀ ns : List Str, (∀ n ∈ ns, n ∈ names) → ∀ n ∈ ns, PySem.W.kitOne K (.ref C) (.ref (He.ga K n)) = some (b n) := fun ns h n hn => hk n (h n hn)
  have ne : ∀ {G : Hp} {x y : Addr} {o : HO}, upd G x o y = none → x ≠ y := fun {G x y o} n z => by
    rw [z, upd_same] at n
    cases n
  have up : ∀ {G : Hp} {x y : Addr} {o : HO}, upd G x o y = none → G y = none := fun {G x y o} n => by
    have h := ne n
    rw [upd_ne (Ne.symm h)] at n
    exact n
  refine iss (a := a) (b := b) _ (k _ (by decide)) rfl Z ⟨by rw [sizeLine_eq]; exact (by decide : 4 ≤ 16777216), fun p1 n1 => ?_⟩
  have Z1 := DAt.laid (o := .lst (l4.map fun n => V.bl (b n))) Z n1
  refine ⟨_, rfl, iss (a := a) (b := b) _ (k _ (by decide)) rfl Z1 ⟨by rw [sizeLine_eq]; exact (by decide : 3 ≤ 16777216), fun p2 n2 => ?_⟩⟩
  refine ⟨p1, p2, _, _, rfl, rfl, by rw [upd_ne (ne n2)]; exact upd_same, upd_same, by rw [sizeLine_eq]; exact (by decide : 7 ≤ 16777216), fun p3 n3 => ?_⟩
  have Z3 := DAt.laid (o := .lst ((l4.map fun n => V.bl (b n)) ++ (l3.map fun n => V.bl (b n)))) (DAt.laid (o := .lst (l3.map fun n => V.bl (b n))) Z1 n2) n3
  refine ⟨_, rfl, iss (a := a) (b := b) _ (k _ (by decide)) rfl Z3 ⟨by rw [sizeLine_eq]; exact (by decide : 3 ≤ 16777216), fun p4 n4 => ?_⟩⟩
  refine ⟨p3, p4, _, _, rfl, rfl, by rw [upd_ne (ne n4)]; exact upd_same, upd_same, by rw [sizeLine_eq]; exact (by decide : 10 ≤ 16777216), fun p5 n5 => ?_⟩
  have Z5 := DAt.laid (o := .lst (((l4.map fun n => V.bl (b n)) ++ (l3.map fun n => V.bl (b n))) ++ (m3.map fun n => V.bl (b n)))) (DAt.laid (o := .lst (m3.map fun n => V.bl (b n))) Z3 n4) n5
  refine ⟨_, rfl, iss (a := a) (b := b) _ (k _ (by decide)) rfl Z5 ⟨by rw [sizeLine_eq]; exact (by decide : 3 ≤ 16777216), fun p6 n6 => ?_⟩⟩
  refine ⟨p5, p6, _, _, rfl, rfl, by rw [upd_ne (ne n6)]; exact upd_same, upd_same, by rw [sizeLine_eq]; exact (by decide : 13 ≤ 16777216), fun p7 n7 => ?_⟩
  refine q _ p7 (fun x o hx => ?_) (up (up (up (up (up (up n7)))))) upd_same
  have nn : ∀ {G : Hp} {y : Addr} {o' : HO}, G x = some o → G y = none → upd G y o' x = some o := fun {G y o'} e n => by rw [upd_ne (ne_of_none e n)]; exact e
  exact nn (nn (nn (nn (nn (nn (nn hx n1) n2) n3) n4) n5) n6) n7
end
end K7H
set_option Elab.async false
set_option linter.all false
set_option maxRecDepth 100000
set_option maxHeartbeats 4000000
/-! k07, part R: the fields of an error -/
namespace K7H
open PySem PySem.Spec PyProof.Rows L2 K7 L2H
/-- what the fields are to be -/
def due (k : Nat) (a : Int) (b : Str) : List PyData := match k with
  | 0 => [.int a]
  | 1 => [.str (what b)]
  | 2 => [.int a]
  | 3 => [.int a]
  | 4 => [.tuple [.int a, .int 3]]
  | 5 => [.tuple [.int 3, .int a]]
  | 6 => [.int a, .int 7]
  | 9 => [.str b]
  | 10 => [.int a]
  | 11 => [.tuple [.str "peak", .int a]]
  | _ => []
theorem ext_id {H : Hp} : Ext H H := fun _ _ e => e
theorem Ext.none {H G : Hp} {l : Addr} (e : Ext H G) (h : G l = .none) : H l = .none := by
  cases z : H l with
  | none => rfl
  | some o =>
    have := e _ _ z
    rw [h] at this
    cases this
def spFields (K : PySem.W.Frag) (a : Addr) (cls : Value) (d : Option Addr) : Sp := fun vs H Q _ => ∃ (k : Nat) (av : Int) (b : Str), cls = .ref (He.ga K (nm k)) ∧ vs = [.int (k : Int), .ref a] ∧ k < 13 ∧ DictOk k av b d H ∧
  ∀ H' l, Ext H H' → H l = none → Dp K H' (.ref l) (.list (due k av b)) → Q (.ref l) H'
section
variable {P : Program} {w : World} {K : PySem.W.Frag} {mg : Str → Option Value} {base : Heap} {f : Addr} {fd : FuncData}
abbrev sFields : Stmt := top 21
theorem sc_fields : FnScope ["_law_k", "_law_e"] ["_law_k", "_law_e"] (defScope sFields) := ⟨rfl, rfl, rfl, by decide +kernel, rfl, by decide +kernel, by decide +kernel⟩
theorem pin_fields (F : FnP K "_law_fields" sFields f fd) (c : Says K) {a : Addr} {oe : Obj} {cls : Value} {d : Option Addr} (hz : Zc cls d oe) (hf : ∃ vs, oe.data = .fields vs) : FnPin P w K mg base 1 f fd ["_law_k", "_law_e"] (a, oe) (spFields K a cls d) := by
  refine pin_of F sc_fields (fun vs H Q E h => ?_) (fun cdv A outer s H vs Q hr h => ?_)
  · obtain ⟨k, av, b, _, rfl, _⟩ := h
    rfl
  · obtain ⟨k, av, b, rfl, rfl, hk, D, q⟩ := h
    have m : (a, oe) ∈ (cxH CX0 P w K mg base ["_law_k", "_law_e"] "_law_fields" (defScope sFields) f cdv A outer s H EF (a, oe)).pn := List.mem_cons_self
    refine ⟨_, 
    pss_cons (ps_if (pt_cmpR op_in_seq (pv 0) (pe_lst (pa_cons pe_int (pa_cons pe_int pa_nil))) rfl) (pss_one (ps_ret (pe_lst (pa_cons (pe_xfP m hz hf (pv 1)) pa_nil)))) pss_nil)
    (pss_cons (ps_if (pt_cmpR op_in_seq (pv 0) (pe_lst (pa_cons pe_int (pa_cons pe_int pa_nil))) rfl) (pss_one (ps_ret (pe_lst (pa_cons (pe_xfP m hz hf (pv 1)) pa_nil)))) pss_nil)
    (pss_cons (ps_if (pt_cmpR op_in_seq (pv 0) (pe_lst (pa_cons pe_int (pa_cons pe_int pa_nil))) rfl) (pss_one (ps_ret (pe_lst (pa_cons (pe_xfP m hz hf (pv 1)) pa_nil)))) pss_nil)
    (pss_cons (ps_if (pt_cmpR op_eq (pv 0) pe_int (nomark _)) (pss_one (ps_ret (pe_lst (pa_cons (pe_xfP m hz hf (pv 1)) pa_nil)))) pss_nil)
    (pss_cons (ps_if (pt_cmpR op_eq (pv 0) pe_int (nomark _)) (pss_one (ps_ret (pe_lst (pa_cons (pe_xfP m hz hf (pv 1)) (pa_cons (pe_xfP m hz hf (pv 1)) pa_nil))))) pss_nil)
    (pss_cons (ps_if (pt_cmpR op_eq (pv 0) pe_int (nomark _)) (pss_one (ps_ret (pe_lst (pa_cons (pe_xfP m hz hf (pv 1)) pa_nil)))) pss_nil)
    (pss_one (ps_ret (pe_ifExp (pt_cmpR op_eq (pv 0) pe_int (nomark _)) (pe_lst (pa_cons (pe_xfP m hz hf (pv 1)) pa_nil)) (pe_lst pa_nil))))))))), ?_⟩
    have sl0 : (0 : Nat) ≤ sizeLine := Nat.zero_le _
    have sl1 : (1 : Nat) ≤ sizeLine := by rw [sizeLine_eq]; decide
    have sl2 : (2 : Nat) ≤ sizeLine := by rw [sizeLine_eq]; decide
    match k, hk, D, q with
    | 0, _, D, q =>
      obtain ⟨dd, rfl, hdd⟩ := D
      exact ⟨_, rfl, sl2, fun p1 n1 => ⟨p1, _, rfl, .inl (SqL.of upd_same), rfl, rfl, _, rfl, ifT rfl ⟨_, rfl, dd, _, _, rfl, rfl, (all_BadText c).xf, (all_BadText c).no _ (List.mem_cons_self), ((Ext.trans ext_id (ext_put n1))) _ _ hdd, rfl, sl1, fun l hl => q _ l (Ext.trans (Ext.trans ext_id (ext_put n1)) (ext_put hl)) (Ext.none (Ext.trans ext_id (ext_put n1)) hl) (.lst (SqL.of upd_same) (.cons (.int _) .nil))⟩⟩⟩
    | 1, _, D, q =>
      obtain ⟨dd, rfl, hdd⟩ := D
      exact ⟨_, rfl, sl2, fun p1 n1 => ⟨p1, _, rfl, .inl (SqL.of upd_same), rfl, rfl, _, rfl, ifF rfl ⟨_, rfl, sl2, fun p2 n2 => ⟨p2, _, rfl, .inl (SqL.of upd_same), rfl, rfl, _, rfl, ifF rfl ⟨_, rfl, sl2, fun p3 n3 => ⟨p3, _, rfl, .inl (SqL.of upd_same), rfl, rfl, _, rfl, ifF rfl ⟨_, rfl, rfl, _, rfl, ifT rfl ⟨_, rfl, dd, _, _, rfl, rfl, (all_TooMany c).xf, (all_TooMany c).no _ (List.mem_cons_self), ((Ext.trans (Ext.trans (Ext.trans ext_id (ext_put n1)) (ext_put n2)) (ext_put n3))) _ _ hdd, rfl, sl1, fun l hl => q _ l (Ext.trans (Ext.trans (Ext.trans (Ext.trans ext_id (ext_put n1)) (ext_put n2)) (ext_put n3)) (ext_put hl)) (Ext.none (Ext.trans (Ext.trans (Ext.trans ext_id (ext_put n1)) (ext_put n2)) (ext_put n3)) hl) (.lst (SqL.of upd_same) (.cons (.str _) .nil))⟩⟩⟩⟩⟩⟩⟩⟩
    | 2, _, D, q =>
      obtain ⟨dd, rfl, hdd⟩ := D
      exact ⟨_, rfl, sl2, fun p1 n1 => ⟨p1, _, rfl, .inl (SqL.of upd_same), rfl, rfl, _, rfl, ifF rfl ⟨_, rfl, sl2, fun p2 n2 => ⟨p2, _, rfl, .inl (SqL.of upd_same), rfl, rfl, _, rfl, ifT rfl ⟨_, rfl, dd, _, _, rfl, rfl, (all_NotRun c).xf, (all_NotRun c).no _ (List.mem_cons_self), ((Ext.trans (Ext.trans ext_id (ext_put n1)) (ext_put n2))) _ _ hdd, rfl, sl1, fun l hl => q _ l (Ext.trans (Ext.trans (Ext.trans ext_id (ext_put n1)) (ext_put n2)) (ext_put hl)) (Ext.none (Ext.trans (Ext.trans ext_id (ext_put n1)) (ext_put n2)) hl) (.lst (SqL.of upd_same) (.cons (.int _) .nil))⟩⟩⟩⟩⟩
    | 3, _, D, q =>
      obtain ⟨dd, rfl, hdd⟩ := D
      exact ⟨_, rfl, sl2, fun p1 n1 => ⟨p1, _, rfl, .inl (SqL.of upd_same), rfl, rfl, _, rfl, ifF rfl ⟨_, rfl, sl2, fun p2 n2 => ⟨p2, _, rfl, .inl (SqL.of upd_same), rfl, rfl, _, rfl, ifT rfl ⟨_, rfl, dd, _, _, rfl, rfl, (all_BadPick c).xf, (all_BadPick c).no _ (List.mem_cons_self), ((Ext.trans (Ext.trans ext_id (ext_put n1)) (ext_put n2))) _ _ hdd, rfl, sl1, fun l hl => q _ l (Ext.trans (Ext.trans (Ext.trans ext_id (ext_put n1)) (ext_put n2)) (ext_put hl)) (Ext.none (Ext.trans (Ext.trans ext_id (ext_put n1)) (ext_put n2)) hl) (.lst (SqL.of upd_same) (.cons (.int _) .nil))⟩⟩⟩⟩⟩
    | 4, _, D, q =>
      obtain ⟨dd, t, rfl, hdd, ht⟩ := D
      exact ⟨_, rfl, sl2, fun p1 n1 => ⟨p1, _, rfl, .inl (SqL.of upd_same), rfl, rfl, _, rfl, ifF rfl ⟨_, rfl, sl2, fun p2 n2 => ⟨p2, _, rfl, .inl (SqL.of upd_same), rfl, rfl, _, rfl, ifF rfl ⟨_, rfl, sl2, fun p3 n3 => ⟨p3, _, rfl, .inl (SqL.of upd_same), rfl, rfl, _, rfl, ifT rfl ⟨_, rfl, dd, _, _, rfl, rfl, (all_BadSpot c).xf, (all_BadSpot c).no _ (List.mem_cons_self), ((Ext.trans (Ext.trans (Ext.trans ext_id (ext_put n1)) (ext_put n2)) (ext_put n3))) _ _ hdd, rfl, sl1, fun l hl => q _ l (Ext.trans (Ext.trans (Ext.trans (Ext.trans ext_id (ext_put n1)) (ext_put n2)) (ext_put n3)) (ext_put hl)) (Ext.none (Ext.trans (Ext.trans (Ext.trans ext_id (ext_put n1)) (ext_put n2)) (ext_put n3)) hl) (.lst (SqL.of upd_same) (.cons (.tup (SqT.of (ext_put hl _ _ (((Ext.trans (Ext.trans (Ext.trans ext_id (ext_put n1)) (ext_put n2)) (ext_put n3))) _ _ ht))) (.cons (.int _) (.cons (.int _) .nil))) .nil))⟩⟩⟩⟩⟩⟩⟩
    | 5, _, D, q =>
      obtain ⟨dd, t, rfl, hdd, ht⟩ := D
      exact ⟨_, rfl, sl2, fun p1 n1 => ⟨p1, _, rfl, .inl (SqL.of upd_same), rfl, rfl, _, rfl, ifF rfl ⟨_, rfl, sl2, fun p2 n2 => ⟨p2, _, rfl, .inl (SqL.of upd_same), rfl, rfl, _, rfl, ifF rfl ⟨_, rfl, sl2, fun p3 n3 => ⟨p3, _, rfl, .inl (SqL.of upd_same), rfl, rfl, _, rfl, ifT rfl ⟨_, rfl, dd, _, _, rfl, rfl, (all_BadRoom c).xf, (all_BadRoom c).no _ (List.mem_cons_self), ((Ext.trans (Ext.trans (Ext.trans ext_id (ext_put n1)) (ext_put n2)) (ext_put n3))) _ _ hdd, rfl, sl1, fun l hl => q _ l (Ext.trans (Ext.trans (Ext.trans (Ext.trans ext_id (ext_put n1)) (ext_put n2)) (ext_put n3)) (ext_put hl)) (Ext.none (Ext.trans (Ext.trans (Ext.trans ext_id (ext_put n1)) (ext_put n2)) (ext_put n3)) hl) (.lst (SqL.of upd_same) (.cons (.tup (SqT.of (ext_put hl _ _ (((Ext.trans (Ext.trans (Ext.trans ext_id (ext_put n1)) (ext_put n2)) (ext_put n3))) _ _ ht))) (.cons (.int _) (.cons (.int _) .nil))) .nil))⟩⟩⟩⟩⟩⟩⟩
    | 6, _, D, q =>
      obtain ⟨dd, rfl, hdd⟩ := D
      exact ⟨_, rfl, sl2, fun p1 n1 => ⟨p1, _, rfl, .inl (SqL.of upd_same), rfl, rfl, _, rfl, ifF rfl ⟨_, rfl, sl2, fun p2 n2 => ⟨p2, _, rfl, .inl (SqL.of upd_same), rfl, rfl, _, rfl, ifF rfl ⟨_, rfl, sl2, fun p3 n3 => ⟨p3, _, rfl, .inl (SqL.of upd_same), rfl, rfl, _, rfl, ifF rfl ⟨_, rfl, rfl, _, rfl, ifF rfl ⟨_, rfl, rfl, _, rfl, ifT rfl ⟨_, rfl, dd, _, _, rfl, rfl, (all_Dropped c).xf, (all_Dropped c).no _ (List.mem_cons_self), ((Ext.trans (Ext.trans (Ext.trans ext_id (ext_put n1)) (ext_put n2)) (ext_put n3))) _ _ hdd, rfl, _, rfl, dd, _, _, rfl, rfl, (all_Dropped c).xf, (all_Dropped c).no _ (List.mem_cons_of_mem _ List.mem_cons_self), ((Ext.trans (Ext.trans (Ext.trans ext_id (ext_put n1)) (ext_put n2)) (ext_put n3))) _ _ hdd, rfl, sl2, fun l hl => q _ l (Ext.trans (Ext.trans (Ext.trans (Ext.trans ext_id (ext_put n1)) (ext_put n2)) (ext_put n3)) (ext_put hl)) (Ext.none (Ext.trans (Ext.trans (Ext.trans ext_id (ext_put n1)) (ext_put n2)) (ext_put n3)) hl) (.lst (SqL.of upd_same) (.cons (.int _) (.cons (.int _) .nil)))⟩⟩⟩⟩⟩⟩⟩⟩⟩
    | 7, _, D, q =>
      cases D
      exact ⟨_, rfl, sl2, fun p1 n1 => ⟨p1, _, rfl, .inl (SqL.of upd_same), rfl, rfl, _, rfl, ifF rfl ⟨_, rfl, sl2, fun p2 n2 => ⟨p2, _, rfl, .inl (SqL.of upd_same), rfl, rfl, _, rfl, ifF rfl ⟨_, rfl, sl2, fun p3 n3 => ⟨p3, _, rfl, .inl (SqL.of upd_same), rfl, rfl, _, rfl, ifF rfl ⟨_, rfl, rfl, _, rfl, ifF rfl ⟨_, rfl, rfl, _, rfl, ifF rfl ⟨_, rfl, rfl, _, rfl, ifF rfl ⟨_, rfl, rfl, _, rfl, ifF rfl ⟨sl0, fun l hl => q _ l (Ext.trans (Ext.trans (Ext.trans (Ext.trans ext_id (ext_put n1)) (ext_put n2)) (ext_put n3)) (ext_put hl)) (Ext.none (Ext.trans (Ext.trans (Ext.trans ext_id (ext_put n1)) (ext_put n2)) (ext_put n3)) hl) (.lst (SqL.of upd_same) .nil)⟩⟩⟩⟩⟩⟩⟩⟩⟩⟩⟩
    | 8, _, D, q =>
      cases D
      exact ⟨_, rfl, sl2, fun p1 n1 => ⟨p1, _, rfl, .inl (SqL.of upd_same), rfl, rfl, _, rfl, ifF rfl ⟨_, rfl, sl2, fun p2 n2 => ⟨p2, _, rfl, .inl (SqL.of upd_same), rfl, rfl, _, rfl, ifF rfl ⟨_, rfl, sl2, fun p3 n3 => ⟨p3, _, rfl, .inl (SqL.of upd_same), rfl, rfl, _, rfl, ifF rfl ⟨_, rfl, rfl, _, rfl, ifF rfl ⟨_, rfl, rfl, _, rfl, ifF rfl ⟨_, rfl, rfl, _, rfl, ifF rfl ⟨_, rfl, rfl, _, rfl, ifF rfl ⟨sl0, fun l hl => q _ l (Ext.trans (Ext.trans (Ext.trans (Ext.trans ext_id (ext_put n1)) (ext_put n2)) (ext_put n3)) (ext_put hl)) (Ext.none (Ext.trans (Ext.trans (Ext.trans ext_id (ext_put n1)) (ext_put n2)) (ext_put n3)) hl) (.lst (SqL.of upd_same) .nil)⟩⟩⟩⟩⟩⟩⟩⟩⟩⟩⟩
    | 9, _, D, q =>
      obtain ⟨dd, rfl, hdd⟩ := D
      exact ⟨_, rfl, sl2, fun p1 n1 => ⟨p1, _, rfl, .inl (SqL.of upd_same), rfl, rfl, _, rfl, ifF rfl ⟨_, rfl, sl2, fun p2 n2 => ⟨p2, _, rfl, .inl (SqL.of upd_same), rfl, rfl, _, rfl, ifF rfl ⟨_, rfl, sl2, fun p3 n3 => ⟨p3, _, rfl, .inl (SqL.of upd_same), rfl, rfl, _, rfl, ifF rfl ⟨_, rfl, rfl, _, rfl, ifF rfl ⟨_, rfl, rfl, _, rfl, ifF rfl ⟨_, rfl, rfl, _, rfl, ifT rfl ⟨_, rfl, dd, _, _, rfl, rfl, (all_NoFunction c).xf, (all_NoFunction c).no _ (List.mem_cons_self), ((Ext.trans (Ext.trans (Ext.trans ext_id (ext_put n1)) (ext_put n2)) (ext_put n3))) _ _ hdd, rfl, sl1, fun l hl => q _ l (Ext.trans (Ext.trans (Ext.trans (Ext.trans ext_id (ext_put n1)) (ext_put n2)) (ext_put n3)) (ext_put hl)) (Ext.none (Ext.trans (Ext.trans (Ext.trans ext_id (ext_put n1)) (ext_put n2)) (ext_put n3)) hl) (.lst (SqL.of upd_same) (.cons (.str _) .nil))⟩⟩⟩⟩⟩⟩⟩⟩⟩⟩
    | 10, _, D, q =>
      obtain ⟨dd, rfl, hdd⟩ := D
      exact ⟨_, rfl, sl2, fun p1 n1 => ⟨p1, _, rfl, .inl (SqL.of upd_same), rfl, rfl, _, rfl, ifT rfl ⟨_, rfl, dd, _, _, rfl, rfl, (all_NoRoom c).xf, (all_NoRoom c).no _ (List.mem_cons_self), ((Ext.trans ext_id (ext_put n1))) _ _ hdd, rfl, sl1, fun l hl => q _ l (Ext.trans (Ext.trans ext_id (ext_put n1)) (ext_put hl)) (Ext.none (Ext.trans ext_id (ext_put n1)) hl) (.lst (SqL.of upd_same) (.cons (.int _) .nil))⟩⟩⟩
    | 11, _, D, q =>
      obtain ⟨dd, t, rfl, hdd, ht⟩ := D
      exact ⟨_, rfl, sl2, fun p1 n1 => ⟨p1, _, rfl, .inl (SqL.of upd_same), rfl, rfl, _, rfl, ifF rfl ⟨_, rfl, sl2, fun p2 n2 => ⟨p2, _, rfl, .inl (SqL.of upd_same), rfl, rfl, _, rfl, ifF rfl ⟨_, rfl, sl2, fun p3 n3 => ⟨p3, _, rfl, .inl (SqL.of upd_same), rfl, rfl, _, rfl, ifF rfl ⟨_, rfl, rfl, _, rfl, ifF rfl ⟨_, rfl, rfl, _, rfl, ifF rfl ⟨_, rfl, rfl, _, rfl, ifF rfl ⟨_, rfl, rfl, _, rfl, ifT rfl ⟨_, rfl, dd, _, _, rfl, rfl, (all_Refused c).xf, (all_Refused c).no _ (List.mem_cons_self), ((Ext.trans (Ext.trans (Ext.trans ext_id (ext_put n1)) (ext_put n2)) (ext_put n3))) _ _ hdd, rfl, sl1, fun l hl => q _ l (Ext.trans (Ext.trans (Ext.trans (Ext.trans ext_id (ext_put n1)) (ext_put n2)) (ext_put n3)) (ext_put hl)) (Ext.none (Ext.trans (Ext.trans (Ext.trans ext_id (ext_put n1)) (ext_put n2)) (ext_put n3)) hl) (.lst (SqL.of upd_same) (.cons (.tup (SqT.of (ext_put hl _ _ (((Ext.trans (Ext.trans (Ext.trans ext_id (ext_put n1)) (ext_put n2)) (ext_put n3))) _ _ ht))) (.cons (.str _) (.cons (.int _) .nil))) .nil))⟩⟩⟩⟩⟩⟩⟩⟩⟩⟩⟩
    | 12, _, D, q =>
      cases D
      exact ⟨_, rfl, sl2, fun p1 n1 => ⟨p1, _, rfl, .inl (SqL.of upd_same), rfl, rfl, _, rfl, ifF rfl ⟨_, rfl, sl2, fun p2 n2 => ⟨p2, _, rfl, .inl (SqL.of upd_same), rfl, rfl, _, rfl, ifF rfl ⟨_, rfl, sl2, fun p3 n3 => ⟨p3, _, rfl, .inl (SqL.of upd_same), rfl, rfl, _, rfl, ifF rfl ⟨_, rfl, rfl, _, rfl, ifF rfl ⟨_, rfl, rfl, _, rfl, ifF rfl ⟨_, rfl, rfl, _, rfl, ifF rfl ⟨_, rfl, rfl, _, rfl, ifF rfl ⟨sl0, fun l hl => q _ l (Ext.trans (Ext.trans (Ext.trans (Ext.trans ext_id (ext_put n1)) (ext_put n2)) (ext_put n3)) (ext_put hl)) (Ext.none (Ext.trans (Ext.trans (Ext.trans ext_id (ext_put n1)) (ext_put n2)) (ext_put n3)) hl) (.lst (SqL.of upd_same) .nil)⟩⟩⟩⟩⟩⟩⟩⟩⟩⟩⟩
    | n + 13, h, _, _ => omega
end
end K7H
set_option Elab.async false
set_option linter.all false
set_option maxRecDepth 100000
set_option maxHeartbeats 4000000
/-! k07, part S: an error caught -/
namespace K7H
open PySem PySem.Spec PyProof.Rows L2 K7 L2H
theorem DictOk.ext {k : Nat} {a : Int} {b : Str} {d : Option Addr} {H G : Hp} (D : DictOk k a b d H) (e : Ext H G) : DictOk k a b d G := by
  match k, D with
  | 0, D => obtain ⟨dd, rfl, h⟩ := D; exact ⟨dd, rfl, e _ _ h⟩
  | 1, D => obtain ⟨dd, rfl, h⟩ := D; exact ⟨dd, rfl, e _ _ h⟩
  | 2, D => obtain ⟨dd, rfl, h⟩ := D; exact ⟨dd, rfl, e _ _ h⟩
  | 3, D => obtain ⟨dd, rfl, h⟩ := D; exact ⟨dd, rfl, e _ _ h⟩
  | 4, D => obtain ⟨dd, t, rfl, h, h2⟩ := D; exact ⟨dd, t, rfl, e _ _ h, e _ _ h2⟩
  | 5, D => obtain ⟨dd, t, rfl, h, h2⟩ := D; exact ⟨dd, t, rfl, e _ _ h, e _ _ h2⟩
  | 6, D => obtain ⟨dd, rfl, h⟩ := D; exact ⟨dd, rfl, e _ _ h⟩
  | 7, D => exact D
  | 8, D => exact D
  | 9, D => obtain ⟨dd, rfl, h⟩ := D; exact ⟨dd, rfl, e _ _ h⟩
  | 10, D => obtain ⟨dd, rfl, h⟩ := D; exact ⟨dd, rfl, e _ _ h⟩
  | 11, D => obtain ⟨dd, t, rfl, h, h2⟩ := D; exact ⟨dd, t, rfl, e _ _ h, e _ _ h2⟩
  | n + 12, D => exact D
theorem DictOk.at_ {k : Nat} {a : Int} {b : Str} {d : Option Addr} {H : Hp} (D : DictOk k a b d H) : DAt d H := by
  intro dx ex
  match k, D with
  | 0, D => obtain ⟨dd, rfl, h⟩ := D; cases ex; exact ⟨_, h⟩
  | 1, D => obtain ⟨dd, rfl, h⟩ := D; cases ex; exact ⟨_, h⟩
  | 2, D => obtain ⟨dd, rfl, h⟩ := D; cases ex; exact ⟨_, h⟩
  | 3, D => obtain ⟨dd, rfl, h⟩ := D; cases ex; exact ⟨_, h⟩
  | 4, D => obtain ⟨dd, t, rfl, h, h2⟩ := D; cases ex; exact ⟨_, h⟩
  | 5, D => obtain ⟨dd, t, rfl, h, h2⟩ := D; cases ex; exact ⟨_, h⟩
  | 6, D => obtain ⟨dd, rfl, h⟩ := D; cases ex; exact ⟨_, h⟩
  | 7, D =>
    have D' : d = none := D
    rw [D'] at ex; cases ex
  | 8, D =>
    have D' : d = none := D
    rw [D'] at ex; cases ex
  | 9, D => obtain ⟨dd, rfl, h⟩ := D; cases ex; exact ⟨_, h⟩
  | 10, D => obtain ⟨dd, rfl, h⟩ := D; cases ex; exact ⟨_, h⟩
  | 11, D => obtain ⟨dd, t, rfl, h, h2⟩ := D; cases ex; exact ⟨_, h⟩
  | n + 12, D =>
    have D' : d = none := D
    rw [D'] at ex; cases ex
theorem xs_nm : ∀ {k : Nat}, k < 13 → ∃ d, xs[k]? = some d ∧ d.cls = nm k
  | 0, _ => ⟨_, rfl, rfl⟩
  | 1, _ => ⟨_, rfl, rfl⟩
  | 2, _ => ⟨_, rfl, rfl⟩
  | 3, _ => ⟨_, rfl, rfl⟩
  | 4, _ => ⟨_, rfl, rfl⟩
  | 5, _ => ⟨_, rfl, rfl⟩
  | 6, _ => ⟨_, rfl, rfl⟩
  | 7, _ => ⟨_, rfl, rfl⟩
  | 8, _ => ⟨_, rfl, rfl⟩
  | 9, _ => ⟨_, rfl, rfl⟩
  | 10, _ => ⟨_, rfl, rfl⟩
  | 11, _ => ⟨_, rfl, rfl⟩
  | 12, _ => ⟨_, rfl, rfl⟩
  | n + 13, h => absurd h (by omega)
theorem names_xs : names = xs.map (·.cls) := rfl
/-- what is said of the k-th error -/
theorem of_k {K : PySem.W.Frag} (c : Says K) {k : Nat} (hk : k < 13) : ExcC K (He.ga K (nm k)) ∧ PySem.W.exmOne K (.ref (He.ga K (nm k))) (.ref (He.ga K "RoomError")) = some true ∧ PySem.W.kitOne K (.ref (He.ga K (nm k))) (.type "ValueError") = some true ∧
    ∀ n ∈ names, PySem.W.kitOne K (.ref (He.ga K (nm k))) (.ref (He.ga K n)) = some (decide (nm k = n)) := by
  obtain ⟨d, hd, e⟩ := xs_nm hk
  have x : XAll K P7 d := SaysX.err (P := P7) c k hd
  obtain ⟨k1, k2⟩ := SaysX.kit c k hd
  rw [← e]
  refine ⟨x.ec, x.ex, k1, fun n hn => ?_⟩
  rw [names_xs] at hn
  obtain ⟨f, hf, rfl⟩ := List.mem_map.mp hn
  exact k2 f hf
def kindsD (k : Nat) : List PyData := (List.range 13).map fun j => .bool (decide (j = k))
theorem kinds_eq : ∀ {k : Nat}, k < 13 → (names.map fun n => PyData.bool (decide (nm k = n))) = kindsD k
  | 0, _ => rfl
  | 1, _ => rfl
  | 2, _ => rfl
  | 3, _ => rfl
  | 4, _ => rfl
  | 5, _ => rfl
  | 6, _ => rfl
  | 7, _ => rfl
  | 8, _ => rfl
  | 9, _ => rfl
  | 10, _ => rfl
  | 11, _ => rfl
  | 12, _ => rfl
  | n + 13, h => absurd h (by omega)
theorem dp_bools {K : PySem.W.Frag} {H : Hp} (b : Str → Bool) : ∀ ns : List Str, DpAll K H (ns.map fun n => .bl (b n)) (ns.map fun n => .bool (b n))
  | [] => .nil
  | _ :: ns => .cons (.bl _) (dp_bools b ns)
theorem sqL_ext {K : PySem.W.Frag} {H G : Hp} {a : Addr} {xs : List V} (e : Ext H G) (h : SqL K H a xs) : SqL K G a xs :=
  h.elim (fun h => .inl (h.elim (fun h => .inl (e _ _ h)) fun ⟨o, h⟩ => .inr ⟨o, e _ _ h⟩)) .inr
theorem sqT_ext {K : PySem.W.Frag} {H G : Hp} {a : Addr} {xs : List V} (e : Ext H G) (h : SqT K H a xs) : SqT K G a xs :=
  h.elim (fun h => .inl (h.elim (fun h => .inl (e _ _ h)) fun ⟨o, h⟩ => .inr ⟨o, e _ _ h⟩)) .inr
mutual
theorem dp_ext {K : PySem.W.Frag} {H G : Hp} (e : Ext H G) : ∀ {v : V} {d : PyData}, Dp K H v d → Dp K G v d
  | _, _, .non => .non
  | _, _, .bl b => .bl b
  | _, _, .int i => .int i
  | _, _, .str x => .str x
  | _, _, .lst s r => .lst (sqL_ext e s) (dps_ext e r)
  | _, _, .tup s r => .tup (sqT_ext e s) (dps_ext e r)
theorem dps_ext {K : PySem.W.Frag} {H G : Hp} (e : Ext H G) : ∀ {vs : List V} {ds : List PyData}, DpAll K H vs ds → DpAll K G vs ds
  | _, _, .nil => .nil
  | _, _, .cons r rs => .cons (dp_ext e r) (dps_ext e rs)
end
def spCaught (K : PySem.W.Frag) : Sp := fun vs H Q _ => ∃ (k : Nat) (a : Int) (b : Str), vs = [.int (k : Int), .int a, .str b] ∧ k < 13 ∧ ∀ H' l, Ext H H' → Dp K H' (.ref l) (.list [.list (kindsD k), .list (due k a b), .bool true]) → Q (.ref l) H'
def rIsPc (K : PySem.W.Frag) (a : Addr) (cls : Value) (d : Option Addr) : List V → Hp → VK → Prop := fun xs H Q => ∃ C, cls = .ref C ∧ ExcC K C ∧ rIsP K a C d xs H Q
theorem call_isPc {X : Cx} {a : Addr} {oe : Obj} {cls : Value} {d : Option Addr} (hpn : (a, oe) ∈ X.pn) (hz : Zc cls d oe) (hf : ∃ vs, oe.data = .fields vs) : CallR X (.builtin "isinstance") (rIsPc X.K a cls d) := by
  intro pins s σ H xs us Q I r h
  obtain ⟨C, rfl, T, h⟩ := h
  exact call_isP hpn T hz hf pins s σ H xs us Q I r h
section
variable {P : Program} {w : World} {K : PySem.W.Frag} {mg : Str → Option Value} {base : Heap} {f fR fK fF : Addr} {fd fdR fdK fdF : FuncData}
abbrev sCaught : Stmt := top 22
theorem sc_caught : FnScope ["_law_k", "_law_a", "_law_b", "_law_e"] ["_law_k", "_law_a", "_law_b"] (defScope sCaught) := ⟨rfl, rfl, rfl, by decide +kernel, rfl, by decide +kernel, by decide +kernel⟩
def t_suite (K : PySem.W.Frag) : Addr → Value → Option Addr → TS := fun a cls d => tRet (tLst (tCons (tCall (spKinds K a cls d) [] EF (tCons (tVar 3) tNil)) (tCons (tCall (spFields K a cls d) [] EF (tCons (tVar 0) (tCons (tVar 3) tNil)))
  (tCons (tCB (rIsPc K a cls d) (tCons (tVar 3) (tCons (tC (.ty "ValueError")) tNil))) tNil))))
theorem ok_caught (F : FnP K "_law_caught" sCaught f fd) (c : Says K) (g : ∀ n ∈ names, mg n = some (.ref (He.ga K n))) (gs : mg "super" = none) (gi : mg "isinstance" = none) (gv : mg "ValueError" = none) (gR : mg "RoomError" = some (.ref (He.ga K "RoomError")))
    (FR : FnP K "_law_raised" sRaised fR fdR) (g1 : mg "_law_raised" = some (.ref fR)) (FK : FnP K "_law_kinds" sKinds fK fdK) (g2 : mg "_law_kinds" = some (.ref fK)) (FF : FnP K "_law_fields" sFields fF fdF) (g3 : mg "_law_fields" = some (.ref fF)) :
    FnOk P7 w K mg base CX0 5 f fd ["_law_k", "_law_a", "_law_b"] (spCaught K) := by
  have GR : FnOk P7 w K mg base (L2.CX P7 w) 3 fR fdR ["_law_k", "_law_a", "_law_b"] (spRaised K) := ok_raised FR c g gs
  have bR : Binds K fdR ["_law_k", "_law_a", "_law_b"] [] := FR.bindsN fun _ _ _ _ _ _ us hl => match us, hl with | [_, _, _], _ => rfl
  have bK : Binds K fdK ["_law_e"] [] := FK.bindsN fun _ _ _ _ _ _ us hl => match us, hl with | [_], _ => rfl
  have bF : Binds K fdF ["_law_k", "_law_e"] [] := FF.bindsN fun _ _ _ _ _ _ us hl => match us, hl with | [_, _], _ => rfl
  refine F.ok sc_caught (fun vs H Q E h => ?_) (fun cdv A outer s H vs Q E hr h => ⟨_, PSs.nox (
    pss_cons (ps_try_as (i := 3) (tb := fun W => tDrop (tCallS (spRaised K) (WE W) (tCons (tVar 0) (tCons (tVar 1) (tCons (tVar 2) tNil))))) (ts := t_suite K) (Wout := fun _ _ _ _ => False) rfl rfl sc_caught.nd rfl rfl ⟨rfl, by decide, Or.inl gR⟩ takes0
      (fun W pn xe tk _ => pss_one (ps_expr (by exact pe_callS GR (hr.mono (by decide)) rfl g1 FR.kp bR (fun σ => passAt tk σ) (by exact (pa_cons (pv 0) (pa_cons (pv 1) (pa_cons (pv 2) pa_nil)))))))
      (fun a oe cls d pn hz hf => pss_one (ps_ret (pe_lst (pa_cons (by exact pe_callP (p := (a, oe)) List.mem_cons_self (pin_kinds FK g gi hz hf) ⟨(hr.mono (j := 1) (by decide)).dp, (hr.mono (j := 1) (by decide)).un⟩ rfl g2 FK.kp bK (pa_cons (pv 3) pa_nil))
        (pa_cons (by exact pe_callP (p := (a, oe)) List.mem_cons_self (pin_fields FF c hz hf) ⟨(hr.mono (j := 1) (by decide)).dp, (hr.mono (j := 1) (by decide)).un⟩ rfl g3 FF.kp bF (pa_cons (pv 0) (pa_cons (pv 3) pa_nil)))
        (pa_cons (pe_callB (call_isPc (oe := oe) List.mem_cons_self hz hf) rfl gi PyProof.Rows.boot_isinstance (pa_cons (pv 3) (pa_cons (pe_bltn (v := .ty "ValueError") rfl gv (by decide +kernel) rfl) pa_nil))) pa_nil)))))))
    (pss_one (ps_ret (pe_lst pa_nil)))), ?_⟩)
  · obtain ⟨k, a, b, rfl, _⟩ := h
    rfl
  · obtain ⟨k, a, b, rfl, hk, q⟩ := h
    have sl3 : (3 : Nat) ≤ sizeLine := by rw [sizeLine_eq]; decide
    obtain ⟨T, ex, kv, kn⟩ := of_k c hk
    refine ⟨_, rfl, _, rfl, _, rfl, k, a, b, rfl, hk, fun H1 d e1 D => ?_⟩
    refine ⟨true, ex, fun _ ad nad => ?_, fun z => Bool.noConfusion z⟩
    refine ⟨_, rfl, _, fun n => decide (nm k = n), rfl, rfl, D.at_, T, kn, fun H2 l2 e2 n2 f2 => ?_⟩
    refine ⟨_, rfl, _, rfl, k, a, b, rfl, rfl, hk, D.ext e2, fun H3 l3 e3 n3 f3 => ?_⟩
    refine ⟨_, rfl, _, rfl, T, _, _, true, rfl, (D.ext (e2.trans e3)).at_, fun u r => r, kv, ?_⟩
    refine ⟨sl3, fun l hl => ?_⟩
    refine q _ l (e1.trans (e2.trans (e3.trans (ext_put hl)))) (.lst (SqL.of upd_same) (.cons (.lst (SqL.of (ext_put hl _ _ (e3 _ _ f2))) ?_) (.cons (dp_ext (ext_put hl) f3) (.cons (.bl _) .nil))))
    rw [← kinds_eq hk]
    exact dp_bools _ _
end
end K7H
set_option Elab.async false
set_option linter.all false
set_option maxRecDepth 100000
set_option maxHeartbeats 4000000
/-! k07, part T: the source of draws -/
namespace K7H
open PySem PySem.Spec PyProof.Rows L2 K7
def penD (c : Addr) (a l : Int) : List (Key × V) := [(.inr "cells", .ref c), (.inr "at", .int a), (.inr "left", .int l)]
/-- at p stands a source with at most n draws behind it -/
def PenAt (H : Hp) (p : Addr) (n : Nat) : Prop := ∃ (c : Addr) (cells : List Int) (a : Nat) (l : Int), H p = some (.dK (penD c a l)) ∧ H c = some (.lst (cells.map V.int)) ∧ a ≤ n
/-- only at p something else may stand -/
def Fr (p : Addr) (H H' : Hp) : Prop := ∀ x o, x ≠ p → H x = some o → H' x = some o
theorem Fr.trans {p : Addr} {H H1 H2 : Hp} (a : Fr p H H1) (b : Fr p H1 H2) : Fr p H H2 := fun x o n e => b x o n (a x o n e)
theorem fr_id {p : Addr} {H : Hp} : Fr p H H := fun _ _ _ e => e
theorem fr_put {p : Addr} {H : Hp} {o : HO} : Fr p H (upd H p o) := fun x y n e => by rw [upd_ne n]; exact e
theorem fr_ext {p : Addr} {H H' : Hp} (e : Ext H H') : Fr p H H' := fun x o _ h => e x o h
theorem pen_ext {H G : Hp} {p : Addr} {n : Nat} (h : PenAt H p n) (e : Ext H G) : PenAt G p n := by
  obtain ⟨c, cells, a, l, h1, h2, h3⟩ := h
  exact ⟨c, cells, a, l, e _ _ h1, e _ _ h2, h3⟩
theorem v_cells {c : Addr} {a l : Int} : valV (penD c a l) (.inr "cells") = some (.ref c) := rfl
theorem v_at {c : Addr} {a l : Int} : valV (penD c a l) (.inr "at") = some (.int a) := rfl
theorem v_left {c : Addr} {a l : Int} : valV (penD c a l) (.inr "left") = some (.int l) := rfl
theorem p_at {c : Addr} {a l b : Int} : putK (penD c a l) (.inr "at") (.int b) = penD c b l := rfl
theorem p_left {c : Addr} {a l b : Int} : putK (penD c a l) (.inr "left") (.int b) = penD c a b := rfl
theorem pen_len {c : Addr} {a l : Int} : (penD c a l).length < sizeLine := by rw [sizeLine_eq]; show 3 < 16777216; decide
theorem dps_ints {K : PySem.W.Frag} {H : Hp} : ∀ ns : List Int, DpAll K H (ns.map V.int) (ns.map PyData.int)
  | [] => .nil
  | n :: ns => .cons (.int n) (dps_ints ns)
theorem canLay_ints : ∀ ns : List Int, PyData.canLayAll0 (ns.map PyData.int) = true
  | [] => by simp [PyData.canLayAll0]
  | n :: ns => by
    show PyData.canLayAll0 (.int n :: ns.map PyData.int) = true
    rw [PyData.canLayAll0, canLay_ints ns]
    simp [PyData.canLay0]
theorem eqv_nil : ∀ ds : List PyData, PyData.eqv (.list ds) (.list []) = ds.isEmpty
  | [] => by simp [PyData.eqv, PyData.eqvAll]
  | d :: ds => by simp [PyData.eqv, PyData.eqvAll]
theorem depth_ints : ∀ ns : List Int, PyData.depthAll (ns.map PyData.int) = 0
  | [] => by simp [PyData.depthAll]
  | n :: ns => by
    show PyData.depthAll (.int n :: ns.map PyData.int) = 0
    rw [PyData.depthAll, depth_ints ns]
    simp [PyData.depth]
theorem shaped_ints (ns : List Int) : SeqAt.shaped (.list (ns.map PyData.int)) = true := by
  unfold SeqAt.shaped
  rw [PyData.canLay0, canLay_ints, PyData.depth, depth_ints] <;> rfl
theorem shaped_nil : SeqAt.shaped (.list []) = true := shaped_ints []
theorem cutV_ints (ns : List Int) (lo hi : Option Int) : ∃ ms : List Int, cutV (ns.map V.int) lo hi = ms.map V.int := by
  unfold cutV
  exact ⟨_, by rw [← List.map_drop, ← List.map_take]⟩
theorem get_left {H : Hp} {p c : Addr} {a l : Int} (h : H p = some (.dK (penD c a l))) : DGet H p (.str "left") (some (.int l)) := DGet.k (k := Sum.inr "left") h
theorem get_at {H : Hp} {p c : Addr} {a l : Int} (h : H p = some (.dK (penD c a l))) : DGet H p (.str "at") (some (.int a)) := DGet.k (k := Sum.inr "at") h
theorem get_cells {H : Hp} {p c : Addr} {a l : Int} (h : H p = some (.dK (penD c a l))) : DGet H p (.str "cells") (some (.ref c)) := DGet.k (k := Sum.inr "cells") h
theorem put_left {H : Hp} {p c : Addr} {a l b : Int} (h : H p = some (.dK (penD c a l))) : DPut H p (.str "left") (.int b) (upd H p (.dK (penD c a b))) := DPut.k (k := Sum.inr "left") (v := .int b) h pen_len
theorem put_at {H : Hp} {p c : Addr} {a l b : Int} (h : H p = some (.dK (penD c a l))) : DPut H p (.str "at") (.int b) (upd H p (.dK (penD c b l))) := DPut.k (k := Sum.inr "at") (v := .int b) h pen_len
theorem draw_pos {i m : Int} (h : 0 < m) : 0 ≤ i % m ∧ i % m < m := ⟨Int.emod_nonneg i (by omega), Int.emod_lt_of_pos i h⟩
theorem bnd {i m : Int} (h : 0 < m) (h2 : m ≤ 18446744073709551616) : -(2 ^ 64) < i % m ∧ i % m < 2 ^ 64 := by
  have x := draw_pos (i := i) h
  have e : (2 ^ 64 : Int) = 18446744073709551616 := by decide
  rw [e]
  omega
theorem at_bnd {a n : Nat} (h : a ≤ n) (hn : n < 1000000) : -(2 ^ 64) < (a : Int) ∧ (a : Int) < 2 ^ 64 := by
  have e : (2 ^ 64 : Int) = 18446744073709551616 := by decide
  rw [e]
  omega
theorem pow18 : CPow 10 18 := ⟨by decide, by decide, by decide⟩
def spPen (K : PySem.W.Frag) : Sp := fun vs H Q _ => ∃ (a : Addr) (ns : List Int), vs = [.ref a] ∧ SqL K H a (ns.map V.int) ∧ ∀ H' p, Ext H H' → H p = none → PenAt H' p 0 → Q (.ref p) H'
def spDraw : Sp := fun vs H Q _ => ∃ (p : Addr) (n : Nat) (m : Int), vs = [.ref p, .int m] ∧ PenAt H p n ∧ n < 1000000 ∧ 0 < m ∧ m < 1073741824 ∧ ∀ H' d, Fr p H H' → PenAt H' p (n + 1) → 0 ≤ d → d < m → Q (.int d) H'
section
variable {P : Program} {w : World} {K : PySem.W.Frag} {mg : Str → Option Value} {base : Heap} {f fD : Addr} {fd fdD : FuncData}
abbrev sPen : Stmt := top 16
abbrev sDraw : Stmt := top 17
abbrev sPick : Stmt := top 18
theorem sc_pen : FnScope ["_law_script"] ["_law_script"] (defScope sPen) := ⟨rfl, rfl, rfl, by decide +kernel, rfl, by decide +kernel, by decide +kernel⟩
theorem sc_draw : FnScope ["_law_pen_here", "_law_many", "_law_digit", "_law_at", "_law_cell", "_law_mixed"] ["_law_pen_here", "_law_many"] (defScope sDraw) := ⟨rfl, rfl, rfl, by decide +kernel, rfl, by decide +kernel, by decide +kernel⟩
theorem sc_pick : FnScope ["_law_pen_here", "_law_items"] ["_law_pen_here", "_law_items"] (defScope sPick) := ⟨rfl, rfl, rfl, by decide +kernel, rfl, by decide +kernel, by decide +kernel⟩
theorem ok_pen (F : FnP K "_law_pen" sPen f fd) (gl : mg "list" = none) : FnOk P w K mg base CX0 1 f fd ["_law_script"] (spPen K) := by
  refine F.ok sc_pen (fun vs H Q E h => ?_) (fun cdv A outer s H vs Q E hr h => ⟨_, PSs.nox (
    pss_one (ps_ret (pe_disp (pps_cons pe_str (pe_callTy call_list_of rfl gl (by decide +kernel) (pa_cons (pe_slice sl_list (pv 0) po_none (po_some pe_int)) pa_nil)) (pps_cons pe_str pe_int (pps_cons pe_str pe_int pps_nil))) (by rfl) (by rfl) (fun z => by cases z) (by decide)))), ?_⟩)
  · obtain ⟨a, ns, rfl, _⟩ := h
    rfl
  · obtain ⟨a, ns, rfl, hS, q⟩ := h
    obtain ⟨ms, em⟩ := cutV_ints ns none (some 63)
    refine fun p np => ⟨_, rfl, ?_⟩
    refine ⟨63, rfl, a, _, rfl, sqL_ext (ext_put np) hS, fun p1 n1 => ?_⟩
    refine ⟨p1, _, rfl, .inl (SqL.of upd_same), fun l nl => ?_⟩
    have e1 : p ≠ p1 := ne_of_none upd_same n1
    have e2 : p ≠ l := ne_of_none (by rw [upd_ne e1]; exact upd_same) nl
    refine ⟨by rw [upd_ne e2, upd_ne e1]; exact upd_same, [(.inr "cells", .ref l), (.inr "at", .int 0), (.inr "left", .int 0)], rfl, (by show 3 ≤ 15; decide), ?_⟩
    refine q _ p (fun x o e => ?_) np ⟨l, ms, 0, 0, upd_same, ?_, Nat.le_refl _⟩
    · rw [upd_ne (ne_of_none e np)]
      exact ext_put nl _ _ (ext_put n1 _ _ (ext_put np _ _ e))
    · rw [upd_ne (Ne.symm e2), upd_same, em]
theorem ok_draw (F : FnP K "_law_draw" sDraw f fd) (gi : mg "int" = none) (gn : mg "len" = none) : FnOk P w K mg base CX0 1 f fd ["_law_pen_here", "_law_many"] spDraw := by
  refine F.ok sc_draw (fun vs H Q E h => ?_) (fun cdv A outer s H vs Q E hr h => ?_)
  · obtain ⟨p, n, m, rfl, _⟩ := h
    rfl
  have hu := hu_of hr
  refine ⟨_, PSs.nox (
    (pss_cons (ps_if (pt_cmpR op_ge (pe_dget hu (pv 0) pe_str (fun _ _ => rfl)) (pv 1) (nomark _)) (pss_cons (ps_set (i := 2) sc_draw.nd rfl (Or.inl rfl) (pe_op op_mod (pe_callTy call_int1 rfl gi boot_int (pa_cons (pe_dget hu (pv 0) pe_str (fun _ _ => rfl)) pa_nil)) (pv 1)))
      (pss_cons (ps_dput hu (pv 0) pe_str (pe_op op_fdiv (pe_dget hu (pv 0) pe_str (fun _ _ => rfl)) (pv 1)) rfl)
      (pss_one (ps_ret (pv 2))))) pss_nil)
      (pss_cons (ps_set (i := 3) sc_draw.nd rfl (Or.inl rfl) (pe_dget hu (pv 0) pe_str (fun _ _ => rfl)))
      (pss_cons (ps_dput hu (pv 0) pe_str (pe_op op_add (pv 3) pe_int) rfl)
      (pss_cons (ps_set (i := 4) sc_draw.nd rfl (Or.inl rfl) (pe_op op_add (pe_op op_mul pe_int (pv 3)) pe_int))
      (pss_cons (ps_if (pt_cmpR (op_neD hr.units) (pe_dget hu (pv 0) pe_str (fun _ _ => rfl)) (pe_lst pa_nil) (nomark _)) (pss_one (ps_set (i := 4) sc_draw.nd rfl (Or.inl rfl) (pe_ix ix_list (pe_dget hu (pv 0) pe_str (fun _ _ => rfl)) (pe_op op_mod (pe_callTy call_int1 rfl gi boot_int (pa_cons (pv 3) pa_nil)) (pe_callB call_len_seq rfl gn PySem.boot_len (pa_cons (pe_dget hu (pv 0) pe_str (fun _ _ => rfl)) pa_nil))) (fun _ _ => rfl)))) pss_nil)
      (pss_cons (ps_if (PW.pt (pw_and (pt_cmpR op_lt (pv 3) (pe_callB call_len_seq rfl gn PySem.boot_len (pa_cons (pe_dget hu (pv 0) pe_str (fun _ _ => rfl)) pa_nil)) (nomark _)) (pw_and1 (pt_cmpR op_ge (pv 4) (pe_op op_pow pe_int pe_int) (nomark _))))) (pss_cons (ps_dput hu (pv 0) pe_str (pe_op op_fdiv (pe_op op_sub (pv 4) (pe_op op_pow pe_int pe_int)) (pv 1)) rfl)
      (pss_one (ps_ret (pe_op op_mod (pe_callTy call_int1 rfl gi boot_int (pa_cons (pe_op op_sub (pv 4) (pe_op op_pow pe_int pe_int)) pa_nil)) (pv 1))))) pss_nil)
      (pss_cons (ps_set (i := 5) sc_draw.nd rfl (Or.inl rfl) (pe_op op_add (pe_op op_add (pe_op op_add (pe_op op_mul (pe_op op_mod (pe_callTy call_int1 rfl gi boot_int (pa_cons (pv 4) pa_nil)) pe_int) pe_int) (pe_op op_mul (pe_op op_mul pe_int (pv 3)) (pv 3))) (pe_op op_mul pe_int (pv 3))) pe_int))
      (pss_cons (ps_set (i := 5) sc_draw.nd rfl (Or.inl rfl) (pe_op op_mod (pe_callTy call_int1 rfl gi boot_int (pa_cons (pv 5) pa_nil)) pe_int))
      (pss_cons (ps_set (i := 5) sc_draw.nd rfl (Or.inl rfl) (pe_op op_mod (pe_callTy call_int1 rfl gi boot_int (pa_cons (pe_op op_mul (pv 5) (pe_op op_add (pv 5) pe_int)) pa_nil)) pe_int))
      (pss_one (ps_ret (pe_op op_mod (pe_callTy call_int1 rfl gi boot_int (pa_cons (pe_op op_fdiv (pe_op op_mod (pe_callTy call_int1 rfl gi boot_int (pa_cons (pe_op op_mul (pv 5) (pv 5)) pa_nil)) pe_int) pe_int) pa_nil)) (pv 1)))))))))))))), ?_⟩
  obtain ⟨p, n, m, rfl, ⟨c, cells, a, l, hp, hc, ha⟩, hn, hm, hm2, q⟩ := h
  have npc : p ≠ c := fun z => by
    rw [z, hc] at hp
    cases hp
  refine ⟨_, rfl, p, _, rfl, get_left hp, _, rfl, _, _, rfl, rfl, _, rfl, ?_⟩
  refine ite2 (fun h1 => ?_) (fun h1 => ?_)
  · refine ⟨_, rfl, p, _, rfl, get_left hp, .inl ⟨_, rfl, _, rfl, _, _, rfl, rfl, hm, ?_⟩⟩
    refine ⟨_, rfl, p, _, rfl, get_left hp, _, rfl, _, _, rfl, rfl, ⟨hm, hm2⟩, _, rfl, p, _, rfl, put_left hp, ?_⟩
    exact ⟨_, rfl, q _ _ fr_put ⟨c, cells, a, _, upd_same, by rw [upd_ne (Ne.symm npc)]; exact hc, by omega⟩ (draw_pos hm).1 (draw_pos hm).2⟩
  · refine ⟨_, rfl, p, _, rfl, get_at hp, ?_⟩
    refine ⟨_, rfl, _, _, rfl, rfl, _, rfl, p, _, rfl, put_at hp, ?_⟩
    refine ⟨_, rfl, _, _, rfl, rfl, .inl ⟨by decide, by decide⟩, _, _, rfl, rfl, ?_⟩
    have hc1 : upd H p (.dK (penD c (a + 1) l)) c = some (.lst (cells.map V.int)) := by rw [upd_ne (Ne.symm npc)]; exact hc
    refine ⟨_, rfl, p, _, rfl, get_cells upd_same, Nat.zero_le _, fun l0 n0 => ?_⟩
    have hpG : upd (upd H p (.dK (penD c (a + 1) l))) l0 (.lst []) p = some (.dK (penD c ((a + 1 : Nat) : Int) l)) := ext_put n0 _ _ upd_same
    have hcG : upd (upd H p (.dK (penD c (a + 1) l))) l0 (.lst []) c = some (.lst (cells.map V.int)) := ext_put n0 _ _ hc1
    have frG : Fr p H (upd (upd H p (.dK (penD c (a + 1) l))) l0 (.lst [])) := Fr.trans fr_put (fr_ext (ext_put n0))
    refine ⟨.list (cells.map PyData.int), .list [], .lst (SqL.of hcG) (dps_ints _), .lst (SqL.of upd_same) .nil, shaped_ints _, shaped_nil, _, rfl, ?_⟩
    refine ite2 (fun h2 => ?_) (fun h2 => ?_)
    · have h2' : (!PyData.eqv (.list (cells.map PyData.int)) (.list [])) = true := h2
      have hpos : 0 < cells.length := by
        cases cells with
        | nil =>
          rw [eqv_nil] at h2'
          cases h2'
        | cons _ _ => exact Nat.succ_pos _
      have hl0 : (0 : Int) < (((cells.map V.int).length : Nat) : Int) := by rw [List.length_map]; omega
      obtain ⟨j, hj, ej⟩ : ∃ j : Nat, j < cells.length ∧ (a : Int) % (((cells.map V.int).length : Nat) : Int) = (j : Int) := by
        have x := draw_pos (i := (a : Int)) hl0
        refine ⟨((a : Int) % (((cells.map V.int).length : Nat) : Int)).toNat, ?_, by omega⟩
        rw [List.length_map] at x ⊢
        omega
      have hat : atI (cells.map V.int) ((a : Int) % (((cells.map V.int).length : Nat) : Int)) = some (V.int cells[j]) := by
        rw [ej]
        exact atI_nat (by rw [List.getElem?_map, List.getElem?_eq_getElem hj] <;> rfl)
      refine ⟨_, rfl, p, _, rfl, get_cells hpG, _, rfl, .inl ⟨_, rfl, _, rfl, p, _, rfl, get_cells hpG, c, _, rfl, .inl (SqL.of hcG), _, _, rfl, rfl, hl0, c, _, _, _, rfl, rfl, SqL.of hcG, hat, ?_⟩⟩
      refine ⟨_, rfl, _, rfl, p, _, rfl, get_cells hpG, c, _, rfl, .inl (SqL.of hcG), _, _, rfl, rfl, _, rfl, ?_⟩
      refine ite2 (fun h3 => ?_) (fun h3 => ?_)
      · refine ⟨_, rfl, _, _, rfl, rfl, pow18, _, _, rfl, rfl, _, rfl, ?_⟩
        refine ite2 (fun h4 => ?_) (fun h4 => ?_)
        · refine ⟨_, rfl, _, _, rfl, rfl, pow18, _, _, rfl, rfl, _, rfl, _, _, rfl, rfl, ⟨hm, hm2⟩, _, rfl, p, _, rfl, put_left hpG, ?_⟩
          refine ⟨_, rfl, _, _, rfl, rfl, pow18, _, _, rfl, rfl, .inl ⟨_, rfl, _, rfl, _, _, rfl, rfl, hm, ?_⟩⟩
          exact q _ _ (frG.trans fr_put) ⟨c, cells, a + 1, _, upd_same, by rw [upd_ne (Ne.symm npc)]; exact hcG, by omega⟩ (draw_pos hm).1 (draw_pos hm).2
        · refine ⟨_, rfl, .inl ⟨_, rfl, _, _, rfl, rfl, (by show (0 : Int) < _; decide), _, _, rfl, rfl, .inr ⟨by decide, by decide⟩, _, rfl, _, _, rfl, rfl, .inl ⟨by decide, by decide⟩, _, rfl, _, _, rfl, rfl, .inr (at_bnd ha hn), _, _, rfl, rfl, _, rfl, _, _, rfl, rfl, .inl ⟨by decide, by decide⟩, _, _, rfl, rfl, _, _, rfl, rfl, ?_⟩⟩
          refine ⟨_, rfl, .inl ⟨_, rfl, _, _, rfl, rfl, (by show (0 : Int) < _; decide), ?_⟩⟩
          refine ⟨_, rfl, _, rfl, _, _, rfl, rfl, _, _, rfl, rfl, .inl (bnd (by decide) (by decide)), .inl ⟨_, rfl, _, _, rfl, rfl, (by show (0 : Int) < _; decide), ?_⟩⟩
          refine ⟨_, rfl, _, rfl, _, _, rfl, rfl, .inl (bnd (by decide) (by decide)), .inl ⟨_, rfl, _, _, rfl, rfl, (by show (0 : Int) < _; decide), _, _, rfl, rfl, ⟨by decide, by decide⟩, .inl ⟨_, rfl, _, rfl, _, _, rfl, rfl, hm, ?_⟩⟩⟩
          exact q _ _ frG ⟨c, cells, a + 1, l, hpG, hcG, by omega⟩ (draw_pos hm).1 (draw_pos hm).2
      · refine iteF ?_
        refine ⟨_, rfl, .inl ⟨_, rfl, _, _, rfl, rfl, (by show (0 : Int) < _; decide), _, _, rfl, rfl, .inr ⟨by decide, by decide⟩, _, rfl, _, _, rfl, rfl, .inl ⟨by decide, by decide⟩, _, rfl, _, _, rfl, rfl, .inr (at_bnd ha hn), _, _, rfl, rfl, _, rfl, _, _, rfl, rfl, .inl ⟨by decide, by decide⟩, _, _, rfl, rfl, _, _, rfl, rfl, ?_⟩⟩
        refine ⟨_, rfl, .inl ⟨_, rfl, _, _, rfl, rfl, (by show (0 : Int) < _; decide), ?_⟩⟩
        refine ⟨_, rfl, _, rfl, _, _, rfl, rfl, _, _, rfl, rfl, .inl (bnd (by decide) (by decide)), .inl ⟨_, rfl, _, _, rfl, rfl, (by show (0 : Int) < _; decide), ?_⟩⟩
        refine ⟨_, rfl, _, rfl, _, _, rfl, rfl, .inl (bnd (by decide) (by decide)), .inl ⟨_, rfl, _, _, rfl, rfl, (by show (0 : Int) < _; decide), _, _, rfl, rfl, ⟨by decide, by decide⟩, .inl ⟨_, rfl, _, rfl, _, _, rfl, rfl, hm, ?_⟩⟩⟩
        exact q _ _ frG ⟨c, cells, a + 1, l, hpG, hcG, by omega⟩ (draw_pos hm).1 (draw_pos hm).2
    · refine ⟨_, rfl, _, rfl, p, _, rfl, get_cells hpG, c, _, rfl, .inl (SqL.of hcG), _, _, rfl, rfl, _, rfl, ?_⟩
      refine ite2 (fun h3 => ?_) (fun h3 => ?_)
      · refine ⟨_, rfl, _, _, rfl, rfl, pow18, _, _, rfl, rfl, _, rfl, ?_⟩
        refine ite2 (fun h4 => ?_) (fun h4 => ?_)
        · refine ⟨_, rfl, _, _, rfl, rfl, pow18, _, _, rfl, rfl, _, rfl, _, _, rfl, rfl, ⟨hm, hm2⟩, _, rfl, p, _, rfl, put_left hpG, ?_⟩
          refine ⟨_, rfl, _, _, rfl, rfl, pow18, _, _, rfl, rfl, .inl ⟨_, rfl, _, rfl, _, _, rfl, rfl, hm, ?_⟩⟩
          exact q _ _ (frG.trans fr_put) ⟨c, cells, a + 1, _, upd_same, by rw [upd_ne (Ne.symm npc)]; exact hcG, by omega⟩ (draw_pos hm).1 (draw_pos hm).2
        · refine ⟨_, rfl, .inl ⟨_, rfl, _, _, rfl, rfl, (by show (0 : Int) < _; decide), _, _, rfl, rfl, .inr ⟨by decide, by decide⟩, _, rfl, _, _, rfl, rfl, .inl ⟨by decide, by decide⟩, _, rfl, _, _, rfl, rfl, .inr (at_bnd ha hn), _, _, rfl, rfl, _, rfl, _, _, rfl, rfl, .inl ⟨by decide, by decide⟩, _, _, rfl, rfl, _, _, rfl, rfl, ?_⟩⟩
          refine ⟨_, rfl, .inl ⟨_, rfl, _, _, rfl, rfl, (by show (0 : Int) < _; decide), ?_⟩⟩
          refine ⟨_, rfl, _, rfl, _, _, rfl, rfl, _, _, rfl, rfl, .inl (bnd (by decide) (by decide)), .inl ⟨_, rfl, _, _, rfl, rfl, (by show (0 : Int) < _; decide), ?_⟩⟩
          refine ⟨_, rfl, _, rfl, _, _, rfl, rfl, .inl (bnd (by decide) (by decide)), .inl ⟨_, rfl, _, _, rfl, rfl, (by show (0 : Int) < _; decide), _, _, rfl, rfl, ⟨by decide, by decide⟩, .inl ⟨_, rfl, _, rfl, _, _, rfl, rfl, hm, ?_⟩⟩⟩
          exact q _ _ frG ⟨c, cells, a + 1, l, hpG, hcG, by omega⟩ (draw_pos hm).1 (draw_pos hm).2
      · refine iteF ?_
        refine ⟨_, rfl, .inl ⟨_, rfl, _, _, rfl, rfl, (by show (0 : Int) < _; decide), _, _, rfl, rfl, .inr ⟨by decide, by decide⟩, _, rfl, _, _, rfl, rfl, .inl ⟨by decide, by decide⟩, _, rfl, _, _, rfl, rfl, .inr (at_bnd ha hn), _, _, rfl, rfl, _, rfl, _, _, rfl, rfl, .inl ⟨by decide, by decide⟩, _, _, rfl, rfl, _, _, rfl, rfl, ?_⟩⟩
        refine ⟨_, rfl, .inl ⟨_, rfl, _, _, rfl, rfl, (by show (0 : Int) < _; decide), ?_⟩⟩
        refine ⟨_, rfl, _, rfl, _, _, rfl, rfl, _, _, rfl, rfl, .inl (bnd (by decide) (by decide)), .inl ⟨_, rfl, _, _, rfl, rfl, (by show (0 : Int) < _; decide), ?_⟩⟩
        refine ⟨_, rfl, _, rfl, _, _, rfl, rfl, .inl (bnd (by decide) (by decide)), .inl ⟨_, rfl, _, _, rfl, rfl, (by show (0 : Int) < _; decide), _, _, rfl, rfl, ⟨by decide, by decide⟩, .inl ⟨_, rfl, _, rfl, _, _, rfl, rfl, hm, ?_⟩⟩⟩
        exact q _ _ frG ⟨c, cells, a + 1, l, hpG, hcG, by omega⟩ (draw_pos hm).1 (draw_pos hm).2
end
end K7H
set_option Elab.async false
set_option linter.all false
set_option maxRecDepth 100000
set_option maxHeartbeats 4000000
/-! k07, part U: the law -/
namespace K7H
open PySem PySem.Spec PyProof.Rows L2 K7
theorem ta_mono {ta : TA} (m : ∀ {σ : L2.St} {H : Hp} {Q R : List V → Hp → Prop}, ta σ H Q → (∀ v H', Q v H' → R v H') → ta σ H R) {σ : L2.St} {H : Hp} {Q R : List V → Hp → Prop} (h : ta σ H Q) (k : ∀ v H', Q v H' → R v H') : ta σ H R := m h k
/-- an argument list that is read by its slots: with these values, at the same heap -/
def Vs (ta : TA) (σ : L2.St) (vs : List V) : Prop := ∀ (H : Hp) (Q : List V → Hp → Prop), Q vs H → ta σ H Q
theorem vs_nil {σ : L2.St} : Vs tNil σ [] := fun _ _ q => q
theorem vs_var {i : Nat} {v : V} {ta : TA} {vs : List V} {σ : L2.St} (e : σ[i]? = some (some v)) (h : Vs ta σ vs) : Vs (tCons (tVar i) ta) σ (v :: vs) := fun H Q q => ⟨v, e, h H _ q⟩
theorem vs_c {v : V} {ta : TA} {vs : List V} {σ : L2.St} (h : Vs ta σ vs) : Vs (tCons (tC v) ta) σ (v :: vs) := fun H Q q => h H _ q
theorem rd_lst {ta : TA} {σ : L2.St} {H : Hp} {Q : VK} {xs : List V} (h : Vs ta σ xs) (hz : xs.length ≤ sizeLine) (q : ∀ l H', Ext H H' → H l = none → H' l = some (.lst xs) → Q (.ref l) H') : tLst ta σ H Q :=
  h H _ ⟨hz, fun p hp => q p _ (ext_put hp) hp upd_same⟩
theorem rd_consL {ta tr : TA} {σ : L2.St} {H : Hp} {Q : List V → Hp → Prop} {xs : List V} (h : Vs ta σ xs) (hz : xs.length ≤ sizeLine) (q : ∀ l H', Ext H H' → H l = none → H' l = some (.lst xs) → tr σ H' fun ys H2 => Q (.ref l :: ys) H2) : tCons (tLst ta) tr σ H Q :=
  h H _ ⟨hz, fun p hp => q p _ (ext_put hp) hp upd_same⟩
theorem rd_consT {ta tr : TA} {σ : L2.St} {H : Hp} {Q : List V → Hp → Prop} {xs : List V} (h : Vs ta σ xs) (hz : xs.length ≤ sizeLine) (hz1 : 1 ≤ sizeLine) (q : ∀ t l H1 H', Ext H H1 → Ext H1 H' → H1 t = some (.tup xs) → H' l = some (.lst [.ref t]) → tr σ H' fun ys H2 => Q (.ref l :: ys) H2) :
    tCons (tLst (tCons (tTup ta) tNil)) tr σ H Q :=
  h H _ ⟨hz, fun t ht => ⟨hz1, fun p hp => q t p _ _ (ext_put ht) (ext_put hp) upd_same upd_same⟩⟩
def spPick : Sp := fun vs H Q _ => ∃ (p l : Addr) (n : Nat) (xs : List V), vs = [.ref p, .ref l] ∧ PenAt H p n ∧ n < 1000000 ∧ H l = some (.lst xs) ∧ 0 < xs.length ∧ xs.length < 1000 ∧ ∀ H' (j : Nat) v, Fr p H H' → PenAt H' p (n + 1) → xs[j]? = some v → Q v H'
def spLaw (K : PySem.W.Frag) : Sp := fun vs H Q _ => ∃ (a : Addr) (ns : List Int), vs = [.ref a] ∧ SqL K H a (ns.map V.int) ∧ ns.length ≤ 63 ∧ ∀ H', Q (.bl true) H'
section
variable {P : Program} {w : World} {K : PySem.W.Frag} {mg : Str → Option Value} {base : Heap} {f fD fP fQ fC : Addr} {fd fdD fdP fdQ fdC : FuncData}
abbrev sLaw : Stmt := top 23
theorem ok_pick (F : FnP K "_law_pick" sPick f fd) (FD : FnP K "_law_draw" sDraw fD fdD) (gD : mg "_law_draw" = some (.ref fD)) (gi : mg "int" = none) (gn : mg "len" = none) : FnOk P w K mg base CX0 2 f fd ["_law_pen_here", "_law_items"] spPick := by
  have GD : FnOk P w K mg base CX0 1 fD fdD ["_law_pen_here", "_law_many"] spDraw := ok_draw FD gi gn
  have bD : Binds K fdD ["_law_pen_here", "_law_many"] [] := FD.bindsN fun _ _ _ _ _ _ us hl => match us, hl with | [_, _], _ => rfl
  refine F.ok sc_pick (fun vs H Q E h => ?_) (fun cdv A outer s H vs Q E hr h => ?_)
  · obtain ⟨p, l, n, xs, rfl, _⟩ := h
    rfl
  refine ⟨_, PSs.nox (pss_one (ps_ret (pe_ix ix_list (pv 1) (pe_call GD hr rfl gD FD.kp bD .nil pass0 (pa_cons (pv 0) (pa_cons (pe_callB call_len_seq rfl gn PySem.boot_len (pa_cons (pv 1) pa_nil)) pa_nil))) (fun _ _ => rfl)))), ?_⟩
  obtain ⟨p, l, n, xs, rfl, hp, hn, hl, h0, h1, q⟩ := h
  refine ⟨_, rfl, _, rfl, _, rfl, l, xs, rfl, .inl (SqL.of hl), p, n, _, rfl, hp, hn, by omega, by omega, fun H' d fr pn d0 d1 => ?_⟩
  have npl : l ≠ p := fun z => by
    obtain ⟨c, cells, a, l', h2, _⟩ := hp
    rw [← z, hl] at h2
    cases h2
  obtain ⟨j, rfl⟩ : ∃ j : Nat, d = (j : Int) := ⟨d.toNat, by omega⟩
  have hj : j < xs.length := by omega
  exact ⟨l, xs, _, xs[j], rfl, rfl, SqL.of (fr _ _ npl hl), atI_nat (List.getElem?_eq_getElem hj), q H' j _ fr pn (List.getElem?_eq_getElem hj)⟩
theorem sc_law : FnScope ["_law_script", "_law_pen_here", "_law_turn", "_law_k", "_law_a", "_law_b", "_law_digit", "_law_what", "_law_due", "_law_j"] ["_law_script"] (defScope sLaw) := ⟨rfl, rfl, rfl, by decide +kernel, rfl, by decide +kernel, by decide +kernel⟩
theorem pen_le {H : Hp} {p : Addr} {n m : Nat} (h : PenAt H p n) (e : n ≤ m) : PenAt H p m := by
  obtain ⟨c, cells, a, l, h1, h2, h3⟩ := h
  exact ⟨c, cells, a, l, h1, h2, by omega⟩
theorem rd_k {σ : L2.St} {H : Hp} {Q : VK} {p : Addr} {n i : Nat} (h1 : σ[1]? = some (some (.ref p))) (h2 : σ[2]? = some (some (.int ((0 : Int) + (i : Int))))) (hp : PenAt H p n) (hn : n < 1000000) (q : ∀ H' (k : Nat), PenAt H' p (n + 1) → k < 13 → Q (.int (k : Int)) H') :
    tIf (tTest (tOp (rI0 fun i j => .bl (decide (i < j))) (tVar 2) (tC (.int 13)))) (tVar 2) (tCall spDraw [] E0 (tCons (tVar 1) (tCons (tC (.int 13)) tNil))) σ H Q := by
  refine ⟨_, h2, _, _, rfl, rfl, _, rfl, ?_⟩
  refine ite2 (fun h => ⟨_, h2, ?_⟩) (fun h => ?_)
  · have h' : (0 : Int) + (i : Int) < 13 := of_decide_eq_true h
    rw [Int.zero_add]
    exact q H i (pen_le hp (Nat.le_succ _)) (by omega)
  · refine ⟨_, h1, p, n, 13, rfl, hp, hn, by decide, by decide, fun H' d fr pn d0 d1 => ?_⟩
    obtain ⟨k, rfl⟩ : ∃ k : Nat, d = (k : Int) := ⟨d.toNat, by omega⟩
    exact q H' k pn (by omega)
theorem rd_what {σ : L2.St} {H : Hp} {Q : VK} {b : Str} (h : σ[5]? = some (some (.str b))) (q : Q (.str (what b)) H) : tIf (tTest (tOp rEq (tVar 5) (tC (.str "mk")))) (tC (.str "characters")) (tC (.str "lines")) σ H Q := by
  refine ⟨_, h, rfl, _, rfl, ?_⟩
  refine ite2 (fun hb => ?_) (fun hb => ?_)
  · rw [what_of (of_decide_eq_true hb)] at q
    exact q
  · rw [what_no fun e => hb (decide_eq_true e)] at q
    exact q
def okB (b : Str) : Bool := PyData.strOk b && PyData.strOk (what b)
theorem five_of : ∀ {j : Nat} {v : V}, ([.str "mk", .str "main", .str "q", .str "z", .str "abcdefghijkl"] : List V)[j]? = some v → ∃ b, v = .str b ∧ okB b = true
  | 0, _, h => by cases h; exact ⟨_, rfl, by decide +kernel⟩
  | 1, _, h => by cases h; exact ⟨_, rfl, by decide +kernel⟩
  | 2, _, h => by cases h; exact ⟨_, rfl, by decide +kernel⟩
  | 3, _, h => by cases h; exact ⟨_, rfl, by decide +kernel⟩
  | 4, _, h => by cases h; exact ⟨_, rfl, by decide +kernel⟩
  | n + 5, _, h => by simp at h
def ans (k : Nat) (a : Int) (b : Str) : PyData := .list [.list (kindsD k), .list (due k a b), .bool true]
theorem shaped_ans {k : Nat} {a : Int} {b : Str} (hk : k < 13) (hb : okB b = true) : SeqAt.shaped (ans k a b) = true := by
  obtain ⟨h1, h2⟩ := Bool.and_eq_true_iff.mp hb
  have h3 : PyData.strOk "peak" = true := by decide +kernel
  match k, hk with
  | 0, _ => rfl
  | 1, _ =>
    unfold SeqAt.shaped
    rw [Bool.and_eq_true]
    exact ⟨by simp [ans, due, kindsD, PyData.canLay0, PyData.canLayAll0, List.range, List.range.loop, h2], rfl⟩
  | 2, _ => rfl
  | 3, _ => rfl
  | 4, _ => rfl
  | 5, _ => rfl
  | 6, _ => rfl
  | 7, _ => rfl
  | 8, _ => rfl
  | 9, _ =>
    unfold SeqAt.shaped
    rw [Bool.and_eq_true]
    exact ⟨by simp [ans, due, kindsD, PyData.canLay0, PyData.canLayAll0, List.range, List.range.loop, h1], rfl⟩
  | 10, _ => rfl
  | 11, _ =>
    unfold SeqAt.shaped
    rw [Bool.and_eq_true]
    exact ⟨by simp [ans, due, kindsD, PyData.canLay0, PyData.canLayAll0, List.range, List.range.loop, h3], rfl⟩
  | 12, _ => rfl
  | n + 13, h => exact absurd h (by omega)
theorem eqv_ans {k : Nat} {a : Int} {b : Str} (h : SeqAt.shaped (ans k a b) = true) : PyData.eqv (ans k a b) (ans k a b) = true := SeqAt.eqv_refl _ (SeqAt.canLay_of_shaped h)
theorem dp_kinds {K : PySem.W.Frag} {H : Hp} (k : Nat) : ∀ l : List Nat, DpAll K H (l.map fun x => .bl (decide (x = k))) (l.map fun x => .bool (decide (x = k)))
  | [] => .nil
  | _ :: l => .cons (.bl _) (dp_kinds k l)
theorem dec_int (j k : Nat) : decide (V.int ((0 : Int) + (j : Int)) = V.int (k : Int)) = decide (j = k) := by
  by_cases h : j = k
  · subst h
    rw [Int.zero_add, decide_eq_true rfl, decide_eq_true rfl]
  · rw [decide_eq_false h, decide_eq_false]
    intro z
    injection z with z
    exact h (by omega)
def five : List V := [.str "mk", .str "main", .str "q", .str "z", .str "abcdefghijkl"]
theorem ok_law (F : FnP K "law" sLaw f fd) (FD : FnP K "_law_draw" sDraw fD fdD) (gD : mg "_law_draw" = some (.ref fD)) (FQ : FnP K "_law_pick" sPick fQ fdQ) (gQ : mg "_law_pick" = some (.ref fQ)) (FP : FnP K "_law_pen" sPen fP fdP) (gP : mg "_law_pen" = some (.ref fP))
    (FC : FnP K "_law_caught" sCaught fC fdC) (gC : mg "_law_caught" = some (.ref fC)) (GC : FnOk P w K mg base CX0 5 fC fdC ["_law_k", "_law_a", "_law_b"] (spCaught K))
    (gi : mg "int" = none) (gn : mg "len" = none) (gl : mg "list" = none) (gm : mg "min" = none) (gr : mg "range" = none) : FnOk P w K mg base CX0 6 f fd ["_law_script"] (spLaw K) := by
  have GD : FnOk P w K mg base CX0 1 fD fdD ["_law_pen_here", "_law_many"] spDraw := ok_draw FD gi gn
  have GQ : FnOk P w K mg base CX0 2 fQ fdQ ["_law_pen_here", "_law_items"] spPick := ok_pick FQ FD gD gi gn
  have GP : FnOk P w K mg base CX0 1 fP fdP ["_law_script"] (spPen K) := ok_pen FP gl
  have bD : Binds K fdD ["_law_pen_here", "_law_many"] [] := FD.bindsN fun _ _ _ _ _ _ us hl => match us, hl with | [_, _], _ => rfl
  have bQ : Binds K fdQ ["_law_pen_here", "_law_items"] [] := FQ.bindsN fun _ _ _ _ _ _ us hl => match us, hl with | [_, _], _ => rfl
  have bP : Binds K fdP ["_law_script"] [] := FP.bindsN fun _ _ _ _ _ _ us hl => match us, hl with | [_], _ => rfl
  have bC : Binds K fdC ["_law_k", "_law_a", "_law_b"] [] := FC.bindsN fun _ _ _ _ _ _ us hl => match us, hl with | [_, _, _], _ => rfl
  refine F.ok sc_law (fun vs H Q E h => ?_) (fun cdv A outer s H vs Q E hr h => ?_)
  · obtain ⟨a, ns, rfl, _⟩ := h
    rfl
  have nd := sc_law.nd
  have r1 : Room 1 _ := hr.mono (by decide)
  have r2 : Room 2 _ := hr.mono (by decide)
  refine ⟨_, PSs.nox (
    pss_cons (ps_set (i := 1) nd rfl (Or.inl rfl) (pe_call GP r1 rfl gP FP.kp bP .nil pass0 (pa_cons (pv 0) pa_nil)))
    (pss_cons (ps_for PassesOwn.never rfl (pi_range1 rfl gr (pa_cons (pe_op op_add pe_int (pe_callB (call_min2 rfl) rfl gm (by decide +kernel) (pa_cons pe_int (pa_cons (pe_callB call_len_seq rfl gn PySem.boot_len (pa_cons (pv 0) pa_nil)) pa_nil)))) pa_nil)) (pg_name (i := 2) nd rfl (Or.inl rfl))
      (pss_cons (ps_set (i := 3) nd rfl (Or.inr rfl) (pe_ifExp (pt_cmpR op_lt (pv 2) pe_int (nomark _)) (pv 2) (pe_call GD r1 rfl gD FD.kp bD .nil pass0 (pa_cons (pv 1) (pa_cons pe_int pa_nil)))))
      (pss_cons (ps_par (i := 4) (j := 5) rfl nd rfl rfl (by decide) rfl rfl (pa_cons pe_int (pa_cons (pe_call GQ r2 rfl gQ FQ.kp bQ .nil pass0 (pa_cons (pv 1) (pa_cons (pe_lst (pa_cons pe_str (pa_cons pe_str (pa_cons pe_str (pa_cons pe_str (pa_cons pe_str pa_nil)))))) pa_nil))) pa_nil)) rfl)
      (pss_cons (ps_for PassesOwn.never rfl (pi_range1 rfl gr (pa_cons pe_int pa_nil)) (pg_name (i := 6) nd rfl (Or.inl rfl))
        (pss_one (ps_set (i := 4) nd rfl (Or.inl rfl) (pe_op op_add (pe_op op_mul (pv 4) pe_int) (pe_call GD r1 rfl gD FD.kp bD .nil pass0 (pa_cons (pv 1) (pa_cons pe_int pa_nil)))))))
      (pss_cons (ps_set (i := 7) nd rfl (Or.inl rfl) (pe_ifExp (pt_cmpR op_eq (pv 5) pe_str (nomark _)) pe_str pe_str))
      (pss_cons (ps_set (i := 8) nd rfl (Or.inl rfl) (pe_ix ix_list (pe_lst (pa_cons (pe_lst (pa_cons (pv 4) pa_nil)) (pa_cons (pe_lst (pa_cons (pv 7) pa_nil)) (pa_cons (pe_lst (pa_cons (pv 4) pa_nil)) (pa_cons (pe_lst (pa_cons (pv 4) pa_nil)) (pa_cons (pe_lst (pa_cons (pe_tup (pa_cons (pv 4) (pa_cons pe_int pa_nil))) pa_nil)) (pa_cons (pe_lst (pa_cons (pe_tup (pa_cons pe_int (pa_cons (pv 4) pa_nil))) pa_nil)) (pa_cons (pe_lst (pa_cons (pv 4) (pa_cons pe_int pa_nil))) (pa_cons (pe_lst pa_nil) (pa_cons (pe_lst pa_nil) (pa_cons (pe_lst (pa_cons (pv 5) pa_nil)) (pa_cons (pe_lst (pa_cons (pv 4) pa_nil)) (pa_cons (pe_lst (pa_cons (pe_tup (pa_cons pe_str (pa_cons (pv 4) pa_nil))) pa_nil)) (pa_cons (pe_lst pa_nil) pa_nil)))))))))))))) (pv 3) (fun _ _ => rfl)))
      (pss_one (ps_if (pt_cmpR (op_neD hr.units) (pe_call GC hr rfl gC FC.kp bC .nil pass0 (pa_cons (pv 3) (pa_cons (pv 4) (pa_cons (pv 5) pa_nil))))
          (pe_lst (pa_cons (pe_lc (own := [("_law_j", 9)]) (g := gName 9) (by rfl) nd (pi_range1 rfl gr (pa_cons pe_int pa_nil)) (blkOk_by (own := [("_law_j", 9)]) (N := ["_law_script", "_law_pen_here", "_law_turn", "_law_k", "_law_a", "_law_b", "_law_digit", "_law_what", "_law_due", "_law_j"]) (sc := defScope sLaw) (by decide +kernel))
            (fun _ _ _ _ _ => pg_name (i := 9) nd rfl (Or.inl rfl)) (fun _ _ _ _ _ => pts_nil) (fun _ _ _ _ _ => pe_cmpR op_eq (pv 9) (pv 3) (nomark _))) (pa_cons (pv 8) (pa_cons pe_bl pa_nil)))) (nomark _))
        (pss_one (ps_ret pe_bl)) pss_nil))))))))
    (pss_one (ps_ret pe_bl)))), ?_⟩
  obtain ⟨a, ns, rfl, hS, h63, q⟩ := h
  have sl0 : (0 : Nat) ≤ sizeLine := Nat.zero_le _
  have sl1 : (1 : Nat) ≤ sizeLine := by rw [sizeLine_eq]; decide
  have sl2 : (2 : Nat) ≤ sizeLine := by rw [sizeLine_eq]; decide
  have sl3 : (3 : Nat) ≤ sizeLine := by rw [sizeLine_eq]; decide
  have sl5 : (5 : Nat) ≤ sizeLine := by rw [sizeLine_eq]; decide
  have sl13 : (13 : Nat) ≤ sizeLine := by rw [sizeLine_eq]; decide
  have mm : ∀ n : Nat, n ≤ 63 → (0 : Int) ≤ (13 + if ((n : Int) < 20) then (n : Int) else 20) ∧ (13 + if ((n : Int) < 20) then (n : Int) else 20) ≤ 33 := fun n hn => by
    split <;> omega
  refine ⟨_, rfl, a, ns, rfl, hS, fun Hq p ep np pp => ?_⟩
  refine ⟨_, rfl, a, _, rfl, .inl (sqL_ext ep hS), 20, _, rfl, _, _, rfl, rfl, ?_⟩
  have m1 := mm (ns.map V.int).length (by rw [List.length_map]; exact h63)
  obtain ⟨N, eN, hN⟩ : ∃ N : Nat, (13 + if (((ns.map V.int).length : Int) < 20) then ((ns.map V.int).length : Int) else 20) = (N : Int) ∧ N ≤ 33 := by
    refine ⟨(13 + if (((ns.map V.int).length : Int) < 20) then ((ns.map V.int).length : Int) else 20).toNat, ?_, ?_⟩ <;> omega
  refine ⟨(N : Int), by rw [← eN], by omega, by omega, for_range (lo := 0) (n := N) (fun i σ H => ∃ v2 v3 v4 v5 v6 v7 v8 : Option V, σ = [some (.ref a), some (.ref p), v2, v3, v4, v5, v6, v7, v8, none] ∧ PenAt H p (9 * i)) ⟨_, _, _, _, _, _, _, rfl, pp⟩ ?_ (fun σ H _ => q H)⟩
  rintro i σ H hi ⟨v2, v3, v4, v5, v6, v7, v8, rfl, hp⟩
  have hi2 : i < 33 := by omega
  refine rd_k rfl rfl hp (by omega) (fun H1 k hp1 hk => ?_)
  refine ⟨_, rfl, rd_lst (vs_c (vs_c (vs_c (vs_c (vs_c vs_nil))))) sl5 fun lf Hf ef nf ff => ⟨p, lf, 9 * i + 1, _, rfl, pen_ext hp1 ef, by omega, ff, Nat.succ_pos _, by show 5 < 1000; decide, fun H2 jb vb fr2 hp2 hvb => ?_⟩⟩
  obtain ⟨bs, rfl, hbs⟩ := five_of hvb
  refine ⟨_, _, rfl, ?_⟩
  refine ⟨7, rfl, by decide, by decide, for_range (lo := 0) (n := 7) (fun j σ H => ∃ (av : Int) (w6 : Option V), σ = [some (.ref a), some (.ref p), some (.int ((0 : Int) + (i : Int))), some (.int (k : Int)), some (.int av), some (.str bs), w6, v7, v8, none] ∧ PenAt H p (9 * i + 2 + j)) ⟨0, _, rfl, hp2⟩ ?_ ?_⟩
  · rintro j σ H3 hj ⟨av, w6, rfl, hp3⟩
    exact ⟨_, rfl, _, _, rfl, rfl, .inr ⟨by decide, by decide⟩, _, rfl, p, _, _, rfl, hp3, by omega, by decide, by decide, fun H4 d fr4 hp4 d0 d1 => ⟨_, _, rfl, rfl, _, _, rfl, hp4⟩⟩
  rintro σ H3 ⟨av, w6, rfl, hp3⟩
  refine rd_what rfl ?_
  dsimp only [gName, tSeq, tAsg, tOp, List.set]
  refine rd_consL (vs_var rfl vs_nil) sl1 fun l0 H0 e0 _ f0 => ?_
  refine rd_consL (vs_var rfl vs_nil) sl1 fun l1 H1 e1 _ f1 => ?_
  refine rd_consL (vs_var rfl vs_nil) sl1 fun l2 H2 e2 _ f2 => ?_
  refine rd_consL (vs_var rfl vs_nil) sl1 fun l3 H3 e3 _ f3 => ?_
  refine rd_consT (vs_var rfl (vs_c vs_nil)) sl2 sl1 fun t4 l4 T4 H4 te4 e4 tf4 f4 => ?_
  refine rd_consT (vs_c (vs_var rfl vs_nil)) sl2 sl1 fun t5 l5 T5 H5 te5 e5 tf5 f5 => ?_
  refine rd_consL (vs_var rfl (vs_c vs_nil)) sl2 fun l6 H6 e6 _ f6 => ?_
  refine rd_consL vs_nil sl0 fun l7 H7 e7 _ f7 => ?_
  refine rd_consL vs_nil sl0 fun l8 H8 e8 _ f8 => ?_
  refine rd_consL (vs_var rfl vs_nil) sl1 fun l9 H9 e9 _ f9 => ?_
  refine rd_consL (vs_var rfl vs_nil) sl1 fun l10 H10 e10 _ f10 => ?_
  refine rd_consT (vs_c (vs_var rfl vs_nil)) sl2 sl1 fun t11 l11 T11 H11 te11 e11 tf11 f11 => ?_
  refine rd_consL vs_nil sl0 fun l12 H12 e12 _ f12 => ?_
  refine ⟨sl13, fun lo nlo => ?_⟩
  have eo := ext_put (o := .lst [V.ref l0, V.ref l1, V.ref l2, V.ref l3, V.ref l4, V.ref l5, V.ref l6, V.ref l7, V.ref l8, V.ref l9, V.ref l10, V.ref l11, V.ref l12]) nlo
  generalize hHo : upd H12 lo (.lst [V.ref l0, V.ref l1, V.ref l2, V.ref l3, V.ref l4, V.ref l5, V.ref l6, V.ref l7, V.ref l8, V.ref l9, V.ref l10, V.ref l11, V.ref l12]) = Ho at eo ⊢
  have fo : Ho lo = some (.lst [V.ref l0, V.ref l1, V.ref l2, V.ref l3, V.ref l4, V.ref l5, V.ref l6, V.ref l7, V.ref l8, V.ref l9, V.ref l10, V.ref l11, V.ref l12]) := by rw [← hHo]; exact upd_same
  have x12 : Ext H12 Ho := eo
  have x11 : Ext H11 Ho := Ext.trans e12 x12
  have x10 : Ext H10 Ho := Ext.trans (Ext.trans te11 e11) x11
  have x9 : Ext H9 Ho := Ext.trans e10 x10
  have x8 : Ext H8 Ho := Ext.trans e9 x9
  have x7 : Ext H7 Ho := Ext.trans e8 x8
  have x6 : Ext H6 Ho := Ext.trans e7 x7
  have x5 : Ext H5 Ho := Ext.trans e6 x6
  have x4 : Ext H4 Ho := Ext.trans (Ext.trans te5 e5) x5
  have x3 : Ext H3 Ho := Ext.trans (Ext.trans te4 e4) x4
  have x2 : Ext H2 Ho := Ext.trans e3 x3
  have x1 : Ext H1 Ho := Ext.trans e2 x2
  have x0 : Ext H0 Ho := Ext.trans e1 x1
  have xx := Ext.trans e0 x0
  obtain ⟨ld, hat, hdp⟩ : ∃ ld : Addr, atI [V.ref l0, V.ref l1, V.ref l2, V.ref l3, V.ref l4, V.ref l5, V.ref l6, V.ref l7, V.ref l8, V.ref l9, V.ref l10, V.ref l11, V.ref l12] ((k : Nat) : Int) = some (V.ref ld) ∧ Dp K Ho (.ref ld) (.list (due k av bs)) := by
    match k, hk with
    | 0, _ => exact ⟨l0, atI_nat rfl, .lst (SqL.of (x0 _ _ f0)) (.cons (.int _) .nil)⟩
    | 1, _ => exact ⟨l1, atI_nat rfl, .lst (SqL.of (x1 _ _ f1)) (.cons (.str _) .nil)⟩
    | 2, _ => exact ⟨l2, atI_nat rfl, .lst (SqL.of (x2 _ _ f2)) (.cons (.int _) .nil)⟩
    | 3, _ => exact ⟨l3, atI_nat rfl, .lst (SqL.of (x3 _ _ f3)) (.cons (.int _) .nil)⟩
    | 4, _ => exact ⟨l4, atI_nat rfl, .lst (SqL.of (x4 _ _ f4)) (.cons (.tup (SqT.of ((Ext.trans e4 x4) _ _ tf4)) (.cons (.int _) (.cons (.int _) .nil))) .nil)⟩
    | 5, _ => exact ⟨l5, atI_nat rfl, .lst (SqL.of (x5 _ _ f5)) (.cons (.tup (SqT.of ((Ext.trans e5 x5) _ _ tf5)) (.cons (.int _) (.cons (.int _) .nil))) .nil)⟩
    | 6, _ => exact ⟨l6, atI_nat rfl, .lst (SqL.of (x6 _ _ f6)) (.cons (.int _) (.cons (.int _) .nil))⟩
    | 7, _ => exact ⟨l7, atI_nat rfl, .lst (SqL.of (x7 _ _ f7)) .nil⟩
    | 8, _ => exact ⟨l8, atI_nat rfl, .lst (SqL.of (x8 _ _ f8)) .nil⟩
    | 9, _ => exact ⟨l9, atI_nat rfl, .lst (SqL.of (x9 _ _ f9)) (.cons (.str _) .nil)⟩
    | 10, _ => exact ⟨l10, atI_nat rfl, .lst (SqL.of (x10 _ _ f10)) (.cons (.int _) .nil)⟩
    | 11, _ => exact ⟨l11, atI_nat rfl, .lst (SqL.of (x11 _ _ f11)) (.cons (.tup (SqT.of ((Ext.trans e11 x11) _ _ tf11)) (.cons (.str _) (.cons (.int _) .nil))) .nil)⟩
    | 12, _ => exact ⟨l12, atI_nat rfl, .lst (SqL.of (x12 _ _ f12)) .nil⟩
    | n + 13, h => exact absurd h (by omega)
  refine ⟨_, rfl, lo, _, _, _, rfl, rfl, SqL.of fo, hat, ?_⟩
  refine ⟨_, rfl, _, rfl, _, rfl, k, av, bs, rfl, hk, fun H5 lc e5 dp5 => ?_⟩
  refine ⟨13, rfl, by decide, by decide, fun D hD => lc_range (lo := 0) (n := 13) (fun j G => Ext H5 G ∧ G D = some (.lst ((List.range j).map fun x => V.bl (decide (x = k))))) ⟨ext_put hD, upd_same⟩ ?_ ?_⟩
  · rintro j G hj ⟨eg, fg⟩
    refine ⟨rfl, ?_⟩
    unfold tYes
    dsimp only
    rw [if_pos rfl]
    refine ⟨_, rfl, _, rfl, rfl, _, fg, ?_, fun x o hx => ?_, ?_⟩
    · rw [List.length_map, List.length_range, sizeLine_eq]
      show j < 16777216
      omega
    · rw [upd_ne (ne_of_none hx hD)]
      exact eg _ _ hx
    · rw [upd_same, dec_int, List.range_succ, List.map_append] <;> rfl
  rintro G ⟨eg, fg⟩
  refine ⟨_, rfl, sl3, fun lr nr => ?_⟩
  have sh := shaped_ans (a := av) hk hbs
  refine ⟨ans k av bs, ans k av bs, dp_ext (eg.trans (ext_put nr)) dp5, .lst (SqL.of upd_same) (.cons (.lst (SqL.of (ext_put nr _ _ fg)) (dp_kinds k _)) (.cons (dp_ext (e5.trans (eg.trans (ext_put nr))) hdp) (.cons (.bl true) .nil))), sh, sh, _, rfl, ?_⟩
  rw [eqv_ans sh]
  refine iteF ?_
  exact ⟨_, _, _, _, _, _, _, rfl, pen_le (pen_ext hp3 (xx.trans (e5.trans (eg.trans (ext_put nr))))) (by omega)⟩
end
end K7H
set_option Elab.async false
set_option linter.all false
set_option maxRecDepth 100000
set_option maxHeartbeats 4000000
/-! k07, part V: the facts of the head, joined -/
namespace K7H
open PySem PySem.Spec PyProof.Rows L2 K7
theorem all_names {Q : Str → Prop} (h0 : Q "BadText") (h1 : Q "TooMany") (h2 : Q "NotRun") (h3 : Q "BadPick") (h4 : Q "BadSpot") (h5 : Q "BadRoom") (h6 : Q "Dropped") (h7 : Q "Unlike") (h8 : Q "NoFault") (h9 : Q "NoFunction") (h10 : Q "NoRoom") (h11 : Q "Refused") (h12 : Q "NothingLeft") : ∀ n ∈ names, Q n := by
  intro n hn
  simp only [names, List.mem_cons, List.mem_nil_iff, or_false] at hn
  rcases hn with rfl | rfl | rfl | rfl | rfl | rfl | rfl | rfl | rfl | rfl | rfl | rfl | rfl <;> assumption
theorem facts {w : World} {K : PySem.W.Frag} {h : Heap} {mg : Str → Option Value} {f : Addr} (X : K.In h) (G : h.Ns mainGlobals mg) (hfa : mg ("law" : Str) = some (.ref f)) (c : Says K) :
    ∃ fd : FuncData, (∀ (s : Shared) (v : Value), BindsTo s fd ⟨[v], []⟩ [("_law_script", v)]) ∧ ∀ base : Heap, K.In base → base.Ns mainGlobals mg → FnOk P7 w K mg base CX0 6 f fd ["_law_script"] (spLaw K) := by
  have b := c.base
  obtain ⟨fdP, FP⟩ := b.def_ 0 rfl
  obtain ⟨fdD, FD⟩ := b.def_ 1 rfl
  obtain ⟨fdQ, FQ⟩ := b.def_ 2 rfl
  obtain ⟨fdR, FR⟩ := b.def_ 3 rfl
  obtain ⟨fdK, FK⟩ := b.def_ 4 rfl
  obtain ⟨fdF, FF⟩ := b.def_ 5 rfl
  obtain ⟨fdC, FC⟩ := b.def_ 6 rfl
  obtain ⟨fd, F⟩ := b.def_ 7 rfl
  have e := hfa.symm.trans (He.glo_ok X G (b.fact 7 (f := .glo "law") rfl))
  cases e
  have bb := FunD.bindsA (ps := ["_law_script"]) F fun _ _ _ _ _ _ us hl => match us, hl with | [_], _ => rfl
  have g : ∀ n ∈ names, mg n = some (.ref (He.ga K n)) := all_names (He.glo_ok X G (b.fact 9 (f := .glo "BadText") rfl)) (He.glo_ok X G (b.fact 10 (f := .glo "TooMany") rfl)) (He.glo_ok X G (b.fact 11 (f := .glo "NotRun") rfl)) (He.glo_ok X G (b.fact 12 (f := .glo "BadPick") rfl))
    (He.glo_ok X G (b.fact 13 (f := .glo "BadSpot") rfl)) (He.glo_ok X G (b.fact 14 (f := .glo "BadRoom") rfl)) (He.glo_ok X G (b.fact 15 (f := .glo "Dropped") rfl)) (He.glo_ok X G (b.fact 16 (f := .glo "Unlike") rfl)) (He.glo_ok X G (b.fact 17 (f := .glo "NoFault") rfl))
    (He.glo_ok X G (b.fact 18 (f := .glo "NoFunction") rfl)) (He.glo_ok X G (b.fact 19 (f := .glo "NoRoom") rfl)) (He.glo_ok X G (b.fact 20 (f := .glo "Refused") rfl)) (He.glo_ok X G (b.fact 21 (f := .glo "NothingLeft") rfl))
  refine ⟨fd, fun s v => bb s [v] rfl, fun base _ _ => ?_⟩
  have gi := He.free_ok X G (b.fact 22 (f := .free "int") rfl)
  have gii := He.free_ok X G (b.fact 23 (f := .free "isinstance") rfl)
  have gn := He.free_ok X G (b.fact 24 (f := .free "len") rfl)
  have gl := He.free_ok X G (b.fact 25 (f := .free "list") rfl)
  have gm := He.free_ok X G (b.fact 26 (f := .free "min") rfl)
  have gr := He.free_ok X G (b.fact 27 (f := .free "range") rfl)
  have gs := He.free_ok X G (b.fact 28 (f := .free "super") rfl)
  have gv := He.free_ok X G (b.fact 29 (f := .free "ValueError") rfl)
  exact ok_law F FD (He.glo_ok X G (b.fact 1 (f := .glo "_law_draw") rfl)) FQ (He.glo_ok X G (b.fact 2 (f := .glo "_law_pick") rfl)) FP (He.glo_ok X G (b.fact 0 (f := .glo "_law_pen") rfl)) FC (He.glo_ok X G (b.fact 6 (f := .glo "_law_caught") rfl))
    (ok_caught FC c g gs gii gv (He.glo_ok X G (b.fact 8 (f := .glo "RoomError") rfl)) FR (He.glo_ok X G (b.fact 3 (f := .glo "_law_raised") rfl)) FK (He.glo_ok X G (b.fact 4 (f := .glo "_law_kinds") rfl)) FF (He.glo_ok X G (b.fact 5 (f := .glo "_law_fields") rfl))) gi gn gl gm gr
end K7H
open PySem PySem.W PySem.Calls PyProof.Rows
theorem PySem.Challenge.cw_roomends_k07_errors_holds : PySem.Challenge.rw_roomends_k07_errors.Holds := by
  w_on; o_law
  refine HandSHeadRun.head_any (r := OpenLaw.row PySem.Challenge.rw_roomends_k07_errors) (q := view (OpenLaw.row PySem.Challenge.rw_roomends_k07_errors).prog [23]) (H := K7H.hk) (ob := K7H.ob) (M := 4000) (loose := K7H.loose) (d := HandSHeadRun.topDef (OpenLaw.row PySem.Challenge.rw_roomends_k07_errors).prog 23) (kwd := []) K7H.ob_eq
    (by kernel_rfl) (fun s => by kernel_rfl) K7H.run (by kernel_rfl) (by kernel_rfl) (by kernel_rfl) (by rfl) (by first | assumption | decide +kernel) (by decide +kernel) ⟨rfl, rfl, rfl, rfl, rfl, by decide +kernel⟩ ?hw ?hc
  case hw => w_witness2
  case hc =>
    refine L2.walk_ofE (l := PySem.Challenge.rw_roomends_k07_errors) (n := 63) (k := 6) (x := "_law_script") (CX := L2.CX0) rfl (by decide) (by kernel_rfl) ⟨rfl, by decide, by decide⟩ ?F (fun _ _ _ _ z => z)
    intro w mg fa h Y G hmg0
    obtain ⟨K, KX, c⟩ := Y
    have hmg : mg ("law" : PySem.Str) = some (.ref fa) := by
      have e : (HandSHeadRun.topDef (OpenLaw.row PySem.Challenge.rw_roomends_k07_errors).prog 23).name = ("law" : PySem.Str) := by kernel_rfl
      rw [← e]
      exact hmg0
    obtain ⟨fd, hb, hF⟩ := K7H.facts (w := w) KX G hmg c
    exact ⟨K, fd, K7H.spLaw K, KX, hb, fun H a ns hl _ hS => ⟨a, ns, rfl, hS, hl, fun _ => rfl⟩, hF⟩
