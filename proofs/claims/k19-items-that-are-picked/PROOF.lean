import PyProof.Rows.All
import Wide.All
import OpenK.AllK
import Wide.FinOn
import HandS.Defaults
import HandS.HeadHook1
import HandS.HeadHook2
import KE.KSuper
import KE.KExcSuper
import HandS.Base
import HandS.Call
import HandS.List
import HandS.Ends
import HandS.Exc
import HandS.ExcInit
import HandS.ExcSuper
import HandS.HeadWalk
import HandS.ExcIs
import HandS.ExcField
import KE.KExcIs
import HandS.HeadNt
import HandS.Property
import KE.KStateDown
import Lean
import HandS.More
import HandS.Words
import HandS.WordsExc
import HandS.Head0
import HandS.Head1
import HandS.Head2
import HandS.HeadEnd
import HandS.HeadHook4
import HandS.ForMost
import HandS.Style
import HandS.Star
import HandS.Deep
import HandS.DictComp
import KE.LtData
import KE.KDictZip
import PyProof.CollectWalk
import PyProof.ListNew
import PyProof.TupleOps
import HandS.RevTup
import HandS.Conv
import HandS.ExcValue
import KE.GoesEnum
import KE.KDictSum
import HandS.WordsList
import HandS.Text
import HandS.Flow
import HandS.SortKw
import HandS.Zip
import KE.GoesEnumKw
import HandS.RaiseMore
import HandS.Walk
import HandS.Dict
import HandS.Comp
import HandS.Iter
import PyProof.StrOps2
import PyProof.DictUpdate
import PyProof.MeetsSeq2
import PyProof.DictDisplay
import HandS.TupAny
import KE.KRevSl
import HandS.ExcOwn
import HandS.TryOnly
import HandS.TryMany
import PySem.Challenge.RW_roomends_k19_items_that_are_picked
set_option Elab.async false
set_option linter.all false
set_option maxRecDepth 100000
set_option maxHeartbeats 4000000
/-! k06, part A: the head's hook with one more Bool -/
namespace K6
open PySem PySem.W PySem.Calls PyProof.Rows L2
def as6 (g : Addr → Option Obj) : Nat → List Addr
  | 0 => [mainGlobals, cStatics]
  | n + 1 => He.growD g (as6 g n)
abbrev Al6 : Type := He.AlD × Bool
def obs6 (fa : List He.Fa) (fn : List He.DefD) (tb : Frag → Bool) (K : Frag) : Al6 := (He.obsD fa fn K, tb K)
def val6 (fn : List He.DefD) : Al6 := (He.valD fn, true)
def Says6 (fa : List He.Fa) (fn : List He.DefD) (tb : Frag → Bool) (K : Frag) : Prop := obs6 fa fn tb K = val6 fn
def obs6G (n : Nat) (fa : List He.Fa) (fn : List He.DefD) (tb : Frag → Bool) (g : Addr → Option Obj) : Al6 := obs6 fa fn tb (He.frG g (as6 g n))
def hook6 (n : Nat) (fa : List He.Fa) (fn : List He.DefD) (tb : Frag → Bool) : Hook where
  α := Al6
  obs := fun s => obs6G n fa fn tb s.heap.get?
  val := fun _ => val6 fn
  says := fun _ h => ∃ K : Frag, K.In h ∧ Says6 fa fn tb K
  of := fun _ _ e => ⟨_, He.frG_in, e⟩
  keeps := fun _ _ _ ⟨K, hK, c⟩ k => ⟨K, Frag.In.keeps hK k, c⟩
theorem obs6G_eq {n : Nat} {fa : List He.Fa} {fn : List He.DefD} {tb : Frag → Bool} {g : Addr → Option Obj} {s : Shared} (h : ∀ a, g a = s.heap.get? a) : obs6G n fa fn tb g = (hook6 n fa fn tb).obs s := by
  have e : g = s.heap.get? := funext h
  rw [e] <;> rfl
theorem Says6.base {fa : List He.Fa} {fn : List He.DefD} {tb : Frag → Bool} {K : Frag} (c : Says6 fa fn tb K) : He.SaysD fa fn K := congrArg (fun z : Al6 => z.1) c
theorem Says6.tb {fa : List He.Fa} {fn : List He.DefD} {tb : Frag → Bool} {K : Frag} (c : Says6 fa fn tb K) : tb K = true := congrArg (fun z : Al6 => z.2) c
end K6
set_option Elab.async false
set_option linter.all false
set_option maxRecDepth 100000
set_option maxHeartbeats 4000000
/-! k07, part A: an error of the program is made: its __init__ runs super().__init__(text), then stores its fields -/
namespace K7
open PySem PySem.W PySem.Calls PyProof.Rows PySem.HandSPX
abbrev Fp := Str × Pos × Pos × Pos × Pos
def fBody (fs : List Fp) : List Stmt := fs.map fun (f, q1, q2, q3, q4) => .Assign [.Attribute (.Name "self" q1) f q2] (.Name f q3) q4
def sStmt (p0 p1 p2 p3 p4 p5 : Pos) (k : Nat) (txt : Str) : Stmt := .Expr (.Call (.Attribute (.Call (.Name "super" p0) [] [] p1) "__init__" p2) [.Constant (.str txt) k p3] [] p4) p5
def mOf : List (Str × Value) → Str → Option Value
  | [] => fun _ => none
  | (f, v) :: r => fun y => if y = f then some v else mOf r y
abbrev xo (C t : Addr) (d : Option Addr) : Obj := { cls := .ref C, dict := d, data := .fields #[.ref t, .none, .none, .none, .bool false, .none] }
/-- of the heap h0 nothing but x has changed; at x stands an error of the class at C with these fields -/
structure At (h0 : Heap) (x C : Addr) (done : List (Str × Value)) (h : Heap) : Prop where
  keep : ∀ b o, b ≠ x → h0.get? b = some o → h.get? b = some o
  obj : ∃ t, (done = [] ∧ h.get? x = some (xo C t none)) ∨ ∃ dx, done ≠ [] ∧ h0.objs.size ≤ dx ∧ dx ≠ x ∧ h.get? x = some (xo C t (some dx)) ∧ h.Ns1 dx (mOf done)
  grow : h0.objs.size ≤ h.objs.size
theorem within_m : ∀ l : List (Str × Value), Within (mOf l) (l.map (·.1))
  | [] => fun y h => absurd rfl h
  | (f, v) :: r => fun y h => by
    have h : (if y = f then some v else mOf r y) ≠ none := h
    by_cases e : y = f
    · subst e; exact List.mem_cons_self
    · rw [if_neg e] at h; exact List.mem_cons_of_mem _ (within_m r y h)
structure XC (K : Frag) (C : Addr) : Prop where
  cls : ∃ nm q N bs bm sn sub ab col dd k0 k1 k2 k3 k5, K.lookup C = some (excClassObj nm q C N bs bm true sn sub ab col dd k0 k1 k2 k3 k5 "ValueError.__new__") ∧ refsVE bm = true
  sa : findIn K (.ref C) "__setattr__" = some (some (.builtin "object.__setattr__"))
section
variable {prog : Program} {w : World} {A : Around} {E : Value → Shared → Prop} {K : Frag} {C x : Addr} {env : Env} {h0 : Heap} {m : Str → Option Value} {g : Array GenState} {d : Drawn} {os : OsState}
theorem kin_at (X : K.In h0) (hnx : K.lookup x = none) {done : List (Str × Value)} {h : Heap} (a : At h0 x C done h) : K.In h := fun b o e =>
  a.keep b o (fun z => by rw [z, hnx] at e; cases e) (X b o e)
theorem step1 {Q : Unit → Shared → Prop} {f : Str} {v : Value} {done : List (Str × Value)} {h : Heap} {t : Nat} (T : XC K C) {L : Addr} (hn : h0.Ns L m) (X : K.In h0) (hnx : K.lookup x = none)
    (hno : findIn K (.ref C) f = some none) (hl : done.length ≤ 900) (a : At h0 x C done h)
    (q : ∀ h' t', At h0 x C ((f, v) :: done) h' → Q () ⟨h', g, d, t', os⟩) : wpAny (model prog w) A (setAttr (.ref x) f v) Q E ⟨h, g, d, t, os⟩ := by
  obtain ⟨nm, qn, N, bs, bm, sn, sub, ab, col, dd, k0, k1, k2, k3, k5, hC, hbm⟩ := T.cls
  have hcl : clsIn K C = some { name := nm, bases := bs, mro := .ref C :: bm, ns := N, qualname := qn, hasDict := true, slotNames := sn, subclasses := sub, abstract := ab, collection := col, hasDel := false } := by unfold clsIn; rw [hC] <;> rfl
  have Xh : K.In h := kin_at X hnx a
  obtain ⟨t1, ⟨hd, ho⟩ | ⟨dx, hdn, hge, hne, ho, hns⟩⟩ := a.obj
  · subst hd
    refine set_plain Xh (ox := xo C t1 none) (od := none) ⟨ho, rfl, rfl, trivial⟩ T.sa ?_
    refine exc_osa Xh ho hcl (show refsVE (.ref C :: bm) = true from hbm) rfl hno (fun h' tk' dx k dn dne hx hn1 => ?_)
    have hdx : dx < h'.objs.size := by
      obtain ⟨o, _, _, e, _⟩ := hn1
      exact Heap.lt_size e
    exact q h' tk' ⟨fun b o hb e => k b o hb (a.keep b o hb e), ⟨t1, .inr ⟨dx, List.cons_ne_nil _ _, Nat.le_trans a.grow dn, dne, hx, hn1⟩⟩, Nat.le_trans a.grow (Nat.le_trans dn (Nat.le_of_lt hdx))⟩
  · obtain ⟨oD, _, _, hoD, _, _⟩ := hns.count (within_m done)
    refine set_plain Xh (ox := xo C t1 (some dx)) (od := some oD) ⟨ho, rfl, rfl, hoD⟩ T.sa ?_
    refine PySem.OEX.osa_old Xh ho hns (within_m done) (by rw [List.length_map]; omega) hcl (show refsVE (.ref C :: bm) = true from hbm) rfl hno (fun h' tk' k hn' => ?_)
    have hdx : dx < h'.objs.size := by
      obtain ⟨o, _, _, e, _⟩ := hn'
      exact Heap.lt_size e
    refine q h' tk' ⟨fun b o hb e => k b o (fun z => ?_) (a.keep b o hb e), ⟨t1, .inr ⟨dx, List.cons_ne_nil _ _, hge, hne, k _ _ (Ne.symm hne) ho, hn'⟩⟩, Nat.le_trans hge (Nat.le_of_lt hdx)⟩
    have := Heap.lt_size e
    rw [z] at this
    exact absurd (Nat.lt_of_lt_of_le this hge) (Nat.lt_irrefl _)
theorem stepS {Q : Flow → Shared → Prop} {f : Str} {v : Value} {done : List (Str × Value)} {h : Heap} {t : Nat} {q1 q2 q3 q4 : Pos} {rest : List Stmt} (T : XC K C) (hk : env.scope.kind = .function) (hn : h0.Ns env.locals m) (hLx : env.locals ≠ x) (X : K.In h0) (hnx : K.lookup x = none) (hs : m "self" = some (.ref x)) (hks : env.kindOf "self" = some .local)
    (hv : m f = some v) (hkf : env.kindOf f = some .local) (hdb : (f == ("__debug__" : Str)) = false) (hno : findIn K (.ref C) f = some none) (hl : done.length ≤ 900) (a : At h0 x C done h)
    (q : ∀ h' t', At h0 x C ((f, v) :: done) h' → wpAny (model prog w) A (execs rest env) Q E ⟨h', g, d, t', os⟩) : wpAny (model prog w) A (execs (.Assign [.Attribute (.Name "self" q1) f q2] (.Name f q3) q4 :: rest) env) Q E ⟨h, g, d, t, os⟩ := by
  have hnh : h.Ns env.locals m := hn.at fun o e => a.keep _ _ hLx e
  refine wpAny_execs_cons (plainObj_wpAny_Assign_Attribute (hs := rfl) ?_)
  refine wpAny_Name (wpAny_loadName_local hk hkf hnh hv ?_) hdb
  refine wpAny_Name (wpAny_loadName_local hk hks hnh hs ?_) (by decide)
  exact step1 T hn X hnx hno hl a q
end
end K7
set_option Elab.async false
set_option linter.all false
set_option maxRecDepth 100000
set_option maxHeartbeats 4000000
/-! k07, part B: super().__init__(text) -/
namespace K7
open PySem PySem.W PySem.Calls PyProof.Rows PySem.HandSPX
section
variable {prog : Program} {w : World} {M : Model} {A : Around} {E : Value → Shared → Prop} {h : Heap} {g : Array GenState} {d : Drawn} {t : Nat} {os : OsState} {K : Frag} {C x : Addr}
/-- what super() gives, plainly over the heap -/
theorem super_obj {body : List Stmt} {q : Str} {scope : Scope} {p0 p1 : Pos} {attr : Str} {whole : Sem Value} {fd : FuncData} {ar : Arg} {vs : Array Value} {file : Str} {tf : Tok} {oc ccl cl : Value} {od cdd cld : Option Addr} {osl ccs csl : Array (Option Value)} {cdD : ClassData} {ox : Obj} {f cda cc L D : Addr} {m mg mb : Str → Option Value} {Q : Value → Shared → Prop}
    (X : K.In h) (hn : h.Ns L m) (G : h.Ns mainGlobals mg) (B : h.Ns builtinsNs mb) (hmg : mg "super" = none) (hmb : mb "super" = some (.type "super"))
    (hf : K.lookup f = some ⟨oc, od, .func fd, osl⟩) (hp : (fd.params.posonlyargs ++ fd.params.args).head? = some ar) (hv : m ar.arg = some (.ref x)) (hx : h.get? x = some ox) (hxc : ox.cls = .ref C) (hnc : ∀ c, ox.data ≠ .cls c)
    (hcode : K.lookup cda = some ⟨ccl, cdd, .fields vs, ccs⟩) (hvs : vs[2]? = some (.str file tf)) (hfile : ((prog.main.file : Str) == file) = true)
    (hcell : K.lookup cc = some ⟨cl, cld, .cell (some (.ref D)), csl⟩) (hD : clsIn K D = some cdD) (hsub : mroIn K C (.ref D) = some true)
    (hat : (attr == ("__class__" : Str)) = false) (hks : scope.names.lookup ("super" : Str) = some .globalImplicit) (hkc : scope.names.lookup ("__class__" : Str) = some .free) (hka : scope.names.lookup ar.arg = some .local) (hk : scope.kind = .function)
    (htop : (prog.main.scope.names.lookup ("super" : Str)).isSome = false)
    (hq : ∀ h', h'.get? h.objs.size = some (ks_superObj D x C) → (∀ b o, h.get? b = some o → h'.get? b = some o) → Q (.ref h.objs.size) ⟨h', g, d, t, os⟩) :
    PySem.wpAt (model prog w) A (.func body (ksEnv q scope L f (.ref cda) cc)) (attributeBase (.Call (.Name "super" p0) [] [] p1) attr (ksEnv q scope L f (.ref cda) cc) whole) Q E ⟨h, g, d, t, os⟩ := by
  obtain ⟨oD, hD1, hD2⟩ : ∃ oD, h.get? D = some oD ∧ oD.data = .cls cdD := by
    unfold clsIn at hD
    split at hD
    · rename_i c d cd' sl ho
      cases hD
      exact ⟨_, X _ _ ho, rfl⟩
    · cases hD
  refine ks_wpAt_super_base (env := ksEnv q scope L f (.ref cda) cc) hks hkc hat rfl (X _ _ hf) rfl hp rfl (X _ _ hcode) rfl hvs hfile htop ?_
  refine ks_loadName_global hk hks (loadGlobal_builtin (env := ksEnv q scope L f (.ref cda) cc) G hmg B hmb ⟨rfl, ?_⟩)
  refine wpAny_loadName_free hk hkc rfl ⟨_, X _ _ hcell, rfl⟩ ?_
  refine wpAny_loadName_local hk hka hn hv ?_
  refine ks_wpAny_isType_cls hD1 hD2 ⟨rfl, ?_⟩
  exact ks_wpAny_call_super hD1 hD2 hx hxc hnc (looks_mroIn X hsub) hq
/-- the method-wrapper called -/
theorem call_mw {nm qn : Str} {N : Addr} {bs bm : List Value} {hdct : Bool} {sn : List Str} {sub : List Value} {ab : Bool} {col : Option Bool} {dd : Option Addr} {k0 k1 k2 k3 k5 : Option Value} {u t0 : Addr} {rest : List Value} {Q : Value → Shared → Prop}
    (hC : h.get? C = some (excClassObj nm qn C N bs bm hdct sn sub ab col dd k0 k1 k2 k3 k5 "ValueError.__new__")) (he : h.get? x = some (xo C t0 none)) (hu : h.get? u = some (kxs_mw "ValueError.__init__" x)) (hrest : rest.length ≤ sizeLine)
    (hq : ∀ h' t1, (∀ b o, b ≠ x → h.get? b = some o → h'.get? b = some o) → h'.get? x = some (xo C t1 none) → h.objs.size ≤ h'.objs.size → Q .none ⟨h', g, d, t, os⟩) :
    wpAny (model prog w) A (call (.ref u) rest) Q E ⟨h, g, d, t, os⟩ := by
  have FB := F.excBase_ValueError
  refine wpAny_call (codeAny_of_tree ?_)
  show wpAny _ A.in1 (callAny (.ref u) ⟨rest, []⟩) _ _ _
  simp only [callAny]
  refine wpAny_bind (wpAny_load hu ?_)
  simp only [kxs_mw, show (Value.type "method-wrapper" == Value.type "method" || Value.type "method-wrapper" == Value.type "builtin_function_or_method" || Value.type "method-wrapper" == Value.type "method-wrapper") = true by decide, if_true]
  refine KFB.if_so (by decide) ?_
  refine wpAny_bind (check_bound_init FB.toExcCallFacts hC he rfl ?_)
  refine wpAny_bind (wpAny_pure (wpAny_pure ?_))
  refine ⟨plainId_quiet FB.init.plain _, codeAny_builtin FB.initEntry ?_⟩
  rw [Around.under_plainId FB.init.plain _]
  exact exc_init_tree (cls := .ref C) (t0 := t0) (dv := none) (c2 := .none) (c3 := .none) (b4 := .bool false) he hrest fun h' k e t' => hq h' h.objs.size k e (Nat.le_of_lt (Heap.lt_size t'))
theorem super_call {p0 p1 p2 p3 p4 : Pos} {k : Nat} {txt : Str} {env : Env} (hp : (p2.endLine == p4.line) = true) :
    eval (.Call (.Attribute (.Call (.Name "super" p0) [] [] p1) "__init__" p2) [.Constant (.str txt) k p3] [] p4) env = (do
      let ov ← attributeBase (.Call (.Name "super" p0) [] [] p1) "__init__" env (eval (.Call (.Name "super" p0) [] [] p1) env)
      standAt p2.atName
      let (f, first) ← holding [ov] (getMethod ov "__init__" (L2.plainOf (.Call (.Name "super" p0) [] [] p1) env))
      callWith p4 f first (backTo p4 (starEach [.Constant (.str txt) k p3] env)) []) := by
  have e1 : eval (.Call (.Attribute (.Call (.Name "super" p0) [] [] p1) "__init__" p2) [.Constant (.str txt) k p3] [] p4) env = (do
      let ov ← attributeBase (.Call (.Name "super" p0) [] [] p1) "__init__" env (eval (.Call (.Name "super" p0) [] [] p1) env)
      standAt p2.atName
      methodCall (.Call (.Name "super" p0) [] [] p1) "__init__" p2 p4 env ov 1 (backTo p4 (starEach [.Constant (.str txt) k p3] env)) []) := by rfl
  rw [e1]
  congr 1
  funext ov
  congr 1
  funext _
  exact L2.mcall_line rfl hp
/-- what the written part says of an error's class beside -/
structure XS (K : Frag) (C : Addr) : Prop extends XC K C where
  cd : ∃ cdD, clsIn K C = some cdD
  selfsub : mroIn K C (.ref C) = some true
  any : nsIn K cStatics "thirdparty.any" = some none
  sup : ks_superIn K C C "__init__" = some (some (.builtin "ValueError.__init__"))
  ve : subIn K (.ref C) (.type "ValueError") = some true
theorem sup_stmt {body : List Stmt} {q : Str} {scope : Scope} {p0 p1 p2 p3 p4 p5 : Pos} {kk : Nat} {txt : Str} {fd : FuncData} {ar : Arg} {vs : Array Value} {file : Str} {tf : Tok} {oc ccl cl : Value} {od cdd cld : Option Addr} {osl ccs csl : Array (Option Value)} {f cda cc L t0 : Addr} {m mg mb : Str → Option Value} {Q : Flow → Shared → Prop}
    (T : XS K C) (X : K.In h) (hn : h.Ns L m) (G : h.Ns mainGlobals mg) (B : h.Ns builtinsNs mb) (hmg : mg "super" = none) (hmb : mb "super" = some (.type "super"))
    (hf : K.lookup f = some ⟨oc, od, .func fd, osl⟩) (hp : (fd.params.posonlyargs ++ fd.params.args).head? = some ar) (hv : m ar.arg = some (.ref x)) (hx : h.get? x = some (xo C t0 none)) (hxK : K.lookup x = none)
    (hcode : K.lookup cda = some ⟨ccl, cdd, .fields vs, ccs⟩) (hvs : vs[2]? = some (.str file tf)) (hfile : ((prog.main.file : Str) == file) = true)
    (hcell : K.lookup cc = some ⟨cl, cld, .cell (some (.ref C)), csl⟩)
    (hks : scope.names.lookup ("super" : Str) = some .globalImplicit) (hkc : scope.names.lookup ("__class__" : Str) = some .free) (hka : scope.names.lookup ar.arg = some .local) (hk : scope.kind = .function)
    (htop : (prog.main.scope.names.lookup ("super" : Str)).isSome = false)
    (hpos : (p2.endLine == p4.line) = true) (hq : ∀ h' t', At h x C [] h' → Q .next ⟨h', g, d, t', os⟩) :
    PySem.wpAt (model prog w) A (.func body (ksEnv q scope L f (.ref cda) cc)) (exec (sStmt p0 p1 p2 p3 p4 p5 kk txt) (ksEnv q scope L f (.ref cda) cc)) Q E ⟨h, g, d, t, os⟩ := by
  obtain ⟨cdD, hD⟩ := T.cd
  obtain ⟨nm, qn, N, bs, bm, sn, sub, ab, col, dd, k0, k1, k2, k3, k5, hC, hbm⟩ := T.cls
  have hxC : x ≠ C := fun z => by
    rw [z, hC] at hxK
    cases hxK
  have hi : interactive (ksEnv q scope L f (.ref cda) cc) = false := by unfold interactive; simp [ksEnv, envX, hk]
  refine ks_wpAt_Expr_any (hi := hi) (ks_wpAt_MethodCall (he := super_call hpos) ?_)
  refine super_obj (C := C) (D := C) X hn G B hmg hmb hf hp hv hx rfl (fun c z => by cases z) hcode hvs hfile hcell hD T.selfsub rfl hks hkc hka hk htop (fun h1 hso k1 => ?_)
  have X1 : K.In h1 := X.keeps k1
  have hx1 := k1 _ _ hx
  have I1 : InstAt h1 x (xo C t0 none) C none := ⟨hx1, rfl, rfl, trivial⟩
  have hm := T.sup
  unfold ks_superIn at hm
  rw [hD] at hm
  refine kxs_getMethod kxs_ValueError hso (looks_opaque X1 T.any) (l₀ := cdD.mro) ?_ rfl X1 hm (I1.type.andThen (looks_subIn X1 T.ve)) hxC rfl ?_
  · exact fun A Q E s k q => wpAny_bind ((looks_clsIn X1 hD) A _ E s k (wpAny_pure q))
  have hz1 : h.objs.size ≤ h1.objs.size := Nat.le_of_lt (Heap.lt_size hso)
  have k2 : ∀ b o, h1.get? b = some o → (h1.push (kxs_mw "ValueError.__init__" x)).get? b = some o := fun b o e => Heap.get?_push_of_some _ e
  have hu : (h1.push (kxs_mw "ValueError.__init__" x)).get? h1.objs.size = some (kxs_mw "ValueError.__init__" x) := Heap.get?_push_at rfl rfl
  have hz2 : h.objs.size ≤ (h1.push (kxs_mw "ValueError.__init__" x)).objs.size := Nat.le_trans hz1 (Nat.le_of_lt (Heap.lt_size hu))
  show wpAny _ _ (callWith p4 (.ref h1.objs.size) [] (backTo p4 (starEach [.Constant (.str txt) kk p3] (ksEnv q scope L f (.ref cda) cc))) []) _ _ _
  refine kxs_callWith (i := "ValueError.__init__") (x := x) rfl (evalArgs_plain (spliced_cons (Constant_str (k := kk) (pos := p3) (spliced_nil ⟨hu, ?_⟩))))
  refine call_mw (k2 _ _ (X1 _ _ hC)) (k2 _ _ hx1) hu (by rw [sizeLine_eq]; exact (by decide : 1 ≤ 16777216)) fun h' t1 k3 hx3 hz3 => ?_
  exact hq h' _ ⟨fun b o hb e => k3 b o hb (k2 _ _ (k1 _ _ e)), ⟨t1, .inl ⟨rfl, hx3⟩⟩, Nat.le_trans hz2 hz3⟩
end
end K7
set_option Elab.async false
set_option linter.all false
set_option maxRecDepth 100000
set_option maxHeartbeats 4000000
/-! k07, part C: an error's __init__ as a whole -/
namespace K7
open PySem PySem.W PySem.Calls PyProof.Rows PySem.HandSPX
/-- what the written part says of the __init__ at fI of the class at C -/
structure XI (K : Frag) (P : Program) (C fI : Addr) (qual : Str) (params : Arguments) (body : List Stmt) (scope : Scope) : Prop where
  iC : findIn K (.ref C) "__init__" = some (some (.ref fI))
  tI : typeIn K (.ref fI) = some (.type "function")
  fn : ∃ (oc : Value) (od : Option Addr) (kV doc pm : Value) (an : Option Addr) (cda : Addr) (ct : Value) (osl : Array (Option Value)) (cc : Addr) (ccl : Value) (cdd : Option Addr) (vs : Array Value) (ccs : Array (Option Value)) (file : Str) (tf : Tok) (cl : Value) (cld : Option Addr) (csl : Array (Option Value)),
    K.lookup fI = some ⟨oc, od, .func (ksFn "__init__" qual params body scope .none kV doc pm an (.ref cda) ct cc), osl⟩ ∧ codeIn K (.ref cda) qual = true ∧ K.lookup cda = some ⟨ccl, cdd, .fields vs, ccs⟩ ∧ vs[2]? = some (.str file tf) ∧
    ((P.main.file : Str) == file) = true ∧ K.lookup cc = some ⟨cl, cld, .cell (some (.ref C)), csl⟩
/-- the module's names at a heap -/
structure Mods (K : Frag) (h : Heap) : Prop where
  kin : K.In h
  lim : h.NoLimit
  glob : ∃ mg, h.Ns mainGlobals mg ∧ mg "super" = none
  blt : ∃ mb, h.Ns builtinsNs mb ∧ mb "super" = some (.type "super")
theorem Mods.keeps {K : Frag} {h h' : Heap} (M : Mods K h) (k : ∀ b o, h.get? b = some o → h'.get? b = some o) : Mods K h' := by
  obtain ⟨mg, g1, g2⟩ := M.glob
  obtain ⟨mb, b1, b2⟩ := M.blt
  exact ⟨M.kin.keeps k, M.lim.keeps k, ⟨mg, g1.keeps k, g2⟩, ⟨mb, b1.keeps k, b2⟩⟩
section
variable {prog : Program} {w : World} {A : Around} {R : Result → Shared → Prop} {K : Frag} {C fI x : Addr} {s : Shared} {qual : Str} {params : Arguments} {scope : Scope} {p0 p1 p2 p3 p4 p5 : Pos} {kk : Nat} {txt : Str} {rest : List Stmt}
theorem init_gen {ar : Arg} {us : List Value} {binds fin : List (Str × Value)} {t0 : Addr} (T : XS K C) (I : XI K prog C fI qual params (sStmt p0 p1 p2 p3 p4 p5 kk txt :: rest) scope) (M : Mods K s.heap) (hx : s.heap.get? x = some (xo C t0 none)) (hxK : K.lookup x = none)
    (hroom : A.depth < recursionLimit) (hb : ∀ fd : FuncData, fd.params = params → fd.defaults = .none → BindsTo s fd ⟨.ref x :: us, []⟩ binds) (hself : binds.reverse.lookup ("self" : Str) = some (Value.ref x))
    (hp : params.posonlyargs ++ params.args = ar :: (params.posonlyargs ++ params.args).tail) (har : ar.arg = "self") (hpos : (p2.endLine == p4.line) = true)
    (hks : scope.names.lookup ("super" : Str) = some .globalImplicit) (hkc : scope.names.lookup ("__class__" : Str) = some .free) (hka : scope.names.lookup ("self" : Str) = some .local) (hk : scope.kind = .function)
    (hcell : ∀ x ∈ scope.names, x.2 ≠ .cell) (hloc : ∀ y ∈ binds, scope.names.lookup y.1 = some .local) (hco : scope.isCoroutine = false) (hgen : scope.isGenerator = false)
    (htop : (prog.main.scope.names.lookup ("super" : Str)).isSome = false)
    (hrest : ∀ (env : Env) (h1 h2 : Heap) (t : Nat) (A' : Around) (Q : Flow → Shared → Prop) (E : Value → Shared → Prop), env.scope = scope → h1.Ns env.locals (fun y => binds.reverse.lookup y) → env.locals ≠ x → K.In h1 → At h1 x C [] h2 →
      (∀ h' t', At h1 x C fin h' → Q .next ⟨h', s.gens, s.drawn, t', s.os⟩) → wpAny (model prog w) A' (execs rest env) Q E ⟨h2, s.gens, s.drawn, t, s.os⟩)
    (hq : ∀ h' t', At s.heap x C fin h' → R (.ok (.ret .none)) ⟨h', s.gens, s.drawn, t', s.os⟩) :
    codeAny (model prog w) A (.call (.ref fI) ⟨.ref x :: us, []⟩) R s := by
  obtain ⟨oc, od, kV, doc, pm, an, cda, ct, osl, cc, ccl, cdd, vs, ccs, file, tf, cl, cld, csl, hf, hcd, hcode, hvs, hfile, hcellK⟩ := I.fn
  have hLx : s.heap.objs.size ≠ x := Nat.ne_of_gt (Heap.lt_size hx)
  refine ks_codeAny_call_defAt (fd := ksFn "__init__" qual params (sStmt p0 p1 p2 p3 p4 p5 kk txt :: rest) scope .none kV doc pm an (.ref cda) ct cc) (body := sStmt p0 p1 p2 p3 p4 p5 kk txt :: rest) (binds := binds) hroom (M.kin _ _ hf) rfl M.lim (codeRec_of M.kin hcd) rfl (hb _ rfl rfl) hcell hloc (fun h₁ hns hk₁ => ?_) hco hgen hk
  have M1 := M.keeps hk₁
  obtain ⟨mg, g1, g2⟩ := M1.glob
  obtain ⟨mb, b1, b2⟩ := M1.blt
  have hhead : ((ksFn "__init__" qual params (sStmt p0 p1 p2 p3 p4 p5 kk txt :: rest) scope .none kV doc pm an (.ref cda) ct cc).params.posonlyargs ++ (ksFn "__init__" qual params (sStmt p0 p1 p2 p3 p4 p5 kk txt :: rest) scope .none kV doc pm an (.ref cda) ct cc).params.args).head? = some ar := by
    show (params.posonlyargs ++ params.args).head? = some ar
    rw [hp]; rfl
  refine ks_wpAt_execs_cons ?_
  refine sup_stmt (C := C) (x := x) (t0 := t0) (m := fun y => binds.reverse.lookup y) (q := qual) (scope := scope) (f := fI) (cda := cda) (cc := cc) T M1.kin hns g1 b1 g2 b2 hf hhead (by rw [har]; exact hself) (hk₁ _ _ hx) hxK hcode hvs hfile hcellK hks hkc (by rw [har]; exact hka) hk htop hpos fun h2 t2 a2 => ?_
  refine wpAt_of_wpAny (hrest _ h₁ h2 t2 _ _ _ rfl hns hLx M1.kin a2 fun h' t' a' => ?_)
  refine hq h' t' ⟨fun b o hb e => a'.keep b o hb (hk₁ b o e), ?_, ?_⟩
  · obtain ⟨t1, h⟩ := a'.obj
    refine ⟨t1, ?_⟩
    rcases h with h | ⟨dx, a0, a1, a2, a3, a4⟩
    · exact .inl h
    · refine .inr ⟨dx, a0, Nat.le_trans ?_ a1, a2, a3, a4⟩
      have := hns.lt
      exact Nat.le_of_lt this
  · exact Nat.le_trans (Nat.le_of_lt hns.lt) a'.grow
end
end K7
set_option Elab.async false
set_option linter.all false
set_option maxRecDepth 100000
set_option maxHeartbeats 4000000
/-! k07, part D: the three shapes of __init__; an error made -/
namespace K7
open PySem PySem.W PySem.Calls PyProof.Rows PySem.HandSPX
def pA (l : List (Str × Pos)) : Arguments := { posonlyargs := [], args := l.map fun p => { arg := p.1, annotation := none, pos := p.2 }, vararg := none, kwonlyargs := [], kw_defaults := [], kwarg := none, defaults := [] }
/-- the scope of such an __init__ -/
structure ScOk (fs : List Str) (scope : Scope) : Prop where
  sup : scope.names.lookup ("super" : Str) = some .globalImplicit
  cls : scope.names.lookup ("__class__" : Str) = some .free
  self : scope.names.lookup ("self" : Str) = some .local
  fs : ∀ f ∈ fs, scope.names.lookup f = some .local
  kind : scope.kind = .function
  cell : ∀ x ∈ scope.names, x.2 ≠ .cell
  co : scope.isCoroutine = false
  gen : scope.isGenerator = false
/-- the fields behind __init__ -/
def finA {α : Type} : List Str → List α → List (Str × α) → List (Str × α)
  | f :: fs, u :: us, acc => finA fs us ((f, u) :: acc)
  | _, _, acc => acc
def finOf {α : Type} (fs : List Str) (us : List α) : List (Str × α) := finA fs us []
def InitOk (prog : Program) (w : World) (K : Frag) (C fI : Addr) (fs : List Str) : Prop :=
  ∀ (A : Around) (s : Shared) (x t0 : Addr) (us : List Value) (R : Result → Shared → Prop), us.length = fs.length → Mods K s.heap → s.heap.get? x = some (xo C t0 none) → K.lookup x = none → A.depth < recursionLimit →
    (∀ h' t', At s.heap x C (finOf fs us) h' → R (.ok (.ret .none)) ⟨h', s.gens, s.drawn, t', s.os⟩) → codeAny (model prog w) A (.call (.ref fI) ⟨.ref x :: us, []⟩) R s
section
variable {prog : Program} {w : World} {K : Frag} {C fI : Addr} {qual : Str} {p0 p1 p2 p3 p4 p5 a0 a1 a2 : Pos} {kk : Nat} {txt f f1 f2 : Str} {q1 q2 q3 q4 r1 r2 r3 r4 : Pos}
variable {scope : Scope}
theorem init0 (T : XS K C) (I : XI K prog C fI qual (pA [("self", a0)]) (sStmt p0 p1 p2 p3 p4 p5 kk txt :: []) scope) (S : ScOk [] scope) (hpos : (p2.endLine == p4.line) = true) (htop : (prog.main.scope.names.lookup ("super" : Str)).isSome = false) : InitOk prog w K C fI [] := by
  intro A s x t0 us R hu M hx hxK hr hq
  obtain rfl : us = [] := List.eq_nil_of_length_eq_zero hu
  refine init_gen (ar := { arg := "self", annotation := none, pos := a0 }) (binds := [("self", .ref x)]) (fin := []) T I M hx hxK hr (fun fd h1 h2 => BindsTo.of_eq (by unfold bindArgs; rw [h1, h2]; rfl)) rfl rfl rfl hpos S.sup S.cls S.self S.kind S.cell (fun y hy => by
    rcases List.mem_cons.mp hy with rfl | hy
    · exact S.self
    · cases hy) S.co S.gen htop (fun env h1 h2 t A' Q E _ _ _ _ a q => wpAny_execs_nil (q h2 t a)) hq
theorem kind_of {env : Env} {x : Str} (e : env.scope = scope) (h : scope.names.lookup x = some .local) : env.kindOf x = some .local := by
  unfold Env.kindOf
  rw [e]; exact h
theorem init1 (T : XS K C) (I : XI K prog C fI qual (pA [("self", a0), (f, a1)]) (sStmt p0 p1 p2 p3 p4 p5 kk txt :: .Assign [.Attribute (.Name "self" q1) f q2] (.Name f q3) q4 :: []) scope) (S : ScOk [f] scope) (hpos : (p2.endLine == p4.line) = true) (htop : (prog.main.scope.names.lookup ("super" : Str)).isSome = false)
    (hno : findIn K (.ref C) f = some none) (hfs : (("self" : Str) == f) = false) (hb : ∀ (fd : FuncData) (x u : Value), fd.params = pA [("self", a0), (f, a1)] → fd.defaults = .none → bindArgs fd ⟨[x, u], []⟩ = pure [(("self" : Str), x), (f, u)]) (hdb : (f == ("__debug__" : Str)) = false) : InitOk prog w K C fI [f] := by
  intro A s x t0 us R hu M hx hxK hr hq
  obtain ⟨u, rfl⟩ : ∃ u, us = [u] := by
    cases us with
    | nil => cases hu
    | cons u r => cases r with
      | nil => exact ⟨u, rfl⟩
      | cons _ _ => simp at hu
  have l1 : [(f, u), (("self" : Str), Value.ref x)].lookup ("self" : Str) = some (Value.ref x) := by simp [List.lookup, hfs]
  have l2 : [(f, u), (("self" : Str), Value.ref x)].lookup f = some u := by simp [List.lookup]
  refine init_gen (ar := { arg := "self", annotation := none, pos := a0 }) (binds := [("self", .ref x), (f, u)]) (fin := [(f, u)]) T I M hx hxK hr (fun fd h1 h2 => BindsTo.of_eq (hb fd _ _ h1 h2)) l1 rfl rfl hpos S.sup S.cls S.self S.kind S.cell (fun y hy => by
    rcases List.mem_cons.mp hy with rfl | hy
    · exact S.self
    · rcases List.mem_cons.mp hy with rfl | hy
      · exact S.fs _ List.mem_cons_self
      · cases hy) S.co S.gen htop (fun env h1 h2 t A' Q E es hn hL hX a q => ?_) hq
  exact stepS T.toXC (by rw [es]; exact S.kind) hn hL hX hxK l1 (kind_of es S.self) l2 (kind_of es (S.fs _ List.mem_cons_self)) hdb hno (Nat.zero_le _) a fun h' t' a' => wpAny_execs_nil (q h' t' a')
theorem init2 (T : XS K C) (I : XI K prog C fI qual (pA [("self", a0), (f1, a1), (f2, a2)]) (sStmt p0 p1 p2 p3 p4 p5 kk txt :: .Assign [.Attribute (.Name "self" q1) f1 q2] (.Name f1 q3) q4 :: .Assign [.Attribute (.Name "self" r1) f2 r2] (.Name f2 r3) r4 :: []) scope)
    (S : ScOk [f1, f2] scope) (hpos : (p2.endLine == p4.line) = true) (htop : (prog.main.scope.names.lookup ("super" : Str)).isSome = false)
    (hno1 : findIn K (.ref C) f1 = some none) (hno2 : findIn K (.ref C) f2 = some none) (hfs1 : (("self" : Str) == f1) = false) (hfs2 : (("self" : Str) == f2) = false) (h12 : (f1 == f2) = false) (hb : ∀ (fd : FuncData) (x u v : Value), fd.params = pA [("self", a0), (f1, a1), (f2, a2)] → fd.defaults = .none → bindArgs fd ⟨[x, u, v], []⟩ = pure [(("self" : Str), x), (f1, u), (f2, v)]) (hdb1 : (f1 == ("__debug__" : Str)) = false) (hdb2 : (f2 == ("__debug__" : Str)) = false) : InitOk prog w K C fI [f1, f2] := by
  intro A s x t0 us R hu M hx hxK hr hq
  obtain ⟨u, v, rfl⟩ : ∃ u v, us = [u, v] := by
    cases us with
    | nil => cases hu
    | cons u r => cases r with
      | nil => simp at hu
      | cons v r => cases r with
        | nil => exact ⟨u, v, rfl⟩
        | cons _ _ => simp at hu
  have l0 : [(f2, v), (f1, u), (("self" : Str), Value.ref x)].lookup ("self" : Str) = some (Value.ref x) := by simp [List.lookup, hfs1, hfs2]
  have l1 : [(f2, v), (f1, u), (("self" : Str), Value.ref x)].lookup f1 = some u := by simp [List.lookup, h12]
  have l2 : [(f2, v), (f1, u), (("self" : Str), Value.ref x)].lookup f2 = some v := by simp [List.lookup]
  refine init_gen (ar := { arg := "self", annotation := none, pos := a0 }) (binds := [("self", .ref x), (f1, u), (f2, v)]) (fin := [(f2, v), (f1, u)]) T I M hx hxK hr (fun fd h1 h2 => BindsTo.of_eq (hb fd _ _ _ h1 h2)) l0 rfl rfl hpos S.sup S.cls S.self S.kind S.cell (fun y hy => by
    rcases List.mem_cons.mp hy with rfl | hy
    · exact S.self
    · exact S.fs _ (by
        rcases List.mem_cons.mp hy with rfl | hy
        · exact List.mem_cons_self
        · rcases List.mem_cons.mp hy with rfl | hy
          · exact List.mem_cons_of_mem _ List.mem_cons_self
          · cases hy)) S.co S.gen htop (fun env h1 h2 t A' Q E es hn hL hX a q => ?_) hq
  refine stepS T.toXC (by rw [es]; exact S.kind) hn hL hX hxK l0 (kind_of es S.self) l1 (kind_of es (S.fs _ List.mem_cons_self)) hdb1 hno1 (Nat.zero_le _) a fun h' t' a' => ?_
  exact stepS T.toXC (by rw [es]; exact S.kind) hn hL hX hxK l0 (kind_of es S.self) l2 (kind_of es (S.fs _ (List.mem_cons_of_mem _ List.mem_cons_self))) hdb2 hno2 (by show 1 ≤ 900; omega) a' fun h' t' a' => wpAny_execs_nil (q h' t' a')
end
end K7
set_option Elab.async false
set_option linter.all false
set_option maxRecDepth 100000
set_option maxHeartbeats 4000000
/-! k07, part E: an error made and raised -/
namespace K7
open PySem PySem.W PySem.Calls PyProof.Rows PySem.HandSPX
section
variable {prog : Program} {w : World} {A : Around} {R : Result → Shared → Prop} {K : Frag} {C fI : Addr} {s : Shared} {fs : List Str} {us : List Value}
/-- a made error -/
structure Made (h h' : Heap) (e C : Addr) (fin : List (Str × Value)) : Prop where
  keep : ∀ b o, h.get? b = some o → h'.get? b = some o
  new : h.objs.size ≤ e
  obj : ∃ t, (fin = [] ∧ h'.get? e = some (xo C t none)) ∨ ∃ dx, fin ≠ [] ∧ h.objs.size ≤ dx ∧ dx ≠ e ∧ h'.get? e = some (xo C t (some dx)) ∧ h'.Ns1 dx (mOf fin)
theorem made (T : XC K C) (iC : findIn K (.ref C) "__init__" = some (some (.ref fI))) (tI : typeIn K (.ref fI) = some (.type "function")) (IO : InitOk prog w K C fI fs) (M : Mods K s.heap) (hroom : A.depth + 1 < recursionLimit) (hu : us.length = fs.length) (hz : us.length ≤ sizeLine)
    (hq : ∀ h' t' e, Made s.heap h' e C (finOf fs us) → R (.ok (.ret (.ref e))) ⟨h', s.gens, s.drawn, t', s.os⟩) : codeAny (model prog w) A (.call (.ref C) ⟨us, []⟩) R s := by
  obtain ⟨nm, q, N, bs, bm, sn, sub, ab, col, dd, k0, k1, k2, k3, k5, hC, hbm⟩ := T.cls
  obtain ⟨hp, g, dr, tk, os⟩ := s
  have k : ∀ b o, hp.get? b = some o → ((hp.push (kdv_tup us)).push (excO C hp.objs.size)).get? b = some o := fun b o e => Heap.get?_push_of_some _ (Heap.get?_push_of_some _ e)
  have hget : ((hp.push (kdv_tup us)).push (excO C hp.objs.size)).get? (hp.objs.size + 1) = some (excO C hp.objs.size) := by heap_get
  have hnx : K.lookup (hp.objs.size + 1) = none := by
    cases e : K.lookup (hp.objs.size + 1) with
    | none => rfl
    | some o =>
      have z : hp.get? (hp.objs.size + 1) = some o := M.kin _ _ e
      exact absurd (Nat.lt_of_succ_lt (Heap.lt_size z)) (Nat.lt_irrefl _)
  refine call_own F.excBase_ValueError (fun X => refsVE_contains X bm hbm) (M.kin _ _ hC) (looks_findIn M.kin iC) (fun self => bind_fn M.kin self tI) hz ?_
  refine IO _ ⟨(hp.push (kdv_tup us)).push (excO C hp.objs.size), g, dr, tk, os⟩ (hp.objs.size + 1) hp.objs.size us _ hu (M.keeps k) hget hnx hroom fun h' t' a => ?_
  have gr : hp.objs.size ≤ ((hp.push (kdv_tup us)).push (excO C hp.objs.size)).objs.size := Nat.le_of_lt (Nat.lt_of_succ_lt (Heap.lt_size hget))
  refine ⟨rfl, hq h' t' (hp.objs.size + 1) ⟨fun b o e => a.keep b o (Nat.ne_of_lt (Nat.lt_succ_of_lt (Heap.lt_size e))) (k b o e), Nat.le_succ _, ?_⟩⟩
  obtain ⟨t1, z | ⟨dx, a0, a1, a2, a3, a4⟩⟩ := a.obj
  · exact ⟨t1, .inl z⟩
  · exact ⟨t1, .inr ⟨dx, a0, Nat.le_trans gr a1, a2, a3, a4⟩⟩
end
end K7
namespace L2
open PySem PySem.Spec PyProof.Rows
theorem relO_fin : ∀ {fs : List Str} {vs : List V} {us : List Value} {l : List (Str × V)} {m : List (Str × Value)}, Vals vs us → (∀ f, RelO (l.lookup f) (K7.mOf m f)) → ∀ f, RelO ((K7.finA fs vs l).lookup f) (K7.mOf (K7.finA fs us m) f)
  | [], _, _, _, _, _, h, f => by
    unfold K7.finA
    exact h f
  | g :: fs, _, _, l, m, r, h, f => by
    cases r with
    | nil => exact h f
    | cons r1 r2 => exact relO_fin r2 (relO_put r1 h) f
theorem fin_len : ∀ {fs : List Str} {vs : List V} {us : List Value} {l : List (Str × V)} {m : List (Str × Value)}, Vals vs us → m.length = l.length → (K7.finA fs us m).length = (K7.finA fs vs l).length
  | [], _, _, _, _, _, h => by
    unfold K7.finA
    exact h
  | g :: fs, _, _, l, m, r, h => by
    cases r with
    | nil => exact h
    | cons r1 r2 => exact fin_len (fs := fs) (l := (g, _) :: l) (m := (g, _) :: m) r2 (by rw [List.length_cons, List.length_cons, h])
/-- the module's names at hand -/
theorem Inv.mods7 {X : Cx} {pins : List (Addr × Obj)} {σ : St} {H : Hp} {s : Shared} (I : Inv X pins σ H s) (hm : X.mg "super" = none) : K7.Mods X.K s.heap := by
  obtain ⟨mb, h1, h2⟩ := I.mod.blt
  exact ⟨I.kIn, I.nolimit, ⟨X.mg, I.mod.glob.keeps I.bk, hm⟩, ⟨mb, h1.keeps I.bk, (h2 "super" (by decide)).trans (by kernel_rfl)⟩⟩
/-- C(e, ..) of an error's class with the fields fs -/
def tMkX (C : Addr) (fs : List Str) (ta : TA) : St → Hp → XK → Prop := fun σ H Q => ta σ H fun vs H1 => vs.length = fs.length ∧
  (K7.finOf fs vs = [] → Q (.ref C) none H1) ∧ ∀ d, K7.finOf fs vs ≠ [] → H1 d = none → Q (.ref C) (some d) (upd H1 d (.xd (K7.finOf fs vs)))
/-- what the written part says of an error's class, to make and raise it -/
structure MkX (X : Cx) (C fI : Addr) (fs : List Str) : Prop where
  txt : K7.XC X.K C
  iC : PySem.W.findIn X.K (.ref C) "__init__" = some (some (.ref fI))
  tI : PySem.W.typeIn X.K (.ref fI) = some (.type "function")
  kC : PySem.W.keepIn X.K (.ref C) = true
  exC : PySem.W.subIn X.K (.ref C) (.type "BaseException") = some true
  tyC : PySem.W.typeIn X.K (.ref C) = some (.type "type")
  ini : K7.InitOk X.prog X.w X.K C fI fs
  sm : fs.length ≤ 100
section
variable {X : Cx} {C fI : Addr} {fs : List Str} {x : Str} {e : Expr} {es : List Expr} {ta : TA} {p pos : Pos}
theorem mk_x {pins : List (Addr × Obj)} {σ : St} {H1 : Hp} {Q : XK} {vs : List V} {us : List Value} {s1 : Shared} (T : MkX X C fI fs) (hr : X.A.depth + 1 < recursionLimit) (hsup : X.mg "super" = none) (I1 : Inv X pins σ H1 s1) (r1 : Vals vs us) (hl : vs.length = fs.length)
    (q0 : K7.finOf fs vs = [] → Q (.ref C) none H1) (q1 : ∀ d, K7.finOf fs vs ≠ [] → H1 d = none → Q (.ref C) (some d) (upd H1 d (.xd (K7.finOf fs vs)))) : wpAny (model X.prog X.w) X.A (call (.ref C) us) (MkP X pins σ Q) X.xe s1 := by
  have hu : us.length = fs.length := by rw [← hl]; exact (Paired.length r1).symm
  have hz : us.length ≤ sizeLine := by
    rw [hu, sizeLine_eq]
    have := T.sm
    omega
  refine wpAny_call (K7.made T.txt T.iC T.tI T.ini (I1.mods7 hsup) hr hu hz fun h' t' e M => ?_)
  obtain ⟨hp, g, dr, tk, os⟩ := s1
  show MkP X pins σ Q (.ref e) ⟨h', g, dr, t', os⟩
  have hne : hp.get? e = none := by
    cases z : hp.get? e with
    | none => rfl
    | some o => exact absurd (Nat.lt_of_lt_of_le (Heap.lt_size z) M.new) (Nat.lt_irrefl _)
  have na : H1 e = none := I1.hok.fresh M.new
  obtain ⟨t1, ⟨ef, ho⟩ | ⟨d, hfn, hd, hne2, ho, hns⟩⟩ := M.obj
  · have ev : K7.finOf fs vs = [] := by
      have : (K7.finOf fs us).length = (K7.finOf fs vs).length := fin_len r1 rfl
      rw [ef] at this
      exact List.eq_nil_of_length_eq_zero this.symm
    exact ⟨e, _, _, ⟨hp, g, dr, tk, os⟩, H1, .ref C, none, rfl, I1, M.keep, hne, ho, ⟨rfl, rfl⟩, rfl, rfl, na, rfl, I1.bare, raises_own T.exC T.tyC, q0 ev⟩
  · have hfv : K7.finOf fs vs ≠ [] := fun z => by
      have : (K7.finOf fs us).length = (K7.finOf fs vs).length := fin_len r1 rfl
      rw [z] at this
      exact hfn (List.eq_nil_of_length_eq_zero this)
    obtain ⟨G', g1, g2⟩ := restrict h' fun b => decide (b ≠ e)
    have gk : ∀ b, b ≠ e → G'.get? b = h'.get? b := fun b hb => g1 b (decide_eq_true hb)
    have ge : G'.get? e = none := g2 e (by simp)
    have old : ∀ b o, hp.get? b = some o → G'.get? b = some o := fun b o q => (gk b (Nat.ne_of_lt (Nat.lt_of_lt_of_le (Heap.lt_size q) M.new))).trans (M.keep b o q)
    have ob : ObjOk X.prog X.w (upd H1 d (.xd (K7.finOf fs vs))) G' d (.xd (K7.finOf fs vs)) := ⟨_, hns.at (fun o q => (gk d hne2).trans q), relO_fin r1 fun f => True.intro⟩
    have J : Inv X pins σ (upd H1 d (.xd (K7.finOf fs vs))) ⟨G', g, dr, t', os⟩ := I1.laid (t' := t') old hd ob
    refine ⟨e, _, _, ⟨G', g, dr, t', os⟩, _, .ref C, some d, rfl, J, fun b o q => ?_, ge, ho, ⟨rfl, rfl⟩, rfl, rfl, ?_, rfl, I1.bare, raises_own T.exC T.tyC, q1 d hfv (I1.hok.fresh hd)⟩
    · by_cases hb : b = e
      · have q' : G'.get? b = some o := q
        rw [hb, ge] at q'; cases q'
      · exact (gk b hb).symm.trans q
    · rw [upd_ne (Ne.symm hne2)]
      exact na
theorem pmk_x (T : MkX X C fI fs) {k : Nat} (hr : Room k X.A) (hsup : X.mg "super" = none) (hg : Gl X x) (hm : X.mg x = some (.ref C)) (ha : PA X (e :: es) ta)
    (hdb : (x == ("__debug__" : Str)) = false := by decide) (he : starEach (e :: es) X.env = (false, eval e X.env) :: starEach es X.env := by rfl) (hpl : (backTo pos (starEach es X.env)).any (·.1) = false := by rfl) :
    PMk X (.Call (.Name x p) (e :: es) [] pos) (tMkX C fs ta) := by
  intro pins s σ H Q I h
  refine wpAny_Call_Name_kw (ld_glob I hg hm ?_ hdb)
  refine PySem.W.callWith_K (h₀ := X.base) I.ok.mod.kin T.kC (thn (ha.run pos pins s σ H _ I h) fun us s1 ⟨vs, H1, I1, r1, hl, q0, q1⟩ => ⟨I1.kIn, ?_⟩) he hpl
  exact mk_x T (by have := hr.dp; omega) hsup I1 r1 hl q0 q1
theorem pmk_x0 (T : MkX X C fI []) {k : Nat} (hr : Room k X.A) (hsup : X.mg "super" = none) (hg : Gl X x) (hm : X.mg x = some (.ref C)) (hdb : (x == ("__debug__" : Str)) = false := by decide) :
    PMk X (.Call (.Name x p) [] [] pos) (fun _ H Q => Q (.ref C) none H) := by
  intro pins s σ H Q I h
  refine wpAny_Call_Name_kw (ld_glob I hg hm ?_ hdb)
  refine PySem.W.callWith_K0 I.kIn T.kC ?_
  exact mk_x T (by have := hr.dp; omega) hsup I (vs := []) .nil rfl (fun _ => h) (fun d z _ => absurd rfl z)
end
end L2
set_option Elab.async false
set_option linter.all false
set_option maxRecDepth 100000
set_option maxHeartbeats 4000000
/-! k07, part F: a caught error handed to a def -/
namespace L2
open PySem PySem.Spec PyProof.Rows
/-- at a stands just oe -/
def exn (a : Addr) (oe : Obj) : HO := .ext fun h => h.get? a = some oe
theorem exn_ne_own {a x : Addr} {oe : Obj} : exn a oe ≠ .own x := fun z => by
  have z' : HO.ext _ = HO.own x := z
  cases z'
theorem exn_ne_tup {a : Addr} {oe : Obj} {xs : List V} : exn a oe ≠ .tup xs := fun z => by
  have z' : HO.ext _ = HO.tup xs := z
  cases z'
theorem exn_ne_frz {a : Addr} {oe o : Obj} {u : HO} : exn a oe ≠ .frz o u := fun z => by
  have z' : HO.ext _ = HO.frz o u := z
  cases z'
theorem exn_ne_tbl {a : Addr} {oe : Obj} {ps : Array Value} : exn a oe ≠ .tbl ps := fun z => by
  have z' : HO.ext _ = HO.tbl ps := z
  cases z'
theorem exn_ok {P : Program} {w : World} {H : Hp} {h : Heap} {a : Addr} {oe : Obj} (e : h.get? a = some oe) : ObjOk P w H h a (exn a oe) := ⟨e, ⟨_, e⟩, fun _ _ z k => k _ z⟩
theorem exn_at {P : Program} {w : World} {H : Hp} {h : Heap} {a : Addr} {oe : Obj} (hok : HOk P w H h) (e : H a = some (exn a oe)) : h.get? a = some oe := by
  have x : ObjOk P w H h a (.ext fun h => h.get? a = some oe) := hok a _ e
  exact x.1
/-- the heap with one object told more -/
theorem hok_put {P : Program} {w : World} {H : Hp} {h : Heap} {a : Addr} {oe : Obj} (hok : HOk P w H h) (na : H a = none) (e : h.get? a = some oe) : HOk P w (upd H a (exn a oe)) h := fun b o q => by
  by_cases hb : b = a
  · subst hb
    rw [upd_same] at q
    cases q
    exact exn_ok e
  · rw [upd_ne hb] at q
    exact (hok b o q).stay (fun _ _ _ z => z) (fun c hc => by rw [upd_ne (ne_of_none hc na)]; exact hc) (fun c xs hc => by rw [upd_ne (ne_of_none hc na)]; exact hc)
theorem hok_del {P : Program} {w : World} {H : Hp} {h : Heap} {a : Addr} {oe : Obj} (hok : HOk P w H h) (e : H a = some (exn a oe)) : HOk P w (del H a) h := fun b o q => by
  have hb : b ≠ a := fun z => by
    rw [z, del_same] at q
    cases q
  rw [del_ne hb] at q
  exact (hok b o q).stay (fun _ _ _ z => z) (fun c hc => by rw [del_ne (at_ne e hc exn_ne_own)]; exact hc) (fun c xs hc => by rw [del_ne (at_ne e hc exn_ne_tup)]; exact hc)
section
variable {X : Cx} {CX : CXT} {k : Nat} {f a : Addr} {oe : Obj} {fd : FuncData} {ps : List Str} {sp : Sp} {x : Str} {p pos : Pos} {e : Expr} {es : List Expr} {t : TA} {pn : List (Addr × Obj)}
/-- f(.., err, ..) within the suite that holds err -/
def tCallX (base : Heap) (a : Addr) (oe : Obj) (sp : Sp) (t : TA) : TE := fun σ H Q => t σ H fun vs H1 => (base.get? a = none → H1 a = none → sp vs (upd H1 a (exn a oe)) (fun v H2 => H2 a = some (exn a oe) ∧ Q v (del H2 a)) (fun _ _ _ => False)) ∧
  (base.get? a = some oe → sp vs H1 Q (fun _ _ _ => False))
theorem run_callX {pins : List (Addr × Obj)} {σ : St} {H : Hp} {s : Shared} {Q : VK} {us : List Value} {vs : List V} (hpn : (a, oe) ∈ X.pn) (hba : X.base.get? a = none) (F : FnOk X.prog X.w X.K X.mg X.base (fun _ _ _ _ _ _ => False) k f fd ps sp) (hr : Room k X.A) (hb : Binds X.K fd ps [])
    (I : Inv X pins σ H s) (r : Vals vs us) (h : sp vs (upd H a (exn a oe)) (fun v H2 => H2 a = some (exn a oe) ∧ Q v (del H2 a)) (fun _ _ _ => False)) : wpAny (model X.prog X.w) X.A (call (.ref f) us) (EP X pins σ Q) X.xe s := by
  obtain ⟨ha, na, nL, nF, _⟩ := I.pin (a, oe) (List.mem_append_left _ hpn)
  have hl : us.length = ps.length := by rw [← r.length]; exact F.len _ _ _ _ h
  have b := hb s us I.kIn (by rw [List.append_nil]; exact hl)
  rw [List.append_nil] at b
  have E0 := I.env0
  have up : ∀ {b : Addr}, b ≠ a → H b = none → upd H a (exn a oe) b = none := fun {b} hb n => by rw [upd_ne hb]; exact n
  have nfr : a ∉ frs X.stack := fun hm => by
    rcases List.mem_cons.mp (I.stkSub a hm) with z | z
    · exact nL z
    · exact nF z
  have E1 : Env0 X.prog X.w X.K X.mg X.base X.A X.stack s (upd H a (exn a oe)) := ⟨E0.frames, E0.mod, fun b o q => ⟨(E0.bs b o q).1, up (fun z => by rw [z, hba] at q; cases q) (E0.bs b o q).2⟩, E0.bsz, E0.funs,
    fun b hb => up (fun z => nfr (z ▸ hb)) (E0.frf b hb), hok_put I.hok na ha, E0.bare⟩
  refine wpAny_call (codeAny_mono (F.run X.A X.stack s _ ⟨us, []⟩ us vs _ _ hr E1 b r h) fun r s' hq => ?_)
  cases r with
  | error e => exact False.elim hq
  | ok fl =>
    cases fl with
    | next => exact False.elim hq
    | brk => exact False.elim hq
    | cont => exact False.elim hq
    | ret u =>
      obtain ⟨v, H2, os, bare, un, hok, rv, ea, q⟩ := hq
      have a2 := exn_at hok ea
      have U : Un (frs X.stack) [] H (del H2 a) s.heap s'.heap := {
        keep := fun b o z n hf hx => by
          by_cases hb : b = a
          · rw [hb] at z ⊢
            rw [a2, ← z, ha]
          · exact un.keep b o z (up hb n) hf hx
        slot := fun b o z n hf hx => un.slot b o z (up (fun w => nfr (w ▸ hf)) n) hf hx
        free := fun b o z n hx => by
          by_cases hb : b = a
          · rw [hb, del_same]
          · rw [del_ne hb]
            exact un.free b o z (up hb n) hx
        there := un.there
        tups := fun b xs z => by
          rw [del_ne (ne_of_none z na)]
          exact un.tups b xs (by rw [upd_ne (ne_of_none z na)]; exact z)
        frzs := fun b o v z => by
          rw [del_ne (ne_of_none z na)]
          exact un.frzs b o v (by rw [upd_ne (ne_of_none z na)]; exact z)
        tbls := fun b ps z => by
          rw [del_ne (ne_of_none z na)]
          exact un.tbls b ps (by rw [upd_ne (ne_of_none z na)]; exact z) }
      exact I.after ⟨v, del H2 a, os, bare, U, hok_del hok ea, rv, q⟩
theorem run_callB {pins : List (Addr × Obj)} {σ : St} {H : Hp} {s : Shared} {Q : VK} {us : List Value} {vs : List V} (F : FnOk X.prog X.w X.K X.mg X.base (fun _ _ _ _ _ _ => False) k f fd ps sp) (hr : Room k X.A) (hb : Binds X.K fd ps [])
    (I : Inv X pins σ H s) (r : Vals vs us) (h : sp vs H Q (fun _ _ _ => False)) : wpAny (model X.prog X.w) X.A (call (.ref f) us) (EP X pins σ Q) X.xe s := by
  have hl : us.length = ps.length := by rw [← r.length]; exact F.len _ _ _ _ h
  have b := hb s us I.kIn (by rw [List.append_nil]; exact hl)
  rw [List.append_nil] at b
  refine wpAny_call (codeAny_mono (F.run X.A X.stack s _ ⟨us, []⟩ us vs _ _ hr I.env0 b r h) fun r s' hq => ?_)
  cases r with
  | error e => exact False.elim hq
  | ok fl =>
    cases fl with
    | next => exact False.elim hq
    | brk => exact False.elim hq
    | cont => exact False.elim hq
    | ret u => exact I.after hq
theorem pe_callX (hpn : (a, oe) ∈ X.pn) (F : FnOk X.prog X.w X.K X.mg X.base (fun _ _ _ _ _ _ => False) k f fd ps sp) (hr : Room k X.A) (hg : Gl X x) (hm : X.mg x = some (.ref f)) (hk : PySem.W.keepIn X.K (.ref f) = true) (hb : Binds X.K fd ps [])
    (ht : PA X (e :: es) t) (hdb : (x == ("__debug__" : Str)) = false := by decide) (he : starEach (e :: es) X.env = (false, eval e X.env) :: starEach es X.env := by rfl) (hpl : (backTo pos (starEach es X.env)).any (·.1) = false := by rfl) :
    PE X (.Call (.Name x p) (e :: es) [] pos) (tCallX X.base a oe sp t) := by
  refine ⟨fun pins s σ H Q I h => ?_⟩
  refine wpAny_Call_Name_kw (ld_glob I hg hm ?_ hdb)
  refine PySem.W.callWith_K (h₀ := X.base) I.ok.mod.kin hk (thn (ht.run pos pins s σ H _ I h) fun us s1 ⟨vs, H1, I1, r, q, q'⟩ => ⟨I1.kIn, ?_⟩) he hpl
  cases z : X.base.get? a with
  | none =>
    obtain ⟨_, na, _⟩ := I1.pin (a, oe) (List.mem_append_left _ hpn)
    exact run_callX hpn z F hr hb I1 r (q z na)
  | some o =>
    obtain ⟨ha, _⟩ := I1.pin (a, oe) (List.mem_append_left _ hpn)
    have e1 := I1.bk a o z
    have e2 : o = oe := Option.some.inj (e1.symm.trans ha)
    exact run_callB F hr hb I1 r (q' (by rw [z, e2]))
end
end L2
set_option Elab.async false
set_option linter.all false
set_option maxRecDepth 100000
set_option maxHeartbeats 4000000
/-! k07, part G: isinstance and fields of an error that a def was given -/
namespace L2
open PySem PySem.Spec PyProof.Rows
/-- an error of the class at C stands at a, its dict d -/
structure ErrAt (base : Heap) (K : PySem.W.Frag) (H : Hp) (a C : Addr) (d : Option Addr) (oe : Obj) : Prop where
  at_ : H a = some (exn a oe) ∨ base.get? a = some oe
  z : Zc (.ref C) d oe
  fld : ∃ vs, oe.data = .fields vs
  dct : ∀ dx, d = some dx → ∃ fs, H dx = some (.xd fs)
section
variable {X : Cx} {a C : Addr} {d : Option Addr} {oe : Obj} {pins : List (Addr × Obj)} {σ : St} {H : Hp} {s : Shared}
theorem ErrAt.got (Z : ErrAt X.base X.K H a C d oe) (I : Inv X pins σ H s) : s.heap.get? a = some oe := by
  rcases Z.at_ with e | e
  · exact exn_at I.hok e
  · exact I.bk a oe e
theorem ErrAt.inst (Z : ErrAt X.base X.K H a C d oe) (I : Inv X pins σ H s) : ∃ od, PySem.W.InstAt s.heap a oe C od := by
  have e := Z.got I
  obtain ⟨vs, hv⟩ := Z.fld
  cases d with
  | none => exact ⟨none, e, Z.z.1, by unfold PySem.W.notCls; rw [hv] <;> rfl, by rw [Z.z.2]; trivial⟩
  | some dx =>
    obtain ⟨fs, hd⟩ := Z.dct dx rfl
    have hx : ObjOk X.prog X.w H s.heap dx (.xd fs) := I.hok dx _ hd
    obtain ⟨mA, ⟨od, _, _, ho, _⟩, _⟩ := hx
    exact ⟨some od, e, Z.z.1, by unfold PySem.W.notCls; rw [hv] <;> rfl, by rw [Z.z.2]; exact ho⟩
/-- isinstance(e, c) -/
def rIsX (base : Heap) (K : PySem.W.Frag) : List V → Hp → VK → Prop := fun xs H Q => ∃ (a C : Addr) (d : Option Addr) (oe : Obj) (c : V) (cv : Value) (b : Bool), xs = [.ref a, c] ∧ ErrAt base K H a C d oe ∧ ExcC K C ∧ (∀ u, RelV c u → u = cv) ∧ PySem.W.kitOne K (.ref C) cv = some b ∧ Q (.bl b) H
theorem call_isX : CallR X (.builtin "isinstance") (rIsX X.base X.K) := by
  intro pins s σ H xs us Q I r h
  obtain ⟨a, C, d, oe, c, cv, b, rfl, Z, T, hcv, e, q⟩ := h
  cases r with
  | cons rx rr =>
    cases rr with
    | cons rt rr =>
      cases rr
      cases rx
      have ec := hcv _ rt
      subst ec
      obtain ⟨od, J⟩ := Z.inst I
      have hcl : (PySem.W.clsIn X.K C).isSome = true := by
        obtain ⟨cd, hc, _⟩ := PySem.W.any_some T.hd
        rw [hc]; rfl
      exact PySem.W.kia_one (PySem.W.kitx_exc hcl T.hg T.hk T.hs T.ha T.hn T.ht T.hm) I.kIn J e (fun z => nomatch z) fun tk => ⟨.bl b, H, I.kept (t' := tk) fun _ _ z => z, rfl, q⟩
/-- e.f -/
def tXfX (base : Heap) (K : PySem.W.Frag) (f : Str) (te : TE) : TE := fun σ H Q => te σ H fun x H1 => ∃ (a C dd : Addr) (oe : Obj) (fs : List (Str × V)) (v : V), x = .ref a ∧ ErrAt base K H1 a C (some dd) oe ∧ XfC K C ∧ PySem.W.findIn K (.ref C) f = some none ∧ H1 dd = some (.xd fs) ∧ fs.lookup f = some v ∧ Q v H1
theorem pe_xfX {e : Expr} {te : TE} {pos : Pos} {n : Str} (he : PE X e te) (hb : attributeBase e n X.env (eval e X.env) = eval e X.env := by rfl) : PE X (.Attribute e n pos) (tXfX X.base X.K n te) := by
  refine ⟨fun pins s σ H Q I h => ?_⟩
  refine attr_of hb (thn (he.run pins s σ H _ I h) fun u s1 hh => ?_)
  obtain ⟨x, H1, I1, rx, a, C, dd, oe, fs, v, ex, Z, T, hno, ea, l, q⟩ := hh
  subst ex
  obtain rfl : u = Value.ref a := rx
  have ha := Z.got I1
  obtain ⟨vs, hd⟩ := Z.fld
  have hx : ObjOk X.prog X.w H1 s1.heap dd (.xd fs) := I1.hok dd _ ea
  obtain ⟨mA, hns, hr⟩ := hx
  obtain ⟨od, ho, hl⟩ := lookIn_ns hns
  obtain ⟨u, hu, ru⟩ := RelO.some_of (v := v) (o := mA n) (by rw [← l]; exact hr n)
  have J : PySem.W.InstAt s1.heap a oe C (some od) := ⟨ha, Z.z.1, by unfold PySem.W.notCls; rw [hd] <;> rfl, by rw [Z.z.2]; exact ho⟩
  exact HandSPX.exc_get I1.kIn J T.ga T.gg T.exC (PySem.W.findObj_own T.hdC hno rfl (by rw [hl, hu])) (handed_of ru) ⟨v, H1, I1.tok _, ru, q⟩
/-- isinstance(e, c) in the suite that holds e -/
def rIsP (K : PySem.W.Frag) (a C : Addr) (d : Option Addr) : List V → Hp → VK → Prop := fun xs H Q => ∃ (c : V) (cv : Value) (b : Bool), xs = [.ref a, c] ∧ (∀ dx, d = some dx → ∃ fs, H dx = some (.xd fs)) ∧ (∀ u, RelV c u → u = cv) ∧ PySem.W.kitOne K (.ref C) cv = some b ∧ Q (.bl b) H
theorem call_isP (hpn : (a, oe) ∈ X.pn) (T : ExcC X.K C) (hz : Zc (.ref C) d oe) (hf : ∃ vs, oe.data = .fields vs) : CallR X (.builtin "isinstance") (rIsP X.K a C d) := by
  intro pins s σ H xs us Q I r h
  obtain ⟨c, cv, b, rfl, hd, hcv, e, q⟩ := h
  cases r with
  | cons rx rr =>
    cases rr with
    | cons rt rr =>
      cases rr
      cases rx
      have ec := hcv _ rt
      subst ec
      obtain ⟨ha, na, _⟩ := I.pin (a, oe) (List.mem_append_left _ hpn)
      obtain ⟨od, J⟩ : ∃ od, PySem.W.InstAt s.heap a oe C od := by
        obtain ⟨vs, hv⟩ := hf
        cases d with
        | none => exact ⟨none, ha, hz.1, by unfold PySem.W.notCls; rw [hv] <;> rfl, by rw [hz.2]; trivial⟩
        | some dx =>
          obtain ⟨fs, hd⟩ := hd dx rfl
          have hx : ObjOk X.prog X.w H s.heap dx (.xd fs) := I.hok dx _ hd
          obtain ⟨mA, ⟨od, _, _, ho, _⟩, _⟩ := hx
          exact ⟨some od, ha, hz.1, by unfold PySem.W.notCls; rw [hv] <;> rfl, by rw [hz.2]; exact ho⟩
      have hcl : (PySem.W.clsIn X.K C).isSome = true := by
        obtain ⟨cd, hc, _⟩ := PySem.W.any_some T.hd
        rw [hc]; rfl
      exact PySem.W.kia_one (PySem.W.kitx_exc hcl T.hg T.hk T.hs T.ha T.hn T.ht T.hm) I.kIn J e (fun z => nomatch z) fun tk => ⟨.bl b, H, I.kept (t' := tk) fun _ _ z => z, rfl, q⟩
end
end L2
set_option Elab.async false
set_option linter.all false
set_option maxRecDepth 100000
set_option maxHeartbeats 4000000
/-! k07, part H: what the head says of the errors' classes -/
namespace K7
open PySem PySem.W PySem.Calls PyProof.Rows PySem.HandSPX L2
/-- one error of the program: its class's name, its fields, its __init__ as the text has it -/
structure XD where
  cls : Str
  fs : List Str
  qual : Str
  params : Arguments
  body : List Stmt
  scope : Scope
def clsB (K : Frag) (C : Addr) : Bool := match K.lookup C with
  | some ⟨.type "type", _, .cls cd, sl⟩ => (match cd.mro, sl.toList with
    | .ref C' :: bm, [_, _, _, _, some (.builtin n), _] => decide (C' = C) && (decide (n = "ValueError.__new__") && (!cd.hasDel && (cd.hasDict && refsVE bm)))
    | _, _ => false)
  | _ => false
theorem clsB_ok {K : Frag} {C : Addr} (h : clsB K C = true) : ∃ nm q N bs bm sn sub ab col dd k0 k1 k2 k3 k5, K.lookup C = some (excClassObj nm q C N bs bm true sn sub ab col dd k0 k1 k2 k3 k5 "ValueError.__new__") ∧ refsVE bm = true := by
  unfold clsB at h
  split at h
  · rename_i dd cd sl ho
    split at h
    · rename_i C' bm k0 k1 k2 k3 n k5 hm hs
      obtain ⟨h1, h⟩ := He.ba h
      obtain ⟨h2, h⟩ := He.ba h
      obtain ⟨h3, h⟩ := He.ba h
      obtain ⟨h4, h5⟩ := He.ba h
      have e1 := of_decide_eq_true h1
      have e2 := of_decide_eq_true h2
      subst e1 e2
      obtain ⟨nm, bs, mro, ns, qn, hd, sn, sub, ab, col, del⟩ := cd
      dsimp only at hm h3 h4
      have h3' : del = false := by cases del <;> simp_all
      subst hm h3' h4
      have hsl : sl = #[k0, k1, k2, k3, some (.builtin "ValueError.__new__"), k5] := by
        obtain ⟨l⟩ := sl
        simp only at hs
        rw [hs]
      subst hsl
      exact ⟨nm, qn, ns, bs, bm, sn, sub, ab, col, dd, k0, k1, k2, k3, k5, ho, h5⟩
    · cases h
  · cases h
def fileB (K : Frag) (cda : Addr) (file : Str) : Bool := match K.lookup cda with
  | some o => (match o.data with
    | .fields vs => (match vs.toList with
      | _ :: _ :: .str f _ :: _ => decide (file = f)
      | _ => false)
    | _ => false)
  | none => false
theorem fileB_ok {K : Frag} {cda : Addr} {file : Str} (h : fileB K cda file = true) : ∃ (ccl : Value) (cdd : Option Addr) (vs : Array Value) (ccs : Array (Option Value)) (tf : Tok), K.lookup cda = some ⟨ccl, cdd, .fields vs, ccs⟩ ∧ vs[2]? = some (.str file tf) := by
  unfold fileB at h
  split at h
  · rename_i o q
    obtain ⟨ccl, cdd, dt, ccs⟩ := o
    dsimp only at h
    split at h
    · rename_i vs
      split at h
      · rename_i a b f tf r e
        have ef := of_decide_eq_true h
        subst ef
        refine ⟨ccl, cdd, vs, ccs, tf, q, ?_⟩
        obtain ⟨l⟩ := vs
        simp only at e
        subst e
        rfl
      · cases h
    · cases h
  · cases h
def cellB (K : Frag) (cc C : Addr) : Bool := match K.lookup cc with
  | some o => (match o.data with
    | .cell (some (.ref C')) => decide (C' = C)
    | _ => false)
  | none => false
theorem cellB_ok {K : Frag} {cc C : Addr} (h : cellB K cc C = true) : ∃ (cl : Value) (cld : Option Addr) (csl : Array (Option Value)), K.lookup cc = some ⟨cl, cld, .cell (some (.ref C)), csl⟩ := by
  unfold cellB at h
  split at h
  · rename_i o q
    obtain ⟨cl, cld, dt, csl⟩ := o
    dsimp only at h
    split at h
    · have ec := of_decide_eq_true h
      subst ec
      exact ⟨cl, cld, csl, q⟩
    · cases h
  · cases h
/-- the function record of an __init__, its cell and its code -/
def iniB (K : Frag) (C : Addr) (file : Str) : Bool := match K.lookup (He.ma K C "__init__") with
  | some ⟨_, _, .func fd, _⟩ => (match fd.code, fd.defaults, fd.closure with
    | .ref cda, .none, [(y, cc)] => decide (y = ("__class__" : Str)) && (codeIn K (.ref cda) fd.qualname && (fileB K cda file && cellB K cc C))
    | _, _, _ => false)
  | _ => false
abbrev IniW : Type := Option (Str × Str × Arguments × FuncBody × Scope × Addr × Addr)
def iniW (K : Frag) (C : Addr) : IniW := match K.lookup (He.ma K C "__init__") with
  | some ⟨_, _, .func fd, _⟩ => some (fd.name, fd.qualname, fd.params, fd.body, fd.scope, fd.globals, fd.builtins)
  | _ => none
def XD.val (d : XD) : IniW := some ("__init__", d.qual, d.params, .stmts d.body, d.scope, mainGlobals, builtinsNs)
theorem ini_ok {K : Frag} {P : Program} {C : Addr} {d : XD} (e : iniW K C = d.val) (h : iniB K C (P.main.file : Str) = true) (iC : findIn K (.ref C) "__init__" = some (some (.ref (He.ma K C "__init__")))) (tI : typeIn K (.ref (He.ma K C "__init__")) = some (.type "function")) :
    XI K P C (He.ma K C "__init__") d.qual d.params d.body d.scope := by
  refine ⟨iC, tI, ?_⟩
  unfold iniB at h
  unfold iniW at e
  cases q : K.lookup (He.ma K C "__init__") with
  | none =>
    rw [q] at h
    cases h
  | some o =>
    obtain ⟨oc, od, dt, osl⟩ := o
    rw [q] at h e
    cases dt with
    | func fd =>
      obtain ⟨n1, n2, n3, n4, n5, n6, n7, n8, n9, n10, n11, n12, n13, n14, n15⟩ := fd
      dsimp only at h e
      simp only [XD.val, Option.some.injEq, Prod.mk.injEq] at e
      obtain ⟨e1, e2, e3, e4, e5, e6, e7⟩ := e
      subst e1 e2 e3 e4 e5 e6 e7
      split at h
      · rename_i cda y cc
        obtain ⟨h1, h⟩ := He.ba h
        obtain ⟨h2, h⟩ := He.ba h
        obtain ⟨h3, h4⟩ := He.ba h
        have ey := of_decide_eq_true h1
        subst ey
        obtain ⟨ccl, cdd, vs, ccs, tf, q2, q3⟩ := fileB_ok h3
        obtain ⟨cl, cld, csl, q4⟩ := cellB_ok h4
        exact ⟨oc, od, n9, n10, n11, n12, cda, n14, osl, cc, ccl, cdd, vs, ccs, _, tf, cl, cld, csl, rfl, h2, q2, q3, beq_self_eq_true _, q4⟩
      · cases h
    | _ => cases h
end K7
set_option Elab.async false
set_option linter.all false
set_option maxRecDepth 100000
set_option maxHeartbeats 4000000
/-! k07, part I: the head's hook with the errors' classes -/
namespace K7
open PySem PySem.W PySem.Calls PyProof.Rows PySem.HandSPX L2
def dB (a b : Option (Option Value)) : Bool := decide (a = b)
def oB (a b : Option Bool) : Bool := decide (a = b)
/-- what is said of an error -/
structure XAll (K : Frag) (P : Program) (d : XD) : Prop where
  xs : XS K (He.ga K d.cls)
  no : ∀ f ∈ d.fs, findIn K (.ref (He.ga K d.cls)) f = some none
  xi : XI K P (He.ga K d.cls) (He.ma K (He.ga K d.cls) "__init__") d.qual d.params d.body d.scope
  kC : keepIn K (.ref (He.ga K d.cls)) = true
  exC : subIn K (.ref (He.ga K d.cls)) (.type "BaseException") = some true
  tyC : typeIn K (.ref (He.ga K d.cls)) = some (.type "type")
  ec : ExcC K (He.ga K d.cls)
  xf : XfC K (He.ga K d.cls)
  ex : exmOne K (.ref (He.ga K d.cls)) (.ref (He.ga K "RoomError")) = some true
def anyB (K : Frag) : Bool := decide (nsIn K cStatics "thirdparty.any" = some none)
def supB' (K : Frag) (C : Addr) (file : Str) (fs : List Str) : Bool :=
  clsB K C && (dB (findIn K (.ref C) "__setattr__") (some (some (.builtin "object.__setattr__"))) && ((clsIn K C).isSome && (oB (mroIn K C (.ref C)) (some true) && (anyB K &&
   (dB (ks_superIn K C C "__init__") (some (some (.builtin "ValueError.__init__"))) && (oB (subIn K (.ref C) (.type "ValueError")) (some true) && ((fs.all fun f => dB (findIn K (.ref C) f) (some none)) &&
   (dB (findIn K (.ref C) "__init__") (some (some (.ref (He.ma K C "__init__")))) && (decide (typeIn K (.ref (He.ma K C "__init__")) = some (.type "function")) && (keepIn K (.ref C) && (oB (subIn K (.ref C) (.type "BaseException")) (some true) && (decide (typeIn K (.ref C) = some (.type "type")) &&
   (iniB K C file && (dB (findIn K (.ref C) "__getattribute__") (some (some (.builtin "BaseException.__getattribute__"))) && (dB (findIn K (.ref C) "__getattr__") (some none) && (hasDictIn K C && (dB (findIn K (.ref C) "__class__") (some (some (.builtin "object.__class__"))) &&
   (dB (specialIn K (.builtin "object.__class__") "__get__") (some (some (.builtin "getset_descriptor.__get__"))) && (oB (takesIn K (.builtin "object.__class__")) (some true) && (oB (mroIn K C (.type "object")) (some true) && oB (exmOne K (.ref C) (.ref (He.ga K "RoomError"))) (some true)))))))))))))))))))))
theorem xall {K : Frag} {P : Program} {d : XD} (e : iniW K (He.ga K d.cls) = d.val) (h : supB' K (He.ga K d.cls) (P.main.file : Str) d.fs = true) : XAll K P d := by
  obtain ⟨h1, h⟩ := He.ba h
  obtain ⟨h2, h⟩ := He.ba h
  obtain ⟨h3, h⟩ := He.ba h
  obtain ⟨h4, h⟩ := He.ba h
  obtain ⟨h5, h⟩ := He.ba h
  obtain ⟨h6, h⟩ := He.ba h
  obtain ⟨h7, h⟩ := He.ba h
  obtain ⟨h8, h⟩ := He.ba h
  obtain ⟨h9, h⟩ := He.ba h
  obtain ⟨h10, h⟩ := He.ba h
  obtain ⟨h11, h⟩ := He.ba h
  obtain ⟨h12, h⟩ := He.ba h
  obtain ⟨h13, h⟩ := He.ba h
  obtain ⟨h14, h⟩ := He.ba h
  obtain ⟨h15, h⟩ := He.ba h
  obtain ⟨h16, h⟩ := He.ba h
  obtain ⟨h17, h⟩ := He.ba h
  obtain ⟨h18, h⟩ := He.ba h
  obtain ⟨h19, h⟩ := He.ba h
  obtain ⟨h20, h⟩ := He.ba h
  obtain ⟨h21, h22⟩ := He.ba h
  refine ⟨⟨⟨clsB_ok h1, of_decide_eq_true h2⟩, Option.isSome_iff_exists.mp h3, of_decide_eq_true h4, of_decide_eq_true h5, of_decide_eq_true h6, of_decide_eq_true h7⟩, fun f hf => of_decide_eq_true (List.all_eq_true.mp h8 f hf),
    ini_ok e h14 (of_decide_eq_true h9) (of_decide_eq_true h10), h11, of_decide_eq_true h12, of_decide_eq_true h13, ⟨of_decide_eq_true h15, of_decide_eq_true h16, of_decide_eq_true h12, h17, of_decide_eq_true h18, of_decide_eq_true h19, of_decide_eq_true h20, of_decide_eq_true h21⟩,
    ⟨of_decide_eq_true h15, of_decide_eq_true h16, of_decide_eq_true h12, h17⟩, of_decide_eq_true h22⟩
/-- isinstance of the errors -/
def kitB (K : Frag) (xs : List XD) : Bool := xs.all fun d => decide (kitOne K (.ref (He.ga K d.cls)) (.type "ValueError") = some true) && xs.all fun e => decide (kitOne K (.ref (He.ga K d.cls)) (.ref (He.ga K e.cls)) = some (decide (d.cls = e.cls)))
/-! ### the hook -/
def asX (g : Addr → Option Obj) : Nat → List Addr
  | 0 => [mainGlobals, cStatics]
  | n + 1 => He.growD g (asX g n)
abbrev AlX : Type := He.AlD × (Bool × List IniW)
def obsX (file : Str) (fa : List He.Fa) (fn : List He.DefD) (xs : List XD) (K : Frag) : AlX := (He.obsD fa fn K, ((xs.all fun d => supB' K (He.ga K d.cls) file d.fs) && kitB K xs, xs.map fun d => iniW K (He.ga K d.cls)))
def valX (fn : List He.DefD) (xs : List XD) : AlX := (He.valD fn, (true, xs.map XD.val))
def SaysX (file : Str) (fa : List He.Fa) (fn : List He.DefD) (xs : List XD) (K : Frag) : Prop := obsX file fa fn xs K = valX fn xs
def obsXG (file : Str) (n : Nat) (fa : List He.Fa) (fn : List He.DefD) (xs : List XD) (g : Addr → Option Obj) : AlX := obsX file fa fn xs (He.frG g (asX g n))
def hookX (file : Str) (n : Nat) (fa : List He.Fa) (fn : List He.DefD) (xs : List XD) : Hook where
  α := AlX
  obs := fun s => obsXG file n fa fn xs s.heap.get?
  val := fun _ => valX fn xs
  says := fun _ h => ∃ K : Frag, K.In h ∧ SaysX file fa fn xs K
  of := fun _ _ e => ⟨_, He.frG_in, e⟩
  keeps := fun _ _ _ ⟨K, hK, c⟩ k => ⟨K, Frag.In.keeps hK k, c⟩
theorem obsXG_eq {file : Str} {n : Nat} {fa : List He.Fa} {fn : List He.DefD} {xs : List XD} {g : Addr → Option Obj} {s : Shared} (h : ∀ a, g a = s.heap.get? a) : obsXG file n fa fn xs g = (hookX file n fa fn xs).obs s := by
  have e : g = s.heap.get? := funext h
  rw [e] <;> rfl
theorem SaysX.base {file : Str} {fa : List He.Fa} {fn : List He.DefD} {xs : List XD} {K : Frag} (c : SaysX file fa fn xs K) : He.SaysD fa fn K := congrArg (fun z : AlX => z.1) c
theorem SaysX.err {P : Program} {fa : List He.Fa} {fn : List He.DefD} {xs : List XD} {K : Frag} (c : SaysX (P.main.file : Str) fa fn xs K) (i : Nat) {d : XD} (h : xs[i]? = some d := by rfl) : XAll K P d := by
  have c1 : ((xs.all fun d => supB' K (He.ga K d.cls) (P.main.file : Str) d.fs) && kitB K xs) = true := congrArg (fun z : AlX => z.2.1) c
  have c2 := (He.ba c1).1
  have e : xs.map (fun d => iniW K (He.ga K d.cls)) = xs.map XD.val := congrArg (fun z : AlX => z.2.2) c
  have e2 : (xs.map fun d => iniW K (He.ga K d.cls))[i]? = (xs.map XD.val)[i]? := by rw [e]
  rw [List.getElem?_map, List.getElem?_map, h] at e2
  exact xall (Option.some.inj e2) (List.all_eq_true.mp c2 d (List.mem_of_getElem? h))
theorem SaysX.kit {file : Str} {fa : List He.Fa} {fn : List He.DefD} {xs : List XD} {K : Frag} (c : SaysX file fa fn xs K) (i : Nat) {d : XD} (h : xs[i]? = some d := by rfl) : kitOne K (.ref (He.ga K d.cls)) (.type "ValueError") = some true ∧ ∀ e ∈ xs, kitOne K (.ref (He.ga K d.cls)) (.ref (He.ga K e.cls)) = some (decide (d.cls = e.cls)) := by
  have c1 : ((xs.all fun d => supB' K (He.ga K d.cls) file d.fs) && kitB K xs) = true := congrArg (fun z : AlX => z.2.1) c
  obtain ⟨h1, h2⟩ := He.ba (List.all_eq_true.mp (He.ba c1).2 d (List.mem_of_getElem? h))
  exact ⟨of_decide_eq_true h1, fun e he => of_decide_eq_true (List.all_eq_true.mp h2 e he)⟩
end K7
set_option Elab.async false
set_option linter.all false
set_option maxRecDepth 100000
set_option maxHeartbeats 4000000
/-! k24, part K8A: the head's hook with a property's getter -/
namespace K8
open PySem PySem.W PySem.Calls PyProof.Rows L2
/-- the getter of a class's property -/
def gt (x m : PySem.Str) (K : Frag) : Addr := match recIn K (He.ma K (He.ga K x) m) "property" with
  | some (.ref g :: _) => g
  | _ => 0
def propB (x m : PySem.Str) (K : Frag) : Bool := He.eqO (findIn K (.ref (He.ga K x)) m) (some (some (.ref (He.ma K (He.ga K x) m)))) && (He.eqO (specialIn K (.ref (He.ma K (He.ga K x) m)) "__get__") (some (some (.builtin "property.__get__"))) && (decide (takesIn K (.ref (He.ma K (He.ga K x) m)) = some true) &&
  match recIn K (He.ma K (He.ga K x) m) "property" with
  | some (.ref _ :: _) => true
  | _ => false))
theorem propB_ok {x m : PySem.Str} {K : Frag} (h : propB x m K = true) : PropOf K (He.ga K x) m (He.ma K (He.ga K x) m) (gt x m K) := by
  obtain ⟨h1, h⟩ := He.ba h
  obtain ⟨h2, h⟩ := He.ba h
  obtain ⟨h3, h4⟩ := He.ba h
  refine ⟨He.eqO_ok h1, He.eqO_ok h2, of_decide_eq_true h3, ?_⟩
  unfold gt
  split at h4
  · rename_i g rest e
    rw [e]
    exact ⟨rest, rfl⟩
  · cases h4
/-- a tuple that stands at an address from the top on -/
def tupA (a : Addr) (vs : List V) (K : Frag) : Bool := match K.lookup a with
  | some ⟨.type c, _, .seq its _, _⟩ => decide (c = "tuple") && (decide (its.size ≤ sizeLine) && He.relAll vs its.toList)
  | _ => false
theorem tupA_ok {K : Frag} {a : Addr} {vs : List V} (h : tupA a vs K = true) (H : Hp) : SqT K H a vs := by
  unfold tupA at h
  cases q : K.lookup a with
  | none =>
    rw [q] at h
    cases h
  | some o =>
    obtain ⟨oc, od, dt, osl⟩ := o
    rw [q] at h
    cases oc with
    | type c =>
      cases dt with
      | seq its n =>
        obtain ⟨h1, h2⟩ := He.ba (show (decide (c = "tuple") && (decide (its.size ≤ sizeLine) && He.relAll vs its.toList)) = true from h)
        obtain ⟨h3, h4⟩ := He.ba h2
        exact .inr ⟨_, its, n, q, congrArg Value.type (of_decide_eq_true h1), rfl, of_decide_eq_true h3, He.relAll_ok h4⟩
      | _ => cases h
    | _ => cases dt <;> cases h
abbrev Al8 : Type := K6.Al6 × He.FnW
def obs8 (fa : List He.Fa) (fn : List He.DefD) (tb : Frag → Bool) (d : He5.DefA) (K : Frag) : Al8 := (K6.obs6 fa fn tb K, He5.fnA K (d.at_ K))
def val8 (fn : List He.DefD) (d : He5.DefA) : Al8 := (K6.val6 fn, d.val)
def Says8 (fa : List He.Fa) (fn : List He.DefD) (tb : Frag → Bool) (d : He5.DefA) (K : Frag) : Prop := obs8 fa fn tb d K = val8 fn d
def obs8G (n : Nat) (fa : List He.Fa) (fn : List He.DefD) (tb : Frag → Bool) (d : He5.DefA) (g : Addr → Option Obj) : Al8 := obs8 fa fn tb d (He.frG g (K6.as6 g n))
def hook8 (n : Nat) (fa : List He.Fa) (fn : List He.DefD) (tb : Frag → Bool) (d : He5.DefA) : Hook where
  α := Al8
  obs := fun s => obs8G n fa fn tb d s.heap.get?
  val := fun _ => val8 fn d
  says := fun _ h => ∃ K : Frag, K.In h ∧ Says8 fa fn tb d K
  of := fun _ _ e => ⟨_, He.frG_in, e⟩
  keeps := fun _ _ _ ⟨K, hK, c⟩ k => ⟨K, Frag.In.keeps hK k, c⟩
theorem obs8G_eq {n : Nat} {fa : List He.Fa} {fn : List He.DefD} {tb : Frag → Bool} {d : He5.DefA} {g : Addr → Option Obj} {s : Shared} (h : ∀ a, g a = s.heap.get? a) : obs8G n fa fn tb d g = (hook8 n fa fn tb d).obs s := by
  have e : g = s.heap.get? := funext h
  rw [e] <;> rfl
theorem Says8.six {fa : List He.Fa} {fn : List He.DefD} {tb : Frag → Bool} {d : He5.DefA} {K : Frag} (c : Says8 fa fn tb d K) : K6.Says6 fa fn tb K := congrArg (fun z : Al8 => z.1) c
theorem Says8.base {fa : List He.Fa} {fn : List He.DefD} {tb : Frag → Bool} {d : He5.DefA} {K : Frag} (c : Says8 fa fn tb d K) : He.SaysD fa fn K := c.six.base
theorem Says8.tb {fa : List He.Fa} {fn : List He.DefD} {tb : Frag → Bool} {d : He5.DefA} {K : Frag} (c : Says8 fa fn tb d K) : tb K = true := c.six.tb
theorem Says8.getter {fa : List He.Fa} {fn : List He.DefD} {tb : Frag → Bool} {d : He5.DefA} {K : Frag} (c : Says8 fa fn tb d K) : He5.fnA K (d.at_ K) = d.val := congrArg (fun z : Al8 => z.2) c
end K8
set_option Elab.async false
set_option linter.all false
set_option maxRecDepth 100000
set_option maxHeartbeats 4000000
/-! k19, part K9A: the head's hook with errors' classes -/
namespace K9
open PySem PySem.W PySem.Calls PyProof.Rows PySem.HandSPX L2
abbrev Al9 : Type := K6.Al6 × (Bool × List K7.IniW)
def obs9 (file : PySem.Str) (fa : List He.Fa) (fn : List He.DefD) (tb : Frag → Bool) (xs : List K7.XD) (K : Frag) : Al9 := (K6.obs6 fa fn tb K, ((xs.all fun d => K7.supB' K (He.ga K d.cls) file d.fs) && K7.kitB K xs, xs.map fun d => K7.iniW K (He.ga K d.cls)))
def val9 (fn : List He.DefD) (xs : List K7.XD) : Al9 := (K6.val6 fn, (true, xs.map K7.XD.val))
def Says9 (file : PySem.Str) (fa : List He.Fa) (fn : List He.DefD) (tb : Frag → Bool) (xs : List K7.XD) (K : Frag) : Prop := obs9 file fa fn tb xs K = val9 fn xs
def obs9G (file : PySem.Str) (n : Nat) (fa : List He.Fa) (fn : List He.DefD) (tb : Frag → Bool) (xs : List K7.XD) (g : Addr → Option Obj) : Al9 := obs9 file fa fn tb xs (He.frG g (K6.as6 g n))
def hook9 (file : PySem.Str) (n : Nat) (fa : List He.Fa) (fn : List He.DefD) (tb : Frag → Bool) (xs : List K7.XD) : Hook where
  α := Al9
  obs := fun s => obs9G file n fa fn tb xs s.heap.get?
  val := fun _ => val9 fn xs
  says := fun _ h => ∃ K : Frag, K.In h ∧ Says9 file fa fn tb xs K
  of := fun _ _ e => ⟨_, He.frG_in, e⟩
  keeps := fun _ _ _ ⟨K, hK, c⟩ k => ⟨K, Frag.In.keeps hK k, c⟩
theorem obs9G_eq {file : PySem.Str} {n : Nat} {fa : List He.Fa} {fn : List He.DefD} {tb : Frag → Bool} {xs : List K7.XD} {g : Addr → Option Obj} {s : Shared} (h : ∀ a, g a = s.heap.get? a) : obs9G file n fa fn tb xs g = (hook9 file n fa fn tb xs).obs s := by
  have e : g = s.heap.get? := funext h
  rw [e] <;> rfl
section
variable {fa : List He.Fa} {fn : List He.DefD} {t0 : Frag → Bool} {xs : List K7.XD} {K : Frag}
theorem Says9.six {file : PySem.Str} (c : Says9 file fa fn t0 xs K) : K6.Says6 fa fn t0 K := congrArg (fun z : Al9 => z.1) c
theorem Says9.base {file : PySem.Str} (c : Says9 file fa fn t0 xs K) : He.SaysD fa fn K := c.six.base
theorem Says9.tb {file : PySem.Str} (c : Says9 file fa fn t0 xs K) : t0 K = true := c.six.tb
/-- the errors' part of k07's hook -/
theorem Says9.errs {file : PySem.Str} (c : Says9 file fa fn t0 xs K) : K7.SaysX file fa fn xs K := by
  have h1 := c.base
  have h2 : ((xs.all fun d => K7.supB' K (He.ga K d.cls) file d.fs) && K7.kitB K xs, xs.map fun d => K7.iniW K (He.ga K d.cls)) = (true, xs.map K7.XD.val) := congrArg (fun z : Al9 => z.2) c
  exact Prod.ext h1 h2
end
end K9
set_option Elab.async false
set_option linter.all false
set_option maxRecDepth 100000
set_option maxHeartbeats 0
namespace R9H
open PySem PySem.Spec PyProof.Rows L2
def top (i : Nat) : Stmt := PySem.Challenge.pw_roomends_k19_items_that_are_picked.main.body.getD i (.Pass ⟨0, 0, 0, 0⟩)
def fn0 : List He.DefD := [⟨("_wall", none), "_wall", "_wall", defArgs (top 0), defBody (top 0), defScope (top 0), [], []⟩,
  ⟨("is_last", none), "is_last", "is_last", defArgs (top 9), defBody (top 9), defScope (top 9), [], []⟩,
  ⟨("leaves_call", none), "leaves_call", "leaves_call", defArgs (top 10), defBody (top 10), defScope (top 10), [], []⟩,
  ⟨("end_lines", none), "end_lines", "end_lines", defArgs (top 11), defBody (top 11), defScope (top 11), [], []⟩,
  ⟨("step_lines", none), "step_lines", "step_lines", defArgs (top 12), defBody (top 12), defScope (top 12), [], []⟩,
  ⟨("all_rooms", none), "all_rooms", "all_rooms", defArgs (top 13), defBody (top 13), defScope (top 13), [], []⟩,
  ⟨("ended_rooms", none), "ended_rooms", "ended_rooms", defArgs (top 14), defBody (top 14), defScope (top 14), [], []⟩,
  ⟨("Span", some "__init__"), "__init__", "Span.__init__", defArgs (inClass (top 19) 0), defBody (inClass (top 19) 0), defScope (inClass (top 19) 0), [], []⟩,
  ⟨("next_lines", none), "next_lines", "next_lines", defArgs (top 20), defBody (top 20), defScope (top 20), [], []⟩,
  ⟨("followed", none), "followed", "followed", defArgs (top 21), defBody (top 21), defScope (top 21), [], []⟩,
  ⟨("rooms_left", none), "rooms_left", "rooms_left", defArgs (top 22), defBody (top 22), defScope (top 22), [], []⟩,
  ⟨("stays_of", none), "stays_of", "stays_of", defArgs (top 23), defBody (top 23), defScope (top 23), [], []⟩,
  ⟨("read_record", none), "read_record", "read_record", defArgs (top 24), defBody (top 24), defScope (top 24), [], []⟩,
  ⟨("pick_at", none), "pick_at", "pick_at", defArgs (top 25), defBody (top 25), defScope (top 25), [], []⟩,
  ⟨("made_parts", none), "made_parts", "made_parts", defArgs (top 26), defBody (top 26), defScope (top 26), [], []⟩,
  ⟨("field_place", none), "field_place", "field_place", defArgs (top 27), defBody (top 27), defScope (top 27), [], []⟩,
  ⟨("named_value", none), "named_value", "named_value", defArgs (top 28), defBody (top 28), defScope (top 28), [], []⟩,
  ⟨("given_values", none), "given_values", "given_values", defArgs (top 29), defBody (top 29), defScope (top 29), [], []⟩,
  ⟨("values_of", none), "values_of", "values_of", defArgs (top 30), defBody (top 30), defScope (top 30), [], []⟩,
  ⟨("Run", some "__init__"), "__init__", "Run.__init__", defArgs (inClass (top 31) 0), defBody (inClass (top 31) 0), defScope (inClass (top 31) 0), [.adr (He.dflAt ("Run", some "__init__") 0)], []⟩,
  ⟨("Run", some "value"), "value", "Run.value", defArgs (inClass (top 31) 2), defBody (inClass (top 31) 2), defScope (inClass (top 31) 2), [], []⟩,
  ⟨("Run", some "parts"), "parts", "Run.parts", defArgs (inClass (top 31) 3), defBody (inClass (top 31) 3), defScope (inClass (top 31) 3), [], []⟩,
  ⟨("Run", some "read"), "read", "Run.read", defArgs (inClass (top 31) 4), defBody (inClass (top 31) 4), defScope (inClass (top 31) 4), [], []⟩,
  ⟨("Run", some "stays"), "stays", "Run.stays", defArgs (inClass (top 31) 5), defBody (inClass (top 31) 5), defScope (inClass (top 31) 5), [], []⟩]
def fn1 : List He.DefD := [⟨("Run", some "ended"), "ended", "Run.ended", defArgs (inClass (top 31) 6), defBody (inClass (top 31) 6), defScope (inClass (top 31) 6), [], []⟩,
  ⟨("Run", some "__len__"), "__len__", "Run.__len__", defArgs (inClass (top 31) 7), defBody (inClass (top 31) 7), defScope (inClass (top 31) 7), [], []⟩,
  ⟨("Run", some "__iter__"), "__iter__", "Run.__iter__", defArgs (inClass (top 31) 8), defBody (inClass (top 31) 8), defScope (inClass (top 31) 8), [], []⟩,
  ⟨("Run", some "__add__"), "__add__", "Run.__add__", defArgs (inClass (top 31) 9), defBody (inClass (top 31) 9), defScope (inClass (top 31) 9), [], []⟩,
  ⟨("Run", some "__eq__"), "__eq__", "Run.__eq__", defArgs (inClass (top 31) 10), defBody (inClass (top 31) 10), defScope (inClass (top 31) 10), [], []⟩,
  ⟨("words_of", none), "words_of", "words_of", defArgs (top 36), defBody (top 36), defScope (top 36), [], []⟩,
  ⟨("is_name", none), "is_name", "is_name", defArgs (top 37), defBody (top 37), defScope (top 37), [], []⟩,
  ⟨("are_names", none), "are_names", "are_names", defArgs (top 38), defBody (top 38), defScope (top 38), [], []⟩,
  ⟨("Shapes", some "__init__"), "__init__", "Shapes.__init__", defArgs (inClass (top 44) 0), defBody (inClass (top 44) 0), defScope (inClass (top 44) 0), [], []⟩,
  ⟨("is_fresh", none), "is_fresh", "is_fresh", defArgs (top 45), defBody (top 45), defScope (top 45), [], []⟩,
  ⟨("ways_through", none), "ways_through", "ways_through", defArgs (top 46), defBody (top 46), defScope (top 46), [], []⟩,
  ⟨("declare_shape", none), "declare_shape", "declare_shape", defArgs (top 47), defBody (top 47), defScope (top 47), [], []⟩,
  ⟨("declare_bag", none), "declare_bag", "declare_bag", defArgs (top 48), defBody (top 48), defScope (top 48), [], []⟩,
  ⟨("field_shape", none), "field_shape", "field_shape", defArgs (top 49), defBody (top 49), defScope (top 49), [], []⟩,
  ⟨("parts_shapes", none), "parts_shapes", "parts_shapes", defArgs (top 50), defBody (top 50), defScope (top 50), [], []⟩,
  ⟨("Reading", some "__init__"), "__init__", "Reading.__init__", defArgs (inClass (top 61) 0), defBody (inClass (top 61) 0), defScope (inClass (top 61) 0), [], []⟩,
  ⟨("read_head", none), "read_head", "read_head", defArgs (top 62), defBody (top 62), defScope (top 62), [], []⟩,
  ⟨("read_func", none), "read_func", "read_func", defArgs (top 63), defBody (top 63), defScope (top 63), [], []⟩,
  ⟨("have_shapes", none), "have_shapes", "have_shapes", defArgs (top 64), defBody (top 64), defScope (top 64), [], []⟩,
  ⟨("give_shape", none), "give_shape", "give_shape", defArgs (top 65), defBody (top 65), defScope (top 65), [], []⟩,
  ⟨("note_making", none), "note_making", "note_making", defArgs (top 66), defBody (top 66), defScope (top 66), [], []⟩,
  ⟨("read_new", none), "read_new", "read_new", defArgs (top 67), defBody (top 67), defScope (top 67), [], []⟩,
  ⟨("read_with", none), "read_with", "read_with", defArgs (top 68), defBody (top 68), defScope (top 68), [], []⟩,
  ⟨("read_value", none), "read_value", "read_value", defArgs (top 69), defBody (top 69), defScope (top 69), [], []⟩]
def fn2 : List He.DefD := [⟨("read_call", none), "read_call", "read_call", defArgs (top 70), defBody (top 70), defScope (top 70), [], []⟩,
  ⟨("read_give", none), "read_give", "read_give", defArgs (top 71), defBody (top 71), defScope (top 71), [], []⟩,
  ⟨("read_end", none), "read_end", "read_end", defArgs (top 72), defBody (top 72), defScope (top 72), [], []⟩,
  ⟨("read_or", none), "read_or", "read_or", defArgs (top 73), defBody (top 73), defScope (top 73), [], []⟩,
  ⟨("read_leave", none), "read_leave", "read_leave", defArgs (top 74), defBody (top 74), defScope (top 74), [], []⟩,
  ⟨("read_block", none), "read_block", "read_block", defArgs (top 75), defBody (top 75), defScope (top 75), [], []⟩,
  ⟨("read_bare", none), "read_bare", "read_bare", defArgs (top 76), defBody (top 76), defScope (top 76), [], []⟩,
  ⟨("read_inside", none), "read_inside", "read_inside", defArgs (top 77), defBody (top 77), defScope (top 77), [], []⟩,
  ⟨("rooms_around", none), "rooms_around", "rooms_around", defArgs (top 78), defBody (top 78), defScope (top 78), [], []⟩,
  ⟨("read_line", none), "read_line", "read_line", defArgs (top 79), defBody (top 79), defScope (top 79), [], []⟩,
  ⟨("lines_of", none), "lines_of", "lines_of", defArgs (top 80), defBody (top 80), defScope (top 80), [], []⟩,
  ⟨("read_text", none), "read_text", "read_text", defArgs (top 81), defBody (top 81), defScope (top 81), [], []⟩,
  ⟨("Program", some "__init__"), "__init__", "Program.__init__", defArgs (inClass (top 83) 0), defBody (inClass (top 83) 0), defScope (inClass (top 83) 0), [], []⟩,
  ⟨("Program", some "__eq__"), "__eq__", "Program.__eq__", defArgs (inClass (top 83) 1), defBody (inClass (top 83) 1), defScope (inClass (top 83) 1), [], []⟩,
  ⟨("Program", some "shape_of"), "shape_of", "Program.shape_of", defArgs (inClass (top 83) 2), defBody (inClass (top 83) 2), defScope (inClass (top 83) 2), [], []⟩,
  ⟨("Program", some "ways"), "ways", "Program.ways", defArgs (inClass (top 83) 3), defBody (inClass (top 83) 3), defScope (inClass (top 83) 3), [], []⟩,
  ⟨("Program", some "function_of"), "function_of", "Program.function_of", defArgs (inClass (top 83) 4), defBody (inClass (top 83) 4), defScope (inClass (top 83) 4), [], []⟩,
  ⟨("Program", some "around"), "around", "Program.around", defArgs (inClass (top 83) 5), defBody (inClass (top 83) 5), defScope (inClass (top 83) 5), [], []⟩,
  ⟨("Program", some "called"), "called", "Program.called", defArgs (inClass (top 83) 6), defBody (inClass (top 83) 6), defScope (inClass (top 83) 6), [], []⟩,
  ⟨("_law_pen", none), "_law_pen", "_law_pen", defArgs (top 85), defBody (top 85), defScope (top 85), [], []⟩,
  ⟨("_law_draw", none), "_law_draw", "_law_draw", defArgs (top 86), defBody (top 86), defScope (top 86), [], []⟩,
  ⟨("_law_pick", none), "_law_pick", "_law_pick", defArgs (top 87), defBody (top 87), defScope (top 87), [], []⟩,
  ⟨("_law_words", none), "_law_words", "_law_words", defArgs (top 88), defBody (top 88), defScope (top 88), [], []⟩,
  ⟨("_law_scene", none), "_law_scene", "_law_scene", defArgs (top 89), defBody (top 89), defScope (top 89), [], []⟩]
def fn3 : List He.DefD := [⟨("_law_course", none), "_law_course", "_law_course", defArgs (top 90), defBody (top 90), defScope (top 90), [], []⟩,
  ⟨("_law_due", none), "_law_due", "_law_due", defArgs (top 91), defBody (top 91), defScope (top 91), [], []⟩,
  ⟨("_law_made", none), "_law_made", "_law_made", defArgs (top 92), defBody (top 92), defScope (top 92), [], []⟩,
  ⟨("_law_is_stopped", none), "_law_is_stopped", "_law_is_stopped", defArgs (top 93), defBody (top 93), defScope (top 93), [], []⟩,
  ⟨("law", none), "law", "law", defArgs (top 94), defBody (top 94), defScope (top 94), [], []⟩]
def fn : List He.DefD := fn0 ++ fn1 ++ fn2 ++ fn3
def fa0 : List He.Fa := [.glo "RoomError", .glo "BadText", .glo "TooMany", .glo "NotRun", .glo "BadPick", .glo "_wall", .glo "is_last", .glo "leaves_call", .glo "end_lines", .glo "step_lines", .glo "all_rooms", .glo "ended_rooms", .glo "Span", .cls "Span", .mkr "Span", .noat "Span" "begun", .noat "Span" "call", .noat "Span" "room", .noat "Span" "until", .glo "next_lines", .glo "followed", .glo "rooms_left", .glo "stays_of", .glo "read_record", .glo "pick_at", .glo "made_parts", .glo "field_place", .glo "named_value", .glo "given_values", .glo "values_of", .glo "Run", .cls "Run", .mkr "Run", .meth "Run" "value", .meth "Run" "parts", .meth "Run" "read", .meth "Run" "stays", .meth "Run" "ended", .noat "Run" "coming", .noat "Run" "complete", .noat "Run" "held", .noat "Run" "known", .noat "Run" "lines", .noat "Run" "origins", .noat "Run" "picks", .noat "Run" "program", .noat "Run" "records", .noat "Run" "seen", .noat "Run" "spans", .glo "words_of", .glo "is_name", .glo "are_names", .glo "Shapes", .cls "Shapes", .mkr "Shapes", .noat "Shapes" "contents", .noat "Shapes" "fields", .noat "Shapes" "routes", .glo "is_fresh", .glo "ways_through", .glo "declare_shape", .glo "declare_bag", .glo "field_shape", .glo "parts_shapes", .glo "Reading", .cls "Reading", .mkr "Reading", .noat "Reading" "blocks", .noat "Reading" "callees", .noat "Reading" "due", .noat "Reading" "eithers", .noat "Reading" "evers", .noat "Reading" "gives", .noat "Reading" "heads", .noat "Reading" "kinds"]
def fa1 : List He.Fa := [.noat "Reading" "makings", .noat "Reading" "names", .noat "Reading" "ors", .noat "Reading" "owner", .noat "Reading" "owners", .noat "Reading" "params", .noat "Reading" "partners", .noat "Reading" "rooms", .noat "Reading" "rooms_of", .noat "Reading" "rows", .noat "Reading" "shapes", .glo "read_head", .glo "read_func", .glo "have_shapes", .glo "give_shape", .glo "note_making", .glo "read_new", .glo "read_with", .glo "read_value", .glo "read_call", .glo "read_give", .glo "read_end", .glo "read_or", .glo "read_leave", .glo "read_block", .glo "read_bare", .glo "read_inside", .glo "rooms_around", .glo "read_line", .glo "lines_of", .glo "read_text", .glo "Program", .cls "Program", .mkr "Program", .meth "Program" "shape_of", .meth "Program" "ways", .meth "Program" "function_of", .meth "Program" "around", .meth "Program" "called", .noat "Program" "behinds", .noat "Program" "callees", .noat "Program" "calls", .noat "Program" "contents", .noat "Program" "eithers", .noat "Program" "evers", .noat "Program" "fields", .noat "Program" "firsts", .noat "Program" "functions", .noat "Program" "gives", .noat "Program" "heads", .noat "Program" "kept", .noat "Program" "kinds", .noat "Program" "makings", .noat "Program" "names", .noat "Program" "ors", .noat "Program" "owners", .noat "Program" "params", .noat "Program" "partners", .noat "Program" "rooms", .noat "Program" "rooms_of", .noat "Program" "rows", .noat "Program" "text", .noat "Program" "ways_by_shape", .glo "_law_pen", .glo "_law_draw", .glo "_law_pick", .glo "_law_words", .glo "_law_scene", .glo "_law_course", .glo "_law_due"]
def fa2 : List He.Fa := [.glo "_law_made", .glo "_law_is_stopped", .glo "law", .free "enumerate", .free "int", .free "isinstance", .free "iter", .free "len", .free "list", .free "max", .free "min", .free "range", .free "sorted", .free "str", .free "super", .free "tuple", .free "zip", .glo "LEAVING", .int "BEGIN" (-1), .glo "MAKING", .glo "NAMING", .glo "KEYWORDS", .str "LETTERS" "abcdefghijklmnopqrstuvwxyz", .int "LONGEST_NAME" 12, .int "MOST_SHAPES" 8, .int "MOST_FIELDS" 4, .int "MOST_WAYS" 16, .str "ITEM" "*", .int "MOST_CHARACTERS" 6000, .int "MOST_LINES" 100, .int "MOST_HEADS" 6, .int "MOST_PARAMETERS" 4, .int "MOST_BLOCKS" 8, .int "MOST_NAMES" 8, .int "MOST_MAKINGS" 12, .int "MOST_CALLS" 20, .glo "BLOCKS"]
def fa : List He.Fa := fa0 ++ fa1 ++ fa2
def ns0 : List PySem.Str := ["_wall", "__name__", "RoomError", "BadText", "TooMany", "NotRun", "BadPick", "LEAVING", "is_last", "leaves_call", "end_lines", "step_lines", "all_rooms", "ended_rooms", "BEGIN", "MAKING", "NAMING", "Span", "next_lines", "followed", "rooms_left", "stays_of", "read_record", "pick_at", "made_parts"]
def ns1 : List PySem.Str := ["field_place", "named_value", "given_values", "values_of", "Run", "KEYWORDS", "LETTERS", "LONGEST_NAME", "words_of", "is_name", "are_names", "MOST_SHAPES", "MOST_FIELDS", "MOST_WAYS", "ITEM", "Shapes", "is_fresh", "ways_through", "declare_shape", "declare_bag", "field_shape", "parts_shapes", "MOST_CHARACTERS", "MOST_LINES", "MOST_HEADS"]
def ns2 : List PySem.Str := ["MOST_PARAMETERS", "MOST_BLOCKS", "MOST_NAMES", "MOST_MAKINGS", "MOST_CALLS", "BLOCKS", "Reading", "read_head", "read_func", "have_shapes", "give_shape", "note_making", "read_new", "read_with", "read_value", "read_call", "read_give", "read_end", "read_or", "read_leave", "read_block", "read_bare", "read_inside", "rooms_around", "read_line"]
def ns3 : List PySem.Str := ["lines_of", "read_text", "Program", "_law_pen", "_law_draw", "_law_pick", "_law_words", "_law_scene", "_law_course", "_law_due", "_law_made", "_law_is_stopped"]
abbrev loose : List PySem.Str := ns0 ++ ns1 ++ ns2 ++ ns3
def tup_LEAVING : List PySem.Str := ["give", "back"]
def tup_MAKING : List PySem.Str := ["new", "with"]
def tup_NAMING : List PySem.Str := ["none", "new", "with", "get", "some", "let"]
def tup_KEYWORDS : List PySem.Str := ["shape", "bag", "head", "gives", "func", "none", "new", "with", "get", "some", "let", "use", "call", "do", "give", "back", "stop", "room", "either", "or", "loop", "ever", "leave", "end", "in"]
def tup_BLOCKS : List PySem.Str := ["room", "either", "loop", "ever"]
def xs : List K7.XD := [⟨"BadText", ["line"], "BadText.__init__", defArgs (inClass (top 3) 0), defBody (inClass (top 3) 0), defScope (inClass (top 3) 0)⟩,
  ⟨"TooMany", ["what"], "TooMany.__init__", defArgs (inClass (top 4) 0), defBody (inClass (top 4) 0), defScope (inClass (top 4) 0)⟩,
  ⟨"NotRun", ["index"], "NotRun.__init__", defArgs (inClass (top 5) 0), defBody (inClass (top 5) 0), defScope (inClass (top 5) 0)⟩,
  ⟨"BadPick", ["index"], "BadPick.__init__", defArgs (inClass (top 6) 0), defBody (inClass (top 6) 0), defScope (inClass (top 6) 0)⟩]
def tb (K : PySem.W.Frag) : Bool := He.tupB K "LEAVING" (tup_LEAVING.map He.Dv.str) && He.tupB K "MAKING" (tup_MAKING.map He.Dv.str) && He.tupB K "NAMING" (tup_NAMING.map He.Dv.str) && He.tupB K "KEYWORDS" (tup_KEYWORDS.map He.Dv.str) && He.tupB K "BLOCKS" (tup_BLOCKS.map He.Dv.str) && K8.tupA (He.dflAt ("Run", some "__init__") 0 K) [] K
abbrev R : PySem.W.OpenRow := PySem.W.OpenLaw.row PySem.Challenge.rw_roomends_k19_items_that_are_picked
abbrev file : PySem.Str := (R.prog.main.file : PySem.Str)
abbrev hk : PySem.W.Hook := K9.hook9 file 5 fa fn tb xs
def ob (s : PySem.W.SharedT) : K9.Al9 := K9.obs9G file 5 fa fn tb xs (HandSHeadRun.getT s)
theorem ob_eq (s : PySem.W.SharedT) : ob s = hk.obs s.abs := K9.obs9G_eq (HandSHeadRun.getT_eq s)
def KS (s : PySem.W.SharedT) : PySem.W.Frag := He.frG (HandSHeadRun.getT s) (K6.as6 (HandSHeadRun.getT s) 5)
noncomputable abbrev E (w : World) (os : OsState) : Option PySem.W.SharedT := HandSHeadRun.endF (HandSHeadRun.stepQ (HandSHeadRun.denQ HandSHeadRun.tabQ) R.prog w) 9000 R.prog w os
abbrev qv : Program := PySem.W.view R.prog [94]
end R9H
set_option Elab.async false
set_option linter.all false
set_option maxRecDepth 100000
set_option maxHeartbeats 0
namespace R9H
open PySem PySem.W PySem.Spec PySem.Calls PyProof.Rows L2
theorem p0 (w : World) (os : OsState) : (E w os).map (fun s => (HandSHeadRun.looksF R.prog (boot_heap w.params) s.abs, HandSHeadRun.seenQ qv loose (importedModules R.prog.main.body) (fun s => PySem.W.xlAt qv [] s && PySem.W.recOk R.toRowW.records s) s.abs)) = some (true, PySem.W.openGood qv loose) := by kernel_rfl
end R9H
set_option Elab.async false
set_option linter.all false
set_option maxRecDepth 100000
set_option maxHeartbeats 0
namespace R9H
open PySem PySem.W PySem.Spec PySem.Calls PyProof.Rows L2
theorem pa0 (w : World) (os : OsState) : (E w os).map (fun s => fa0.all fun f => f.ok (KS s)) = some true := by kernel_rfl
end R9H
set_option Elab.async false
set_option linter.all false
set_option maxRecDepth 100000
set_option maxHeartbeats 0
namespace R9H
open PySem PySem.W PySem.Spec PySem.Calls PyProof.Rows L2
theorem pa1 (w : World) (os : OsState) : (E w os).map (fun s => fa1.all fun f => f.ok (KS s)) = some true := by kernel_rfl
end R9H
set_option Elab.async false
set_option linter.all false
set_option maxRecDepth 100000
set_option maxHeartbeats 0
namespace R9H
open PySem PySem.W PySem.Spec PySem.Calls PyProof.Rows L2
theorem pa2 (w : World) (os : OsState) : (E w os).map (fun s => fa2.all fun f => f.ok (KS s)) = some true := by kernel_rfl
end R9H
set_option Elab.async false
set_option linter.all false
set_option maxRecDepth 100000
set_option maxHeartbeats 0
namespace R9H
open PySem PySem.W PySem.Spec PySem.Calls PyProof.Rows L2
theorem pf0 (w : World) (os : OsState) : (E w os).map (fun s => (fn0.all fun d => d.ok (KS s), fn0.map fun d => He.fnW (KS s) d.at_)) = some (true, fn0.map He.DefD.val) := by kernel_rfl
end R9H
set_option Elab.async false
set_option linter.all false
set_option maxRecDepth 100000
set_option maxHeartbeats 0
namespace R9H
open PySem PySem.W PySem.Spec PySem.Calls PyProof.Rows L2
theorem pf1 (w : World) (os : OsState) : (E w os).map (fun s => (fn1.all fun d => d.ok (KS s), fn1.map fun d => He.fnW (KS s) d.at_)) = some (true, fn1.map He.DefD.val) := by kernel_rfl
end R9H
set_option Elab.async false
set_option linter.all false
set_option maxRecDepth 100000
set_option maxHeartbeats 0
namespace R9H
open PySem PySem.W PySem.Spec PySem.Calls PyProof.Rows L2
theorem pf2 (w : World) (os : OsState) : (E w os).map (fun s => (fn2.all fun d => d.ok (KS s), fn2.map fun d => He.fnW (KS s) d.at_)) = some (true, fn2.map He.DefD.val) := by kernel_rfl
end R9H
set_option Elab.async false
set_option linter.all false
set_option maxRecDepth 100000
set_option maxHeartbeats 0
namespace R9H
open PySem PySem.W PySem.Spec PySem.Calls PyProof.Rows L2
theorem pf3 (w : World) (os : OsState) : (E w os).map (fun s => (fn3.all fun d => d.ok (KS s), fn3.map fun d => He.fnW (KS s) d.at_)) = some (true, fn3.map He.DefD.val) := by kernel_rfl
end R9H
set_option Elab.async false
set_option linter.all false
set_option maxRecDepth 100000
set_option maxHeartbeats 0
namespace R9H
open PySem PySem.W PySem.Spec PySem.Calls PyProof.Rows L2
theorem pt (w : World) (os : OsState) : (E w os).map (fun s => (tb (KS s), ((xs.all fun d => K7.supB' (KS s) (He.ga (KS s) d.cls) file d.fs) && K7.kitB (KS s) xs, xs.map fun d => K7.iniW (KS s) (He.ga (KS s) d.cls)))) = some (true, (true, xs.map K7.XD.val)) := by kernel_rfl
end R9H
set_option Elab.async false
set_option linter.all false
set_option maxRecDepth 100000
set_option maxHeartbeats 0
namespace R9H
open PySem PySem.Spec PyProof.Rows L2
theorem map_some {α β : Type} {o : Option α} {f : α → β} {s : α} {v : β} (e : o = some s) (h : o.map f = some v) : f s = v := by
  rw [e] at h
  exact Option.some.inj h
theorem run (w : World) : HandSHeadRun.RunEq R qv hk ob 9000 loose w := by
  intro os
  have q0 := p0 w os
  cases e : E w os with
  | none => rw [e] at q0; cases q0
  | some s =>
    have e0 := map_some e q0
    have a0 := map_some e (pa0 w os)
    have a1 := map_some e (pa1 w os)
    have a2 := map_some e (pa2 w os)
    have f0 := map_some e (pf0 w os)
    have f1 := map_some e (pf1 w os)
    have f2 := map_some e (pf2 w os)
    have f3 := map_some e (pf3 w os)
    have t0 := map_some e (pt w os)
    rw [Prod.mk.injEq] at e0 t0 f0 f1 f2 f3
    have ha : (fa.all fun f => f.ok (KS s)) = true := by
      unfold fa
      simp only [List.all_append, a0, a1, a2, Bool.and_true]
    have hf : (fn.all fun d => d.ok (KS s)) = true := by
      unfold fn
      simp only [List.all_append, f0.1, f1.1, f2.1, f3.1, Bool.and_true]
    have hm : (fn.map fun d => He.fnW (KS s) d.at_) = fn.map He.DefD.val := by
      unfold fn
      simp only [List.map_append, f0.2, f1.2, f2.2, f3.2]
    have ho : ob s = hk.val w := by
      show ((((fa.all fun f => f.ok (KS s)) && fn.all fun d => d.ok (KS s), fn.map fun d => He.fnW (KS s) d.at_), tb (KS s)), ((xs.all fun d => K7.supB' (KS s) (He.ga (KS s) d.cls) file d.fs) && K7.kitB (KS s) xs, xs.map fun d => K7.iniW (KS s) (He.ga (KS s) d.cls))) = (((true, fn.map He.DefD.val), true), (true, xs.map K7.XD.val))
      rw [ha, hf, hm, t0.1, t0.2]
      rfl
    show (E w os).map _ = _
    rw [e]
    show some (_, _, _) = some _
    rw [e0.1, e0.2, ho]
end R9H
set_option Elab.async false
set_option linter.all false
set_option maxRecDepth 100000
set_option maxHeartbeats 4000000
/-! G1: further rules over the layer: slices with a step, the order of data -/
namespace L2
open PySem PySem.Spec PyProof.Rows
/-! ### xs[lo:hi:st] of a list -/
def pickIx (n : Nat) (lo hi st : Option Int) : List Nat := sliceRange (sliceBounds lo hi st n).1 (sliceBounds lo hi st n).2.1 (sliceBounds lo hi st n).2.2
def pickV {α : Type} (xs : List α) (lo hi st : Option Int) : List α := (pickIx xs.length lo hi st).filterMap (xs[·]?)
theorem vals_pick {xs : List V} {us : List Value} (r : Vals xs us) : ∀ is : List Nat, Vals (is.filterMap (xs[·]?)) (is.filterMap (us[·]?))
  | [] => .nil
  | i :: is => by
    cases e : xs[i]? with
    | none =>
      have e2 : us[i]? = none := by
        rw [List.getElem?_eq_none_iff] at e ⊢
        rw [← r.length]; exact e
      rw [List.filterMap_cons_none e, List.filterMap_cons_none e2]
      exact vals_pick r is
    | some x =>
      obtain ⟨u, hu, ru⟩ := r.get e
      rw [List.filterMap_cons_some e, List.filterMap_cons_some hu]
      exact .cons ru (vals_pick r is)
theorem pick_len {α : Type} (xs : List α) (is : List Nat) : (is.filterMap (xs[·]?)).length ≤ is.length := List.length_filterMap_le _ _
def tSl3 (K : PySem.W.Frag) (te : TE) (tl th ts : TO) : TE := fun σ H Q => te σ H fun x H1 => tl σ H1 fun lo H2 => th σ H2 fun hi H3 => ts σ H3 fun st H4 => ∃ a xs, x = .ref a ∧ SqL K H4 a xs ∧ st ≠ some 0 ∧ (pickV xs lo hi st).length ≤ sizeLine ∧
  ∀ p, H4 p = none → Q (.ref p) (upd H4 p (.lst (pickV xs lo hi st)))
section
variable {X : Cx}
theorem pe_slice3 {e s0 : Expr} {lo hi : Option Expr} {te : TE} {tl th ts : TO} {p3 pos : Pos} (he : PE X e te) (hl : PO X lo tl) (hh : PO X hi th) (hs : PO X (some s0) ts)
    (hz : ∀ o i, subscripted (.Slice lo hi (some s0) p3) false o i = operate [o, i] (getItem o i) := by intro _ _; rfl) :
    PE X (.Subscript e (.Slice lo hi (some s0) p3) pos) (tSl3 X.K te tl th ts) := by
  constructor
  intro pins s σ H Q I h
  refine Subscript_ (thn (he.run pins s σ H _ I h) ?_)
  rintro v s1 ⟨x, H1, I1, r1, q1⟩
  refine wpAny_Slice (thn (hl.run pins s1 σ H1 _ I1 q1) ?_)
  rintro vl s2 ⟨l, H2, I2, pl, q2⟩
  refine thn (hh.run pins s2 σ H2 _ I2 q2) ?_
  rintro vu s3 ⟨u, H3, I3, pu, q3⟩
  refine thn (hs.run pins s3 σ H3 _ I3 q3) ?_
  rintro vs s4 ⟨o, H4, I4, ps, a, xs, rfl, hx, h0, hlen, q⟩
  cases r1
  have I5 : Inv X pins σ H4 { s4 with heap := s4.heap.push { cls := .type "slice", data := .fields #[vl, vu, vs] } } := I4.kept (t' := s4.toks) fun b ob q => Heap.get?_push_of_some _ q
  obtain ⟨its, r, ht, hz'⟩ := I5.list hx
  have hlen2 := r.length
  refine tail_any (ops := [.ref a, .ref s4.heap.objs.size]) ht.isList.typeIs (PySem.slot_list_getitem.lookup) ?_ (hz _ _)
  refine wpAny_getItem_list_slice ht.isList (Heap.IsSliceOf.new _ vl vu vs) pl pu ps h0 ?_ (by rw [List.size_toArray]; omega)
  have e : slicePick its.toArray l u o = ((pickIx xs.length l u o).filterMap (its[·]?)).toArray := by
    unfold slicePick pickIx
    rw [List.size_toArray, hlen2]
    have ef : (fun i : Nat => its.toArray[i]?) = (fun i : Nat => its[i]?) := by
      funext i
      simp
    rw [ef]
  rw [e]
  refine ⟨.ref _, _, I5.laid (t' := s4.toks) (o := .lst (pickV xs l u o)) (fun b ob q => Heap.get?_push_of_some _ q) (Nat.le_refl _) ?_, rfl, q _ (I5.hok.fresh (Nat.le_refl _))⟩
  exact ⟨hlen, _, 0, vals_pick r _, Heap.get?_push_size _ rfl⟩
/-! ### a < b of data -/
def rLtD (K : PySem.W.Frag) : R2 := fun x y H Q => ∃ d e, Dp K H x d ∧ Dp K H y e ∧ PySem.W.alike d e = true ∧ d ≠ .none ∧ d.depth ≤ 64 ∧ Q (.bl (PySem.W.dataLt d e)) H
theorem op_ltD (hu : X.A.units + 64 < cLine) : OpR X (compareOp .Lt) (rLtD X.K) := by
  intro pins s σ H x y v u Q I rx ry h
  obtain ⟨d, e, hd, he, ha, hn, hdp, q⟩ := h
  obtain ⟨as, r1⟩ := Dp.reads I d x v hd rx
  obtain ⟨bs, r2⟩ := Dp.reads I e y u he ry
  have L := PySem.W.rcLt_alike d e X.A s v u as bs r1 r2 ha hn (by have := Nat.min_le_left d.depth e.depth; omega)
  exact L _ _ _ _ ⟨.bl _, H, I, rfl, q⟩
end
end L2
set_option Elab.async false
set_option linter.all false
set_option maxRecDepth 100000
set_option maxHeartbeats 4000000
/-! G2: list(zip(..)) and tuple(zip(..)) of two lists -/
namespace L2
open PySem PySem.Spec PyProof.Rows
/-- all that stood stands -/
def ExtH (H H' : Hp) : Prop := ∀ x o, H x = some o → H' x = some o
theorem ExtH.refl {H : Hp} : ExtH H H := fun _ _ e => e
theorem ExtH.trans {H H1 H2 : Hp} (a : ExtH H H1) (b : ExtH H1 H2) : ExtH H H2 := fun x y e => b x y (a x y e)
theorem extH_put {H : Hp} {p : Addr} {o : HO} (n : H p = none) : ExtH H (upd H p o) := fun x y e => by
  rw [upd_ne (ne_of_none e n)]; exact e
theorem sqL_extH {K : PySem.W.Frag} {H G : Hp} {a : Addr} {xs : List V} (e : ExtH H G) (h : SqL K H a xs) : SqL K G a xs :=
  h.elim (fun h => .inl (h.elim (fun h => .inl (e _ _ h)) fun ⟨o, h⟩ => .inr ⟨o, e _ _ h⟩)) .inr
theorem sqT_extH {K : PySem.W.Frag} {H G : Hp} {a : Addr} {xs : List V} (e : ExtH H G) (h : SqT K H a xs) : SqT K G a xs :=
  h.elim (fun h => .inl (h.elim (fun h => .inl (e _ _ h)) fun ⟨o, h⟩ => .inr ⟨o, e _ _ h⟩)) .inr
/-- the zip has a pair out, or none yet -/
def ZSt (h : Heap) (S z TI TO i1 i2 : Addr) : Prop := (IsZip h z TI TO .none ∧ ∃ x y, IsPair h TO x y) ∨ ∃ (T : Addr) (f : Bool) (oT : Obj), PySem.IsZipHeld h z TI TO T f ∧ h.get? T = some oT ∧ T ∉ [S, z, TI, TO, i1, i2]
/-- at ts stand the pairs of xs and ys -/
def Pairs (H : Hp) (xs ys : List V) (ts : List Addr) : Prop := ∀ (j : Nat) (t : Addr), ts[j]? = some t → ∃ x y, xs[j]? = some x ∧ ys[j]? = some y ∧ H t = some (.tup [x, y])
theorem Pairs.ext {H G : Hp} {xs ys : List V} {ts : List Addr} (h : Pairs H xs ys ts) (e : ExtH H G) : Pairs G xs ys ts := fun j t ht => by
  obtain ⟨x, y, h1, h2, h3⟩ := h j t ht
  exact ⟨x, y, h1, h2, e _ _ h3⟩
section
variable {X : Cx} {pins : List (Addr × Obj)} {σ : St}
theorem zip_loop {A : Around} {R : Result → Shared → Prop} {z TI TO i1 i2 l1 l2 S : Addr} {xs ys : List V} {res : Value} (hh : A.handled = none) (D : ZipApart z TI TO i1 i2 l1 l2) (hS : S ∉ [z, TI, TO, i1, i2]) (hn : min xs.length ys.length ≤ sizeLine) :
    ∀ (k i : Nat) (s : Shared) (H : Hp) (ts : List Addr) (acc : Array Value) (c : Nat), TO < s.heap.objs.size → min xs.length ys.length - i = k → i ≤ min xs.length ys.length → Inv X pins σ H s → (∀ b ∈ [S, z, TI, TO, i1, i2], FpOk X pins H b) → SqL X.K H l1 xs → SqL X.K H l2 ys →
      ZSt s.heap S z TI TO i1 i2 → IsPair s.heap TI (.ref i1) (.ref i2) → s.heap.IsListIter i1 l1 i → s.heap.IsListIter i2 l2 i → s.heap.get? S = some { cls := .type "list", dict := none, data := .seq acc c, slots := #[] } → acc.toList = ts.map Value.ref → ts.length = i → Pairs H xs ys ts →
      (∀ s' H' ts' acc' c', Inv X pins σ H' s' → ExtH H H' → FpOk X pins H' S → s'.heap.get? S = some { cls := .type "list", dict := none, data := .seq acc' c', slots := #[] } → acc'.toList = ts'.map Value.ref → ts'.length = min xs.length ys.length → Pairs H' xs ys ts' → R (.ok (.ret res)) s') →
      codeAny (model X.prog X.w) A (.builtin "list.extend.loop" ⟨[.ref S, .ref z, res], []⟩) R s := by
  have hSz : S ≠ z := fun e => hS (by rw [e]; simp)
  have hSTI : S ≠ TI := fun e => hS (by rw [e]; simp)
  have hSTO : S ≠ TO := fun e => hS (by rw [e]; simp)
  have hS1 : S ≠ i1 := fun e => hS (by rw [e]; simp)
  have hS2 : S ≠ i2 := fun e => hS (by rw [e]; simp)
  intro k
  induction k with
  | zero =>
    intro i s H ts acc c hTOl hk hi I hf hx hy hz hTI h1 h2 hSo ha hl hp hR
    have hin : i = min xs.length ys.length := by omega
    obtain ⟨its, rv, p1, _⟩ := I.list hx
    obtain ⟨its2, rv2, p2, _⟩ := I.list hy
    have e1 := rv.length
    have e2 := rv2.length
    have hend : its.toArray[i]? = none ∨ its2.toArray[i]? = none := by
      rcases Nat.le_total xs.length ys.length with q | q
      · exact .inl (by simp; omega)
      · exact .inr (by simp; omega)
    refine codeAny_builtin F.entry_extend_loop ?_
    rw [Around.under_plainId F.plain_extend_loop _]
    show wpAny _ A.in1 (pyNext (.ref z) >>= _) _ _ s
    refine wpAny_bind ?_
    have fin : ∀ h' : Heap, (∀ b o, b ∉ [z, TI, TO, i1, i2] → s.heap.get? b = some o → h'.get? b = some o) → R (.ok (.ret res)) { s with heap := h' } := fun h' hk' =>
      hR { s with heap := h' } H ts acc c (I.turnedL (t' := s.toks) (ch := [z, TI, TO, i1, i2]) hk' fun b hb => hf b (List.mem_cons_of_mem _ hb)) .refl (hf S List.mem_cons_self) (hk' S _ hS hSo) ha (hl.trans hin) hp
    rcases hz with ⟨hz, x0, y0, hTO⟩ | ⟨T, f, oT, hz, hT, hTn⟩
    · refine wpAny_pyNext_zip_end (A := A.in1) hh D hz hTI hTO h1 h2 p1.isList p2.isList hend fun h' hk' => wpAny_pure (fin h' fun b o hb e => ?_)
      exact hk' b o (fun q => hb (by simp [q])) (fun q => hb (by simp [q])) (fun q => hb (by simp [q])) (fun q => hb (by simp [q])) e
    · refine wpAny_pyNext_zip_end_held (A := A.in1) hh D hz hT hTI h1 h2 p1.isList p2.isList hend fun h' hk' => wpAny_pure (fin h' fun b o hb e => ?_)
      exact hk' b o (fun q => hb (by simp [q])) (fun q => hb (by simp [q])) (fun q => hb (by simp [q])) e
  | succ k ih =>
    intro i s H ts acc c hTOl hk hi I hf hx hy hz hTI h1 h2 hSo ha hl hp hR
    have hlt : i < min xs.length ys.length := by omega
    obtain ⟨its, rv, p1, _⟩ := I.list hx
    obtain ⟨its2, rv2, p2, _⟩ := I.list hy
    have e1 := rv.length
    have e2 := rv2.length
    have hix : i < xs.length := by omega
    have hiy : i < ys.length := by omega
    obtain ⟨u, hu, ru⟩ := rv.get (List.getElem?_eq_getElem hix)
    obtain ⟨u2, hu2, ru2⟩ := rv2.get (List.getElem?_eq_getElem hiy)
    have hsz : acc.size = i := by
      have := congrArg List.length ha
      rw [Array.length_toList, List.length_map] at this
      omega
    refine codeAny_builtin F.entry_extend_loop ?_
    rw [Around.under_plainId F.plain_extend_loop _]
    show wpAny _ A.in1 (pyNext (.ref z) >>= _) _ _ s
    refine wpAny_bind ?_
    have hfr := I.hok.fresh (Nat.le_refl s.heap.objs.size)
    have hSl : s.heap.objs.size ≠ S := fun e => by
      have := Heap.lt_size hSo
      rw [← e] at this
      exact Nat.lt_irrefl _ this
    have old : ∀ b ∈ [S, z, TI, TO, i1, i2], b < s.heap.objs.size := fun b hb => by
      rcases List.mem_cons.mp hb with q | q
      · rw [q]; exact Heap.lt_size hSo
      · have e' : b = z ∨ b = TI ∨ b = TO ∨ b = i1 ∨ b = i2 := by simpa using q
        rcases e' with q | q | q | q | q
        · rw [q]
          rcases hz with ⟨hz, _⟩ | ⟨_, _, _, hz, _, _⟩
          · exact Heap.lt_size hz
          · exact Heap.lt_size hz
        · rw [q]; exact Heap.lt_size hTI
        · rw [q]; exact hTOl
        · rw [q]; obtain ⟨_, e1, _⟩ := h1; exact Heap.lt_size e1
        · rw [q]; obtain ⟨_, e2, _⟩ := h2; exact Heap.lt_size e2
    have newN : s.heap.objs.size ∉ [S, z, TI, TO, i1, i2] := fun q => Nat.lt_irrefl _ (old _ q)
    have next : ∀ (h' : Heap) (T : Addr) (f : Bool) (oT : Obj), PySem.IsZipHeld h' z TI TO T f → h'.get? T = some oT → T ∉ [S, z, TI, TO, i1, i2] → h'.IsListIter i1 l1 (i + 1) → h'.IsListIter i2 l2 (i + 1) → IsPair h' s.heap.objs.size u u2 → (∀ b o, b ∉ [z, TI, TO, i1, i2] → s.heap.get? b = some o → h'.get? b = some o) → IsPair h' TI (.ref i1) (.ref i2) →
        h'.get? S = some { cls := .type "list", dict := none, data := .seq acc c, slots := #[] } ∧ codeAny (model X.prog X.w) A (.builtin "list.extend.loop" ⟨[.ref S, .ref z, res], []⟩) R { s with heap := h'.update S (Obj.mapSeq (·.push (.ref s.heap.objs.size))) } := by
      intro h' T f oT g1 gT gn g2 g3 g4 g5 g6
      have hSo' := g5 S _ hS hSo
      refine ⟨hSo', ?_⟩
      have up : ∀ b o, b ≠ S → h'.get? b = some o → (h'.update S (Obj.mapSeq (·.push (.ref s.heap.objs.size)))).get? b = some o := fun b o hb e => (Heap.get?_update_other _ _ (Ne.symm hb)).trans e
      have new : ObjOk X.prog X.w (upd H s.heap.objs.size (.tup [xs[i], ys[i]])) (h'.update S (Obj.mapSeq (·.push (.ref s.heap.objs.size)))) s.heap.objs.size (.tup [xs[i], ys[i]]) :=
        ⟨by show 2 ≤ sizeLine; decide, [u, u2], .cons ru (.cons ru2 .nil), ⟨_, up _ _ hSl g4, rfl, _, rfl⟩⟩
      have I1 : Inv X pins σ (upd H s.heap.objs.size (.tup [xs[i], ys[i]])) { s with heap := h'.update S (Obj.mapSeq (·.push (.ref s.heap.objs.size))) } :=
        I.turnedNew (t' := s.toks) (ch := [S, z, TI, TO, i1, i2]) (fun b o hb q => up b o (fun e => hb (by rw [e]; exact List.mem_cons_self)) (g5 b o (fun e => hb (List.mem_cons_of_mem _ e)) q)) hf (Nat.le_refl _) new
      have ex : ExtH H (upd H s.heap.objs.size (.tup [xs[i], ys[i]])) := extH_put hfr
      refine ih (i + 1) _ _ (ts ++ [s.heap.objs.size]) (acc.push (.ref s.heap.objs.size)) _ ?hTO (by omega) hlt I1 (fun b hb => ?_) (sqL_extH ex hx) (sqL_extH ex hy) (.inr ⟨T, f, oT, up _ _ (Ne.symm hSz) g1, up _ _ (fun e => gn (by rw [e]; exact List.mem_cons_self)) gT, gn⟩) (up _ _ (Ne.symm hSTI) g6)
        (g2.at fun o e => up _ _ (Ne.symm hS1) e) (g3.at fun o e => up _ _ (Ne.symm hS2) e) (Heap.get?_update_self _ hSo' rfl) (by rw [Array.toList_push, ha, List.map_append] <;> rfl) (by rw [List.length_append, hl] <;> rfl) ?_ ?_
      case hTO =>
        have g : s.heap.objs.size < (h'.update S (Obj.mapSeq (·.push (.ref s.heap.objs.size)))).objs.size := Heap.lt_size (up _ _ hSl g4)
        exact Nat.lt_trans hTOl g
      · obtain ⟨q1, q2⟩ := hf b hb
        refine ⟨?_, q2⟩
        rw [upd_ne (fun e => ?_)]
        · exact q1
        · have hlt2 := old b hb
          rw [e] at hlt2
          exact Nat.lt_irrefl _ hlt2
      · intro j t ht
        rcases Nat.lt_or_ge j ts.length with q | q
        · rw [List.getElem?_append_left q] at ht
          exact (hp.ext ex) j t ht
        · rw [List.getElem?_append_right q] at ht
          have hj : j = i := by
            have : j - ts.length < 1 := (List.getElem?_eq_some_iff.mp ht).1
            omega
          subst hj
          rw [hl, Nat.sub_self] at ht
          cases ht
          exact ⟨_, _, List.getElem?_eq_getElem hix, List.getElem?_eq_getElem hiy, upd_same⟩
      · exact fun s' H' ts' acc' c' J e f1 f2 f3 f4 f5 => hR s' H' ts' acc' c' J (ex.trans e) f1 f2 f3 f4 f5
    have hsz1 : acc.size ≤ sizeLine := by omega
    have hsz2 : (acc.push (Value.ref s.heap.objs.size)).size ≤ sizeLine + 1 := by rw [Array.size_push]; omega
    rcases hz with ⟨hz, x0, y0, hTO⟩ | ⟨T, f, oT, hz, hT, hTn⟩
    · refine wpAny_pyNext_zip_item (A := A.in1) D hz hTI hTO h1 h2 p1.isList p2.isList (x := u) (y := u2) (by simpa using hu) (by simpa using hu2) fun h' g1 g2 g3 g4 g5 g6 g7 => ?_
      obtain ⟨n1, n2⟩ := next h' _ false _ g1 g5 newN g3 g4 g5 (fun b o hb e => g7 b o (fun q => hb (by simp [q])) (fun q => hb (by simp [q])) (fun q => hb (by simp [q])) (fun q => hb (by simp [q])) e) (g7 _ _ D.TIz D.TITO D.TIi1 D.TIi2 hTI)
      refine wpAny_bind ?_
      exact wpAny_updateSeq n1 rfl (wpAny_pure ⟨plainId_quiet F.plain_extend_loop _, n2⟩) hsz1 hsz2
    · refine wpAny_pyNext_zip_item_held (A := A.in1) D hz hT hTI h1 h2 p1.isList p2.isList (x := u) (y := u2) (by simpa using hu) (by simpa using hu2) fun h' g1 g3 g4 g5 g6 g7 => ?_
      obtain ⟨n1, n2⟩ := next h' T true oT g1 (g7 _ _ (fun e => hTn (by simp [e])) (fun e => hTn (by simp [e])) (fun e => hTn (by simp [e])) hT) hTn g3 g4 g5 (fun b o hb e => g7 b o (fun q => hb (by simp [q])) (fun q => hb (by simp [q])) (fun q => hb (by simp [q])) e) (g7 _ _ D.TIz D.TIi1 D.TIi2 hTI)
      refine wpAny_bind ?_
      exact wpAny_updateSeq n1 rfl (wpAny_pure ⟨plainId_quiet F.plain_extend_loop _, n2⟩) hsz1 hsz2
end
end L2
set_option Elab.async false
set_option linter.all false
set_option maxRecDepth 100000
set_option maxHeartbeats 4000000
/-! G3: list(zip(..)) and tuple(zip(..)) called -/
namespace L2
open PySem PySem.Spec PyProof.Rows
theorem nolen_zip : typeLookup (.type "zip") "__len__" = pure none := by rw [typeLookup_type, builtinLookup_eq_fast]; kernel_rfl
theorem nohint_zip : typeLookup (.type "zip") "__length_hint__" = pure none := by rw [typeLookup_type, builtinLookup_eq_fast]; kernel_rfl
/-- a zip of the lists at l1 and l2, new -/
structure NewZip (s : Shared) (z TI TO i1 i2 l1 l2 : Addr) : Prop where
  z : IsZip s.heap z TI TO .none
  TI : IsPair s.heap TI (.ref i1) (.ref i2)
  TO : ∃ x y, IsPair s.heap TO x y
  h1 : s.heap.IsListIter i1 l1 0
  h2 : s.heap.IsListIter i2 l2 0
theorem NewZip.at_ {s s' : Shared} {z TI TO i1 i2 l1 l2 : Addr} (h : NewZip s z TI TO i1 i2 l1 l2) (k : ∀ b o, s.heap.get? b = some o → s'.heap.get? b = some o) : NewZip s' z TI TO i1 i2 l1 l2 :=
  ⟨k _ _ h.z, k _ _ h.TI, let ⟨x, y, e⟩ := h.TO; ⟨x, y, k _ _ e⟩, h.h1.at fun o e => k _ o e, h.h2.at fun o e => k _ o e⟩
theorem NewZip.lt {s : Shared} {z TI TO i1 i2 l1 l2 : Addr} (h : NewZip s z TI TO i1 i2 l1 l2) : ∀ b ∈ [z, TI, TO, i1, i2], b < s.heap.objs.size := fun b hb => by
  have e' : b = z ∨ b = TI ∨ b = TO ∨ b = i1 ∨ b = i2 := by simpa using hb
  rcases e' with q | q | q | q | q
  · rw [q]; exact Heap.lt_size h.z
  · rw [q]; exact Heap.lt_size h.TI
  · rw [q]; obtain ⟨_, _, e⟩ := h.TO; exact Heap.lt_size e
  · rw [q]; obtain ⟨_, e, _⟩ := h.h1; exact Heap.lt_size e
  · rw [q]; obtain ⟨_, e, _⟩ := h.h2; exact Heap.lt_size e
section
variable {X : Cx} {pins : List (Addr × Obj)} {σ : St} {H : Hp} {s : Shared} {z TI TO i1 i2 l1 l2 : Addr} {xs ys : List V}
/-- what is left behind: S a list of the new pairs -/
def ZEnd (X : Cx) (pins : List (Addr × Obj)) (σ : St) (H : Hp) (xs ys : List V) (S : Addr) (s' : Shared) : Prop := ∃ (H' : Hp) (ts : List Addr) (acc : Array Value) (c : Nat), Inv X pins σ H' s' ∧ ExtH H H' ∧ FpOk X pins H' S ∧
  s'.heap.get? S = some { cls := .type "list", dict := none, data := .seq acc c, slots := #[] } ∧ acc.toList = ts.map Value.ref ∧ ts.length = min xs.length ys.length ∧ Pairs H' xs ys ts
theorem extWith_zip {A : Around} {R : Result → Shared → Prop} {S : Addr} {c0 : Nat} {res : Value} (hh : A.handled = none) (D : ZipApart z TI TO i1 i2 l1 l2) (Z : NewZip s z TI TO i1 i2 l1 l2) (hS : S ∉ [z, TI, TO, i1, i2]) (hn : min xs.length ys.length ≤ sizeLine)
    (I : Inv X pins σ H s) (hf : ∀ b ∈ [S, z, TI, TO, i1, i2], FpOk X pins H b) (hx : SqL X.K H l1 xs) (hy : SqL X.K H l2 ys) (hSo : s.heap.get? S = some { cls := .type "list", dict := none, data := .seq #[] c0, slots := #[] })
    (hR : ∀ s', ZEnd X pins σ H xs ys S s' → R (.ok (.ret res)) s') :
    wpAny (model X.prog X.w) A.in1 (Builtin.List.listExtendWith (.ref S) (.ref z) res) (fun fin s' => match fin with | .done f => R (.ok f) s' | .again c' => c'.quiet = true ∧ codeAny (model X.prog X.w) A c' R s') (fun e s' => R (.error e) s') s := by
  have hSz : S ≠ z := fun e => hS (by rw [e]; simp)
  have hT : ∀ s' : Shared, IsZip s'.heap z TI TO .none → s'.TypeIs (.ref z) "zip" := fun s' e => ⟨_, e, rfl⟩
  unfold Builtin.List.listExtendWith
  refine wpAny_bind (wpAny_typeOf (hT s Z.z) ?_)
  have h1 : Builtin.List.listSameRef (.ref S) (.ref z) = false := by simp [Builtin.List.listSameRef, hSz]
  have h2 : (Value.type "zip" == Value.type "list") = false := by decide
  have h3 : (Value.type "zip" == Value.type "tuple") = false := by decide
  simp only [h1, h2, h3, Bool.or_false, Bool.false_eq_true, if_false]
  refine wpAny_bind (wpAny_pyIter_zip Z.z ?_)
  refine wpAny_bind (wpAny_holding ?_)
  unfold Builtin.List.listLengthHint
  refine wpAny_bind (wpAny_specialOf (hT s Z.z) nolen_zip ?_)
  show wpAny _ A.in1 (specialOf (Value.ref z) (Str.ofString "__length_hint__") >>= _) _ _ _
  refine wpAny_bind (wpAny_specialOf (hT s Z.z) nohint_zip ?_)
  refine wpAny_pure ?_
  show wpAny _ A.in1 (rule "list.extend.makes-room" >>= fun _ => Builtin.List.listTouch (.ref S) >>= fun _ => again (.builtin "list.extend.loop" ⟨[.ref S, .ref z, res], []⟩)) _ _ _
  refine wpAny_bind (wpAny_rule ?_)
  refine wpAny_bind ?_
  show wpAny _ A.in1 (updateSeq S (·.push .none) >>= fun _ => updateSeq S (·.pop)) _ _ _
  refine wpAny_bind (wpAny_updateSeq hSo rfl ?_)
  have hS2 := Heap.get?_update_self (Obj.mapSeq (·.push Value.none)) hSo rfl
  refine wpAny_updateSeq hS2 rfl ?_
  have hS3 := Heap.get?_update_self (Obj.mapSeq (·.pop)) hS2 rfl
  have oth : ∀ b o, b ≠ S → s.heap.get? b = some o → ((s.heap.update S (Obj.mapSeq (·.push Value.none))).update S (Obj.mapSeq (·.pop))).get? b = some o :=
    fun b o hb e => (Heap.get?_update_other _ _ (Ne.symm hb)).trans ((Heap.get?_update_other _ _ (Ne.symm hb)).trans e)
  have I2 : Inv X pins σ H { s with heap := (s.heap.update S (Obj.mapSeq (·.push Value.none))).update S (Obj.mapSeq (·.pop)) } := I.turnedL (t' := s.toks) (ch := [S]) (fun b o hb e => oth b o (by simpa using hb) e) fun b hb => hf b (by
    have e : b = S := by simpa using hb
    rw [e]; exact List.mem_cons_self)
  have ne : ∀ b ∈ [z, TI, TO, i1, i2], b ≠ S := fun b hb e => hS (e ▸ hb)
  obtain ⟨x0, y0, hTO⟩ := Z.TO
  have hTOl : TO < ((s.heap.update S (Obj.mapSeq (·.push Value.none))).update S (Obj.mapSeq (·.pop))).objs.size := Heap.lt_size (oth TO _ (ne TO (by simp)) hTO)
  refine wpAny_pure ⟨plainId_quiet F.plain_extend_loop _, zip_loop hh D hS hn _ 0 _ H [] _ _ hTOl rfl (Nat.zero_le _) I2 hf hx hy (.inl ⟨oth _ _ (ne _ (by simp)) Z.z, x0, y0, oth _ _ (ne _ (by simp)) hTO⟩) (oth _ _ (ne _ (by simp)) Z.TI)
    (Z.h1.at fun o e => oth _ o (ne _ (by simp)) e) (Z.h2.at fun o e => oth _ o (ne _ (by simp)) e) hS3 rfl rfl (fun j t ht => by simp at ht) fun s' H' ts acc c q1 q2 q3 q4 q5 q6 q7 => hR s' ⟨H', ts, acc, c, q1, q2, q3, q4, q5, q6, q7⟩⟩
theorem code_iadd_zip {A : Around} {R : Result → Shared → Prop} {S : Addr} {c0 : Nat} (hh : A.handled = none) (D : ZipApart z TI TO i1 i2 l1 l2) (Z : NewZip s z TI TO i1 i2 l1 l2) (hS : S ∉ [z, TI, TO, i1, i2]) (hn : min xs.length ys.length ≤ sizeLine)
    (I : Inv X pins σ H s) (hf : ∀ b ∈ [S, z, TI, TO, i1, i2], FpOk X pins H b) (hx : SqL X.K H l1 xs) (hy : SqL X.K H l2 ys) (hSo : s.heap.get? S = some { cls := .type "list", dict := none, data := .seq #[] c0, slots := #[] })
    (hR : ∀ s', ZEnd X pins σ H xs ys S s' → R (.ok (.ret (.ref S))) s') : codeAny (model X.prog X.w) A (.builtin "list.__iadd__" ⟨[.ref S, .ref z], []⟩) R s := by
  refine codeAny_builtin F.entry_list_iadd ?_
  rw [Around.under_plainId F.plain_list_iadd _]
  exact extWith_zip (R := R) hh D Z hS hn I hf hx hy hSo hR
theorem collect_zip {A : Around} {E : Value → Shared → Prop} {Q : List Value → Shared → Prop} (hh : A.handled = none) (D : ZipApart z TI TO i1 i2 l1 l2) (Z : NewZip s z TI TO i1 i2 l1 l2) (hn : min xs.length ys.length ≤ sizeLine)
    (I : Inv X pins σ H s) (hf : ∀ b ∈ [z, TI, TO, i1, i2], FpOk X pins H b) (hx : SqL X.K H l1 xs) (hy : SqL X.K H l2 ys)
    (hQ : ∀ s' (H' : Hp) (ts : List Addr), Inv X pins σ H' s' → ExtH H H' → ts.length = min xs.length ys.length → Pairs H' xs ys ts → Q (ts.map Value.ref) s') : wpAny (model X.prog X.w) A (collect (.ref z)) Q E s := by
  unfold collect
  refine wpAny_bind (wpAny_runValue (codeAny_builtin F.entry_proto_collect ?_))
  rw [Around.under_plainId F.plain_proto_collect _]
  show wpAny _ A.in1 (newList [] >>= fun l => again (.builtin "list.__iadd__" ⟨[l, .ref z], []⟩)) _ _ s
  refine wpAny_bind (wpAny_newObj_type ?_)
  have hS₁ : (s.heap.push { cls := .type "list", data := .seq ([] : List Value).toArray }).get? s.heap.objs.size = some { cls := .type "list", data := .seq ([] : List Value).toArray } := Heap.get?_push_size _ rfl
  have I1 : Inv X pins σ H { s with heap := s.heap.push { cls := .type "list", data := .seq ([] : List Value).toArray } } := I.kept (t' := s.toks) fun b o e => Heap.get?_push_of_some _ e
  refine wpAny_pure ⟨plainId_quiet F.plain_list_iadd _, code_iadd_zip (A := A) hh D (Z.at_ fun b o e => Heap.get?_push_of_some _ e) (fun q => Nat.lt_irrefl _ (Z.lt _ q)) hn I1 (fun b hb => ?_) hx hy hS₁ fun s' ⟨H', ts, acc, c, q1, q2, q3, q4, q5, q6, q7⟩ => ?_⟩
  · rcases List.mem_cons.mp hb with e | hb
    · rw [e]; exact I.fpOk (Nat.le_refl _) (I.hok.fresh (Nat.le_refl _))
    · exact hf b hb
  · show wpAny _ A (load s.heap.objs.size >>= _) _ _ s'
    refine wpAny_bind (wpAny_load q4 ?_)
    refine wpAny_pure ?_
    rw [q5]
    exact hQ s' H' ts q1 q2 q6 q7
end
end L2
set_option Elab.async false
set_option linter.all false
set_option maxRecDepth 100000
set_option maxHeartbeats 4000000
/-! G4: list(zip(..)) and tuple(zip(..)) as expressions -/
namespace L2
open PySem PySem.Spec PyProof.Rows RT
section
variable {X : Cx} {pins : List (Addr × Obj)} {σ : St} {H : Hp} {s : Shared} {z TI TO i1 i2 l1 l2 : Addr} {xs ys : List V}
theorem code_tuple_zip {A : Around} {E : Value → Shared → Prop} {Q₁ : Value → Shared → Prop} (hh : A.handled = none) (D : ZipApart z TI TO i1 i2 l1 l2) (Z : NewZip s z TI TO i1 i2 l1 l2) (hn : min xs.length ys.length ≤ sizeLine)
    (I : Inv X pins σ H s) (hf : ∀ b ∈ [z, TI, TO, i1, i2], FpOk X pins H b) (hx : SqL X.K H l1 xs) (hy : SqL X.K H l2 ys)
    (h : ∀ (s' : Shared) (H' : Hp) (ts : List Addr), Inv X pins σ H' s' → ExtH H H' → ts.length = min xs.length ys.length → Pairs H' xs ys ts → Q₁ (.ref s'.heap.objs.size) { s' with heap := s'.heap.push { cls := .type "tuple", data := .seq (ts.map Value.ref).toArray } }) :
    codeAny (model X.prog X.w) A (.call (.builtin "tuple.__new__") ⟨[.type "tuple", .ref z], []⟩) (wants Q₁ E) s := by
  refine codeAny_of_tree ?_
  show wpAny _ A.in1 (do checkBuiltinCall "tuple.__new__" ⟨[.type "tuple", .ref z], []⟩; again (.builtin "tuple.__new__" ⟨[.type "tuple", .ref z], []⟩)) _ _ s
  refine wpAny_bind (wpAny_of_eq (F.newCall_tuple_1 _) (wpAny_pure ⟨plainId_quiet F.plain_tuple_new _, codeAny_builtin F.entry_tuple_new ?_⟩))
  rw [Around.under_plainId F.plain_tuple_new _]
  have hsub := sub_tuple_self
  have hinit := init_tuple_lookup
  have hmh := madeHere_tuple
  have hTI : s.TypeIs (.ref z) "zip" := ⟨_, Z.z, rfl⟩
  have hh1 : A.in1.handled = none := hh
  wp_walk using wpAny_typeOf hTI, collect_zip (A := A.in1) hh1 D Z hn I hf hx hy
  intro s' H' ts J e hl hp
  show wpAny _ _ (Builtin.Tuple.tupleExact (ts.map Value.ref).toArray >>= fun v => ret v) _ _ _
  unfold Builtin.Tuple.tupleExact
  refine wpAny_bind (wpAny_newObj_type ?_ (by show (ts.map Value.ref).toArray.size ≤ sizeLine; rw [List.size_toArray, List.length_map, hl]; exact hn))
  exact wpAny_pure (h s' H' ts J e hl hp)
theorem call_tuple_zip {A : Around} {E : Value → Shared → Prop} {Q : Value → Shared → Prop} (hh : A.handled = none) (D : ZipApart z TI TO i1 i2 l1 l2) (Z : NewZip s z TI TO i1 i2 l1 l2) (hn : min xs.length ys.length ≤ sizeLine)
    (I : Inv X pins σ H s) (hf : ∀ b ∈ [z, TI, TO, i1, i2], FpOk X pins H b) (hx : SqL X.K H l1 xs) (hy : SqL X.K H l2 ys)
    (h : ∀ (s' : Shared) (H' : Hp) (ts : List Addr), Inv X pins σ H' s' → ExtH H H' → ts.length = min xs.length ys.length → Pairs H' xs ys ts → Q (.ref s'.heap.objs.size) { s' with heap := s'.heap.push { cls := .type "tuple", data := .seq (ts.map Value.ref).toArray } }) :
    wpAny (model X.prog X.w) A (call (.type "tuple") [.ref z]) Q E s := by
  refine callType_codes (Q₁ := fun obj s₁ => s₁.TypeIs obj "tuple" ∧ Q obj s₁) F.called_tuple (F.typeCall_tuple_1 _) F.entry_object_init
    (code_tuple_zip (A := A.in1) hh D Z hn I hf hx hy fun s' H' ts J e hl hp => ⟨⟨_, Heap.get?_push_size _ rfl, rfl⟩, h s' H' ts J e hl hp⟩) fun obj s₁ h₁ => ?_
  exact ⟨h₁.1, F.args_object_init_2 obj _, object_init_meets F.called_tuple.init.lookup F.called_tuple.made (by decide) X.prog X.w A.in1 _ s₁ ⟨h₁.1, rfl, h₁.2⟩⟩
theorem call_list_zip {A : Around} {E : Value → Shared → Prop} {Q : Value → Shared → Prop} (hh : A.handled = none) (D : ZipApart z TI TO i1 i2 l1 l2) (Z : NewZip s z TI TO i1 i2 l1 l2) (hn : min xs.length ys.length ≤ sizeLine)
    (I : Inv X pins σ H s) (hf : ∀ b ∈ [z, TI, TO, i1, i2], FpOk X pins H b) (hx : SqL X.K H l1 xs) (hy : SqL X.K H l2 ys) (h : ∀ s', ZEnd X pins σ H xs ys s.heap.objs.size s' → Q (.ref s.heap.objs.size) s') :
    wpAny (model X.prog X.w) A (call (.type "list") [.ref z]) Q E s := by
  refine callType_codes (Q₁ := fun obj s₁ => obj = .ref s.heap.objs.size ∧ s₁ = { s with heap := s.heap.push { cls := .type "list", data := .seq #[] } }) F.called_list (F.typeCall_list_1 _) F.entry_list_init
    (code_list_new _ ⟨rfl, rfl⟩) fun obj s₁ h₁ => ?_
  obtain ⟨rfl, rfl⟩ := h₁
  have hSo : (s.heap.push { cls := .type "list", data := .seq #[] }).get? s.heap.objs.size = some { cls := .type "list", data := .seq #[] } := Heap.get?_push_size _ rfl
  refine ⟨⟨_, hSo, rfl⟩, F.args_list_init_2 _ _, ?_⟩
  show wpAny _ A.in1.in1 (do let old ← Builtin.List.listItems (.ref s.heap.objs.size); Builtin.List.listUpdate (.ref s.heap.objs.size) (fun _ => #[]); letGo old.toList.reverse; Builtin.List.listExtendWith (.ref s.heap.objs.size) (.ref z) .none) _ _ _
  refine wpAny_bind ?_
  unfold Builtin.List.listItems
  refine wpAny_bind (wpAny_seqItems hSo rfl (wpAny_pure ?_))
  show wpAny _ A.in1.in1 (updateSeq s.heap.objs.size (fun _ => #[]) >>= fun _ => letGo (#[] : Array Value).toList.reverse >>= fun _ => Builtin.List.listExtendWith (.ref s.heap.objs.size) (.ref z) .none) _ _ _
  refine wpAny_bind (wpAny_updateSeq hSo rfl ?_)
  have hS0 := Heap.get?_update_self (Obj.mapSeq (fun _ => (#[] : Array Value))) hSo rfl
  refine wpAny_bind (wpAny_letGo ?_)
  have hSl : ∀ b ∈ [z, TI, TO, i1, i2], b ≠ s.heap.objs.size := fun b hb e => by
    have := Z.lt b hb
    rw [e] at this
    exact Nat.lt_irrefl _ this
  have hS : s.heap.objs.size ∉ [z, TI, TO, i1, i2] := fun q => hSl _ q rfl
  have k0 : ∀ b o, s.heap.get? b = some o → ((s.heap.push { cls := .type "list", data := .seq #[] }).update s.heap.objs.size (Obj.mapSeq (fun _ => (#[] : Array Value)))).get? b = some o := fun b o e =>
    (Heap.get?_update_other _ _ (Ne.symm (Nat.ne_of_lt (Heap.lt_size e)))).trans (Heap.get?_push_of_some _ e)
  have Z0 : NewZip { s with heap := (s.heap.push { cls := .type "list", data := .seq #[] }).update s.heap.objs.size (Obj.mapSeq (fun _ => (#[] : Array Value))) } z TI TO i1 i2 l1 l2 := Z.at_ k0
  have hTz : ∀ s' : Shared, IsZip s'.heap z TI TO .none → s'.TypeIs (.ref z) "zip" := fun s' e => ⟨_, e, rfl⟩
  unfold Builtin.List.listExtendWith
  refine wpAny_bind (wpAny_typeOf (hTz _ Z0.z) ?_)
  have h1 : Builtin.List.listSameRef (.ref s.heap.objs.size) (.ref z) = false := by simp [Builtin.List.listSameRef, Ne.symm (hSl z (by simp))]
  have h2 : (Value.type "zip" == Value.type "list") = false := by decide
  have h3 : (Value.type "zip" == Value.type "tuple") = false := by decide
  simp only [h1, h2, h3, Bool.or_false, Bool.false_eq_true, if_false]
  refine wpAny_bind (wpAny_pyIter_zip Z0.z ?_)
  refine wpAny_bind (wpAny_holding ?_)
  unfold Builtin.List.listLengthHint
  refine wpAny_bind (wpAny_specialOf (hTz _ Z0.z) nolen_zip ?_)
  show wpAny _ A.in1.in1 (specialOf (Value.ref z) (Str.ofString "__length_hint__") >>= _) _ _ _
  refine wpAny_bind (wpAny_specialOf (hTz _ Z0.z) nohint_zip ?_)
  refine wpAny_pure ?_
  show wpAny _ A.in1.in1 (rule "list.extend.makes-room" >>= fun _ => Builtin.List.listTouch (.ref s.heap.objs.size) >>= fun _ => again (.builtin "list.extend.loop" ⟨[.ref s.heap.objs.size, .ref z, .none], []⟩)) _ _ _
  refine wpAny_bind (wpAny_rule ?_)
  refine wpAny_bind ?_
  show wpAny _ A.in1.in1 (updateSeq s.heap.objs.size (·.push .none) >>= fun _ => updateSeq s.heap.objs.size (·.pop)) _ _ _
  refine wpAny_bind (wpAny_updateSeq hS0 rfl ?_)
  have hS2 := Heap.get?_update_self (Obj.mapSeq (·.push Value.none)) hS0 rfl
  refine wpAny_updateSeq (hz := by seq_fits) hS2 rfl ?_
  have hS3 := Heap.get?_update_self (Obj.mapSeq (·.pop)) hS2 rfl
  have oth : ∀ b o, s.heap.get? b = some o → ((((s.heap.push { cls := .type "list", data := .seq #[] }).update s.heap.objs.size (Obj.mapSeq (fun _ => (#[] : Array Value)))).update s.heap.objs.size (Obj.mapSeq (·.push Value.none))).update s.heap.objs.size (Obj.mapSeq (·.pop))).get? b = some o := fun b o e => by
    have hb : s.heap.objs.size ≠ b := Ne.symm (Nat.ne_of_lt (Heap.lt_size e))
    exact (Heap.get?_update_other _ _ hb).trans ((Heap.get?_update_other _ _ hb).trans (k0 b o e))
  have I2 : Inv X pins σ H { s with heap := (((s.heap.push { cls := .type "list", data := .seq #[] }).update s.heap.objs.size (Obj.mapSeq (fun _ => (#[] : Array Value)))).update s.heap.objs.size (Obj.mapSeq (·.push Value.none))).update s.heap.objs.size (Obj.mapSeq (·.pop)) } := I.kept (t' := s.toks) oth
  have hf' : ∀ b ∈ [s.heap.objs.size, z, TI, TO, i1, i2], FpOk X pins H b := fun b hb => by
    rcases List.mem_cons.mp hb with e | hb
    · rw [e]; exact I.fpOk (Nat.le_refl _) (I.hok.fresh (Nat.le_refl _))
    · exact hf b hb
  obtain ⟨x0, y0, hTO⟩ := Z.TO
  have hTOl := Heap.lt_size (oth TO _ hTO)
  refine wpAny_pure ⟨plainId_quiet F.plain_extend_loop _, zip_loop (A := A.in1) hh D hS hn _ 0 _ H [] _ _ hTOl rfl (Nat.zero_le _) I2 hf' hx hy (.inl ⟨oth _ _ Z.z, x0, y0, oth _ _ hTO⟩) (oth _ _ Z.TI)
    (Z.h1.at fun o e => oth _ o e) (Z.h2.at fun o e => oth _ o e) hS3 rfl rfl (fun j t ht => by simp at ht) fun s' H' ts acc c q1 q2 q3 q4 q5 q6 q7 => ?_⟩
  exact ⟨rfl, h s' ⟨H', ts, acc, c, q1, q2, q3, q4, q5, q6, q7⟩⟩
end
section
variable {X : Cx} {x1 x2 : Expr} {ta : TA} {p p2 pos pos2 : Pos}
def rZipped (K : PySem.W.Frag) (vs : List V) (H : Hp) (R : List V → List V → Hp → Prop) : Prop := ∃ a b xs ys, vs = [.ref a, .ref b] ∧ SqL K H a xs ∧ SqL K H b ys ∧ min xs.length ys.length ≤ sizeLine ∧ R xs ys H
def tTupZip (K : PySem.W.Frag) (ta : TA) : TE := fun σ H Q => ta σ H fun vs H1 => rZipped K vs H1 fun xs ys H1 => ∀ p H' ts, ExtH H1 H' → H1 p = none → ts.length = min xs.length ys.length → Pairs H' xs ys ts → H' p = some (.tup (ts.map V.ref)) → Q (.ref p) H'
def tLstZip (K : PySem.W.Frag) (ta : TA) : TE := fun σ H Q => ta σ H fun vs H1 => rZipped K vs H1 fun xs ys H1 => ∀ p H' ts, ExtH H1 H' → H1 p = none → ts.length = min xs.length ys.length → Pairs H' xs ys ts → H' p = some (.lst (ts.map V.ref)) → Q (.ref p) H'
theorem zip_args {pins : List (Addr × Obj)} {σ : St} {H : Hp} {s : Shared} {R : List V → List V → Hp → Prop} {Q' : Value → Shared → Prop} (hg : Gl X "zip") (hm : X.mg "zip" = none) (ha : PA X [x1, x2] ta) (I : Inv X pins σ H s) (h : ta σ H fun vs H1 => rZipped X.K vs H1 R)
    (hs : starEach [x1, x2] X.env = (false, eval x1 X.env) :: starEach [x2] X.env) (hpl : (backTo pos2 (starEach [x2] X.env)).any (·.1) = false)
    (hq : ∀ (s2 : Shared) (H2 : Hp) (z TI TO i1 i2 l1 l2 : Addr) (xs ys : List V), Inv X pins σ H2 s2 → ZipApart z TI TO i1 i2 l1 l2 → NewZip s2 z TI TO i1 i2 l1 l2 → (∀ b ∈ [z, TI, TO, i1, i2], FpOk X pins H2 b) → SqL X.K H2 l1 xs → SqL X.K H2 l2 ys → min xs.length ys.length ≤ sizeLine → R xs ys H2 → Q' (.ref z) s2) :
    wpAny (model X.prog X.w) X.A (eval (.Call (.Name "zip" p2) [x1, x2] [] pos2) X.env) Q' X.xe s := by
  refine Call_ (ld_blt I hg hm PyProof.Rows.boot_zip (PyProof.Rows.callWith_type1 (thn (ha.run pos2 pins s σ H _ I h) fun us s1 ⟨vs, H1, I1, r1, q1⟩ => ?_) hs hpl))
  obtain ⟨a, b, xs, ys, ex, hqx, hqy, hn, q⟩ := q1
  subst ex
  cases r1 with
  | cons r rr =>
    cases rr with
    | cons r' rr =>
      cases rr
      cases r
      cases r'
      obtain ⟨its, rv, p1, _⟩ := I1.list hqx
      obtain ⟨its2, rv2, p2, _⟩ := I1.list hqy
      refine call_zip_2 p1.isList p2.isList fun h' hz hTI hTO h1 h2 hsz hk => ?_
      have I2 : Inv X pins σ H1 { s1 with heap := h' } := I1.kept (t' := s1.toks) hk
      refine hq { s1 with heap := h' } H1 _ _ _ _ _ a b xs ys I2 (PySem.W.ktu_apart s1.heap.objs.size a b p1.lt p2.lt) ⟨hz, hTI, ⟨_, _, hTO⟩, h1, h2⟩ (fun c hcm => ?_) hqx hqy hn q
      have e' : c = s1.heap.objs.size + 4 ∨ c = s1.heap.objs.size + 2 ∨ c = s1.heap.objs.size + 3 ∨ c = s1.heap.objs.size ∨ c = s1.heap.objs.size + 1 := by simpa using hcm
      have hle : s1.heap.objs.size ≤ c := by
        rcases e' with z | z | z | z | z <;> rw [z] <;> first | exact Nat.le_refl _ | exact Nat.le_add_right _ _
      exact I1.fpOk hle (I1.hok.fresh hle)
theorem pe_tupZip (hc : X.calm = true) (hg : Gl X "zip") (hm : X.mg "zip" = none) (hg1 : Gl X "tuple") (hm1 : X.mg "tuple" = none) (ha : PA X [x1, x2] ta)
    (hs : starEach [x1, x2] X.env = (false, eval x1 X.env) :: starEach [x2] X.env := by rfl) (hpl : (backTo pos2 (starEach [x2] X.env)).any (·.1) = false := by rfl)
    (na : starEach [.Call (.Name "zip" p2) [x1, x2] [] pos2] X.env = (false, eval (.Call (.Name "zip" p2) [x1, x2] [] pos2) X.env) :: starEach [] X.env := by rfl) :
    PE X (.Call (.Name "tuple" p) [.Call (.Name "zip" p2) [x1, x2] [] pos2] [] pos) (tTupZip X.K ta) := by
  refine ⟨fun pins s σ H Q I h => ?_⟩
  refine Call_ (ld_blt I hg1 hm1 boot_tuple (PyProof.Rows.callWith_type1 (args_cons (zip_args hg hm ha I h hs hpl fun s2 H2 z TI TO i1 i2 l1 l2 xs ys I2 D Z hf hx hy hn q => ?_) na) na))
  refine args_nil ?_
  refine call_tuple_zip (I2.ok.hd hc) D Z hn I2 hf hx hy fun s' H' ts J e hl hp => ?_
  have hfr := J.hok.fresh (Nat.le_refl s'.heap.objs.size)
  refine ⟨.ref s'.heap.objs.size, _, J.laid (t' := s'.toks) (o := .tup (ts.map V.ref)) (fun b o e => Heap.get?_push_of_some _ e) (Nat.le_refl _) ⟨by rw [List.length_map, hl]; exact hn, _, vals_refs ts, IsTup.new _ _⟩, rfl, ?_⟩
  refine q _ _ ts (e.trans (extH_put hfr)) ?_ hl (hp.ext (extH_put hfr)) upd_same
  cases zz : H2 s'.heap.objs.size with
  | none => rfl
  | some o =>
    have := e _ _ zz
    rw [hfr] at this
    cases this
theorem pe_lstZip (hc : X.calm = true) (hg : Gl X "zip") (hm : X.mg "zip" = none) (hg1 : Gl X "list") (hm1 : X.mg "list" = none) (ha : PA X [x1, x2] ta)
    (hs : starEach [x1, x2] X.env = (false, eval x1 X.env) :: starEach [x2] X.env := by rfl) (hpl : (backTo pos2 (starEach [x2] X.env)).any (·.1) = false := by rfl)
    (na : starEach [.Call (.Name "zip" p2) [x1, x2] [] pos2] X.env = (false, eval (.Call (.Name "zip" p2) [x1, x2] [] pos2) X.env) :: starEach [] X.env := by rfl) :
    PE X (.Call (.Name "list" p) [.Call (.Name "zip" p2) [x1, x2] [] pos2] [] pos) (tLstZip X.K ta) := by
  refine ⟨fun pins s σ H Q I h => ?_⟩
  refine Call_ (ld_blt I hg1 hm1 boot_list (PyProof.Rows.callWith_type1 (args_cons (zip_args hg hm ha I h hs hpl fun s2 H2 z TI TO i1 i2 l1 l2 xs ys I2 D Z hf hx hy hn q => ?_) na) na))
  refine args_nil ?_
  refine call_list_zip (I2.ok.hd hc) D Z hn I2 hf hx hy fun s' ⟨H', ts, acc, c, J, e, f1, f2, f3, hl, hp⟩ => ?_
  obtain ⟨G, g1, g2⟩ := restrict s'.heap fun b => decide (b ≠ s2.heap.objs.size)
  have gk : ∀ b, b ≠ s2.heap.objs.size → G.get? b = s'.heap.get? b := fun b hb => g1 b (decide_eq_true hb)
  have ge : G.get? s2.heap.objs.size = none := g2 _ (by simp)
  have J1 : Inv X pins σ H' { s' with heap := G } := J.turnedL (t' := s'.toks) (ch := [s2.heap.objs.size]) (fun b o hb e => (gk b (by simpa using hb)).trans e) fun b hb => by
    have eb : b = s2.heap.objs.size := by simpa using hb
    rw [eb]; exact f1
  have k : ∀ b o, G.get? b = some o → s'.heap.get? b = some o := fun b o e => by
    by_cases hb : b = s2.heap.objs.size
    · rw [hb, ge] at e; cases e
    · rw [← gk b hb]; exact e
  have hsz : (ts.map V.ref).length ≤ sizeLine := by rw [List.length_map, hl]; exact hn
  have J2 : Inv X pins σ (upd H' s2.heap.objs.size (.lst (ts.map V.ref))) s' := J1.laidN (h' := s'.heap) (t' := s'.toks) k ge f1.1 ⟨hsz, ts.map Value.ref, c, vals_refs ts, by rw [f2, ← f3]⟩
  refine ⟨.ref s2.heap.objs.size, _, J2, rfl, ?_⟩
  exact q _ _ ts (e.trans (extH_put f1.1)) (I2.hok.fresh (Nat.le_refl _)) hl (hp.ext (extH_put f1.1)) upd_same
end
end L2
set_option Elab.async false
set_option linter.all false
set_option maxRecDepth 100000
set_option maxHeartbeats 4000000
/-! G5: a dict starred in a display; zip of an empty list and a tuple walked -/
namespace L2
open PySem PySem.Spec PyProof.Rows
section
variable {X : Cx} {e : Expr} {es : List Expr} {te : TE} {t : TA} {p : Pos}
/-- *d in a display: its keys -/
def tStarD (te : TE) (t : TA) : TA := fun σ H Q => te σ H fun x H1 => ∃ d kvs, x = V.ref d ∧ Rd H1 d (.dK kvs) ∧ t σ H1 fun ys H2 => Q ((kvs.map fun kv => kV kv.1) ++ ys) H2
theorem pa_starD (hc : X.calm = true) (he : PE X e te) (hr : PA X es t) (hs : starEach (.Starred e p :: es) X.env = (true, eval e X.env) :: starEach es X.env := by rfl) : PA X (.Starred e p :: es) (tStarD te t) := by
  refine ⟨fun pos pins s σ H Q I h => ?_⟩
  refine PySem.W.items_star (thn (he.run pins s σ H _ I h) fun v s1 ⟨y, H1, I1, ry, d, kvs, ey, hd, q⟩ => ?_) hs
  subst ey
  obtain rfl : v = Value.ref d := ry
  obtain ⟨z, lo, vs, rel, dd⟩ := dk_rd I1.hok hd
  obtain ⟨ep, hat⟩ := dd.dictAt
  have ek : (kvs.map fun kv => kV kv.1) = vs.map fun p => kV p.1 := by
    have e := congrArg (List.map kV) rel.keys
    rw [List.map_map, List.map_map] at e
    exact e
  have hT : s1.TypeIs (.ref d) "dict" := dd.typeIs
  have col : ∀ {Q' : List Value → Shared → Prop}, (∀ us s', Inv X pins σ H1 s' → Vals (kvs.map fun kv => kV kv.1) us → Q' us s') → wpAny (model X.prog X.w) X.A (collect (.ref d)) Q' X.xe s1 := fun {Q'} hq => by
    refine PySem.W.kdu_collect (PySem.W.kdl_dict (knd := mixKind X.prog X.w) (kvs := vs) (ep := ep) lo) (I1.ok.hd hc) hat (by rw [← rel.length]; exact z) fun h' tk acc hk hacc => ?_
    have hv : Vals (vs.map fun p => kV p.1) acc.toList := keys_at (by rw [Array.length_toList]; exact hacc.1) fun j v e => hacc.2 j v (by rw [← Array.getElem?_toList]; exact e)
    exact hq _ _ (I1.kept (t' := tk) hk) (by rw [ek]; exact hv)
  unfold PySem.W.StarOf notIterableAtAll
  refine wpAny_bind (wpAny_specialOf hT PySem.F.slot_dict_iter.lookup (wpAny_pure ⟨rfl, col fun us s2 I2 rv => ?_⟩))
  exact thn (hr.run pos pins s2 σ H1 _ I2 q) fun ws s3 ⟨vs, H3, I3, r3, q3⟩ => ⟨_ ++ vs, H3, I3, rv.append r3, q3⟩
end
/-! ### zip of an empty list and a tuple -/
theorem one_lt {a N : Addr} (h : a < N) : ∀ c ∈ [a], c < N := fun c hc => by
  have e : c = a := by simpa using hc
  rw [e]; exact h
def ItE (K : PySem.W.Frag) (a b : Addr) : It := ⟨fun _ _ => False, fun _ _ _ _ => False, fun i H => i = 0 ∧ SqL K H a [] ∧ ∃ ys, SqT K H b ys⟩
def iZipE (K : PySem.W.Frag) (ta : TA) : TI := fun σ H R => ta σ H fun vs H1 => ∃ a b ys, vs = [.ref a, .ref b] ∧ SqL K H1 a [] ∧ SqT K H1 b ys ∧ R (ItE K a b) H1
theorem turn_zipE {P : Program} {w : World} {K : PySem.W.Frag} {elts : List Expr} {kk : Nat} {tpos : Pos} {a b N : Addr} (ha : a < N) (hb : b < N) :
    Turn P w K (.Tuple elts kk tpos) (ItE K a b) [N + 4, N + 2, N + 3, N, N + 1] (N + 4) (fun i h => IsZip h (N + 4) (N + 2) (N + 3) .none ∧ IsTupOf2 h (N + 2) (.ref N) (.ref (N + 1)) ∧ (∃ x y, IsTupOf2 h (N + 3) x y) ∧ h.IsListIter N a i ∧ h.IsTupleIter (N + 1) b i) where
  mem := by simp
  obj := fun i h st c hc => by
    obtain ⟨hz, hTI, ⟨x, y, hTO⟩, ⟨o1, e1, _, d1⟩, ⟨o2, e2, _, d2⟩⟩ := st
    have e' : c = N + 4 ∨ c = N + 2 ∨ c = N + 3 ∨ c = N ∨ c = N + 1 := by simpa using hc
    rcases e' with q | q | q | q | q
    · rw [q]; exact ⟨_, hz, fun v q => nomatch q⟩
    · rw [q]; exact ⟨_, hTI, fun v q => nomatch q⟩
    · rw [q]; exact ⟨_, hTO, fun v q => nomatch q⟩
    · rw [q]; exact ⟨o1, e1, fun v q => by rw [d1] at q; cases q⟩
    · rw [q]; exact ⟨o2, e2, fun v q => by rw [d2] at q; cases q⟩
  keep := fun i h h' st k => by
    obtain ⟨hz, hTI, ⟨x, y, hTO⟩, h1, h2⟩ := st
    exact ⟨k _ (by simp) _ hz, k _ (by simp) _ hTI, ⟨x, y, k _ (by simp) _ hTO⟩, h1.at fun o q => k _ (by simp) o q, h2.at fun o q => k _ (by simp) o q⟩
  item := by
    intro X hP hw hK hc i pins s σ H E I hf st hg
    exact hg.elim
  done := by
    intro X hP hw hK hc i pins s σ H E I hf st hg
    subst hP hw hK
    obtain ⟨hz, hTI, hTO, h1, h2⟩ := st
    obtain ⟨rfl, hqx, ys, hqy⟩ := hg
    obtain ⟨its, rv, p1, _⟩ := I.list hqx
    obtain ⟨its2, rv2, p2, _⟩ := I.tuple hqy
    have l1 : its.length = 0 := rv.length.symm
    have hh : X.A.handled = none := I.ok.hd hc
    have D1 := Draws.list (prog := X.prog) (w := X.w) (A := X.A.in1) hh N a (Nat.ne_of_lt ha) its.toArray
    have D2 := Draws.tuple (prog := X.prog) (w := X.w) (A := X.A.in1) hh (N + 1) b (Nat.ne_of_lt (Nat.lt_succ_of_lt hb)) its2.toArray
    have hn : its.toArray.size = 0 := by rw [List.size_toArray, l1]
    have S := zip_sep2 (N := N) (fp1 := [a]) (fp2 := [b]) (one_lt ha) (one_lt hb)
    have GG := Goes.zip2 (elts := elts) (x1 := kk) (pos := tpos) S D1 D2
    have hmin : min its.toArray.size its2.toArray.size = 0 := by rw [hn]; exact Nat.zero_min _
    have st0 := GG.stops s (fun s1 => Inv X pins σ H s1) E (by rw [hmin]; exact ⟨hz, hTI, hTO, ⟨h1, p1.isList⟩, ⟨h2, p2⟩⟩) fun h' tk hk _ => I.turnedL (t' := tk) (ch := [N + 4, N + 2, N + 3, N, N + 1]) (fun c o hb q => hk c o (fun hm => hb (by
      have e' : c = N + 4 ∨ c = N + 3 ∨ c = N ∨ c = N + 1 := by simpa using hm
      rcases e' with e | e | e | e <;> simp [e])) q) hf
    exact wpAny_mono st0 (fun r s1 ⟨e, q⟩ => ⟨e, q⟩) fun _ _ x => x
  self := fun A i s Q E st h => wpAny_pyIter_zip st.1 h
theorem pi_zipE {X : Cx} {e e2 : Expr} {ta : TA} {p pos tpos : Pos} {elts : List Expr} {kk : Nat} (hg : Gl X "zip") (hm : X.mg "zip" = none) (ha : PA X [e, e2] ta)
    (hs : starEach [e, e2] X.env = (false, eval e X.env) :: starEach [e2] X.env := by rfl) (hpl : (backTo pos (starEach [e2] X.env)).any (·.1) = false := by rfl) :
    PI X (.Tuple elts kk tpos) (.Call (.Name "zip" p) [e, e2] [] pos) (iZipE X.K ta) := by
  refine ⟨fun pins s σ H R I h => ?_⟩
  refine Call_ (ld_blt I hg hm PyProof.Rows.boot_zip (PyProof.Rows.callWith_type1 (thn (ha.run pos pins s σ H _ I h) fun us s1 ⟨vs, H1, I1, r1, q1⟩ => ?_) hs hpl))
  obtain ⟨a, b, ys, ex, hqx, hqy, q⟩ := q1
  subst ex
  cases r1 with
  | cons r rr =>
    cases rr with
    | cons r' rr =>
      cases rr
      cases r
      cases r'
      obtain ⟨its, rv, p1, _⟩ := I1.list hqx
      obtain ⟨its2, rv2, p2, _⟩ := I1.tuple hqy
      obtain ⟨o2, ho2, _⟩ := id p2
      refine zip_begins2 (begins_list a its.toArray) (begins_tuple b its2.toArray) p1.isList p2 fun h' hz hTI hTO h1 h2 hsz hk => wpAny_pyIter_zip hz ?_
      have I2 : Inv X pins σ H1 { s1 with heap := h' } := I1.kept (t' := s1.toks) hk
      refine ⟨s1.heap.objs.size + 4, [s1.heap.objs.size + 4, s1.heap.objs.size + 2, s1.heap.objs.size + 3, s1.heap.objs.size, s1.heap.objs.size + 1], _, _, H1, rfl, I2, turn_zipE p1.lt (Heap.lt_size ho2), ⟨hz, hTI, ⟨_, _, hTO⟩, ⟨_, h1, rfl, rfl⟩, ⟨_, h2, rfl, rfl⟩⟩, fun c hcm => ?_, q⟩
      have e' : c = s1.heap.objs.size + 4 ∨ c = s1.heap.objs.size + 2 ∨ c = s1.heap.objs.size + 3 ∨ c = s1.heap.objs.size ∨ c = s1.heap.objs.size + 1 := by simpa using hcm
      have hle : s1.heap.objs.size ≤ c := by
        rcases e' with z | z | z | z | z <;> rw [z] <;> first | exact Nat.le_refl _ | exact Nat.le_add_right _ _
      exact I1.fpOk hle (I1.hok.fresh hle)
end L2
set_option Elab.async false
set_option linter.all false
set_option maxRecDepth 100000
set_option maxHeartbeats 4000000
/-! k06, part B: words for what follows -/
namespace R9H
open PySem PySem.Spec PyProof.Rows L2
abbrev P6 : Program := PySem.Challenge.pw_roomends_k19_items_that_are_picked
abbrev kws : List Str := tup_KEYWORDS
abbrev Says (K : PySem.W.Frag) : Prop := K9.Says9 file fa fn tb xs K
abbrev ga (K : PySem.W.Frag) (x : Str) : Addr := He.ga K x
/-! ### what is not reached -/
section
variable {X : Cx}
theorem ps_no {st : Stmt} : PS X st (fun _ _ _ => False) := ⟨fun _ _ _ _ _ _ h => h.elim⟩
theorem pss_no {st : List Stmt} : PSs X st (fun _ _ _ => False) := ⟨fun _ _ _ _ _ _ h => h.elim⟩
theorem pe_no {e : Expr} : PE X e (fun _ _ _ => False) := ⟨fun _ _ _ _ _ _ h => h.elim⟩
theorem pt_no {e : Expr} : PT X e (fun _ _ _ => False) := ⟨fun _ _ _ _ _ _ h => h.elim⟩
theorem pw_no {e : Expr} : PW X e (fun _ _ _ => False) := ⟨fun _ _ _ _ _ _ _ h => h.elim⟩
end
/-! ### defs by their names -/
def Has (w : World) (K : PySem.W.Frag) (mg : Str → Option Value) (base : Heap) (k : Nat) (x : Str) (ps : List Str) (sp : Sp) : Prop := ∃ fd : FuncData, FnOk P6 w K mg base CX0 k (ga K x) fd ps sp ∧ Binds K fd ps [] ∧ mg x = some (.ref (ga K x)) ∧ PySem.W.keepIn K (.ref (ga K x)) = true
theorem pe_has {X : Cx} {k : Nat} {x : Str} {ps : List Str} {sp : Sp} {p pos : Pos} {e : Expr} {es : List Expr} {t : TA} (F : Has X.w X.K X.mg X.base k x ps sp) (hP : X.prog = P6) (hr : Room k X.A) (hg : Gl X x) (ha : PA X (e :: es) t) (hdb : (x == ("__debug__" : Str)) = false := by decide)
    (he : starEach (e :: es) X.env = (false, eval e X.env) :: starEach es X.env := by rfl) (hpl : (backTo pos (starEach es X.env)).any (·.1) = false := by rfl) : PE X (.Call (.Name x p) (e :: es) [] pos) (tCall sp [] E0 t) := by
  obtain ⟨fd, F1, b, m, kp⟩ := F
  rw [← hP] at F1
  exact pe_call F1 hr hg m kp b .nil pass0 ha hdb he hpl
/-- all that the head tells -/
def inG (x : Str) : Bool := fa.any fun f => match f with
  | .glo y => decide (y = x)
  | _ => false
def inF (x : Str) : Bool := fa.any fun f => match f with
  | .free y => decide (y = x)
  | _ => false
def inI (x : Str) (i : Int) : Bool := fa.any fun f => match f with
  | .int y j => decide (y = x) && decide (j = i)
  | _ => false
def inS (x z : Str) : Bool := fa.any fun f => match f with
  | .str y j => decide (y = x) && decide (j = z)
  | _ => false
def inC (x : Str) : Bool := fa.any fun f => match f with
  | .cls y => decide (y = x)
  | _ => false
def inK (x : Str) : Bool := fa.any fun f => match f with
  | .mkr y => decide (y = x)
  | _ => false
def inN (x f : Str) : Bool := fa.any fun q => match q with
  | .noat y g => decide (y = x) && decide (g = f)
  | _ => false
def inM (x m : Str) : Bool := fa.any fun q => match q with
  | .meth y g => decide (y = x) && decide (g = m)
  | _ => false
structure T6 (K : PySem.W.Frag) (mg : Str → Option Value) : Prop where
  says : Says K
  glo : ∀ x, inG x = true → mg x = some (.ref (ga K x))
  free : ∀ x, inF x = true → mg x = none
  int : ∀ x i, inI x i = true → ∃ t, mg x = some (.int i t)
  str : ∀ x z, inS x z = true → ∃ t, mg x = some (.str z t)
  cls : ∀ x, inC x = true → Cls K (ga K x)
  mkr : ∀ x, inK x = true → Mk K (ga K x) (He.ma K (ga K x) "__init__")
  noat : ∀ x f, inN x f = true → NoAttr K (ga K x) f
  meth : ∀ x m, inM x m = true → Meth K (ga K x) m (He.ma K (ga K x) m)
  kw : ∀ H : Hp, SqT K H (ga K "KEYWORDS") (kws.map V.str)
  bl : ∀ H : Hp, SqT K H (ga K "BLOCKS") [.str "room", .str "either", .str "loop", .str "ever"]
  lv : ∀ H : Hp, SqT K H (ga K "LEAVING") [.str "give", .str "back"]
  mk_ : ∀ H : Hp, SqT K H (ga K "MAKING") [.str "new", .str "with"]
  na : ∀ H : Hp, SqT K H (ga K "NAMING") [.str "none", .str "new", .str "with", .str "get", .str "some", .str "let"]
  dfl : ∀ H : Hp, SqT K H (He.dflAt ("Run", some "__init__") 0 K) []
  err : ∀ (i : Nat) (d : K7.XD), xs[i]? = some d → K7.XAll K P6 d
abbrev FnP (K : PySem.W.Frag) (x : Str) (st : Stmt) (fd : FuncData) : Prop := FunD K x x (defArgs st) (defBody st) (defScope st) [] [] (ga K x) fd
theorem any_of {p : He.Fa → Bool} (h : fa.any p = true) : ∃ f ∈ fa, p f = true := List.any_eq_true.mp h
theorem T6.mk' {K : PySem.W.Frag} {mg : Str → Option Value} {h : Heap} (X : K.In h) (G : h.Ns mainGlobals mg) (c : Says K) : T6 K mg := by
  have b := c.base
  have fact : ∀ f ∈ fa, f.ok K = true := fun f hf => He.SaysD.facts b hf
  have t := c.tb
  obtain ⟨t, td⟩ := He.ba t
  obtain ⟨t, t2⟩ := He.ba t
  obtain ⟨t, t1⟩ := He.ba t
  obtain ⟨t, t5⟩ := He.ba t
  obtain ⟨t3, t4⟩ := He.ba t
  refine ⟨c, fun x hx => ?_, fun x hx => ?_, fun x i hx => ?_, fun x z hx => ?_, fun x hx => ?_, fun x hx => ?_, fun x f hx => ?_, fun x f hx => ?_, fun H => ?_, fun H => He.tupB_ok t2 H, fun H => He.tupB_ok t3 H, fun H => He.tupB_ok t4 H, fun H => He.tupB_ok t5 H, fun H => K8.tupA_ok td H, fun i d h => K7.SaysX.err (P := P6) c.errs i h⟩
  · obtain ⟨f, hf, e⟩ := any_of hx
    split at e
    · cases of_decide_eq_true e
      exact He.glo_ok X G (fact _ hf)
    · cases e
  · obtain ⟨f, hf, e⟩ := any_of hx
    split at e
    · cases of_decide_eq_true e
      exact He.free_ok X G (fact _ hf)
    · cases e
  · obtain ⟨f, hf, e⟩ := any_of hx
    split at e
    · obtain ⟨e1, e2⟩ := He.ba e
      cases of_decide_eq_true e1
      cases of_decide_eq_true e2
      exact He.int_ok X G (fact _ hf)
    · cases e
  · obtain ⟨f, hf, e⟩ := any_of hx
    split at e
    · obtain ⟨e1, e2⟩ := He.ba e
      cases of_decide_eq_true e1
      cases of_decide_eq_true e2
      exact He.str_ok X G (fact _ hf)
    · cases e
  · obtain ⟨f, hf, e⟩ := any_of hx
    split at e
    · cases of_decide_eq_true e
      exact He.cls_ok (fact _ hf)
    · cases e
  · obtain ⟨f, hf, e⟩ := any_of hx
    split at e
    · cases of_decide_eq_true e
      exact He.mkr_ok (fact _ hf)
    · cases e
  · obtain ⟨q, hf, e⟩ := any_of hx
    split at e
    · obtain ⟨e1, e2⟩ := He.ba e
      cases of_decide_eq_true e1
      cases of_decide_eq_true e2
      exact He.noat_ok (fact _ hf)
    · cases e
  · obtain ⟨q, hf, e⟩ := any_of hx
    split at e
    · obtain ⟨e1, e2⟩ := He.ba e
      cases of_decide_eq_true e1
      cases of_decide_eq_true e2
      exact He.meth_ok (fact _ hf)
    · cases e
  · have := He.tupB_ok t1 H
    rw [List.map_map] at this
    exact this
/-- a def by its place in fn -/
theorem T6.fn {K : PySem.W.Frag} {mg : Str → Option Value} (T : T6 K mg) (i : Nat) {d : He.DefD} (h : fn[i]? = some d := by rfl) : ∃ fd, FunD K d.name d.qual d.params d.body d.scope (d.dvs K) (d.kws K) (He.fAd K d.at_) fd := (T.says.base).def_ i h
theorem has_of {w : World} {K : PySem.W.Frag} {mg : Str → Option Value} {base : Heap} {k : Nat} {x : Str} {ps : List Str} {sp : Sp} {st : Stmt} {fd : FuncData} (T : T6 K mg) (F : FnP K x st fd) (hx : inG x = true) (ok : FnOk P6 w K mg base CX0 k (ga K x) fd ps sp)
    (h : ∀ (kV doc pm : Value) (an : Option Addr) (cdv ct : Value) (us : List Value), us.length = ps.length → bindArgs (PySem.W.fnOf x x (defArgs st) (defBody st) (defScope st) .none kV doc pm an cdv ct) ⟨us, []⟩ = pure (ps.zip us)) : Has w K mg base k x ps sp :=
  ⟨fd, ok, F.bindsN h, T.glo x hx, F.kp⟩
end R9H
set_option Elab.async false
set_option linter.all false
set_option maxRecDepth 100000
set_option maxHeartbeats 4000000
/-! k06, part C: words and names -/
namespace R9H
open PySem PySem.Spec PyProof.Rows L2
theorem _root_.L2.ExtH.none {H G : Hp} {l : Addr} (e : ExtH H G) (h : G l = .none) : H l = .none := by
  cases z : H l with
  | none => rfl
  | some o =>
    have := e _ _ z
    rw [h] at this
    cases this
theorem pe_gi {X : Cx} {x : Str} {p : Pos} {i : Int} {t : Tok} (hg : Gl X x) (hm : X.mg x = some (.int i t)) (hd : (x == ("__debug__" : Str)) = false := by decide) : PE X (.Name x p) (tC (.int i)) := pe_glob hg hm ⟨t, rfl⟩ hd
theorem pe_gs {X : Cx} {x : Str} {p : Pos} {z : Str} {t : Tok} (hg : Gl X x) (hm : X.mg x = some (.str z t)) (hd : (x == ("__debug__" : Str)) = false := by decide) : PE X (.Name x p) (tC (.str z)) := pe_glob hg hm ⟨t, rfl⟩ hd
theorem pe_gr {X : Cx} {x : Str} {p : Pos} {a : Addr} (hg : Gl X x) (hm : X.mg x = some (.ref a)) (hd : (x == ("__debug__" : Str)) = false := by decide) : PE X (.Name x p) (tC (.ref a)) := pe_glob hg hm rfl hd
theorem for_str {x : Str} {g : TG} {tb : TS} {D : Ends} {σ : L2.St} {H : Hp} (Pv : Nat → L2.St → Hp → Prop) (h0 : Pv 0 σ H)
    (hs : ∀ i c σ H, x.cps[i]? = some c → Pv i σ H → g (.str ⟨#[c]⟩) σ H fun σ2 H2 => tb { D with nx := Pv (i + 1), ct := Pv (i + 1), bk := D.nx } σ2 H2) (hd : ∀ σ H, Pv x.cps.size σ H → D.nx σ H) :
    ∃ W : Nat → Nat → L2.St → Hp → Prop, (∃ m, W 0 m σ H) ∧ ∀ i m σ H, W i m σ H → ((Its x).stop i H ∧ D.nx σ H) ∨ ((Its x).go i H ∧ ∃ N : L2.St → Hp → Prop, (∀ σ' H', N σ' H' → ∃ m', m' < m ∧ W (i + 1) m' σ' H') ∧
      ∀ y H', (Its x).yld i H y H' → g y σ H' fun σ2 H2 => tb { D with nx := N, ct := N, bk := D.nx } σ2 H2) := by
  refine ⟨fun i m σ H => m = x.cps.size - i ∧ i ≤ x.cps.size ∧ Pv i σ H, ⟨x.cps.size, by simp, Nat.zero_le _, h0⟩, ?_⟩
  rintro i m σ H ⟨rfl, hi, p⟩
  by_cases hlt : i < x.cps.size
  · refine .inr ⟨hlt, Pv (i + 1), fun σ' H' q => ⟨x.cps.size - (i + 1), by omega, rfl, hlt, q⟩, ?_⟩
    rintro y H' ⟨rfl, c, hc, rfl⟩
    exact hs i c σ _ hc p
  · have e : i = x.cps.size := by omega
    subst e
    exact .inl ⟨Nat.le_refl _, hd σ H p⟩
theorem take_succ' {α : Type} {xs : List α} {i : Nat} {x : α} (h : xs[i]? = some x) : xs.take (i + 1) = xs.take i ++ [x] := by
  rw [List.take_add_one, h] <;> rfl
theorem ifT {c : Bool} {A B : Prop} (hc : c = true) (h : A) : if c = true then A else B := by
  rw [if_pos hc]; exact h
theorem ifF {c : Bool} {A B : Prop} (hc : c = false) (h : B) : if c = true then A else B := by
  rw [hc, if_neg Bool.false_ne_true]; exact h
theorem sl {n : Nat} (h : n ≤ 16777216) : n ≤ sizeLine := by rw [sizeLine_eq]; exact h
/-- a comprehension over a list whose test and element make nothing -/
theorem lc_pure {K : PySem.W.Frag} {a : Addr} {xs : List V} {slot : Nat} {tt : TT} {te : TE} {vs : List Nat} {σ : L2.St} {H1 : Hp} {D : Addr} {Qd : Hp → Prop} (p : V → Bool) (f : V → V) (hx : SqL K H1 a xs) (hD : H1 D = none) (hn : xs.length ≤ 16000000)
    (hw : ∀ x, wipe ((wipe σ vs).set slot (some x)) vs = wipe σ vs) (ht : ∀ x ∈ xs, ∀ H (Q : Bool → Hp → Prop), ExtH H1 H → Q (p x) H → tt ((wipe σ vs).set slot (some x)) H Q)
    (he : ∀ x ∈ xs, p x = true → ∀ H (Q : VK), ExtH H1 H → Q (f x) H → te ((wipe σ vs).set slot (some x)) H Q) (hq : ∀ H', ExtH H1 H' → H' D = some (.lst ((xs.filter p).map f)) → Qd H') :
    ∃ W : Nat → Nat → Hp → Prop, (∃ m, W 0 m (upd H1 D (.lst []))) ∧ ∀ i m H, W i m H →
      ((Itl K a).stop i H ∧ Qd H) ∨ ((Itl K a).go i H ∧ ∃ Nx : Hp → Prop, (∀ H', Nx H' → ∃ m', m' < m ∧ W (i + 1) m' H') ∧ ∀ x H', (Itl K a).yld i H x H' → gName slot x (wipe σ vs) H' fun σ2 H2 => wipe σ2 vs = wipe σ vs ∧ tt σ2 H2 fun b H3 =>
        if b = true then te σ2 H3 fun y H4 => ∃ acc, H4 D = some (.lst acc) ∧ acc.length < sizeLine ∧ Nx (upd H4 D (.lst (acc ++ [y]))) else Nx H3) := by
  refine lc_list (xs := xs) (fun i G => ExtH H1 G ∧ G D = some (.lst (((xs.take i).filter p).map f))) ⟨extH_put hD, upd_same⟩ (fun i G _ ⟨e, _⟩ => sqL_extH e hx) ?_ ?_
  · rintro i x G hi ⟨e, hd⟩
    have hm := List.mem_of_getElem? hi
    refine ⟨hw x, ht x hm G _ e ?_⟩
    cases hp : p x with
    | true =>
      refine ifT rfl (he x hm hp G _ e ⟨_, hd, ?_, fun z o hz => ?_, ?_⟩)
      · rw [List.length_map, sizeLine_eq]
        have := List.length_filter_le p (xs.take i)
        have : (xs.take i).length ≤ xs.length := by rw [List.length_take]; exact Nat.min_le_right _ _
        omega
      · rw [upd_ne (ne_of_none hz hD)]
        exact e _ _ hz
      · rw [upd_same, take_succ' hi, List.filter_append, List.map_append, List.filter_cons_of_pos hp] <;> rfl
    | false =>
      refine ifF rfl ⟨e, ?_⟩
      rw [take_succ' hi, List.filter_append, List.filter_cons_of_neg (by rw [hp]; exact Bool.false_ne_true), List.filter_nil, List.append_nil]
      exact hd
  · rintro G ⟨e, hd⟩
    rw [List.take_length] at hd
    exact hq G e hd
/-! ### words -/
def wordsOf (z : Str) : List Str := (Txt.split z " ").filter fun w => decide (w ≠ "")
def spWords : Sp := fun vs H Q _ => ∃ z : Str, vs = [.str z] ∧ z.length ≤ 100000 ∧ (Txt.split z " ").length ≤ 16000000 ∧ ∀ H' l, ExtH H H' → H l = none → H' l = some (.lst ((wordsOf z).map V.str)) → Q (.ref l) H'
def goodName (w : Str) : Prop := w ≠ "" ∧ w.length ≤ 12 ∧ w ∉ kws ∧ ∀ c ∈ w.cps.toList, c ∈ ("abcdefghijklmnopqrstuvwxyz" : Str).cps.toList
def spName : Sp := fun vs H Q _ => ∃ w : Str, vs = [.str w] ∧ goodName w ∧ Q (.bl true) H
def spNames (K : PySem.W.Frag) : Sp := fun vs H Q _ => ∃ (l : Addr) (ws : List Str), vs = [.ref l] ∧ SqL K H l (ws.map V.str) ∧ ws.length ≤ 100 ∧ (∀ w ∈ ws, goodName w) ∧ ws.Nodup ∧ ∀ H', ExtH H H' → Q (.bl true) H'
section
variable {w : World} {K : PySem.W.Frag} {mg : Str → Option Value} {base : Heap}
abbrev sWords : Stmt := top 36
abbrev sName : Stmt := top 37
abbrev sNames : Stmt := top 38
theorem sc_words : FnScope ["line", "word"] ["line"] (defScope sWords) := ⟨rfl, rfl, rfl, by decide +kernel, rfl, by decide +kernel, by decide +kernel⟩
theorem sc_name : FnScope ["word", "sign"] ["word"] (defScope sName) := ⟨rfl, rfl, rfl, by decide +kernel, rfl, by decide +kernel, by decide +kernel⟩
theorem sc_names : FnScope ["words", "place", "word"] ["words"] (defScope sNames) := ⟨rfl, rfl, rfl, by decide +kernel, rfl, by decide +kernel, by decide +kernel⟩
theorem ok_words (T : T6 K mg) : Has w K mg base 1 "words_of" ["line"] spWords := by
  obtain ⟨fd, F⟩ := T.fn 29
  refine has_of (st := sWords) T F (by decide +kernel) (F.ok sc_words (fun vs H Q E h => ?_) (fun cdv A outer s H vs Q E hr h => ⟨_, PSs.nox (pss_one (ps_ret
    (pe_lc (own := [("word", 1)]) (g := gName 1) (by rfl) sc_words.nd (pi_list (pe_split (pv 0) pe_str)) (blkOk_by (own := [("word", 1)]) (N := ["line", "word"]) (sc := defScope sWords) (by decide +kernel))
      (fun _ _ _ _ _ => pg_name (i := 1) sc_words.nd rfl (Or.inl rfl)) (fun _ _ _ _ _ => pts_one (pt_cmpR op_ne (pv 1) pe_str (nomark _))) (fun _ _ _ _ _ => pv 1)))), ?_⟩)) fun _ _ _ _ _ _ us hl => match us, hl with | [_], _ => rfl
  · obtain ⟨z, rfl, _⟩ := h
    rfl
  · obtain ⟨z, rfl, hz, hn, q⟩ := h
    refine ⟨_, rfl, ⟨_, rfl⟩, z, " ", rfl, rfl, rfl, by rw [sizeLine_eq]; omega, fun p np => ?_⟩
    refine ⟨p, rfl, ⟨_, SqL.of upd_same⟩, fun D hD => lc_pure (xs := (Txt.split z " ").map V.str) (fun x => !decide (x = V.str "")) id (SqL.of upd_same) hD (by rw [List.length_map]; exact hn) (fun x => rfl) ?_ ?_ ?_⟩
    · intro x hx G Q' e q'
      obtain ⟨y, _, rfl⟩ := List.mem_map.mp hx
      exact ⟨_, rfl, rfl, _, rfl, q'⟩
    · intro x hx hp G Q' e q'
      exact ⟨_, rfl, q'⟩
    · intro G e hG
      refine q G D ((extH_put np).trans e) ((extH_put np).none hD) ?_
      rw [hG]
      congr 2
      rw [List.map_id]
      unfold wordsOf
      rw [List.filter_map]
      congr 1
      apply List.filter_congr
      intro y _
      by_cases hy : y = "" <;> simp [hy]
theorem ok_name (T : T6 K mg) : Has w K mg base 1 "is_name" ["word"] spName := by
  obtain ⟨fd, F⟩ := T.fn 30
  obtain ⟨t1, g1⟩ := T.int "LONGEST_NAME" 12 (by decide +kernel)
  obtain ⟨t2, g2⟩ := T.str "LETTERS" "abcdefghijklmnopqrstuvwxyz" (by decide +kernel)
  have g3 := T.glo "KEYWORDS" (by decide +kernel)
  have gn := T.free "len" (by decide +kernel)
  refine has_of (st := sName) T F (by decide +kernel) (F.ok sc_name (fun vs H Q E h => ?_) (fun cdv A outer s H vs Q E hr h => ⟨_, PSs.nox (
    pss_cons (ps_if (PW.pt (pw_or (pt_cmpR op_eq (pv 0) pe_str (nomark _)) (pw_or (pt_cmpR op_gt (pe_callB call_len_str rfl gn PySem.boot_len (pa_cons (pv 0) pa_nil)) (pe_gi rfl g1) (nomark _)) (pw_or1 (pt_cmpR op_in_seq (pv 0) (pe_gr rfl g3) rfl))))) pss_no pss_nil)
    (pss_cons (ps_for PassesOwn.never rfl (pi_str (pv 0)) (pg_name (i := 1) sc_name.nd rfl (Or.inl rfl)) (pss_one (ps_if (pt_cmpR op_notIn_sign (pv 1) (pe_gs rfl g2) rfl) pss_no pss_nil)))
    (pss_one (ps_ret pe_bl)))), ?_⟩)) fun _ _ _ _ _ _ us hl => match us, hl with | [_], _ => rfl
  · obtain ⟨z, rfl, _⟩ := h
    rfl
  · obtain ⟨z, rfl, ⟨h1, h2, h3, h4⟩, q⟩ := h
    refine ⟨_, rfl, rfl, _, rfl, ifF (decide_eq_false fun e => h1 (by injection e)) ?_⟩
    refine ⟨_, rfl, z, rfl, by rw [sizeLine_eq]; omega, _, _, rfl, rfl, _, rfl, ifF (decide_eq_false (by omega)) ?_⟩
    refine ⟨_, rfl, _, kws.map V.str, rfl, .inr (T.kw H), rfl, by decide +kernel, _, rfl, ?_⟩
    have e3 : inV (V.str z) (kws.map V.str) = false := by
      unfold inV
      rw [List.any_eq_false]
      intro y hy e
      obtain ⟨k, hk, rfl⟩ := List.mem_map.mp hy
      have e' : (k == z) = true := e
      rw [beq_iff_eq] at e'
      exact h3 (e' ▸ hk)
    refine ifF e3 ?_
    refine ⟨_, rfl, z, rfl, for_str (fun i σ G => G = H ∧ ∃ v, σ = [some (.str z), v]) ⟨rfl, _, rfl⟩ ?_ (fun σ G ⟨e, _⟩ => by rw [e]; exact q)⟩
    rintro i c σ G hc ⟨rfl, v, rfl⟩
    have hm : c ∈ z.cps.toList := List.mem_of_getElem? (by rw [← Array.getElem?_toList] at hc; exact hc)
    exact ⟨_, rfl, c, _, rfl, rfl, _, rfl, ifF (by rw [decide_eq_true (h4 c hm)]; rfl) ⟨rfl, _, rfl⟩⟩
end
end R9H
set_option Elab.async false
set_option linter.all false
set_option maxRecDepth 100000
set_option maxHeartbeats 4000000
/-! k06, part D: are_names; loops over enumerate -/
namespace R9H
open PySem PySem.Spec PyProof.Rows L2
theorem for_enum {K : PySem.W.Frag} {a : Addr} {xs : List V} {g : TG} {tb : TS} {D : Ends} {σ : L2.St} {H : Hp} (Pv : Nat → L2.St → Hp → Prop) (h0 : Pv 0 σ H) (hx : ∀ i σ H, Pv i σ H → SqL K H a xs)
    (hs : ∀ (i : Nat) x σ H T, xs[i]? = some x → Pv i σ H → H T = none → g (.ref T) σ (upd H T (.tup [.int (i : Int), x])) fun σ2 H2 => tb { D with nx := Pv (i + 1), ct := Pv (i + 1), bk := D.nx } σ2 H2) (hd : ∀ σ H, Pv xs.length σ H → D.nx σ H) :
    ∃ W : Nat → Nat → L2.St → Hp → Prop, (∃ m, W 0 m σ H) ∧ ∀ i m σ H, W i m σ H → ((Ite K a).stop i H ∧ D.nx σ H) ∨ ((Ite K a).go i H ∧ ∃ N : L2.St → Hp → Prop, (∀ σ' H', N σ' H' → ∃ m', m' < m ∧ W (i + 1) m' σ' H') ∧
      ∀ y H', (Ite K a).yld i H y H' → g y σ H' fun σ2 H2 => tb { D with nx := N, ct := N, bk := D.nx } σ2 H2) := by
  refine ⟨fun i m σ H => m = xs.length - i ∧ i ≤ xs.length ∧ Pv i σ H, ⟨xs.length, by simp, Nat.zero_le _, h0⟩, ?_⟩
  rintro i m σ H ⟨rfl, hi, p⟩
  have q := hx i σ H p
  by_cases hlt : i < xs.length
  · refine .inr ⟨⟨xs, xs[i], q, List.getElem?_eq_getElem hlt⟩, Pv (i + 1), fun σ' H' q => ⟨xs.length - (i + 1), by omega, rfl, hlt, q⟩, ?_⟩
    rintro y H' ⟨T, x, rfl, hT, rfl, hx'⟩
    exact hs i x σ H T (hx' xs q) p hT
  · have e : i = xs.length := by omega
    subst e
    exact .inl ⟨⟨xs, q, Nat.le_refl _⟩, hd σ H p⟩
theorem inV_strs {z : Str} {ws : List Str} (h : z ∉ ws) : inV (V.str z) (ws.map V.str) = false := by
  unfold inV
  rw [List.any_eq_false]
  intro y hy e
  obtain ⟨k, hk, rfl⟩ := List.mem_map.mp hy
  have e' : (k == z) = true := e
  rw [beq_iff_eq] at e'
  exact h (e' ▸ hk)
theorem flat_strs : ∀ ws : List Str, (ws.map V.str).all flatV = true
  | [] => rfl
  | w :: ws => by
    show (true && (ws.map V.str).all flatV) = true
    rw [flat_strs ws] <;> rfl
theorem cutV_strs (ws : List Str) (i : Nat) : cutV (ws.map V.str) none (some (i : Int)) = (ws.take i).map V.str := by
  unfold cutV
  rw [HT.sIx_none, HT.sIx_nat, Nat.sub_zero, List.drop_zero, List.length_map, ← List.map_take]
  congr 1
  rcases Nat.le_total i ws.length with h | h
  · rw [Nat.min_eq_left h]
  · rw [Nat.min_eq_right h, List.take_of_length_le (Nat.le_refl _), List.take_of_length_le h]
theorem nodup_take {ws : List Str} {i : Nat} {z : Str} (hn : ws.Nodup) (h : ws[i]? = some z) : z ∉ ws.take i := by
  intro hm
  obtain ⟨j, hj, e⟩ := List.mem_iff_getElem.mp hm
  rw [List.length_take] at hj
  rw [List.getElem_take] at e
  obtain ⟨hi, e2⟩ := List.getElem?_eq_some_iff.mp h
  have := (List.getElem_inj (h₀ := by omega) (h₁ := hi) hn).mp (e.trans e2.symm)
  omega
section
variable {w : World} {K : PySem.W.Frag} {mg : Str → Option Value} {base : Heap}
theorem ok_names (T : T6 K mg) : Has w K mg base 2 "are_names" ["words"] (spNames K) := by
  obtain ⟨fd, F⟩ := T.fn 31
  have HN : Has w K mg base 1 "is_name" ["word"] spName := ok_name T
  have ge := T.free "enumerate" (by decide +kernel)
  refine has_of (st := sNames) T F (by decide +kernel) (F.ok sc_names (fun vs H Q E h => ?_) (fun cdv A outer s H vs Q E hr h => ⟨_, PSs.nox (
    pss_cons (ps_for PassesOwn.never rfl (pi_enum (by rfl) ge (pa_cons (pv 0) pa_nil)) (pg_tup rfl (pgs_cons (pg_name (i := 1) sc_names.nd rfl (Or.inl rfl)) (pgs_cons (pg_name (i := 2) sc_names.nd rfl (Or.inl rfl)) pgs_nil)))
      (pss_one (ps_if (PW.pt (pw_or (pt_not (pt_val (pe_has HN rfl hr rfl (pa_cons (pv 2) pa_nil)))) (pw_or1 (pt_cmpR op_in_seq (pv 2) (pe_slice sl_list (pv 0) po_none (po_some (pv 1))) rfl)))) pss_no pss_nil)))
    (pss_one (ps_ret pe_bl))), ?_⟩)) fun _ _ _ _ _ _ us hl => match us, hl with | [_], _ => rfl
  · obtain ⟨l, ws, rfl, _⟩ := h
    rfl
  · obtain ⟨l, ws, rfl, hl, h100, hg, hn, q⟩ := h
    refine ⟨_, rfl, l, _, rfl, hl, for_enum (xs := ws.map V.str) (fun i σ G => ExtH H G ∧ ∃ v1 v2, σ = [some (.ref l), v1, v2]) ⟨.refl, _, _, rfl⟩ (fun i σ G ⟨e, _⟩ => sqL_extH e hl) ?_ (fun σ G ⟨e, _⟩ => q G e)⟩
    rintro i x σ G t hi ⟨e, v1, v2, rfl⟩ ht
    rw [List.getElem?_map] at hi
    obtain ⟨z, hz, rfl⟩ : ∃ z, ws[i]? = some z ∧ x = V.str z := by
      cases zz : ws[i]? with
      | none => rw [zz] at hi; cases hi
      | some z => rw [zz] at hi; exact ⟨z, rfl, (Option.some.inj hi).symm⟩
    have e1 : ExtH H (upd G t (.tup [.int (i : Int), .str z])) := e.trans (extH_put ht)
    refine ⟨t, _, rfl, SqT.of upd_same, rfl, _, _, rfl, _, _, rfl, rfl, ?_⟩
    refine ⟨_, rfl, z, rfl, hg z (List.mem_of_getElem? hz), true, rfl, ?_⟩
    refine ⟨_, rfl, _, rfl, _, rfl, _, rfl, l, _, rfl, sqL_extH e1 hl, fun p np => ?_⟩
    rw [cutV_strs]
    refine ⟨p, _, rfl, .inl (SqL.of upd_same), rfl, flat_strs _, _, rfl, ?_⟩
    exact ifF (inV_strs (nodup_take hn hz)) ⟨e1.trans (extH_put np), _, _, rfl⟩
end
end R9H
set_option Elab.async false
set_option linter.all false
set_option maxRecDepth 100000
set_option maxHeartbeats 4000000
/-! k06, part E: a ledger of objects; Shapes() and Reading() -/
namespace R9H
open PySem PySem.Spec PyProof.Rows L2
abbrev Led := List (Addr × HO)
def Holds (H : Hp) (L : Led) : Prop := ∀ (i : Nat) (a : Addr) (o : HO), L[i]? = some (a, o) → H a = some o
abbrev adr (L : Led) : List Addr := L.map (·.1)
theorem Holds.at_ {H : Hp} {L : Led} (h : Holds H L) (i : Nat) {a : Addr} {o : HO} (e : L[i]? = some (a, o) := by rfl) : H a = some o := h i a o e
theorem Holds.ne {H : Hp} {L : Led} {p : Addr} (h : Holds H L) (n : H p = none) : p ∉ adr L := fun hm => by
  obtain ⟨q, hq, e⟩ := List.mem_map.mp hm
  obtain ⟨i, hi⟩ := List.getElem?_of_mem hq
  have := h i q.1 q.2 hi
  rw [e, n] at this
  cases this
theorem adr_get {L : Led} {i : Nat} {a : Addr} {o : HO} (e : L[i]? = some (a, o)) : (adr L)[i]? = some a := by rw [List.getElem?_map, e] <;> rfl
theorem nodup_get {α : Type} {l : List α} (h : l.Nodup) {i j : Nat} {a : α} (h1 : l[i]? = some a) (h2 : l[j]? = some a) : i = j := by
  obtain ⟨hi, e1⟩ := List.getElem?_eq_some_iff.mp h1
  obtain ⟨hj, e2⟩ := List.getElem?_eq_some_iff.mp h2
  exact (List.getElem_inj (h₀ := hi) (h₁ := hj) h).mp (e1.trans e2.symm)
theorem Holds.set {H : Hp} {L : Led} {i : Nat} {a : Addr} {o o' : HO} (h : Holds H L) (nd : (adr L).Nodup) (e : L[i]? = some (a, o)) : Holds (upd H a o') (L.set i (a, o')) := by
  intro j b u hj
  by_cases hij : i = j
  · subst hij
    have hlt := (List.getElem?_eq_some_iff.mp e).1
    rw [List.getElem?_set_self hlt] at hj
    cases hj
    exact upd_same
  · rw [List.getElem?_set_ne hij] at hj
    have : b ≠ a := fun z => hij (nodup_get nd (adr_get e) (by rw [← z]; exact adr_get hj))
    rw [upd_ne this]
    exact h j b u hj
theorem adr_set {L : Led} {i : Nat} {a : Addr} {o o' : HO} (e : L[i]? = some (a, o)) : adr (L.set i (a, o')) = adr L := by
  unfold adr
  rw [List.map_set]
  have h := adr_get e
  apply List.ext_getElem?
  intro j
  by_cases hij : i = j
  · subst hij
    have hlt := (List.getElem?_eq_some_iff.mp h).1
    rw [List.getElem?_set_self hlt]
    exact h.symm
  · rw [List.getElem?_set_ne hij]
theorem Holds.push {H : Hp} {L : Led} {p : Addr} {o : HO} (h : Holds H L) (n : H p = none) : Holds (upd H p o) (L ++ [(p, o)]) := by
  intro j b u hj
  rcases Nat.lt_or_ge j L.length with hlt | hge
  · rw [List.getElem?_append_left hlt] at hj
    have := h j b u hj
    rw [upd_ne (ne_of_none this n)]
    exact this
  · rw [List.getElem?_append_right hge] at hj
    have : j - L.length < 1 := (List.getElem?_eq_some_iff.mp hj).1
    have e : j - L.length = 0 := by omega
    rw [e] at hj
    cases hj
    exact upd_same
theorem nodup_push {L : Led} {p : Addr} {o : HO} (h : (adr L).Nodup) (n : p ∉ adr L) : (adr (L ++ [(p, o)])).Nodup := by
  unfold adr at *
  rw [List.map_append, List.nodup_append]
  refine ⟨h, by simp, fun a ha b hb => ?_⟩
  have e : b = p := by simpa using hb
  rw [e]
  intro z
  exact n (z ▸ ha)
/-- the objects of the ledger, of which all but the first are new since H0 -/
structure St (x : Addr) (H0 H : Hp) (L : Led) : Prop where
  holds : Holds H L
  nd : (adr L).Nodup
  keep : ∀ b o, b ≠ x → H0 b = some o → H b = some o
  new : ∀ a ∈ adr L, a ≠ x → H0 a = none
section
variable {x : Addr} {H0 H : Hp} {L : Led} {C dx : Addr} {fs : List (Str × V)}
theorem St.push {p : Addr} {o : HO} (s : St x H0 H L) (hx : x ∈ adr L) (n : H p = none) : St x H0 (upd H p o) (L ++ [(p, o)]) := by
  have hp := s.holds.ne n
  have px : p ≠ x := fun e => hp (e ▸ hx)
  have h0 : H0 p = none := by
    cases z : H0 p with
    | none => rfl
    | some u =>
      have := s.keep p u px z
      rw [n] at this
      cases this
  refine ⟨s.holds.push n, nodup_push s.nd hp, fun b u hb e => ?_, fun a ha hax => ?_⟩
  · have := s.keep b u hb e
    rw [upd_ne (ne_of_none this n)]
    exact this
  · unfold adr at ha
    rw [List.map_append, List.mem_append] at ha
    rcases ha with ha | ha
    · exact s.new a ha hax
    · have e : a = p := by simpa using ha
      rw [e]; exact h0
theorem St.set {i : Nat} {a : Addr} {o o' : HO} (s : St x H0 H L) (e : L[i]? = some (a, o)) : St x H0 (upd H a o') (L.set i (a, o')) := by
  have ha : a ∈ adr L := List.mem_of_getElem? (adr_get e)
  refine ⟨s.holds.set s.nd e, by rw [adr_set e]; exact s.nd, fun b u hb eb => ?_, fun b hb hbx => ?_⟩
  · have hne : b ≠ a := fun z => by
      have := s.new a ha (z ▸ hb)
      rw [← z, eb] at this
      cases this
    rw [upd_ne hne]
    exact s.keep b u hb eb
  · rw [adr_set e] at hb
    exact s.new b hb hbx
theorem st_init {o : HO} (h : H x = some o) : St x H H [(x, o)] := by
  refine ⟨fun i a u e => ?_, by simp, fun _ _ _ e => e, fun a ha hax => absurd (by simpa using ha) hax⟩
  cases i with
  | zero => cases e; exact h
  | succ i => cases e
/-- self.f = {}, self.f = [] -/
theorem step_dict {K : PySem.W.Frag} {D : Ends} {σ : L2.St} {f : Str} (s : St x H0 H ((x, .ins C dx fs) :: L)) (h0 : σ[0]? = some (some (.ref x))) (hC : Cls K C) (hn : NoAttr K C f) (hl : fs.length < 1000)
    (k : ∀ p H', St x H0 H' ((x, .ins C dx (putF f (.ref p) fs)) :: (L ++ [(p, .dK [])])) → D.nx σ H') : sFld K (tVar 0) tDNewK f D σ H := by
  intro p np
  have s1 := s.push (o := .dK []) List.mem_cons_self np
  exact ⟨_, h0, x, C, dx, fs, rfl, s1.holds.at_ 0, hC, hn, hl, k p _ (s1.set (i := 0) rfl)⟩
theorem step_list {K : PySem.W.Frag} {D : Ends} {σ : L2.St} {f : Str} (s : St x H0 H ((x, .ins C dx fs) :: L)) (h0 : σ[0]? = some (some (.ref x))) (hC : Cls K C) (hn : NoAttr K C f) (hl : fs.length < 1000)
    (k : ∀ p H', St x H0 H' ((x, .ins C dx (putF f (.ref p) fs)) :: (L ++ [(p, .lst [])])) → D.nx σ H') : sFld K (tVar 0) (tLst tNil) f D σ H := by
  refine ⟨Nat.zero_le _, fun p np => ?_⟩
  have s1 := s.push (o := .lst []) List.mem_cons_self np
  exact ⟨_, h0, x, C, dx, fs, rfl, s1.holds.at_ 0, hC, hn, hl, k p _ (s1.set (i := 0) rfl)⟩
theorem step_none {K : PySem.W.Frag} {D : Ends} {σ : L2.St} {f : Str} {v : V} (s : St x H0 H ((x, .ins C dx fs) :: L)) (h0 : σ[0]? = some (some (.ref x))) (hC : Cls K C) (hn : NoAttr K C f) (hl : fs.length < 1000)
    (k : ∀ H', St x H0 H' ((x, .ins C dx (putF f v fs)) :: L) → D.nx σ H') : sFld K (tVar 0) (tC v) f D σ H :=
  ⟨_, h0, x, C, dx, fs, rfl, s.holds.at_ 0, hC, hn, hl, k _ (s.set (i := 0) rfl)⟩
end
/-! ### Shapes() -/
def shF (f c r : Addr) : List (Str × V) := [("fields", .ref f), ("contents", .ref c), ("routes", .ref r)]
def spShapes (C : Addr) : Sp := fun vs H Q _ => ∃ x dx, vs = [.ref x] ∧ H x = some (.ins C dx []) ∧ ∀ H' f c r, St x H H' [(x, .ins C dx (shF f c r)), (f, .dK []), (c, .dK []), (r, .dK [])] → Q .non H'
abbrev sShI : Stmt := inClass (top 44) 0
abbrev sRdI : Stmt := inClass (top 61) 0
theorem sc_shI : FnScope ["self"] ["self"] (defScope sShI) := ⟨rfl, rfl, rfl, by decide +kernel, rfl, by decide +kernel, by decide +kernel⟩
theorem sc_rdI : FnScope ["self"] ["self"] (defScope sRdI) := ⟨rfl, rfl, rfl, by decide +kernel, rfl, by decide +kernel, by decide +kernel⟩
/-- an __init__ -/
def HasI (w : World) (K : PySem.W.Frag) (mg : Str → Option Value) (base : Heap) (k : Nat) (x : Str) (ps : List Str) (sp : Sp) : Prop := ∃ fd : FuncData, FnOk P6 w K mg base CX0 k (He.ma K (ga K x) "__init__") fd ps sp ∧ Binds K fd ps []
section
variable {w : World} {K : PySem.W.Frag} {mg : Str → Option Value} {base : Heap}
theorem ok_shI (T : T6 K mg) : HasI w K mg base 1 "Shapes" ["self"] (spShapes (ga K "Shapes")) := by
  obtain ⟨fd, F⟩ := T.fn 32
  refine ⟨fd, F.ok sc_shI (fun vs H Q E h => ?_) (fun cdv A outer s H vs Q E hr h => ⟨_, PSs.nox (pss_cons (ps_fld (pv 0) pe_dnewK rfl) (pss_cons (ps_fld (pv 0) pe_dnewK rfl) (pss_one (ps_fld (pv 0) pe_dnewK rfl)))), ?_⟩), F.bindsN fun _ _ _ _ _ _ us hl => match us, hl with | [_], _ => rfl⟩
  · obtain ⟨x, dx, rfl, _⟩ := h
    rfl
  · obtain ⟨x, dx, rfl, hx, q⟩ := h
    have hC := T.cls "Shapes" (by decide +kernel)
    have s0 : St x H H [(x, .ins (ga K "Shapes") dx [])] := st_init hx
    refine step_dict s0 rfl hC (T.noat "Shapes" "fields" (by decide +kernel)) (by decide) fun f H1 s1 => ?_
    refine step_dict s1 rfl hC (T.noat "Shapes" "contents" (by decide +kernel)) (by show 1 < 1000; decide) fun c H2 s2 => ?_
    refine step_dict s2 rfl hC (T.noat "Shapes" "routes" (by decide +kernel)) (by show 2 < 1000; decide) fun r H3 s3 => ?_
    exact q H3 f c r s3
end
end R9H
set_option Elab.async false
set_option linter.all false
set_option maxRecDepth 100000
set_option maxHeartbeats 4000000
/-! k06, part F: Reading() -/
namespace R9H
open PySem PySem.Spec PyProof.Rows L2
theorem St.join {x sh dS : Addr} {H0 H H2 : Hp} {L L2 : Led} {o1 o2 : HO} (s : St x H0 H L) (hx : x ∈ adr L) (n1 : H sh = none) (n2 : H dS = none) (sub : St sh (upd (upd H dS o1) sh o2) H2 L2) : St x H0 H2 (L ++ L2) := by
  have base : ∀ a o, H a = some o → (upd (upd H dS o1) sh o2) a = some o ∧ a ≠ sh := fun a o e => by
    have h1 := ne_of_none e n1
    have h2 := ne_of_none e n2
    exact ⟨by rw [upd_ne h1, upd_ne h2]; exact e, h1⟩
  have shx : sh ≠ x := fun e => s.holds.ne n1 (e ▸ hx)
  have up : ∀ a o, H a = some o → H2 a = some o := fun a o e => sub.keep a o (base a o e).2 (base a o e).1
  refine ⟨fun i a o e => ?_, ?_, fun b o hb e => up b o (s.keep b o hb e), fun a ha hax => ?_⟩
  · rcases Nat.lt_or_ge i L.length with hlt | hge
    · rw [List.getElem?_append_left hlt] at e
      exact up a o (s.holds i a o e)
    · rw [List.getElem?_append_right hge] at e
      exact sub.holds _ a o e
  · unfold adr
    rw [List.map_append, List.nodup_append]
    refine ⟨s.nd, sub.nd, fun a ha b hb e => ?_⟩
    subst e
    obtain ⟨q, hq, rfl⟩ := List.mem_map.mp ha
    obtain ⟨i, hi⟩ := List.getElem?_of_mem hq
    have := s.holds i q.1 q.2 hi
    obtain ⟨b1, b2⟩ := base _ _ this
    have z := sub.new q.1 hb b2
    rw [b1] at z
    cases z
  · unfold adr at ha
    rw [List.map_append, List.mem_append] at ha
    have none0 : ∀ b, b ≠ x → H b = none → H0 b = none := fun b hb n => by
      cases z : H0 b with
      | none => rfl
      | some u =>
        have := s.keep b u hb z
        rw [n] at this
        cases this
    rcases ha with ha | ha
    · exact s.new a ha hax
    · by_cases e : a = sh
      · rw [e]; exact none0 sh shx n1
      · have z := sub.new a ha e
        by_cases e2 : a = dS
        · rw [upd_ne e, e2, upd_same] at z
          cases z
        · rw [upd_ne e, upd_ne e2] at z
          exact none0 a hax z
structure RA where
  rd : Addr
  dR : Addr
  sh : Addr
  dS : Addr
  f : Addr
  c : Addr
  r : Addr
  due : Addr
  gives : Addr
  heads : Addr
  params : Addr
  names : Addr
  kinds : Addr
  rows : Addr
  owners : Addr
  partners : Addr
  ors : Addr
  eithers : Addr
  evers : Addr
  callees : Addr
  rooms_of : Addr
  makings : Addr
  rooms : Addr
  blocks : Addr
structure RD where
  own : V
  f : List (Key × V)
  c : List (Key × V)
  r : List (Key × V)
  due : List (Key × V)
  gives : List (Key × V)
  heads : List (Key × V)
  params : List (Key × V)
  names : List (Key × V)
  kinds : List (Key × V)
  rows : List (Key × V)
  owners : List (Key × V)
  partners : List (Key × V)
  ors : List (Key × V)
  eithers : List (Key × V)
  evers : List (Key × V)
  callees : List (Key × V)
  rooms_of : List (Key × V)
  makings : List V
  rooms : List V
  blocks : List V
def rdF (a : RA) (own : V) : List (Str × V) := [("shapes", .ref a.sh), ("due", .ref a.due), ("gives", .ref a.gives), ("heads", .ref a.heads), ("params", .ref a.params), ("names", .ref a.names), ("kinds", .ref a.kinds), ("rows", .ref a.rows), ("owners", .ref a.owners), ("partners", .ref a.partners), ("ors", .ref a.ors), ("eithers", .ref a.eithers), ("evers", .ref a.evers), ("callees", .ref a.callees), ("rooms_of", .ref a.rooms_of), ("makings", .ref a.makings), ("rooms", .ref a.rooms), ("owner", own), ("blocks", .ref a.blocks)]
def led (K : PySem.W.Frag) (a : RA) (d : RD) : Led := [(a.rd, .ins (ga K "Reading") a.dR (rdF a d.own)), (a.sh, .ins (ga K "Shapes") a.dS (shF a.f a.c a.r)), (a.f, .dK d.f), (a.c, .dK d.c), (a.r, .dK d.r), (a.due, .dK d.due), (a.gives, .dK d.gives), (a.heads, .dK d.heads), (a.params, .dK d.params), (a.names, .dK d.names), (a.kinds, .dK d.kinds), (a.rows, .dK d.rows), (a.owners, .dK d.owners), (a.partners, .dK d.partners), (a.ors, .dK d.ors), (a.eithers, .dK d.eithers), (a.evers, .dK d.evers), (a.callees, .dK d.callees), (a.rooms_of, .dK d.rooms_of), (a.makings, .lst d.makings), (a.rooms, .lst d.rooms), (a.blocks, .lst d.blocks)]
def d0 : RD := ⟨.non, [], [], [], [], [], [], [], [], [], [], [], [], [], [], [], [], [], [], [], []⟩
def spRd (K : PySem.W.Frag) : Sp := fun vs H Q _ => ∃ x dx, vs = [.ref x] ∧ H x = some (.ins (ga K "Reading") dx []) ∧ ∀ H' (a : RA), a.rd = x → St x H H' (led K a d0) → Q .non H'
theorem putF_app {f : Str} {v : V} : ∀ {fs : List (Str × V)}, f ∉ fs.map Prod.fst → putF f v fs = fs ++ [(f, v)]
  | [], _ => rfl
  | (g, y) :: r, h => by
    rw [List.map_cons] at h
    have h1 : g ≠ f := fun z => h (by rw [z]; exact List.mem_cons_self)
    have h2 : f ∉ r.map Prod.fst := fun z => h (List.mem_cons_of_mem _ z)
    rw [putF, if_neg h1, putF_app h2] <;> rfl
section
variable {K : PySem.W.Frag} {D : Ends} {σ : L2.St} {f : Str} {x C dx : Addr} {H0 H : Hp} {fs : List (Str × V)} {L : Led} {ks : List Str}
theorem keys_len (e : fs.map Prod.fst = ks) (h : ks.length < 1000) : fs.length < 1000 := by
  rw [← e, List.length_map] at h
  exact h
theorem keys_app {v : V} (e : fs.map Prod.fst = ks) : (fs ++ [(f, v)]).map Prod.fst = ks ++ [f] := by rw [List.map_append, e] <;> rfl
theorem step_dictC (s : St x H0 H ((x, .ins C dx fs) :: L)) (e : fs.map Prod.fst = ks) (h0 : σ[0]? = some (some (.ref x))) (hC : Cls K C) (hn : NoAttr K C f) (k : ∀ p H', St x H0 H' ((x, .ins C dx (fs ++ [(f, .ref p)])) :: (L ++ [(p, .dK [])])) → (fs ++ [(f, V.ref p)]).map Prod.fst = ks ++ [f] → D.nx σ H')
    (hk : f ∉ ks := by decide +kernel) (hl : ks.length < 1000 := by decide +kernel) : sFld K (tVar 0) tDNewK f D σ H :=
  step_dict s h0 hC hn (keys_len e hl) fun p H' s' => k p H' (by rw [putF_app (by rw [e]; exact hk)] at s'; exact s') (keys_app e)
theorem step_listC (s : St x H0 H ((x, .ins C dx fs) :: L)) (e : fs.map Prod.fst = ks) (h0 : σ[0]? = some (some (.ref x))) (hC : Cls K C) (hn : NoAttr K C f) (k : ∀ p H', St x H0 H' ((x, .ins C dx (fs ++ [(f, .ref p)])) :: (L ++ [(p, .lst [])])) → (fs ++ [(f, V.ref p)]).map Prod.fst = ks ++ [f] → D.nx σ H')
    (hk : f ∉ ks := by decide +kernel) (hl : ks.length < 1000 := by decide +kernel) : sFld K (tVar 0) (tLst tNil) f D σ H :=
  step_list s h0 hC hn (keys_len e hl) fun p H' s' => k p H' (by rw [putF_app (by rw [e]; exact hk)] at s'; exact s') (keys_app e)
theorem step_noneC {v : V} (s : St x H0 H ((x, .ins C dx fs) :: L)) (e : fs.map Prod.fst = ks) (h0 : σ[0]? = some (some (.ref x))) (hC : Cls K C) (hn : NoAttr K C f) (k : ∀ H', St x H0 H' ((x, .ins C dx (fs ++ [(f, v)])) :: L) → (fs ++ [(f, v)]).map Prod.fst = ks ++ [f] → D.nx σ H')
    (hk : f ∉ ks := by decide +kernel) (hl : ks.length < 1000 := by decide +kernel) : sFld K (tVar 0) (tC v) f D σ H :=
  step_none s h0 hC hn (keys_len e hl) fun H' s' => k H' (by rw [putF_app (by rw [e]; exact hk)] at s'; exact s') (keys_app e)
end
section
variable {w : World} {K : PySem.W.Frag} {mg : Str → Option Value} {base : Heap}
theorem ok_rdI (T : T6 K mg) : HasI w K mg base 3 "Reading" ["self"] (spRd K) := by
  obtain ⟨fd, F⟩ := T.fn 39
  obtain ⟨fdS, GS, bS⟩ := ok_shI (w := w) (base := base) T
  have gS := T.glo "Shapes" (by decide +kernel)
  have MS := T.mkr "Shapes" (by decide +kernel)
  refine ⟨fd, F.ok sc_rdI (fun vs H Q E h => ?_) (fun cdv A outer s H vs Q E hr h => ⟨_, PSs.nox (pss_cons (ps_fld (pv 0) (pe_make0 MS GS hr rfl gS bS .nil pass0) rfl) (pss_cons (ps_fld (pv 0) pe_dnewK rfl) (pss_cons (ps_fld (pv 0) pe_dnewK rfl) (pss_cons (ps_fld (pv 0) pe_dnewK rfl) (pss_cons (ps_fld (pv 0) pe_dnewK rfl) (pss_cons (ps_fld (pv 0) pe_dnewK rfl) (pss_cons (ps_fld (pv 0) pe_dnewK rfl) (pss_cons (ps_fld (pv 0) pe_dnewK rfl) (pss_cons (ps_fld (pv 0) pe_dnewK rfl) (pss_cons (ps_fld (pv 0) pe_dnewK rfl) (pss_cons (ps_fld (pv 0) pe_dnewK rfl) (pss_cons (ps_fld (pv 0) pe_dnewK rfl) (pss_cons (ps_fld (pv 0) pe_dnewK rfl) (pss_cons (ps_fld (pv 0) pe_dnewK rfl) (pss_cons (ps_fld (pv 0) pe_dnewK rfl) (pss_cons (ps_fld (pv 0) (pe_lst pa_nil) rfl) (pss_cons (ps_fld (pv 0) (pe_lst pa_nil) rfl) (pss_cons (ps_fld (pv 0) pe_non rfl) (pss_one (ps_fld (pv 0) (pe_lst pa_nil) rfl)))))))))))))))))))), ?_⟩), F.bindsN fun _ _ _ _ _ _ us hl => match us, hl with | [_], _ => rfl⟩
  · obtain ⟨x, dx, rfl, _⟩ := h
    rfl
  · obtain ⟨x, dx, rfl, hx, q⟩ := h
    have hC := T.cls "Reading" (by decide +kernel)
    have s0 : St x H H [(x, .ins (ga K "Reading") dx [])] := st_init hx
    intro sh dS nsh ndS hne
    refine ⟨sh, dS, rfl, upd_same, fun H1 f c r sub => ⟨rfl, ?_⟩⟩
    have s1 := s0.join (by simp) nsh ndS sub
    refine ⟨_, rfl, x, _, dx, [], rfl, s1.holds.at_ 0, hC, T.noat "Reading" "shapes" (by decide +kernel), by decide, ?_⟩
    have s2 : St x H _ [(x, .ins (ga K "Reading") dx [("shapes", .ref sh)]), (sh, .ins (ga K "Shapes") dS (shF f c r)), (f, .dK []), (c, .dK []), (r, .dK [])] := s1.set (i := 0) (o' := .ins (ga K "Reading") dx [("shapes", .ref sh)]) rfl
    have e2 : ([("shapes", V.ref sh)] : List (Str × V)).map Prod.fst = [("shapes" : Str)] := rfl
    refine step_dictC s2 e2 rfl hC (T.noat "Reading" "due" (by decide +kernel)) fun due H_due s_due e_due => ?_
    refine step_dictC s_due e_due rfl hC (T.noat "Reading" "gives" (by decide +kernel)) fun gives H_gives s_gives e_gives => ?_
    refine step_dictC s_gives e_gives rfl hC (T.noat "Reading" "heads" (by decide +kernel)) fun heads H_heads s_heads e_heads => ?_
    refine step_dictC s_heads e_heads rfl hC (T.noat "Reading" "params" (by decide +kernel)) fun params H_params s_params e_params => ?_
    refine step_dictC s_params e_params rfl hC (T.noat "Reading" "names" (by decide +kernel)) fun names H_names s_names e_names => ?_
    refine step_dictC s_names e_names rfl hC (T.noat "Reading" "kinds" (by decide +kernel)) fun kinds H_kinds s_kinds e_kinds => ?_
    refine step_dictC s_kinds e_kinds rfl hC (T.noat "Reading" "rows" (by decide +kernel)) fun rows H_rows s_rows e_rows => ?_
    refine step_dictC s_rows e_rows rfl hC (T.noat "Reading" "owners" (by decide +kernel)) fun owners H_owners s_owners e_owners => ?_
    refine step_dictC s_owners e_owners rfl hC (T.noat "Reading" "partners" (by decide +kernel)) fun partners H_partners s_partners e_partners => ?_
    refine step_dictC s_partners e_partners rfl hC (T.noat "Reading" "ors" (by decide +kernel)) fun ors H_ors s_ors e_ors => ?_
    refine step_dictC s_ors e_ors rfl hC (T.noat "Reading" "eithers" (by decide +kernel)) fun eithers H_eithers s_eithers e_eithers => ?_
    refine step_dictC s_eithers e_eithers rfl hC (T.noat "Reading" "evers" (by decide +kernel)) fun evers H_evers s_evers e_evers => ?_
    refine step_dictC s_evers e_evers rfl hC (T.noat "Reading" "callees" (by decide +kernel)) fun callees H_callees s_callees e_callees => ?_
    refine step_dictC s_callees e_callees rfl hC (T.noat "Reading" "rooms_of" (by decide +kernel)) fun rooms_of H_rooms_of s_rooms_of e_rooms_of => ?_
    refine step_listC s_rooms_of e_rooms_of rfl hC (T.noat "Reading" "makings" (by decide +kernel)) fun makings H_makings s_makings e_makings => ?_
    refine step_listC s_makings e_makings rfl hC (T.noat "Reading" "rooms" (by decide +kernel)) fun rooms H_rooms s_rooms e_rooms => ?_
    refine step_noneC s_rooms e_rooms rfl hC (T.noat "Reading" "owner" (by decide +kernel)) fun H_owner s_owner e_owner => ?_
    refine step_listC s_owner e_owner rfl hC (T.noat "Reading" "blocks" (by decide +kernel)) fun blocks H_blocks s_blocks e_blocks => ?_
    simp only [List.cons_append, List.nil_append] at s_blocks
    exact q H_blocks ⟨x, dx, sh, dS, f, c, r, due, gives, heads, params, names, kinds, rows, owners, partners, ors, eithers, evers, callees, rooms_of, makings, rooms, blocks⟩ rfl s_blocks
end
end R9H
set_option Elab.async false
set_option linter.all false
set_option maxRecDepth 100000
set_option maxHeartbeats 4000000
/-! G6: name = {dict comprehension}; enumerate(list, start=k) -/
namespace L2
open PySem PySem.Spec PyProof.Rows
section
variable {X : Cx}
theorem sw_trueD {kx vx : Expr} {gs : List Comprehension} {scope : Scope} {pos py : Pos} {y : Str} {l : Nat} {env : Env} (hk : env.scope.kind = .function) (hy : env.scope.names.lookup y = some .local) (hl : (py.line == pos.line) = true)
    (ha : (scope.names.any fun (n, k) => n == y && (k == .local || k == .cell)) = false) : swapsWith (.DictComp kx vx gs scope pos) (some (.Name y py)) l env = pure true := by
  have ky : env.kindOf y = some .local := hy
  have hb : env.blockKind = .function := by unfold Env.blockKind; rw [hk]; rfl
  unfold swapsWith
  simp only [hb, ky, ha, Expr.pos, hl]
  rfl
theorem ps_setDc {i : Nat} {y : Str} {py : Pos} {kx vx tg iter : Expr} {ifs : List Expr} {scope : Scope} {own : List (Str × Nat)} {pos spos : Pos} {wi : TI} {g : TG} {tt : TT} {tk tv : TE} (hc : X.calm = true) (hN : X.N.Nodup) (hy : X.N[i]? = some y) (hyl : X.env.scope.names.lookup y = some .local)
    (hsw : swapsWith (.DictComp kx vx [⟨tg, iter, ifs, 0⟩] scope pos) (some (.Name y py)) spos.line X.env = pure true) (hi : PI X tg iter wi) (ok : BlkOk X.N X.env.scope scope own)
    (hg : ∀ (s : Shared) (H : Hp) (C : Addr) (cl : List (Str × Addr)) (fp : List Addr), PG (X.blk s H scope (compEnvC scope cl C X.env) fp) tg g) (ht : ∀ (s : Shared) (H : Hp) (C : Addr) (cl : List (Str × Addr)) (fp : List Addr), PTs (X.blk s H scope (compEnvC scope cl C X.env) fp) ifs tt)
    (hk : ∀ (s : Shared) (H : Hp) (C : Addr) (cl : List (Str × Addr)) (fp : List Addr), PE (X.blk s H scope (compEnvC scope cl C X.env) fp) kx tk)
    (he : ∀ (s : Shared) (H : Hp) (C : Addr) (cl : List (Str × Addr)) (fp : List Addr), PE (X.blk s H scope (compEnvC scope cl C X.env) fp) vx tv) (hs : ∀ x, foldedSetIterable iter X.env x = pure x := by intro _; rfl) :
    PS X (.Assign [.Name y py] (.DictComp kx vx [⟨tg, iter, ifs, 0⟩] scope pos) spos) (tAsg (tDc wi g tt tk tv (own.map (·.2))) (gName i)) := by
  refine ⟨fun pins s σ H D I h => ?_⟩
  rw [exec_Assign_Name_used _ _ _ _ hsw]
  refine wpAny_bind (wpAny_standAt (wpAny_bind ?_))
  show wpAny _ X.A (do let _ ← comprehension (.DictComp kx vx [⟨tg, iter, ifs, 0⟩] scope pos) scope X.env (firstIterPos [⟨tg, iter, ifs, 0⟩] pos) newDict false (eval iter X.env) (some (assign (.Name y py) X.env))) _ _ s
  have h : tDc wi g tt tk tv (own.map (·.2)) σ H (fun x H1 => gName i x σ H1 D.nx) := h
  refine wpAny_bind (thn (dc_core (Qf := fun _ s' => SP X pins D .next s') hc hN I hi ok hg ht hk he hs h fun L C s' m H' I' q hn f => ?_) fun _ s' hq => wpAny_pure (wpAny_pure hq))
  show wpAny _ _ (assign (.Name y py) X.env (.ref L)) _ _ _
  refine wpAny_assign_Name (store_ok2 (v := V.ref L) I' hN hy (.inl hyl) rfl (fun s2 I2 ⟨a, sb, ha⟩ => ?_) (.inr hyl))
  obtain ⟨f0, f1, f2, f3, f4, f5⟩ := f
  have haC : C ≠ a := by
    rcases ha with z | z
    · rw [z]; exact f1
    · exact fun e => f4 y a z e.symm
  refine ⟨m, hn.sameBut sb haC, fun h3 sb3 => ?_⟩
  exact ⟨_, H', I2.turned (t' := s2.toks) (fun b o hb e => (sb3.2 b hb).trans e) f0 f1 f3 f4 f5, q⟩
end
/-- enumerate(list, start=k) -/
def IteK (K : PySem.W.Frag) (a : Addr) (k : Int) : It :=
  ⟨fun i H => ∃ (xs : List V) (x : V), SqL K H a xs ∧ xs[i]? = some x, fun i H v H' => ∃ T x, v = .ref T ∧ H T = none ∧ H' = upd H T (.tup [.int (k + (i : Nat)), x]) ∧ ∀ xs, SqL K H a xs → xs[i]? = some x, fun i H => ∃ xs : List V, SqL K H a xs ∧ xs.length = i⟩
theorem turn_enumK {P : Program} {w : World} {K : PySem.W.Frag} {elts : List Expr} {kk : Nat} {tpos : Pos} (k : Int) (a e it : Addr) (hai : a ≠ it) (hae : a ≠ e) :
    Turn P w K (.Tuple elts kk tpos) (IteK K a k) [e, it] e (fun i h => (∃ old, IsEnum h e it (k + ((i : Nat) : Int)) old) ∧ h.IsListIter it a i ∧ e ≠ it) where
  mem := by simp
  obj := fun i h st b hb => by
    obtain ⟨⟨old, he⟩, ⟨o, ho, hc, hd⟩, _⟩ := st
    have e' : b = e ∨ b = it := by simpa using hb
    rcases e' with z | z
    · rw [z]; exact ⟨_, he, fun v q => nomatch q⟩
    · rw [z]; exact ⟨o, ho, fun v q => by rw [hd] at q; cases q⟩
  keep := fun i h h' st k => let ⟨⟨old, he⟩, hi, hne⟩ := st; ⟨⟨old, k e (by simp) _ he⟩, hi.at fun o q => k it (by simp) o q, hne⟩
  item := by
    intro X hP hw hK hc i pins s σ H E I hf st hg
    subst hP hw hK
    obtain ⟨⟨old, he⟩, hit, hne⟩ := st
    obtain ⟨xs, x, hq, hx⟩ := hg
    obtain ⟨its, rv, p, hz⟩ := I.list hq
    obtain ⟨u, hu, ru⟩ := rv.get hx
    have hel : e < s.heap.objs.size := Heap.lt_size he
    have hil : it < s.heap.objs.size := by obtain ⟨_, q, _⟩ := hit; exact Heap.lt_size q
    have hlt : i < its.toArray.size := by
      obtain ⟨hh, _⟩ := List.getElem?_eq_some_iff.mp hu
      simpa using hh
    have DR := Draws.list (prog := X.prog) (w := X.w) (A := X.A.in1) (I.ok.hd hc) it a hai its.toArray
    refine wpAny_pyNext_enum_itemC DR he ⟨hit, p.isList⟩ hlt hne (by simp [hne, Ne.symm hae]) fun u' h' tk hu' ho hit' hT hsz hk => ?_
    have eu : u' = u := by
      have : its.toArray[i]? = some u := by simpa using hu
      exact Option.some.inj (hu'.symm.trans this)
    subst eu
    refine ⟨_, rfl, wpAny_letOwnedTupleGo_enum (s := { s with heap := h', toks := tk + 1 }) ho fun h'' he' sb => ?_⟩
    have hT2 : h''.get? s.heap.objs.size = some { cls := .type "tuple", data := .seq #[.int (k + (i : Int)) tk, u'] } := (sb.2 _ (Nat.ne_of_gt hel)).trans hT
    have new : ObjOk X.prog X.w (upd H s.heap.objs.size (.tup [.int (k + (i : Nat)), x])) h'' s.heap.objs.size (.tup [.int (k + (i : Nat)), x]) :=
      ⟨by show 2 ≤ sizeLine; decide, [.int (k + (i : Int)) tk, u'], .cons ⟨_, rfl⟩ (.cons ru .nil), ⟨_, hT2, rfl, _, rfl⟩⟩
    have I1 : Inv X pins σ (upd H s.heap.objs.size (.tup [.int (k + (i : Nat)), x])) { s with heap := h'', toks := tk + 1 } :=
      I.turnedNew (ch := [e, it]) (fun b ob hb q => (sb.2 b (fun z => hb (by simp [z]))).trans (hk b ob (fun z => hb (by simp [z])) (fun z => hb (by simp [z])) q)) hf (Nat.le_refl _) new
    refine ⟨.ref s.heap.objs.size, _, I1, rfl, ⟨_, x, rfl, I.hok.fresh (Nat.le_refl _), rfl, fun ys hy => by rw [I.list_inj hy hq]; exact hx⟩, ⟨⟨u', ?_⟩, hit'.1.at fun o q => (sb.2 it (Ne.symm hne)).trans q, hne⟩, fun b hb => ?_⟩
    · have e1 : k + ((i + 1 : Nat) : Int) = k + (i : Int) + 1 := by omega
      rw [e1]; exact he'
    · have hb' : b < s.heap.objs.size := by
        have e' : b = e ∨ b = it := by simpa using hb
        rcases e' with z | z
        · rw [z]; exact hel
        · rw [z]; exact hil
      rw [upd_ne (Nat.ne_of_lt hb')]
      exact (hf b hb).1
  done := by
    intro X hP hw hK hc i pins s σ H E I hf st hg
    subst hP hw hK
    obtain ⟨⟨old, he⟩, hit, hne⟩ := st
    obtain ⟨xs, hq, hx⟩ := hg
    obtain ⟨its, rv, p, hz⟩ := I.list hq
    obtain ⟨f0, f1, f2, f3, f4, f5⟩ := hf it (by simp)
    have hl := rv.length
    have DR := Draws.list (prog := X.prog) (w := X.w) (A := X.A.in1) (I.ok.hd hc) it a hai its.toArray
    have ei : i = its.toArray.size := by rw [← hx, hl]; simp
    exact wpAny_pyNext_enum_endD DR he (by rw [← ei]; exact ⟨hit, p.isList⟩) fun h' eb => ⟨rfl, I.turned (t' := s.toks) (fun b o hb q => eb b o hb q) f0 f1 f3 f4 f5⟩
  self := fun A i s Q E st h => let ⟨⟨_, he⟩, _⟩ := st; wpAny_pyIter_enum he h
def iEnumK (K : PySem.W.Frag) (ta tk : TA) : TI := fun σ H R => ta σ H fun vs H1 => tk σ H1 fun zs H2 => ∃ a xs k, vs = [.ref a] ∧ zs = [.int k] ∧ -(2 ^ 63) ≤ k ∧ k < 2 ^ 63 ∧ SqL K H2 a xs ∧ R (IteK K a k) H2
theorem callWith_typeK {M : Model} {A : Around} {E : Value → Shared → Prop} {s : Shared} {env : Env} {pos : Pos} {T : String} {e : Expr} {rest : List Expr} {kws : List Keyword} {Q : Value → Shared → Prop}
    (h : wpAny M A (spliced (backTo pos (starEach (e :: rest) env))) (fun vs s₁ => wpAny M A (evalAll ((backToKw pos (keywordEach kws env)).map (·.2)))
      (fun kvs s₂ => wpAny M A (call (.type T) vs (((backToKw pos (keywordEach kws env)).filterMap (·.1)).zip kvs)) Q E s₂) E s₁) E s)
    (he : backTo pos (starEach (e :: rest) env) = (false, eval e env) :: backTo pos (starEach rest env) := by rfl)
    (hplain : (backTo pos (starEach (e :: rest) env)).any (·.1) = false := by rfl)
    (hall : (backToKw pos (keywordEach kws env)).all (·.1.isSome) = true := by rfl)
    (hkw : (backToKw pos (keywordEach kws env)).any (·.1.isNone) = false := by rfl) :
    wpAny M A (callWith pos (.type T) [] (backTo pos (starEach (e :: rest) env)) (backToKw pos (keywordEach kws env))) Q E s := by
  unfold callWith
  rw [he] at h hplain ⊢
  refine wpAny_bind (wpAny_holding (wpAny_mono (PyProof.Rows.evalArgs_kwB (Q := fun a s₁ => wpAny M A (call (.type T) a.pos a.kw) Q E s₁) hall h) (fun a s₁ h₁ => wpAny_bind (wpAny_standAt ?_)) fun _ _ x => x))
  simp only [hplain, hkw, Bool.or_false]
  refine wpAny_bind (wpAny_pure ?_)
  exact wpAny_bind (wpAny_mono h₁ (fun r s₂ hr => wpAny_bind (wpAny_holding (wpAny_point (wpAny_pure hr)))) fun _ _ x => x)
theorem pi_enumK {X : Cx} {e : Expr} {ta tk : TA} {p pos tpos : Pos} {elts : List Expr} {kws : List Keyword} {kk : Nat} (hg : Gl X "enumerate") (hm : X.mg "enumerate" = none) (ha : PA X [e] ta) (hk : PK X kws tk)
    (he : backTo pos (starEach [e] X.env) = (false, eval e X.env) :: backTo pos (starEach [] X.env) := by rfl) (hpl : (backTo pos (starEach [e] X.env)).any (·.1) = false := by rfl)
    (hall : (backToKw pos (keywordEach kws X.env)).all (·.1.isSome) = true := by rfl) (hnone : (backToKw pos (keywordEach kws X.env)).any (·.1.isNone) = false := by rfl) (hks : (backToKw pos (keywordEach kws X.env)).filterMap (·.1) = [Str.ofString "start"] := by rfl) :
    PI X (.Tuple elts kk tpos) (.Call (.Name "enumerate" p) [e] kws pos) (iEnumK X.K ta tk) := by
  refine ⟨fun pins s σ H R I h => ?_⟩
  refine wpAny_Call_Name_kw (ld_blt I hg hm PyProof.Rows.boot_enumerate (callWith_typeK (thn (ha.run pos pins s σ H _ I h) fun us s0 ⟨vs, H0, I0, r0, q0⟩ => thn (hk.run pos pins s0 σ H0 _ I0 q0) fun ws s1 ⟨zs, H1, I1, r1, q1⟩ => ?_) he hpl hall hnone))
  rw [hks]
  obtain ⟨a, xs, k, ex, ez, k0, k1, hq, q⟩ := q1
  subst ex ez
  cases r0 with
  | cons r rr =>
    cases rr
    cases r
    cases r1 with
    | cons rk rr =>
      cases rr
      obtain ⟨t, rfl⟩ := rk
      obtain ⟨its, rv, p', hz⟩ := I1.list hq
      have ha1 : a < s1.heap.objs.size := by
        obtain ⟨o, ho, _⟩ := p'.isList
        exact Heap.lt_size ho
      refine enum_begins_start (begins_list a its.toArray) p'.isList k0 k1 fun h' hE hit hsz hkp => wpAny_pyIter_enum hE ?_
      have I2 : Inv X _ σ H1 { s1 with heap := h' } := I1.kept (t' := s1.toks) hkp
      refine ⟨s1.heap.objs.size + 1, [s1.heap.objs.size + 1, s1.heap.objs.size], _, _, H1, rfl, I2, turn_enumK k a (s1.heap.objs.size + 1) s1.heap.objs.size (Nat.ne_of_lt ha1) (Nat.ne_of_lt (Nat.lt_succ_of_lt ha1)), ⟨⟨.none, by simpa using hE⟩, ⟨_, hit, rfl, rfl⟩, Nat.succ_ne_self _⟩, fun b hb => ?_, q⟩
      have e' : b = s1.heap.objs.size + 1 ∨ b = s1.heap.objs.size := by simpa using hb
      have hle : s1.heap.objs.size ≤ b := by
        rcases e' with z | z
        · rw [z]; exact Nat.le_add_right _ _
        · rw [z]; exact Nat.le_refl _
      exact I1.fpOk hle (I1.hok.fresh hle)
/-- a loop over enumerate(list, start=k) -/
theorem for_enumK {K : PySem.W.Frag} {a : Addr} {k : Int} {xs : List V} {g : TG} {tb : TS} {D : Ends} {σ : L2.St} {H : Hp} (Pv : Nat → L2.St → Hp → Prop) (h0 : Pv 0 σ H) (hx : ∀ i σ H, Pv i σ H → SqL K H a xs)
    (hs : ∀ (i : Nat) x σ H T, xs[i]? = some x → Pv i σ H → H T = none → g (.ref T) σ (upd H T (.tup [.int (k + (i : Nat)), x])) fun σ2 H2 => tb { D with nx := Pv (i + 1), ct := Pv (i + 1), bk := D.nx } σ2 H2) (hd : ∀ σ H, Pv xs.length σ H → D.nx σ H) :
    ∃ W : Nat → Nat → L2.St → Hp → Prop, (∃ m, W 0 m σ H) ∧ ∀ i m σ H, W i m σ H → ((IteK K a k).stop i H ∧ D.nx σ H) ∨ ((IteK K a k).go i H ∧ ∃ N : L2.St → Hp → Prop, (∀ σ' H', N σ' H' → ∃ m', m' < m ∧ W (i + 1) m' σ' H') ∧
      ∀ y H', (IteK K a k).yld i H y H' → g y σ H' fun σ2 H2 => tb { D with nx := N, ct := N, bk := D.nx } σ2 H2) := by
  refine ⟨fun i m σ H => m = xs.length - i ∧ i ≤ xs.length ∧ Pv i σ H, ⟨xs.length, by simp, Nat.zero_le _, h0⟩, ?_⟩
  rintro i m σ H ⟨rfl, hi, p⟩
  have q := hx i σ H p
  by_cases hlt : i < xs.length
  · refine .inr ⟨⟨xs, xs[i], q, List.getElem?_eq_getElem hlt⟩, Pv (i + 1), fun σ' H' q => ⟨xs.length - (i + 1), by omega, rfl, hlt, q⟩, ?_⟩
    rintro y H' ⟨T, x, rfl, hT, rfl, hx'⟩
    exact hs i x σ H T (hx' xs q) p hT
  · have e : i = xs.length := by omega
    subst e
    exact .inl ⟨⟨xs, q, rfl⟩, hd σ H p⟩
end L2
set_option Elab.async false
set_option linter.all false
set_option maxRecDepth 100000
set_option maxHeartbeats 4000000
/-! k06, part G: ways as data; is_fresh -/
namespace R9H
open PySem PySem.Spec PyProof.Rows L2
theorem _root_.L2.Room.u1 {k : Nat} {A : Around} (r : Room k A) : A.units + 1 < cLine := by have := r.un; omega
theorem qT {Q : VK} {b : Bool} {H : Hp} (h : b = true) (q : Q (.bl true) H) : Q (.bl b) H := h ▸ q
theorem qF {Q : VK} {b : Bool} {H : Hp} (h : b = false) (q : Q (.bl false) H) : Q (.bl b) H := h ▸ q
/-- the tuples stay -/
def Tx (H G : Hp) : Prop := ∀ l xs, Rd H l (.tup xs) → Rd G l (.tup xs)
theorem Tx.refl {H : Hp} : Tx H H := fun _ _ h => h
theorem Tx.trans {H G F : Hp} (a : Tx H G) (b : Tx G F) : Tx H F := fun l xs h => b l xs (a l xs h)
theorem Tx.sqT {K : PySem.W.Frag} {H G : Hp} {a : Addr} {xs : List V} (e : Tx H G) (h : SqT K H a xs) : SqT K G a xs := h.imp (e _ _) id
theorem ext_tx {H G : Hp} (e : ExtH H G) : Tx H G := fun l xs h => h.imp (e _ _) fun ⟨o, h⟩ => ⟨o, e _ _ h⟩
def soft : HO → Bool
  | .ins _ _ _ => true
  | .dK _ => true
  | .lst _ => true
  | .frz _ (.dK _) => true
  | _ => false
theorem tx_upd {H : Hp} {a : Addr} {o o' : HO} (e : H a = some o) (h : soft o = true) : Tx H (upd H a o') := by
  intro l xs r
  have ne : l ≠ a := fun z => by
    subst z
    rcases r with r | ⟨u, r⟩
    · rw [e] at r; cases r; cases h
    · rw [e] at r; cases r; cases h
  rcases r with r | ⟨u, r⟩
  · exact .inl (by rw [upd_ne ne]; exact r)
  · exact .inr ⟨u, by rw [upd_ne ne]; exact r⟩
def WayAt (K : PySem.W.Frag) (H : Hp) (v : V) (w : List Str) : Prop := ∃ l, v = .ref l ∧ SqT K H l (w.map V.str)
def WaysAt (K : PySem.W.Frag) (H : Hp) (v : V) (ws : List (List Str)) : Prop := ∃ l vs, v = .ref l ∧ SqT K H l vs ∧ Paired (WayAt K H) vs ws
theorem WayAt.tx {K : PySem.W.Frag} {H G : Hp} {v : V} {w : List Str} (h : WayAt K H v w) (e : Tx H G) : WayAt K G v w := let ⟨l, a, b⟩ := h; ⟨l, a, e.sqT b⟩
theorem WaysAt.tx {K : PySem.W.Frag} {H G : Hp} {v : V} {ws : List (List Str)} (h : WaysAt K H v ws) (e : Tx H G) : WaysAt K G v ws :=
  let ⟨l, vs, a, b, c⟩ := h; ⟨l, vs, a, e.sqT b, Paired.mapP c fun _ _ h => h.tx e⟩
/-- the ways of the shapes, by their names -/
abbrev Tab := List (Str × List (List Str))
def TabAt (K : PySem.W.Frag) (H : Hp) (rs : List (Key × V)) (tb : Tab) : Prop := Paired (fun (p : Key × V) (q : Str × List (List Str)) => p.1 = .inr q.1 ∧ WaysAt K H p.2 q.2) rs tb
theorem TabAt.tx {K : PySem.W.Frag} {H G : Hp} {rs : List (Key × V)} {tb : Tab} (h : TabAt K H rs tb) (e : Tx H G) : TabAt K G rs tb := Paired.mapP h fun _ _ h => ⟨h.1, h.2.tx e⟩
def tabV (tb : Tab) (x : Str) : Option (List (List Str)) := tb.lookup x
theorem TabAt.non {K : PySem.W.Frag} {H : Hp} {rs : List (Key × V)} {tb : Tab} (h : TabAt K H rs tb) {x : Str} (e : tabV tb x = none) : valV rs (.inr x) = none := by
  induction h with
  | nil => rfl
  | @cons a b l₁ l₂ r t ih =>
    unfold tabV at e ih
    rw [show b = (b.1, b.2) from rfl, List.lookup_cons] at e
    cases hb : x == b.1 with
    | true => rw [hb] at e; cases e
    | false =>
      rw [hb] at e
      rw [valV_neg]
      · exact ih e
      · rw [r.1]
        intro z
        injection z with z
        rw [z] at hb
        simp at hb
theorem TabAt.get {K : PySem.W.Frag} {H : Hp} {rs : List (Key × V)} {tb : Tab} (h : TabAt K H rs tb) {x : Str} {ws : List (List Str)} (e : tabV tb x = some ws) : ∃ v, valV rs (.inr x) = some v ∧ WaysAt K H v ws := by
  induction h with
  | nil => cases e
  | @cons a b l₁ l₂ r t ih =>
    unfold tabV at e ih
    rw [show b = (b.1, b.2) from rfl, List.lookup_cons] at e
    cases hb : x == b.1 with
    | true =>
      rw [hb] at e
      cases e
      rw [beq_iff_eq] at hb
      exact ⟨a.2, valV_pos (by rw [r.1, hb]), r.2⟩
    | false =>
      rw [hb] at e
      rw [valV_neg]
      · exact ih e
      · rw [r.1]
        intro z
        injection z with z
        rw [z] at hb
        simp at hb
theorem putK_new {rs : List (Key × V)} {k : Key} {v : V} (h : valV rs k = none) : putK rs k v = rs ++ [(k, v)] := by
  unfold putK
  rw [valV_any, h]
  rfl
theorem TabAt.put {K : PySem.W.Frag} {H : Hp} {rs : List (Key × V)} {tb : Tab} (h : TabAt K H rs tb) {x : Str} (e : tabV tb x = none) {v : V} {ws : List (List Str)} (hw : WaysAt K H v ws) : TabAt K H (putK rs (.inr x) v) (tb ++ [(x, ws)]) := by
  rw [putK_new (h.non e)]
  exact Paired.snoc h ⟨rfl, hw⟩
theorem TabAt.len {K : PySem.W.Frag} {H : Hp} {rs : List (Key × V)} {tb : Tab} (h : TabAt K H rs tb) : rs.length = tb.length := Paired.length h
/-! ### is_fresh -/
def spFresh (K : PySem.W.Frag) : Sp := fun vs H Q _ => ∃ (s dS f c r : Addr) (rs : List (Key × V)) (x : Str), vs = [.ref s, .str x] ∧ H s = some (.ins (ga K "Shapes") dS (shF f c r)) ∧ H r = some (.dK rs) ∧ valV rs (.inr x) = none ∧ rs.length < 8 ∧ goodName x ∧ Q (.bl true) H
abbrev sFresh : Stmt := top 45
theorem sc_fresh : FnScope ["shapes", "name"] ["shapes", "name"] (defScope sFresh) := ⟨rfl, rfl, rfl, by decide +kernel, rfl, by decide +kernel, by decide +kernel⟩
section
variable {w : World} {K : PySem.W.Frag} {mg : Str → Option Value} {base : Heap}
theorem lookR {f c r : Addr} : (shF f c r).lookup ("routes" : Str) = some (V.ref r) := by unfold shF; rfl
theorem ok_fresh (T : T6 K mg) : Has w K mg base 2 "is_fresh" ["shapes", "name"] (spFresh K) := by
  obtain ⟨fd, F⟩ := T.fn 33
  have HN : Has w K mg base 1 "is_name" ["word"] spName := ok_name T
  obtain ⟨t1, g1⟩ := T.int "MOST_SHAPES" 8 (by decide +kernel)
  have gn := T.free "len" (by decide +kernel)
  have hC := T.cls "Shapes" (by decide +kernel)
  have hA := T.noat "Shapes" "routes" (by decide +kernel)
  refine has_of (st := sFresh) T F (by decide +kernel) (F.ok sc_fresh (fun vs H Q E h => ?_) (fun cdv A outer s H vs Q E hr h => ⟨_, PSs.nox (pss_one (ps_ret
    (pe_and (pe_has HN rfl hr rfl (pa_cons (pv 1) pa_nil)) (pe_and (pe_cmp (pc_dnotin hr.u1 (pv 1) (pe_fld (pv 0) rfl)))
      (pe_one (pe_cmpR op_lt (pe_callB call_lenD rfl gn PySem.boot_len (pa_cons (pe_fld (pv 0) rfl) pa_nil)) (pe_gi rfl g1) (nomark _))))))), ?_⟩)) fun _ _ _ _ _ _ us hl => match us, hl with | [_, _], _ => rfl
  · obtain ⟨s, dS, f, c, r, rs, x, rfl, _⟩ := h
    rfl
  · obtain ⟨sh, dS, f, c, r, rs, x, rfl, h1, h2, h3, h4, h5, q⟩ := h
    refine ⟨_, rfl, x, rfl, h5, true, rfl, iteT ?_⟩
    refine ⟨_, rfl, _, rfl, _, _, _, _, _, rfl, h1, hC, hA, lookR, r, _, rfl, DGet.k (k := .inr x) h2, true, by rw [h3]; rfl, iteT ?_⟩
    exact ⟨_, rfl, _, _, _, _, _, rfl, h1, hC, hA, lookR, r, _, rfl, h2, _, _, rfl, rfl, qT (decide_eq_true (by omega)) q⟩
end
end R9H
set_option Elab.async false
set_option linter.all false
set_option maxRecDepth 100000
set_option maxHeartbeats 4000000
/-! k06, part K: ways_through -/
namespace R9H
open PySem PySem.Spec PyProof.Rows L2
theorem dc_it {J : It} {n : Nat} {G : Hp → Prop} {Y : Nat → Hp → V → Hp → Prop} (w : Walk J n G Y) {g : TG} {tt : TT} {tk tv : TE} {vs : List Nat} {σ : L2.St} {H1 : Hp} {D : Addr} {Qd : Hp → Prop} (Pv : Nat → Hp → Prop) (h0 : Pv 0 (upd H1 D (.dK []))) (hG : ∀ i H, i ≤ n → Pv i H → G H)
    (hs : ∀ (i : Nat) x H H', i < n → Pv i H → Y i H x H' → g x (wipe σ vs) H' fun σ2 H2 => wipe σ2 vs = wipe σ vs ∧ tt σ2 H2 fun b H3 =>
      if b = true then tk σ2 H3 fun y H4 => tv σ2 H4 fun z H5 => ∃ kvs k, y = kV k ∧ H5 D = some (.dK kvs) ∧ kvs.length < sizeLine ∧ Pv (i + 1) (upd H5 D (.dK (putK kvs k z))) else Pv (i + 1) H3) (hd : ∀ H, Pv n H → Qd H) :
    ∃ W : Nat → Nat → Hp → Prop, (∃ m, W 0 m (upd H1 D (.dK []))) ∧ ∀ i m H, W i m H →
      (J.stop i H ∧ Qd H) ∨ (J.go i H ∧ ∃ Nx : Hp → Prop, (∀ H', Nx H' → ∃ m', m' < m ∧ W (i + 1) m' H') ∧ ∀ x H', J.yld i H x H' → g x (wipe σ vs) H' fun σ2 H2 => wipe σ2 vs = wipe σ vs ∧ tt σ2 H2 fun b H3 =>
        if b = true then tk σ2 H3 fun y H4 => tv σ2 H4 fun z H5 => ∃ kvs k, y = kV k ∧ H5 D = some (.dK kvs) ∧ kvs.length < sizeLine ∧ Nx (upd H5 D (.dK (putK kvs k z))) else Nx H3) := by
  refine ⟨fun i m H => m = n - i ∧ i ≤ n ∧ Pv i H, ⟨n, by simp, Nat.zero_le _, h0⟩, ?_⟩
  rintro i m H ⟨rfl, hi, p⟩
  have q := hG i H hi p
  by_cases hlt : i < n
  · refine .inr ⟨w.goes i H hlt q, Pv (i + 1), fun H' p' => ⟨n - (i + 1), by omega, rfl, hlt, p'⟩, fun x H' y => ?_⟩
    exact hs i x H H' hlt p (w.yields i H x H' hlt q y)
  · have e : i = n := by omega
    subst e
    exact .inl ⟨w.stops H q, hd H p⟩
theorem tyes {σ : L2.St} {H : Hp} {P : Bool → Hp → Prop} (h : P true H) : tYes σ H P := h
theorem extH_upd {H G : Hp} {D : Addr} {o : HO} (e : ExtH H G) (n : H D = none) : ExtH H (upd G D o) := fun z u hz => by rw [upd_ne (ne_of_none hz n)]; exact e _ _ hz
theorem pe_fldB {X : Cx} {K : PySem.W.Frag} {e : Expr} {f : Str} {ta : TE} {pos : Pos} (he : PE X e ta) (hb : attributeBase e f X.env (eval e X.env) = eval e X.env := by rfl) (hK : X.K = K := by rfl) : PE X (.Attribute e f pos) (tFld K ta f) := hK ▸ pe_fld he hb
theorem pa_starB {X : Cx} {K : PySem.W.Frag} {e : Expr} {es : List Expr} {te : TE} {t : TA} {p : Pos} (he : PE X e te) (hr : PA X es t) (hs : starEach (.Starred e p :: es) X.env = (true, eval e X.env) :: starEach es X.env := by rfl) (hK : X.K = K := by rfl) : PA X (.Starred e p :: es) (StX.tStar K te t) := hK ▸ StX.pa_star he hr hs
def innerOf (prs : Tab) (x : Str) : List (List Str) := (prs.lookup x).getD []
def thr (prs : Tab) (steps : List Str) : List (List Str) := [] :: steps.flatMap fun x => (innerOf prs x).map (x :: ·)
def PairAt (K : PySem.W.Frag) (rs : List (Key × V)) (H : Hp) (v : V) (p : Str × List (List Str)) : Prop := ∃ (t : Addr) (x : Str) (u : V), v = .ref t ∧ SqT K H t [.str p.1, .str x] ∧ valV rs (.inr x) = some u ∧ WaysAt K H u p.2
def spWays (K : PySem.W.Frag) : Sp := fun vs H Q _ => ∃ (s pl dS f c r : Addr) (rs : List (Key × V)) (prs : Tab) (us : List V), vs = [.ref s, .ref pl] ∧ H s = some (.ins (ga K "Shapes") dS (shF f c r)) ∧ H r = some (.dK rs) ∧ SqL K H pl us ∧ Paired (PairAt K rs H) us prs ∧
  (prs.map (·.1)).Nodup ∧ prs.length < 64 ∧ (∀ p ∈ prs, p.2.length ≤ 1000 ∧ ∀ y ∈ p.2, y.length ≤ 1000) ∧ ∀ H' v steps, ExtH H H' → steps.Perm (prs.map (·.1)) → sortedS steps = true → WaysAt K H' v (thr prs steps) → Q v H'
abbrev sWays : Stmt := top 46
theorem sc_ways : FnScope ["shapes", "pairs", "inner", "found", "step", "shape", "way"] ["shapes", "pairs"] (defScope sWays) := ⟨rfl, rfl, rfl, by decide +kernel, rfl, by decide +kernel, by decide +kernel⟩
theorem lookup_take {prs : Tab} (hn : (prs.map (·.1)).Nodup) {i : Nat} {p : Str × List (List Str)} (h : prs[i]? = some p) : tabV (prs.take i) p.1 = none := by
  unfold tabV
  rw [List.lookup_eq_none_iff]
  intro q hq
  have : q.1 ≠ p.1 := fun e => by
    obtain ⟨j, hj, e2⟩ := List.mem_iff_getElem.mp hq
    rw [List.length_take] at hj
    rw [List.getElem_take] at e2
    obtain ⟨hi, e3⟩ := List.getElem?_eq_some_iff.mp h
    have h1 : (prs.map (·.1))[j]? = some p.1 := by
      rw [List.getElem?_map, List.getElem?_eq_getElem (by omega), e2, Option.map_some, e]
    have h2 : (prs.map (·.1))[i]? = some p.1 := by
      rw [List.getElem?_map, h] <;> rfl
    have := nodup_get hn h1 h2
    omega
  simp [Ne.symm this]
theorem lookup_mem {prs : Tab} (hn : (prs.map (·.1)).Nodup) {z : Str} {ws : List (List Str)} (h : (z, ws) ∈ prs) : tabV prs z = some ws := by
  unfold tabV
  induction prs with
  | nil => cases h
  | cons p r ih =>
    rw [List.map_cons, List.nodup_cons] at hn
    rw [show p = (p.1, p.2) from rfl, List.lookup_cons]
    rcases List.mem_cons.mp h with e | e
    · rw [← e, beq_self_eq_true]
    · have : (z == p.1) = false := by
        rw [beq_eq_false_iff_ne]
        intro e2
        exact hn.1 (List.mem_map.mpr ⟨_, e, e2⟩)
      rw [this]
      exact ih hn.2 e
theorem sqL_upd {K : PySem.W.Frag} {H : Hp} {a b : Addr} {xs : List V} {o : HO} (n : a ≠ b) (h : SqL K H a xs) : SqL K (upd H b o) a xs := by
  rcases h with (h | ⟨u, h⟩) | h
  · exact .inl (.inl (by rw [upd_ne n]; exact h))
  · exact .inl (.inr ⟨u, by rw [upd_ne n]; exact h⟩)
  · exact .inr h
theorem paired_append {α β : Type} {F : α → β → Prop} : ∀ {l₁ : List α} {l₂ : List β} {m₁ : List α} {m₂ : List β}, Paired F l₁ l₂ → Paired F m₁ m₂ → Paired F (l₁ ++ m₁) (l₂ ++ m₂)
  | _, _, _, _, .nil, h => h
  | _, _, _, _, .cons r t, h => .cons r (paired_append t h)
section
variable {w : World} {K : PySem.W.Frag} {mg : Str → Option Value} {base : Heap}
theorem ok_ways (T : T6 K mg) : Has w K mg base 1 "ways_through" ["shapes", "pairs"] (spWays K) := by
  obtain ⟨fd, F⟩ := T.fn 34
  have gs := T.free "sorted" (by decide +kernel)
  have gst := T.free "str" (by decide +kernel)
  have gt := T.free "tuple" (by decide +kernel)
  have hC := T.cls "Shapes" (by decide +kernel)
  have hA := T.noat "Shapes" "routes" (by decide +kernel)
  refine has_of (st := sWays) T F (by decide +kernel) (F.ok sc_ways (fun vs H Q E h => ?_) (fun cdv A outer s H vs Q E hr h => ⟨_, PSs.nox (
    pss_cons (ps_setDc (i := 2) (own := [("step", 4), ("shape", 5)]) (g := gTup K 2 (gCons (gName 4) (gCons (gName 5) gNil))) rfl sc_ways.nd rfl rfl (sw_trueD rfl rfl rfl (by decide +kernel)) (pi_list (pv 1)) (blkOk_by (own := [("step", 4), ("shape", 5)]) (N := ["shapes", "pairs", "inner", "found", "step", "shape", "way"]) (sc := defScope sWays) (by decide +kernel))
      (fun _ _ _ _ _ => pg_tup rfl (pgs_cons (pg_name (i := 4) sc_ways.nd rfl (Or.inl rfl)) (pgs_cons (pg_name (i := 5) sc_ways.nd rfl (Or.inl rfl)) pgs_nil))) (fun _ _ _ _ _ => pts_nil) (fun _ _ _ _ _ => pv 4) (fun _ _ _ _ _ => pe_dget hr.u1 (pe_fldB (K := K) (pv 0)) (pv 5) (fun _ _ => rfl)))
    (pss_cons (ps_set (i := 3) sc_ways.nd rfl (Or.inl rfl) (pe_lst (pa_cons (pe_tup pa_nil) pa_nil)))
    (pss_cons (ps_for PassesOwn.never rfl (pi_list (pe_callB cr_sortedS rfl gs boot_sorted (pa_cons (pe_lock (pe_lc (own := [("step", 4)]) (g := gName 4) (by rfl) sc_ways.nd (pi_keys (pv 2)) (blkOk_by (own := [("step", 4)]) (N := ["shapes", "pairs", "inner", "found", "step", "shape", "way"]) (sc := defScope sWays) (by decide +kernel))
        (fun _ _ _ _ _ => pg_name (i := 4) sc_ways.nd rfl (Or.inl rfl)) (fun _ _ _ _ _ => pts_nil) (fun _ _ _ _ _ => pe_callTy SkE.call_str_str rfl gst PyProof.Rows.boot_str (pa_cons (pv 4) pa_nil)))) pa_nil))) (pg_name (i := 4) sc_ways.nd rfl (Or.inr rfl))
      (pss_one (ps_expr (pe_bm PySem.F.plainAttrs_list PySem.F.slot_list_extend PySem.F.type_list_extend mt_extend (pv 3) (pa_cons (pe_lc (own := [("way", 6)]) (g := gName 6) (by rfl) sc_ways.nd (pi_tup (pe_dget hr.u1 (pv 2) (pv 4) (fun _ _ => rfl))) (blkOk_by (own := [("way", 6)]) (N := ["shapes", "pairs", "inner", "found", "step", "shape", "way"]) (sc := defScope sWays) (by decide +kernel))
        (fun _ _ _ _ _ => pg_name (i := 6) sc_ways.nd rfl (Or.inl rfl)) (fun _ _ _ _ _ => pts_nil) (fun _ _ _ _ _ => pe_tup (pa_cons (pv 4) (pa_starB (K := K) (pv 6) pa_nil)))) pa_nil)))))
    (pss_one (ps_ret (pe_callTy call_tuple_of rfl gt PyProof.Rows.boot_tuple (pa_cons (pv 3) pa_nil))))))), ?_⟩)) fun _ _ _ _ _ _ us hl => match us, hl with | [_, _], _ => rfl
  · obtain ⟨s, pl, dS, f, c, r, rs, prs, us, rfl, _⟩ := h
    rfl
  · obtain ⟨s, pl, dS, f, c, r, rs, prs, us, rfl, h1, h2, h3, h4, h5, h6, h7, q⟩ := h
    clear F
    refine ⟨_, rfl, pl, rfl, ⟨_, h3⟩, fun D hD => ?_⟩
    refine dc_it (n := us.length) walk_list (fun i G => ExtH H G ∧ ∃ kvs, G D = some (.dK kvs) ∧ TabAt K G kvs (prs.take i)) ⟨extH_put hD, [], upd_same, .nil⟩ (fun i G _ e => sqL_extH e.1 h3) ?_ ?_
    · rintro i x G _ hi ⟨e, kvs, hd, ht⟩ ⟨rfl, hx⟩
      obtain ⟨p, hp, t, y, u, rfl, t1, t2, t3⟩ := L2.paired_get h4 hx
      refine ⟨t, _, rfl, sqT_extH e t1, rfl, _, _, rfl, _, _, rfl, rfl, rfl, ?_⟩
      refine tyes (ifT rfl ⟨_, rfl, _, rfl, _, _, _, _, _, rfl, e _ _ h1, hC, hA, lookR, _, rfl, r, u, rfl, ?_⟩)
      have hl : kvs.length < sizeLine := by
        have := ht.len
        rw [List.length_take] at this
        rw [sizeLine_eq]
        omega
      refine ⟨by rw [← t2]; exact DGet.k (k := .inr y) (e _ _ h2), kvs, .inr p.1, rfl, hd, hl, extH_upd e hD, _, upd_same, ?_⟩
      rw [take_succ' hp]
      exact (ht.put (lookup_take h5 hp) (t3.tx (ext_tx e))).tx (tx_upd hd rfl)
    · rintro G ⟨e, kvs, hd, ht⟩
      rw [Paired.length h4, List.take_length] at ht
      refine ⟨Nat.zero_le _, fun e0 n0 => ⟨by rw [sizeLine_eq]; exact Nat.le_add_left _ _, fun Fa nF => ?_⟩⟩
      have hDe : D ≠ e0 := ne_of_none hd n0
      have hDF : D ≠ Fa := ne_of_none (H := upd G e0 (.tup [])) (by rw [upd_ne hDe]; exact hd) nF
      have heF : e0 ≠ Fa := ne_of_none upd_same nF
      have x1 : ExtH G (upd (upd G e0 (.tup [])) Fa (.lst [.ref e0])) := (extH_put n0).trans (extH_put nF)
      have F0 : H Fa = none := ((e.trans (extH_put n0))).none nF
      have a1 : upd (upd G e0 (.tup [])) Fa (.lst [.ref e0]) D = some (.dK kvs) := x1 _ _ hd
      have a2 : upd (upd G e0 (.tup [])) Fa (.lst [.ref e0]) e0 = some (.tup []) := by rw [upd_ne heF]; exact upd_same
      have a3 : upd (upd G e0 (.tup [])) Fa (.lst [.ref e0]) Fa = some (.lst [.ref e0]) := upd_same
      generalize upd (upd G e0 (.tup [])) Fa (.lst [.ref e0]) = G2 at x1 a1 a2 a3 ⊢
      refine ⟨D, .dK kvs, a1, trivial, fun od => ⟨_, rfl, D, od, rfl, .inl ⟨kvs, upd_same, fun L0 hL0 => ?_⟩⟩⟩
      have hDL : D ≠ L0 := ne_of_none upd_same hL0
      have hLn : G2 L0 = none := by rw [upd_ne (Ne.symm hDL)] at hL0; exact hL0
      refine lc_it walk_keys (fun i G' => G' D = some (.frz od (.dK kvs)) ∧ (∀ z o, z ≠ D → G2 z = some o → G' z = some o) ∧ G' L0 = some (.lst (((prs.map (·.1)).take i).map V.str))) ⟨by rw [upd_ne hDL]; exact upd_same, fun z o hz h => by rw [upd_ne (ne_of_none h hLn), upd_ne hz]; exact h, upd_same⟩ (fun i G' _ p => p.1) ?_ ?_
      · rintro i x G1 G' hi ⟨p1, p2, p3⟩ ⟨rfl, k, v, hk, rfl⟩
        obtain ⟨p, hp, ek, _⟩ := L2.paired_get ht hk
        have ek : k = .inr p.1 := ek
        subst ek
        refine ⟨rfl, tyes (ifT rfl ⟨_, rfl, p.1, rfl, _, p3, ?_, ?_⟩)⟩
        · rw [List.length_map, List.length_take, List.length_map, sizeLine_eq]; omega
        · refine ⟨by rw [upd_ne hDL]; exact p1, fun z o hz h => by rw [upd_ne (ne_of_none h hLn)]; exact p2 z o hz h, ?_⟩
          rw [upd_same, take_succ' (x := p.1) (by rw [List.getElem?_map, hp] <;> rfl), List.map_append] <;> rfl
      · rintro G' ⟨p1, p2, p3⟩
        refine ⟨p1, ?_⟩
        have x2 : ExtH G2 (upd G' D (.dK kvs)) := fun z o h => by
          by_cases hz : z = D
          · subst hz; rw [upd_same, ← a1, h]
          · rw [upd_ne hz]; exact p2 z o hz h
        have b1 : upd G' D (.dK kvs) L0 = some (.lst ((prs.map (·.1)).map V.str)) := by
          rw [upd_ne (Ne.symm hDL), p3, List.take_of_length_le]
          rw [List.length_map, ← ht.len]; exact Nat.le_refl _
        generalize upd G' D (.dK kvs) = G3 at x2 b1
        refine ⟨L0, prs.map (·.1), rfl, SqL.of b1, by rw [List.length_map]; exact h6, fun ys SL hperm hsort nSL => ?_⟩
        refine ⟨SL, rfl, ⟨_, SqL.of upd_same⟩, ?_⟩
        have c1 : ExtH H (upd G3 SL (.lst (ys.map V.str))) := (e.trans (x1.trans x2)).trans (extH_put nSL)
        have c2 := (x1.trans x2).trans (extH_put (o := .lst (ys.map V.str)) nSL)
        have hFS : Fa ≠ SL := ne_of_none (x2 _ _ a3) nSL
        refine for_it walk_list (fun i σ G => ExtH H G ∧ G D = some (.dK kvs) ∧ TabAt K G kvs prs ∧ SqL K G SL (ys.map V.str) ∧ (∃ acc, G Fa = some (.lst acc) ∧ Paired (WayAt K G) acc (thr prs (ys.take i)) ∧ acc.length ≤ 1 + 1000 * i) ∧ ∃ v4, σ = [some (.ref s), some (.ref pl), some (.ref D), some (.ref Fa), v4, none, none])
          ⟨c1, c2 _ _ hd, ht.tx (ext_tx c2), SqL.of upd_same, ⟨_, by rw [upd_ne hFS]; exact x2 _ _ a3, ?_, ?_⟩, _, rfl⟩ (fun i σ G _ p => p.2.2.2.1) ?_ ?_
        · exact .cons ⟨e0, rfl, SqT.of (extH_put nSL _ _ (x2 _ _ a2))⟩ .nil
        · exact Nat.le_refl _
        · rintro i x σ G4 G4' hi ⟨c1, c2, c3, c4, ⟨acc, d1, d2, d3⟩, v4, rfl⟩ ⟨rfl, hx⟩
          obtain ⟨z, hz, rfl⟩ : ∃ z, ys[i]? = some z ∧ x = V.str z := by
            rw [List.getElem?_map] at hx
            cases zz : ys[i]? with
            | none => rw [zz] at hx; cases hx
            | some z => rw [zz] at hx; exact ⟨z, rfl, (Option.some.inj hx).symm⟩
          obtain ⟨⟨z', ws⟩, hzm, rfl⟩ := List.mem_map.mp (hperm.mem_iff.mp (List.mem_of_getElem? hz))
          have hlk : tabV prs z' = some ws := lookup_mem h5 hzm
          obtain ⟨v, hv, lw, wvs, rfl, w1, w2⟩ := c3.get hlk
          obtain ⟨m1, m2⟩ := h7 _ hzm
          have m1 : ws.length ≤ 1000 := m1
          refine ⟨_, rfl, .inl ⟨rfl, _, SqL.of d1⟩, ?_⟩
          refine ⟨_, rfl, _, rfl, D, _, rfl, by rw [← hv]; exact DGet.k (k := .inr z') c2, lw, rfl, ⟨_, w1⟩, fun L1 hL1 => ?_⟩
          refine lc_it walk_tup (fun j G5 => ExtH G4' G5 ∧ ∃ acc2, G5 L1 = some (.lst acc2) ∧ Paired (WayAt K G5) acc2 ((ws.take j).map (z' :: ·))) ⟨extH_put hL1, [], upd_same, .nil⟩ (fun j G5 _ p => sqT_extH p.1 w1) ?_ ?_
          · rintro j y G5 G5' hj ⟨f1, acc2, f2, f3⟩ ⟨rfl, hy⟩
            obtain ⟨wy, hwy, t, rfl, t1⟩ := L2.paired_get w2 hy
            have m3 := m2 wy (List.mem_of_getElem? hwy)
            refine ⟨rfl, tyes (ifT rfl ⟨_, rfl, _, rfl, t, _, rfl, .inl (sqT_extH f1 t1), ?_, fun p np => ⟨acc2, ?_, ?_, ?_⟩⟩)⟩
            · rw [sizeLine_eq, List.length_cons, List.length_append, List.length_map]
              show wy.length + 0 + 1 ≤ _
              omega
            · rw [upd_ne (ne_of_none f2 np)]; exact f2
            · have := Paired.length f3
              rw [List.length_map, List.length_take] at this
              rw [sizeLine_eq]; omega
            · have n1 : G5' p = none := np
              have hLp : L1 ≠ p := ne_of_none f2 n1
              have g1 : Tx G5' (upd (upd G5' p (.tup (.str z' :: (wy.map V.str ++ [])))) L1 (.lst (acc2 ++ [.ref p]))) := (ext_tx (extH_put n1)).trans (tx_upd (by rw [upd_ne hLp]; exact f2) rfl)
              refine ⟨extH_upd (f1.trans (extH_put n1)) hL1, _, upd_same, ?_⟩
              rw [take_succ' hwy, List.map_append]
              refine Paired.snoc (Paired.mapP f3 fun _ _ h => h.tx g1) ⟨p, rfl, SqT.of ?_⟩
              rw [upd_ne (Ne.symm hLp), upd_same, List.append_nil] <;> rfl
          · rintro G5 ⟨f1, acc2, f2, f3⟩
            have lw2 : wvs.length = ws.length := Paired.length w2
            rw [lw2, List.take_length] at f3
            have l3 := Paired.length f3
            rw [List.length_map] at l3
            have hF5 := f1 _ _ d1
            have hi' : i < 64 := by
              have := hperm.length_eq
              rw [List.length_map] at this hi
              omega
            refine ⟨Fa, L1, acc, acc2, rfl, rfl, hF5, f2, by rw [sizeLine_eq]; omega, ?_⟩
            have g2 : Tx G5 (upd G5 Fa (.lst (acc ++ acc2))) := tx_upd hF5 rfl
            have g3 := (ext_tx f1).trans g2
            have hSF : SL ≠ Fa := Ne.symm hFS
            refine ⟨extH_upd (c1.trans f1) F0, by rw [upd_ne hDF]; exact f1 _ _ c2, c3.tx g3, ?_, ⟨_, upd_same, ?_, ?_⟩, _, rfl⟩
            · exact sqL_upd hSF (sqL_extH f1 c4)
            · rw [take_succ' hz]
              have : thr prs (ys.take i ++ [z']) = thr prs (ys.take i) ++ ws.map (z' :: ·) := by
                unfold thr
                rw [List.flatMap_append, List.cons_append, List.flatMap_cons, List.flatMap_nil, List.append_nil]
                have : innerOf prs z' = ws := by
                  unfold innerOf
                  rw [show prs.lookup z' = some ws from hlk] <;> rfl
                rw [this]
              rw [this]
              exact paired_append (Paired.mapP d2 fun _ _ h => h.tx g3) (Paired.mapP f3 fun _ _ h => h.tx g2)
            · rw [List.length_append]; omega
        · rintro σ G4 ⟨c1, c2, c3, c4, ⟨acc, d1, d2, d3⟩, v4, rfl⟩
          rw [List.length_map, List.take_length] at d2
          refine ⟨_, rfl, Fa, acc, rfl, .inl ⟨SqL.of d1, fun l nl => ?_⟩⟩
          exact q _ _ ys (c1.trans (extH_put nl)) hperm hsort ⟨l, acc, rfl, SqT.of upd_same, Paired.mapP d2 fun _ _ h => h.tx (ext_tx (extH_put nl))⟩
end
end R9H
set_option Elab.async false
set_option linter.all false
set_option maxRecDepth 100000
set_option maxHeartbeats 4000000
/-! k06, part L: declare_shape -/
namespace R9H
open PySem PySem.Spec PyProof.Rows L2
theorem paired_mem {α β : Type} {F : α → β → Prop} : ∀ {l₁ : List α} {l₂ : List β}, Paired F l₁ l₂ → ∀ a ∈ l₁, ∃ b ∈ l₂, F a b
  | _, _, .cons r t, a, h => by
    rcases List.mem_cons.mp h with rfl | h
    · exact ⟨_, List.mem_cons_self, r⟩
    · obtain ⟨b, hb, q⟩ := paired_mem t a h
      exact ⟨b, List.mem_cons_of_mem _ hb, q⟩
theorem paired_of {α β : Type} {F : α → β → Prop} : ∀ {l₁ : List α} {l₂ : List β}, l₁.length = l₂.length → (∀ (i : Nat) a b, l₁[i]? = some a → l₂[i]? = some b → F a b) → Paired F l₁ l₂
  | [], [], _, _ => .nil
  | [], _ :: _, h, _ => by cases h
  | _ :: _, [], h, _ => by cases h
  | a :: l₁, b :: l₂, h, f => .cons (f 0 a b rfl rfl) (paired_of (Nat.succ.inj h) fun i x y hx hy => f (i + 1) x y hx hy)
def flat2 : List (Str × Str) → List Str
  | [] => []
  | p :: r => p.1 :: p.2 :: flat2 r
theorem pick2 {α : Type} (f : Str → α) (a b : α) {ps : List (Str × Str)} (h : ps.length ≤ 4) : pickV (a :: b :: (flat2 ps).map f) (some 2) none (some 2) = (ps.map (·.1)).map f ∧ pickV (a :: b :: (flat2 ps).map f) (some 3) none (some 2) = (ps.map (·.2)).map f := by
  have i0 : pickIx 2 (some 2) none (some 2) = [] ∧ pickIx 2 (some 3) none (some 2) = [] := by decide +kernel
  have i1 : pickIx 4 (some 2) none (some 2) = [2] ∧ pickIx 4 (some 3) none (some 2) = [3] := by decide +kernel
  have i2 : pickIx 6 (some 2) none (some 2) = [2, 4] ∧ pickIx 6 (some 3) none (some 2) = [3, 5] := by decide +kernel
  have i3 : pickIx 8 (some 2) none (some 2) = [2, 4, 6] ∧ pickIx 8 (some 3) none (some 2) = [3, 5, 7] := by decide +kernel
  have i4 : pickIx 10 (some 2) none (some 2) = [2, 4, 6, 8] ∧ pickIx 10 (some 3) none (some 2) = [3, 5, 7, 9] := by decide +kernel
  have key : ∀ {xs : List α} {n : Nat} {lo : Int} {is : List Nat} {ys : List α}, xs.length = n → pickIx n (some lo) none (some 2) = is → is.filterMap (xs[·]?) = ys → pickV xs (some lo) none (some 2) = ys := fun e1 e2 e3 => by
    unfold pickV
    rw [e1, e2, e3]
  match ps, h with
  | [], _ => exact ⟨key rfl i0.1 rfl, key rfl i0.2 rfl⟩
  | [_], _ => exact ⟨key rfl i1.1 rfl, key rfl i1.2 rfl⟩
  | [_, _], _ => exact ⟨key rfl i2.1 rfl, key rfl i2.2 rfl⟩
  | [_, _, _], _ => exact ⟨key rfl i3.1 rfl, key rfl i3.2 rfl⟩
  | [_, _, _, _], _ => exact ⟨key rfl i4.1 rfl, key rfl i4.2 rfl⟩
  | _ :: _ :: _ :: _ :: _ :: _, h => simp at h
def Parts (tb : Tab) : List (Str × Str) → Tab → Prop := Paired fun (p : Str × Str) (q : Str × List (List Str)) => q.1 = p.1 ∧ tabV tb p.2 = some q.2
theorem parts_names {tb : Tab} {ps : List (Str × Str)} {prs : Tab} (h : Parts tb ps prs) : prs.map (·.1) = ps.map (·.1) := by
  unfold Parts at h
  induction h with
  | nil => rfl
  | cons r t ih => rw [List.map_cons, List.map_cons, ih, r.1]
/-- what a declared shape brings -/
def FldAt (K : PySem.W.Frag) (ps : List (Str × Str)) (H : Hp) (v : V) : Prop := ∃ (t : Addr) (ts : List Addr), v = .ref t ∧ SqT K H t (ts.map V.ref) ∧ Paired (fun t (p : Str × Str) => SqT K H t [.str p.1, .str p.2]) ts ps
theorem FldAt.tx {K : PySem.W.Frag} {ps : List (Str × Str)} {H G : Hp} {v : V} (h : FldAt K ps H v) (e : Tx H G) : FldAt K ps G v :=
  let ⟨t, ts, a, b, c⟩ := h; ⟨t, ts, a, e.sqT b, Paired.mapP c fun _ _ h => e.sqT h⟩
def Decl (K : PySem.W.Frag) (f r : Addr) (fs rs : List (Key × V)) (x : Str) (prs : Tab) (FV : Hp → V → Prop) (H H' : Hp) : Prop := ∃ G fv v steps, ExtH H G ∧ FV G fv ∧ H' = upd (upd G f (.dK (putK fs (.inr x) fv))) r (.dK (putK rs (.inr x) v)) ∧ steps.Perm (prs.map (·.1)) ∧ sortedS steps = true ∧ WaysAt K G v (thr prs steps)
def spShape (K : PySem.W.Frag) : Sp := fun vs H Q _ => ∃ (s wl dS f c r : Addr) (fs rs : List (Key × V)) (tb prs : Tab) (x : Str) (ps : List (Str × Str)), vs = [.ref s, .ref wl] ∧ H s = some (.ins (ga K "Shapes") dS (shF f c r)) ∧ H f = some (.dK fs) ∧ H r = some (.dK rs) ∧ f ≠ r ∧ TabAt K H rs tb ∧
  H wl = some (.lst ((("shape" : Str) :: x :: flat2 ps).map V.str)) ∧ goodName x ∧ tabV tb x = none ∧ tb.length < 8 ∧ fs.length ≤ 100 ∧ ps.length ≤ 4 ∧ (∀ p ∈ ps, goodName p.1) ∧ (ps.map (·.1)).Nodup ∧ Parts tb ps prs ∧ (∀ p ∈ prs, p.2.length ≤ 1000 ∧ ∀ y ∈ p.2, y.length ≤ 1000) ∧
  (∀ steps, steps.Perm (prs.map (·.1)) → (thr prs steps).length ≤ 16) ∧ ∀ H', Decl K f r fs rs x prs (FldAt K ps) H H' → Q (.bl true) H'
abbrev sShape : Stmt := top 47
theorem sc_shape : FnScope ["shapes", "words", "names", "kinds", "ways", "kind"] ["shapes", "words"] (defScope sShape) := ⟨rfl, rfl, rfl, by decide +kernel, rfl, by decide +kernel, by decide +kernel⟩
section
variable {w : World} {K : PySem.W.Frag} {mg : Str → Option Value} {base : Heap}
theorem lookF {f c r : Addr} : (shF f c r).lookup ("fields" : Str) = some (V.ref f) := by unfold shF; rfl
theorem lookC {f c r : Addr} : (shF f c r).lookup ("contents" : Str) = some (V.ref c) := by unfold shF; rfl
theorem ok_shape (T : T6 K mg) : Has w K mg base 3 "declare_shape" ["shapes", "words"] (spShape K) := by
  obtain ⟨fd, F⟩ := T.fn 35
  have HF : Has w K mg base 2 "is_fresh" ["shapes", "name"] (spFresh K) := ok_fresh T
  have HA : Has w K mg base 2 "are_names" ["words"] (spNames K) := ok_names T
  have HW : Has w K mg base 1 "ways_through" ["shapes", "pairs"] (spWays K) := ok_ways T
  have gn := T.free "len" (by decide +kernel)
  have gz := T.free "zip" (by decide +kernel)
  have gl := T.free "list" (by decide +kernel)
  have gt := T.free "tuple" (by decide +kernel)
  obtain ⟨t1, g1⟩ := T.int "MOST_FIELDS" 4 (by decide +kernel)
  obtain ⟨t2, g2⟩ := T.int "MOST_WAYS" 16 (by decide +kernel)
  have hC := T.cls "Shapes" (by decide +kernel)
  have hAr := T.noat "Shapes" "routes" (by decide +kernel)
  have hAf := T.noat "Shapes" "fields" (by decide +kernel)
  refine has_of (st := sShape) T F (by decide +kernel) (F.ok sc_shape (fun vs H Q E h => ?_) (fun cdv A outer s H vs Q E hr h => ⟨_, PSs.nox (
    (pss_cons (ps_par (i := 2) (j := 3) (by rfl) sc_shape.nd rfl rfl (by decide) rfl rfl (pa_cons (pe_slice3 (pv 1) (po_some pe_int) po_none (po_some pe_int)) (pa_cons (pe_slice3 (pv 1) (po_some pe_int) po_none (po_some pe_int)) pa_nil)) (by rfl))
      (pss_cons (ps_if (PW.pt (pw_or (pt_cmpR op_lt (pe_callB call_len_seq rfl gn PySem.boot_len (pa_cons (pv 1) pa_nil)) pe_int (nomark _)) (pw_or (pt_cmpR op_ne (pe_callB call_len_seq rfl gn PySem.boot_len (pa_cons (pv 2) pa_nil)) (pe_callB call_len_seq rfl gn PySem.boot_len (pa_cons (pv 3) pa_nil)) (nomark _))
        (pw_or (pt_cmpR op_gt (pe_callB call_len_seq rfl gn PySem.boot_len (pa_cons (pv 2) pa_nil)) (pe_gi rfl g1) (nomark _)) (pw_or1 (pt_not (pt_val (pe_has HF rfl (hr.mono (by decide)) rfl (pa_cons (pv 0) (pa_cons (pe_ix ix_list (pv 1) pe_int (fun _ _ => rfl)) pa_nil))))))))))
      pss_no pss_nil)
      (pss_cons (ps_if (PW.pt (pw_or (pt_not (pt_val (pe_has HA rfl (hr.mono (by decide)) rfl (pa_cons (pv 2) pa_nil)))) (pw_or1 (pt_cmpR (op_neD hr.units) (pe_lc (own := [("kind", 5)]) (g := gName 5) (by rfl) sc_shape.nd (pi_list (pv 3)) (blkOk_by (own := [("kind", 5)]) (N := ["shapes", "words", "names", "kinds", "ways", "kind"]) (sc := defScope sShape) (by decide +kernel))
        (fun _ _ _ _ _ => pg_name (i := 5) sc_shape.nd rfl (Or.inl rfl)) (fun _ _ _ _ _ => pts_one (pt_cmp (pc_dnotin hr.u1 (pv 5) (pe_fldB (K := K) (pv 0))))) (fun _ _ _ _ _ => pv 5)) (pe_lst pa_nil) (nomark _)))))
      pss_no pss_nil)
      (pss_cons (ps_set (i := 4) sc_shape.nd rfl (Or.inl rfl) (pe_has HW rfl (hr.mono (by decide)) rfl (pa_cons (pv 0) (pa_cons (pe_lstZip (by rfl) rfl gz rfl gl (pa_cons (pv 2) (pa_cons (pv 3) pa_nil))) pa_nil))))
      (pss_cons (ps_if (pt_cmpR op_gt (pe_callB call_len_seq rfl gn PySem.boot_len (pa_cons (pv 4) pa_nil)) (pe_gi rfl g2) (nomark _)) pss_no pss_nil)
      (pss_cons (ps_dput hr.u1 (pe_fld (pv 0) rfl) (pe_ix ix_list (pv 1) pe_int (fun _ _ => rfl)) (pe_tupZip (by rfl) rfl gz rfl gt (pa_cons (pv 2) (pa_cons (pv 3) pa_nil))) rfl)
      (pss_cons (ps_dput hr.u1 (pe_fld (pv 0) rfl) (pe_ix ix_list (pv 1) pe_int (fun _ _ => rfl)) (pv 4) rfl)
      (pss_one (ps_ret pe_bl)))))))))), ?_⟩)) fun _ _ _ _ _ _ us hl => match us, hl with | [_, _], _ => rfl
  · obtain ⟨s, wl, dS, f, c, r, fs, rs, tb, prs, x, ps, rfl, _⟩ := h
    rfl
  · obtain ⟨sh, wl, dS, f, c, r, fs, rs, tb, prs, x, ps, rfl, h1, h2, h3, hfr, h4, h5, h6, h7, h8, h9, h10, h11, h12, h13, h14, h15, q⟩ := h
    clear F
    have e1 : pickV ((("shape" : Str) :: x :: flat2 ps).map V.str) (some 2) none (some 2) = (ps.map (·.1)).map V.str := (pick2 V.str (V.str "shape") (V.str x) h10).1
    have e2 : pickV ((("shape" : Str) :: x :: flat2 ps).map V.str) (some 3) none (some 2) = (ps.map (·.2)).map V.str := (pick2 V.str (V.str "shape") (V.str x) h10).2
    have lnm : ((ps.map (·.1)).map V.str).length ≤ sizeLine := by rw [List.length_map, List.length_map, sizeLine_eq]; omega
    have lkd : ((ps.map (·.2)).map V.str).length ≤ sizeLine := by rw [List.length_map, List.length_map, sizeLine_eq]; omega
    refine ⟨_, rfl, 2, rfl, 2, rfl, wl, _, rfl, SqL.of h5, by decide, by rw [e1]; exact lnm, fun p1 np1 => ?_⟩
    rw [e1]
    have x1 : ExtH H (upd H p1 (.lst ((ps.map (·.1)).map V.str))) := extH_put np1
    refine ⟨_, rfl, 3, rfl, 2, rfl, wl, _, rfl, SqL.of (x1 _ _ h5), by decide, by rw [e2]; exact lkd, fun p2 np2 => ?_⟩
    rw [e2]
    have x2 := x1.trans (extH_put (o := .lst ((ps.map (·.2)).map V.str)) np2)
    have n1 : upd (upd H p1 (.lst ((ps.map (·.1)).map V.str))) p2 (.lst ((ps.map (·.2)).map V.str)) p1 = some (.lst ((ps.map (·.1)).map V.str)) := extH_put np2 _ _ upd_same
    have n2 : upd (upd H p1 (.lst ((ps.map (·.1)).map V.str))) p2 (.lst ((ps.map (·.2)).map V.str)) p2 = some (.lst ((ps.map (·.2)).map V.str)) := upd_same
    generalize upd (upd H p1 (.lst ((ps.map (·.1)).map V.str))) p2 (.lst ((ps.map (·.2)).map V.str)) = G at x2 n1 n2 ⊢
    refine ⟨_, _, rfl, ?_⟩
    have i1 : atI ((("shape" : Str) :: x :: flat2 ps).map V.str) 1 = some (V.str x) := atI_nat (j := 1) rfl
    refine ⟨_, rfl, wl, _, rfl, .inl (SqL.of (x2 _ _ h5)), _, _, rfl, rfl, _, rfl, ifF (decide_eq_false (by simp only [List.length_map, List.length_cons]; omega)) ?_⟩
    refine ⟨_, rfl, p1, _, rfl, .inl (SqL.of n1), _, rfl, p2, _, rfl, .inl (SqL.of n2), rfl, _, rfl, ifF (by simp only [List.length_map, decide_true, Bool.not_true]) ?_⟩
    refine ⟨_, rfl, p1, _, rfl, .inl (SqL.of n1), _, _, rfl, rfl, _, rfl, ifF (decide_eq_false (by simp only [List.length_map]; omega)) ?_⟩
    refine ⟨_, rfl, _, rfl, wl, _, 1, _, rfl, rfl, SqL.of (x2 _ _ h5), i1, sh, dS, f, c, r, rs, x, rfl, x2 _ _ h1, x2 _ _ h3, h4.non h7, by rw [h4.len]; exact h8, h6, true, rfl, ?_⟩
    refine ⟨_, rfl, p1, ps.map (·.1), rfl, SqL.of n1, by rw [List.length_map]; omega, ?_, h12, fun G3 x3 => ⟨true, rfl, ?_⟩⟩
    · intro y hy
      obtain ⟨p, hp, rfl⟩ := List.mem_map.mp hy
      exact h11 p hp
    refine ⟨_, rfl, p2, rfl, ⟨_, SqL.of (x3 _ _ n2)⟩, fun D hD => ?_⟩
    refine lc_pure (xs := (ps.map (·.2)).map V.str) (fun _ => false) id (SqL.of (x3 _ _ n2)) hD (by simp only [List.length_map]; omega) (fun _ => rfl) ?_ (fun _ _ hh => by cases hh) ?_
    · intro y hy G4 Q' x4 q'
      obtain ⟨y', hy', rfl⟩ := List.mem_map.mp hy
      obtain ⟨p, hp, rfl⟩ := List.mem_map.mp hy'
      obtain ⟨b, hb, _, hb2⟩ := paired_mem h13 p hp
      obtain ⟨u, hu, _⟩ := h4.get hb2
      have xx := x2.trans (x3.trans x4)
      exact ⟨_, rfl, _, rfl, _, _, _, _, _, rfl, xx _ _ h1, hC, hAr, lookR, r, _, rfl, DGet.k (k := .inr p.2) (xx _ _ h3), false, by rw [hu] <;> rfl, q'⟩
    intro G4 x4 hG4
    rw [List.filter_eq_nil_iff.mpr (fun _ _ => Bool.false_ne_true)] at hG4
    refine ⟨Nat.zero_le _, fun p0 np0 => ⟨.list [], .list [], .lst (xs := []) (SqL.of ?_) .nil, .lst (xs := []) (SqL.of upd_same) .nil, rfl, rfl, _, rfl, ifF rfl ?_⟩⟩
    · exact extH_put np0 _ _ hG4
    have x5 : ExtH G (upd G4 p0 (.lst [])) := (x3.trans x4).trans (extH_put np0)
    generalize upd G4 p0 (.lst []) = G5 at x5 ⊢
    have y5 := x2.trans x5
    have lmin : min ((ps.map (·.1)).map V.str).length ((ps.map (·.2)).map V.str).length = ps.length := by simp only [List.length_map, Nat.min_self]
    have lpp : ps.length = prs.length := Paired.length h13
    have l16 : ps.length ≤ sizeLine := by rw [sizeLine_eq]; omega
    refine ⟨_, rfl, _, rfl, _, rfl, p1, p2, _, _, rfl, SqL.of (x5 _ _ n1), SqL.of (x5 _ _ n2), by rw [lmin]; exact l16, fun pz G6 ts x6 npz hts hprs hpz => ?_⟩
    have y6 := y5.trans x6
    rw [lmin] at hts
    have hpair : Paired (PairAt K rs G6) (ts.map V.ref) prs := by
      refine paired_of (by rw [List.length_map, hts, lpp]) fun i a b ha hb => ?_
      rw [List.getElem?_map] at ha
      cases ht : ts[i]? with
      | none => rw [ht] at ha; cases ha
      | some t =>
        rw [ht] at ha
        cases ha
        obtain ⟨u1, u2, g1, g2, g3⟩ := hprs i t ht
        have hi : i < ps.length := by
          rw [lpp]; exact (List.getElem?_eq_some_iff.mp hb).1
        obtain ⟨b', hb', r1, r2⟩ := L2.paired_get h13 (List.getElem?_eq_getElem hi)
        cases hb.symm.trans hb'
        rw [List.getElem?_map, List.getElem?_map, List.getElem?_eq_getElem hi] at g1 g2
        cases g1
        cases g2
        obtain ⟨u, hu, hw⟩ := h4.get r2
        exact ⟨t, _, u, rfl, by rw [r1]; exact SqT.of g3, hu, hw.tx (ext_tx y6)⟩
    refine ⟨sh, pz, dS, f, c, r, rs, prs, _, rfl, y6 _ _ h1, y6 _ _ h3, SqL.of hpz, hpair, by rw [parts_names h13]; exact h12, by omega, h14, fun G7 v steps x7 hperm hsort hw => ?_⟩
    have y7 := y6.trans x7
    have z7 := x5.trans (x6.trans x7)
    obtain ⟨lw, wvs, rfl, w1, w2⟩ := hw
    have l17 := h15 steps hperm
    rw [← Paired.length w2] at l17
    refine ⟨_, rfl, lw, _, rfl, .inr w1, _, _, rfl, rfl, _, rfl, ifF (decide_eq_false (by omega)) ?_⟩
    refine ⟨_, rfl, _, rfl, p1, p2, _, _, rfl, SqL.of (z7 _ _ n1), SqL.of (z7 _ _ n2), by rw [lmin]; exact l16, fun pt G8 ts8 x8 npt l8 hpr8 hpt => ?_⟩
    have y8 := y7.trans x8
    refine ⟨_, rfl, _, _, _, _, _, rfl, y8 _ _ h1, hC, hAf, lookF, _, rfl, wl, _, 1, _, rfl, rfl, SqL.of (y8 _ _ h5), i1, f, _, rfl, DPut.k (k := .inr x) (y8 _ _ h2) (by rw [sizeLine_eq]; omega), ?_⟩
    have hsf : sh ≠ f := fun e => by rw [e, h2] at h1; cases h1
    have hwf : wl ≠ f := fun e => by rw [e, h2] at h5; cases h5
    refine ⟨_, rfl, _, rfl, _, _, _, _, _, rfl, by rw [upd_ne hsf]; exact y8 _ _ h1, hC, hAr, lookR, _, rfl, wl, _, 1, _, rfl, rfl, SqL.of (by rw [upd_ne hwf]; exact y8 _ _ h5), i1, r, _, rfl, DPut.k (k := .inr x) (by rw [upd_ne (Ne.symm hfr)]; exact y8 _ _ h3) (by rw [h4.len, sizeLine_eq]; omega), ?_⟩
    have hfv : FldAt K ps G8 (.ref pt) := by
      rw [lmin] at l8
      refine ⟨pt, ts8, rfl, SqT.of hpt, paired_of l8 fun i t p ht hp => ?_⟩
      obtain ⟨u1, u2, g1, g2, g3⟩ := hpr8 i t ht
      rw [List.getElem?_map, List.getElem?_map, hp] at g1 g2
      cases g1
      cases g2
      exact SqT.of g3
    exact q _ ⟨G8, .ref pt, _, steps, y8, hfv, rfl, hperm, hsort, lw, wvs, rfl, sqT_extH x8 w1, Paired.mapP w2 fun _ _ h => h.tx (ext_tx x8)⟩
end
end R9H
set_option Elab.async false
set_option linter.all false
set_option maxRecDepth 100000
set_option maxHeartbeats 4000000
/-! k06, part M: declare_bag -/
namespace R9H
open PySem PySem.Spec PyProof.Rows L2
def spBag (K : PySem.W.Frag) : Sp := fun vs H Q _ => ∃ (s wl dS f c r : Addr) (cs rs : List (Key × V)) (tb : Tab) (x y : Str) (ws : List (List Str)), vs = [.ref s, .ref wl] ∧ H s = some (.ins (ga K "Shapes") dS (shF f c r)) ∧ H c = some (.dK cs) ∧ H r = some (.dK rs) ∧ c ≠ r ∧ TabAt K H rs tb ∧
  H wl = some (.lst [.str "bag", .str x, .str y]) ∧ goodName x ∧ tabV tb x = none ∧ tb.length < 8 ∧ cs.length ≤ 100 ∧ tabV tb y = some ws ∧ (ws.length ≤ 15 ∧ ∀ y ∈ ws, y.length ≤ 1000) ∧ ∀ H', Decl K c r cs rs x [("*", ws)] (fun _ v => v = .str y) H H' → Q (.bl true) H'
abbrev sBag : Stmt := top 48
theorem sc_bag : FnScope ["shapes", "words", "ways"] ["shapes", "words"] (defScope sBag) := ⟨rfl, rfl, rfl, by decide +kernel, rfl, by decide +kernel, by decide +kernel⟩
section
variable {w : World} {K : PySem.W.Frag} {mg : Str → Option Value} {base : Heap}
theorem ok_bag (T : T6 K mg) : Has w K mg base 3 "declare_bag" ["shapes", "words"] (spBag K) := by
  obtain ⟨fd, F⟩ := T.fn 36
  have HF : Has w K mg base 2 "is_fresh" ["shapes", "name"] (spFresh K) := ok_fresh T
  have HW : Has w K mg base 1 "ways_through" ["shapes", "pairs"] (spWays K) := ok_ways T
  have gn := T.free "len" (by decide +kernel)
  obtain ⟨t1, g1⟩ := T.str "ITEM" "*" (by decide +kernel)
  obtain ⟨t2, g2⟩ := T.int "MOST_WAYS" 16 (by decide +kernel)
  have hC := T.cls "Shapes" (by decide +kernel)
  have hAr := T.noat "Shapes" "routes" (by decide +kernel)
  have hAc := T.noat "Shapes" "contents" (by decide +kernel)
  refine has_of (st := sBag) T F (by decide +kernel) (F.ok sc_bag (fun vs H Q E h => ?_) (fun cdv A outer s H vs Q E hr h => ⟨_, PSs.nox (
    (pss_cons (ps_if (PW.pt (pw_or (pt_cmpR op_ne (pe_callB call_len_seq rfl gn PySem.boot_len (pa_cons (pv 1) pa_nil)) pe_int (nomark _)) (pw_or (pt_not (pt_val (pe_has HF rfl (hr.mono (by decide)) rfl (pa_cons (pv 0) (pa_cons (pe_ix ix_list (pv 1) pe_int (fun _ _ => rfl)) pa_nil)))))
        (pw_or1 (pt_cmp (pc_dnotin hr.u1 (pe_ix ix_list (pv 1) pe_int (fun _ _ => rfl)) (pe_fld (pv 0) rfl)))))))
      pss_no pss_nil)
      (pss_cons (ps_set (i := 2) sc_bag.nd rfl (Or.inl rfl) (pe_has HW rfl (hr.mono (by decide)) rfl (pa_cons (pv 0) (pa_cons (pe_lst (pa_cons (pe_tup (pa_cons (pe_gs rfl g1) (pa_cons (pe_ix ix_list (pv 1) pe_int (fun _ _ => rfl)) pa_nil))) pa_nil)) pa_nil))))
      (pss_cons (ps_if (pt_cmpR op_gt (pe_callB call_len_seq rfl gn PySem.boot_len (pa_cons (pv 2) pa_nil)) (pe_gi rfl g2) (nomark _)) pss_no pss_nil)
      (pss_cons (ps_dput hr.u1 (pe_fld (pv 0) rfl) (pe_ix ix_list (pv 1) pe_int (fun _ _ => rfl)) (pe_ix ix_list (pv 1) pe_int (fun _ _ => rfl)) rfl)
      (pss_cons (ps_dput hr.u1 (pe_fld (pv 0) rfl) (pe_ix ix_list (pv 1) pe_int (fun _ _ => rfl)) (pv 2) rfl)
      (pss_one (ps_ret pe_bl)))))))), ?_⟩)) fun _ _ _ _ _ _ us hl => match us, hl with | [_, _], _ => rfl
  · obtain ⟨s, wl, dS, f, c, r, cs, rs, tb, x, y, ws, rfl, _⟩ := h
    rfl
  · obtain ⟨sh, wl, dS, f, c, r, cs, rs, tb, x, y, ws, rfl, h1, h2, h3, hcr, h4, h5, h6, h7, h8, h9, h10, ⟨h11, h12⟩, q⟩ := h
    clear F
    have i1 : atI [V.str "bag", V.str x, V.str y] 1 = some (V.str x) := atI_nat (j := 1) rfl
    have i2 : atI [V.str "bag", V.str x, V.str y] 2 = some (V.str y) := atI_nat (j := 2) rfl
    obtain ⟨u, hu, hw0⟩ := h4.get h10
    refine ⟨_, rfl, wl, _, rfl, .inl (SqL.of h5), rfl, _, rfl, ifF rfl ?_⟩
    refine ⟨_, rfl, _, rfl, wl, _, 1, _, rfl, rfl, SqL.of h5, i1, sh, dS, f, c, r, rs, x, rfl, h1, h3, h4.non h7, by rw [h4.len]; exact h8, h6, true, rfl, ?_⟩
    refine ⟨_, rfl, wl, _, 2, _, rfl, rfl, SqL.of h5, i2, _, rfl, _, _, _, _, _, rfl, h1, hC, hAr, lookR, r, _, rfl, DGet.k (k := .inr y) h3, false, by rw [hu] <;> rfl, ?_⟩
    refine ⟨_, rfl, _, rfl, wl, _, 2, _, rfl, rfl, SqL.of h5, i2, by rw [sizeLine_eq]; show 2 ≤ 16777216; decide, fun p0 np0 => ⟨by rw [sizeLine_eq]; show 1 ≤ 16777216; decide, fun pl npl => ?_⟩⟩
    have x2 : ExtH H (upd (upd H p0 (.tup [.str "*", .str y])) pl (.lst [.ref p0])) := (extH_put np0).trans (extH_put npl)
    have n1 : upd (upd H p0 (.tup [.str "*", .str y])) pl (.lst [.ref p0]) p0 = some (.tup [.str "*", .str y]) := extH_put npl _ _ upd_same
    have n2 : upd (upd H p0 (.tup [.str "*", .str y])) pl (.lst [.ref p0]) pl = some (.lst [.ref p0]) := upd_same
    generalize upd (upd H p0 (.tup [.str "*", .str y])) pl (.lst [.ref p0]) = G at x2 n1 n2 ⊢
    refine ⟨sh, pl, dS, f, c, r, rs, [("*", ws)], [.ref p0], rfl, x2 _ _ h1, x2 _ _ h3, SqL.of n2, .cons ⟨p0, y, u, rfl, SqT.of n1, hu, hw0.tx (ext_tx x2)⟩ .nil, by simp, by show 1 < 64; decide, ?_, fun G7 v steps x7 hperm hsort hw => ?_⟩
    · intro p hp
      cases List.mem_singleton.mp hp
      exact ⟨by show ws.length ≤ 1000; omega, h12⟩
    have y8 := x2.trans x7
    obtain ⟨lw, wvs, rfl, w1, w2⟩ := hw
    have hst : steps = [("*" : Str)] := List.perm_singleton.mp hperm
    have l17 : wvs.length ≤ 16 := by
      rw [Paired.length w2, hst]
      show (List.flatMap _ _).length + 1 ≤ 16
      rw [List.flatMap_cons, List.flatMap_nil, List.append_nil, List.length_map]
      show ws.length + 1 ≤ 16
      omega
    refine ⟨_, rfl, lw, _, rfl, .inr w1, _, _, rfl, rfl, _, rfl, ifF (decide_eq_false (by omega)) ?_⟩
    have hsc : sh ≠ c := fun e => by rw [e, h2] at h1; cases h1
    have hwc : wl ≠ c := fun e => by rw [e, h2] at h5; cases h5
    refine ⟨_, rfl, wl, _, 2, _, rfl, rfl, SqL.of (y8 _ _ h5), i2, _, rfl, _, _, _, _, _, rfl, y8 _ _ h1, hC, hAc, lookC, _, rfl, wl, _, 1, _, rfl, rfl, SqL.of (y8 _ _ h5), i1, c, _, rfl, DPut.k (k := .inr x) (y8 _ _ h2) (by rw [sizeLine_eq]; omega), ?_⟩
    refine ⟨_, rfl, _, rfl, _, _, _, _, _, rfl, by rw [upd_ne hsc]; exact y8 _ _ h1, hC, hAr, lookR, _, rfl, wl, _, 1, _, rfl, rfl, SqL.of (by rw [upd_ne hwc]; exact y8 _ _ h5), i1, r, _, rfl, DPut.k (k := .inr x) (by rw [upd_ne (Ne.symm hcr)]; exact y8 _ _ h3) (by rw [h4.len, sizeLine_eq]; omega), ?_⟩
    exact q _ ⟨G7, .str y, _, steps, y8, rfl, rfl, hperm, hsort, lw, wvs, rfl, w1, w2⟩
end
end R9H
set_option Elab.async false
set_option linter.all false
set_option maxRecDepth 100000
set_option maxHeartbeats 4000000
/-! k06, part N: the fields of a reading; what stays; read_end, read_bare -/
namespace R9H
open PySem PySem.Spec PyProof.Rows L2
def ads (a : RA) : List Addr := [a.rd, a.sh, a.f, a.c, a.r, a.due, a.gives, a.heads, a.params, a.names, a.kinds, a.rows, a.owners, a.partners, a.ors, a.eithers, a.evers, a.callees, a.rooms_of, a.makings, a.rooms, a.blocks]
theorem ads_eq (K : PySem.W.Frag) (a : RA) (d : RD) : adr (led K a d) = ads a := rfl
structure Rg (K : PySem.W.Frag) (a : RA) (d : RD) (H : Hp) : Prop where
  holds : Holds H (led K a d)
  nd : (ads a).Nodup
/-- what stands elsewhere stays -/
def Kp (a : RA) (H G : Hp) : Prop := ∀ b o, b ∉ ads a → H b = some o → G b = some o
section
variable {K : PySem.W.Frag} {a : RA} {d d' : RD} {H G F : Hp} {mg : Str → Option Value}
theorem Kp.refl : Kp a H H := fun _ _ _ h => h
theorem Kp.trans (x : Kp a H G) (y : Kp a G F) : Kp a H F := fun b o n h => y b o n (x b o n h)
theorem ext_kp (x : ExtH H G) : Kp a H G := fun b o _ h => x b o h
theorem kp_upd {x : Addr} {o : HO} (h : x ∈ ads a) : Kp a G (upd G x o) := fun b u n e => by
  rw [upd_ne (fun z => n (by rw [z]; exact h))]
  exact e
theorem Rg.ext (h : Rg K a d H) (e : ExtH H G) : Rg K a d G := ⟨fun i b o hi => e _ _ (h.holds i b o hi), h.nd⟩
theorem Rg.up (h : Rg K a d H) (i : Nat) {x : Addr} {o : HO} (o' : HO) (e : (led K a d)[i]? = some (x, o) := by rfl) (e' : (led K a d).set i (x, o') = led K a d' := by rfl) : Rg K a d' (upd H x o') :=
  ⟨e' ▸ h.holds.set (by rw [ads_eq]; exact h.nd) e, h.nd⟩
theorem Rg.at_ (h : Rg K a d H) (i : Nat) {x : Addr} {o : HO} (e : (led K a d)[i]? = some (x, o) := by rfl) : H x = some o := h.holds i x o e
theorem Rg.none (h : Rg K a d H) {p : Addr} (n : H p = none) : p ∉ ads a := h.holds.ne n
theorem led_soft : ((led K a d).all fun p => soft p.2) = true := rfl
theorem Rg.tx (h : Rg K a d H) (e : Kp a H G) : Tx H G := by
  have ne : ∀ l xs, Rd H l (.tup xs) → l ∉ ads a := fun l xs r hm => by
    rw [← ads_eq K a d] at hm
    obtain ⟨p, hp, rfl⟩ := List.mem_map.mp hm
    obtain ⟨i, hi⟩ := List.getElem?_of_mem hp
    have := h.holds i p.1 p.2 hi
    have hs := List.all_eq_true.mp (led_soft (K := K) (a := a) (d := d)) p hp
    rcases r with r | ⟨u, r⟩
    · rw [this] at r
      have := Option.some.inj r
      rw [this] at hs; cases hs
    · rw [this] at r
      have := Option.some.inj r
      rw [this] at hs; cases hs
  intro l xs r
  exact r.elim (fun r' => .inl (e _ _ (ne l xs r) r')) fun ⟨u, r'⟩ => .inr ⟨u, e _ _ (ne l xs r) r'⟩
theorem put_owner {a : RA} {o v : V} : putF ("owner" : Str) v (rdF a o) = rdF a v := by rfl
theorem own_len {a : RA} {o : V} : (rdF a o).length < 1000 := by show 19 < 1000; decide
theorem rd_mem {a : RA} : a.rd ∈ ads a := List.mem_cons_self
end
theorem putK_len {kvs : List (Key × V)} {k : Key} {v : V} : (putK kvs k v).length ≤ kvs.length + 1 := by
  unfold putK
  split
  · rw [List.length_map]; omega
  · rw [List.length_append, List.length_singleton]; exact Nat.le_refl _
end R9H
set_option Elab.async false
set_option linter.all false
set_option maxRecDepth 100000
set_option maxHeartbeats 4000000
/-! k06, part X: the source of draws -/
namespace R9H
open PySem PySem.Spec PyProof.Rows L2
def penD (c : Addr) (a l : Int) : List (Key × V) := [(.inr "cells", .ref c), (.inr "at", .int a), (.inr "left", .int l)]
/-- at p stands a source with at most n draws behind it -/
def PenAt (H : Hp) (p c : Addr) (n : Nat) : Prop := ∃ (cells : List Int) (a : Nat) (l : Int), H p = some (.dK (penD c a l)) ∧ H c = some (.lst (cells.map V.int)) ∧ a ≤ n
/-- only at p something else may stand -/
def Fr (p : Addr) (H H' : Hp) : Prop := ∀ x o, x ≠ p → H x = some o → H' x = some o
theorem Fr.trans {p : Addr} {H H1 H2 : Hp} (a : Fr p H H1) (b : Fr p H1 H2) : Fr p H H2 := fun x o n e => b x o n (a x o n e)
theorem fr_id {p : Addr} {H : Hp} : Fr p H H := fun _ _ _ e => e
theorem fr_put {p : Addr} {H : Hp} {o : HO} : Fr p H (upd H p o) := fun x y n e => by rw [upd_ne n]; exact e
theorem fr_ext {p : Addr} {H H' : Hp} (e : ExtH H H') : Fr p H H' := fun x o _ h => e x o h
theorem pen_ext {H G : Hp} {p c : Addr} {n : Nat} (h : PenAt H p c n) (e : ExtH H G) : PenAt G p c n := by
  obtain ⟨cells, a, l, h1, h2, h3⟩ := h
  exact ⟨cells, a, l, e _ _ h1, e _ _ h2, h3⟩
theorem v_cells {c : Addr} {a l : Int} : valV (penD c a l) (.inr "cells") = some (.ref c) := rfl
theorem v_at {c : Addr} {a l : Int} : valV (penD c a l) (.inr "at") = some (.int a) := rfl
theorem v_left {c : Addr} {a l : Int} : valV (penD c a l) (.inr "left") = some (.int l) := rfl
theorem p_at {c : Addr} {a l b : Int} : putK (penD c a l) (.inr "at") (.int b) = penD c b l := rfl
theorem p_left {c : Addr} {a l b : Int} : putK (penD c a l) (.inr "left") (.int b) = penD c a b := rfl
theorem pen_len {c : Addr} {a l : Int} : (penD c a l).length < sizeLine := by rw [sizeLine_eq]; show 3 < 16777216; decide
theorem dps_ints {K : PySem.W.Frag} {H : Hp} : ∀ ns : List Int, DpAll K H (ns.map V.int) (ns.map PyData.int)
  | [] => .nil
  | n :: ns => .cons (.int n) (dps_ints ns)
theorem canLay_ints : ∀ ns : List Int, PyData.canLayAll0 (ns.map PyData.int) = true
  | [] => by simp [PyData.canLayAll0]
  | n :: ns => by
    show PyData.canLayAll0 (.int n :: ns.map PyData.int) = true
    rw [PyData.canLayAll0, canLay_ints ns]
    simp [PyData.canLay0]
theorem eqv_nil : ∀ ds : List PyData, PyData.eqv (.list ds) (.list []) = ds.isEmpty
  | [] => by simp [PyData.eqv, PyData.eqvAll]
  | d :: ds => by simp [PyData.eqv, PyData.eqvAll]
theorem depth_ints : ∀ ns : List Int, PyData.depthAll (ns.map PyData.int) = 0
  | [] => by simp [PyData.depthAll]
  | n :: ns => by
    show PyData.depthAll (.int n :: ns.map PyData.int) = 0
    rw [PyData.depthAll, depth_ints ns]
    simp [PyData.depth]
theorem shaped_ints (ns : List Int) : SeqAt.shaped (.list (ns.map PyData.int)) = true := by
  unfold SeqAt.shaped
  rw [PyData.canLay0, canLay_ints, PyData.depth, depth_ints] <;> rfl
theorem shaped_nil : SeqAt.shaped (.list []) = true := shaped_ints []
theorem cutV_ints (ns : List Int) (lo hi : Option Int) : ∃ ms : List Int, cutV (ns.map V.int) lo hi = ms.map V.int := by
  unfold cutV
  exact ⟨_, by rw [← List.map_drop, ← List.map_take]⟩
theorem get_left {H : Hp} {p c : Addr} {a l : Int} (h : H p = some (.dK (penD c a l))) : DGet H p (.str "left") (some (.int l)) := DGet.k (k := Sum.inr "left") h
theorem get_at {H : Hp} {p c : Addr} {a l : Int} (h : H p = some (.dK (penD c a l))) : DGet H p (.str "at") (some (.int a)) := DGet.k (k := Sum.inr "at") h
theorem get_cells {H : Hp} {p c : Addr} {a l : Int} (h : H p = some (.dK (penD c a l))) : DGet H p (.str "cells") (some (.ref c)) := DGet.k (k := Sum.inr "cells") h
theorem put_left {H : Hp} {p c : Addr} {a l b : Int} (h : H p = some (.dK (penD c a l))) : DPut H p (.str "left") (.int b) (upd H p (.dK (penD c a b))) := DPut.k (k := Sum.inr "left") (v := .int b) h pen_len
theorem put_at {H : Hp} {p c : Addr} {a l b : Int} (h : H p = some (.dK (penD c a l))) : DPut H p (.str "at") (.int b) (upd H p (.dK (penD c b l))) := DPut.k (k := Sum.inr "at") (v := .int b) h pen_len
theorem draw_pos {i m : Int} (h : 0 < m) : 0 ≤ i % m ∧ i % m < m := ⟨Int.emod_nonneg i (by omega), Int.emod_lt_of_pos i h⟩
theorem bnd {i m : Int} (h : 0 < m) (h2 : m ≤ 18446744073709551616) : -(2 ^ 64) < i % m ∧ i % m < 2 ^ 64 := by
  have x := draw_pos (i := i) h
  have e : (2 ^ 64 : Int) = 18446744073709551616 := by decide
  rw [e]
  omega
theorem at_bnd {a n : Nat} (h : a ≤ n) (hn : n < 1000000) : -(2 ^ 64) < (a : Int) ∧ (a : Int) < 2 ^ 64 := by
  have e : (2 ^ 64 : Int) = 18446744073709551616 := by decide
  rw [e]
  omega
theorem pow18 : CPow 10 18 := ⟨by decide, by decide, by decide⟩
def spPen (K : PySem.W.Frag) : Sp := fun vs H Q _ => ∃ (a : Addr) (ns : List Int), vs = [.ref a] ∧ SqL K H a (ns.map V.int) ∧ ∀ H' p c, ExtH H H' → H p = none → H c = none → PenAt H' p c 0 → Q (.ref p) H'
def spDraw : Sp := fun vs H Q _ => ∃ (p c : Addr) (n : Nat) (m : Int), vs = [.ref p, .int m] ∧ PenAt H p c n ∧ n < 1000000 ∧ 0 < m ∧ m < 1073741824 ∧ ∀ H' d, Fr p H H' → PenAt H' p c (n + 1) → 0 ≤ d → d < m → Q (.int d) H'
section
variable {w : World} {K : PySem.W.Frag} {mg : Str → Option Value} {base : Heap}
abbrev sPen : Stmt := top 85
abbrev sDraw : Stmt := top 86
abbrev sPick : Stmt := top 87
theorem sc_pen : FnScope ["_law_script"] ["_law_script"] (defScope sPen) := ⟨rfl, rfl, rfl, by decide +kernel, rfl, by decide +kernel, by decide +kernel⟩
theorem sc_draw : FnScope ["_law_pen_here", "_law_many", "_law_digit", "_law_at", "_law_cells", "_law_cell", "_law_mixed"] ["_law_pen_here", "_law_many"] (defScope sDraw) := ⟨rfl, rfl, rfl, by decide +kernel, rfl, by decide +kernel, by decide +kernel⟩
theorem sc_pick : FnScope ["_law_pen_here", "_law_items"] ["_law_pen_here", "_law_items"] (defScope sPick) := ⟨rfl, rfl, rfl, by decide +kernel, rfl, by decide +kernel, by decide +kernel⟩
theorem ok_pen (T : T6 K mg) : Has w K mg base 1 "_law_pen" ["_law_script"] (spPen K) := by
  obtain ⟨fd, F⟩ := T.fn 67
  have gl := T.free "list" (by decide +kernel)
  refine has_of (st := sPen) T F (by decide +kernel) (F.ok sc_pen (fun vs H Q E h => ?_) (fun cdv A outer s H vs Q E hr h => ⟨_, PSs.nox (
    pss_one (ps_ret (pe_disp (pps_cons pe_str (pe_callTy call_list_of rfl gl (by decide +kernel) (pa_cons (pe_slice sl_list (pv 0) po_none (po_some pe_int)) pa_nil)) (pps_cons pe_str pe_int (pps_cons pe_str pe_int pps_nil))) (by rfl) (by rfl) (fun z => by cases z) (by decide)))), ?_⟩)) fun _ _ _ _ _ _ us hl => match us, hl with | [_], _ => rfl
  · obtain ⟨a, ns, rfl, _⟩ := h
    rfl
  · obtain ⟨a, ns, rfl, hS, q⟩ := h
    obtain ⟨ms, em⟩ := cutV_ints ns none (some 63)
    refine fun p np => ⟨_, rfl, ?_⟩
    refine ⟨63, rfl, a, _, rfl, sqL_extH (extH_put np) hS, fun p1 n1 => ?_⟩
    refine ⟨p1, _, rfl, .inl (SqL.of upd_same), fun l nl => ?_⟩
    have e1 : p ≠ p1 := ne_of_none upd_same n1
    have e2 : p ≠ l := ne_of_none (by rw [upd_ne e1]; exact upd_same) nl
    refine ⟨by rw [upd_ne e2, upd_ne e1]; exact upd_same, [(.inr "cells", .ref l), (.inr "at", .int 0), (.inr "left", .int 0)], rfl, (by show 3 ≤ 15; decide), ?_⟩
    refine q _ p l (fun x o e => ?_) np ?_ ⟨ms, 0, 0, upd_same, ?_, Nat.le_refl _⟩
    · rw [upd_ne (ne_of_none e np)]
      exact extH_put nl _ _ (extH_put n1 _ _ (extH_put np _ _ e))
    · exact (((extH_put np).trans (extH_put n1)).none nl)
    · rw [upd_ne (Ne.symm e2), upd_same, em]
theorem ok_draw (T : T6 K mg) : Has w K mg base 1 "_law_draw" ["_law_pen_here", "_law_many"] spDraw := by
  obtain ⟨fd, F⟩ := T.fn 68
  have gi := T.free "int" (by decide +kernel)
  have gn := T.free "len" (by decide +kernel)
  refine has_of (st := sDraw) T F (by decide +kernel) (F.ok sc_draw (fun vs H Q E h => ?_) (fun cdv A outer s H vs Q E hr h => ?_)) fun _ _ _ _ _ _ us hl => match us, hl with | [_, _], _ => rfl
  · obtain ⟨p, c, n, m, rfl, _⟩ := h
    rfl
  have hu := hr.u1
  refine ⟨_, PSs.nox (
    (pss_cons (ps_if (pt_cmpR op_ge (pe_dget hu (pv 0) pe_str (fun _ _ => rfl)) (pv 1) (nomark _)) (pss_cons (ps_set (i := 2) sc_draw.nd rfl (Or.inl rfl) (pe_op op_mod (pe_callTy call_int1 rfl gi boot_int (pa_cons (pe_dget hu (pv 0) pe_str (fun _ _ => rfl)) pa_nil)) (pv 1)))
      (pss_cons (ps_dput hu (pv 0) pe_str (pe_op op_fdiv (pe_dget hu (pv 0) pe_str (fun _ _ => rfl)) (pv 1)) rfl)
      (pss_one (ps_ret (pv 2))))) pss_nil)
      (pss_cons (ps_par (i := 3) (j := 4) (by rfl) sc_draw.nd rfl rfl (by decide) rfl rfl (pa_cons (pe_dget hu (pv 0) pe_str (fun _ _ => rfl)) (pa_cons (pe_dget hu (pv 0) pe_str (fun _ _ => rfl)) pa_nil)) (by rfl))
      (pss_cons (ps_dput hu (pv 0) pe_str (pe_op op_add (pv 3) pe_int) rfl)
      (pss_cons (ps_set (i := 5) sc_draw.nd rfl (Or.inl rfl) (pe_ifExp (pt_cmpR (op_neD hr.units) (pv 4) (pe_lst pa_nil) (nomark _)) (pe_ix ix_list (pv 4) (pe_op op_mod (pe_callTy call_int1 rfl gi boot_int (pa_cons (pv 3) pa_nil)) (pe_callB call_len_seq rfl gn PySem.boot_len (pa_cons (pv 4) pa_nil))) (fun _ _ => rfl)) (pe_op op_add (pe_op op_mul pe_int (pv 3)) pe_int)))
      (pss_cons (ps_if (PW.pt (pw_and (pt_cmpR op_lt (pv 3) (pe_callB call_len_seq rfl gn PySem.boot_len (pa_cons (pv 4) pa_nil)) (nomark _)) (pw_and1 (pt_cmpR op_ge (pv 5) (pe_op op_pow pe_int pe_int) (nomark _))))) (pss_cons (ps_dput hu (pv 0) pe_str (pe_op op_fdiv (pe_op op_sub (pv 5) (pe_op op_pow pe_int pe_int)) (pv 1)) rfl)
      (pss_one (ps_ret (pe_op op_mod (pe_callTy call_int1 rfl gi boot_int (pa_cons (pe_op op_sub (pv 5) (pe_op op_pow pe_int pe_int)) pa_nil)) (pv 1))))) pss_nil)
      (pss_cons (ps_set (i := 6) sc_draw.nd rfl (Or.inl rfl) (pe_op op_add (pe_op op_add (pe_op op_add (pe_op op_mul (pe_op op_mod (pe_callTy call_int1 rfl gi boot_int (pa_cons (pv 5) pa_nil)) pe_int) pe_int) (pe_op op_mul (pe_op op_mul pe_int (pv 3)) (pv 3))) (pe_op op_mul pe_int (pv 3))) pe_int))
      (pss_cons (ps_set (i := 6) sc_draw.nd rfl (Or.inl rfl) (pe_op op_mod (pe_callTy call_int1 rfl gi boot_int (pa_cons (pv 6) pa_nil)) pe_int))
      (pss_cons (ps_set (i := 6) sc_draw.nd rfl (Or.inl rfl) (pe_op op_mod (pe_callTy call_int1 rfl gi boot_int (pa_cons (pe_op op_mul (pv 6) (pe_op op_add (pv 6) pe_int)) pa_nil)) pe_int))
      (pss_one (ps_ret (pe_op op_mod (pe_callTy call_int1 rfl gi boot_int (pa_cons (pe_op op_fdiv (pe_op op_mod (pe_callTy call_int1 rfl gi boot_int (pa_cons (pe_op op_mul (pv 6) (pv 6)) pa_nil)) pe_int) pe_int) pa_nil)) (pv 1))))))))))))), ?_⟩
  obtain ⟨p, c, n, m, rfl, ⟨cells, a, l, hp, hc, ha⟩, hn, hm, hm2, q⟩ := h
  have npc : p ≠ c := fun z => by
    rw [z, hc] at hp
    cases hp
  refine ⟨_, rfl, p, _, rfl, get_left hp, _, rfl, _, _, rfl, rfl, _, rfl, ?_⟩
  refine ite2 (fun h1 => ?_) (fun h1 => ?_)
  · refine ⟨_, rfl, p, _, rfl, get_left hp, .inl ⟨_, rfl, _, rfl, _, _, rfl, rfl, hm, ?_⟩⟩
    refine ⟨_, rfl, p, _, rfl, get_left hp, _, rfl, _, _, rfl, rfl, ⟨hm, hm2⟩, _, rfl, p, _, rfl, put_left hp, ?_⟩
    exact ⟨_, rfl, q _ _ fr_put ⟨cells, a, _, upd_same, by rw [upd_ne (Ne.symm npc)]; exact hc, by omega⟩ (draw_pos hm).1 (draw_pos hm).2⟩
  · refine ⟨_, rfl, p, _, rfl, get_at hp, _, rfl, p, _, rfl, get_cells hp, _, _, rfl, ?_⟩
    refine ⟨_, rfl, _, _, rfl, rfl, _, rfl, p, _, rfl, put_at hp, ?_⟩
    have hc1 : upd H p (.dK (penD c (a + 1) l)) c = some (.lst (cells.map V.int)) := by rw [upd_ne (Ne.symm npc)]; exact hc
    refine ⟨_, rfl, Nat.zero_le _, fun l0 n0 => ?_⟩
    have hpG : upd (upd H p (.dK (penD c (a + 1) l))) l0 (.lst []) p = some (.dK (penD c ((a + 1 : Nat) : Int) l)) := extH_put n0 _ _ upd_same
    have hcG : upd (upd H p (.dK (penD c (a + 1) l))) l0 (.lst []) c = some (.lst (cells.map V.int)) := extH_put n0 _ _ hc1
    have frG : Fr p H (upd (upd H p (.dK (penD c (a + 1) l))) l0 (.lst [])) := Fr.trans fr_put (fr_ext (extH_put n0))
    have hnil : upd (upd H p (.dK (penD c (a + 1) l))) l0 (.lst []) l0 = some (.lst []) := upd_same
    generalize upd (upd H p (.dK (penD c (a + 1) l))) l0 (.lst []) = G at hpG hcG frG hnil ⊢
    refine ⟨.list (cells.map PyData.int), .list [], .lst (SqL.of hcG) (dps_ints _), .lst (SqL.of hnil) .nil, shaped_ints _, shaped_nil, _, rfl, ?_⟩
    refine ite2 (fun h2 => ?_) (fun h2 => ?_)
    · have h2' : (!PyData.eqv (.list (cells.map PyData.int)) (.list [])) = true := h2
      have hpos : 0 < cells.length := by
        cases cells with
        | nil =>
          rw [eqv_nil] at h2'
          cases h2'
        | cons _ _ => exact Nat.succ_pos _
      have hl0 : (0 : Int) < (((cells.map V.int).length : Nat) : Int) := by rw [List.length_map]; omega
      obtain ⟨j, hj, ej⟩ : ∃ j : Nat, j < cells.length ∧ (a : Int) % (((cells.map V.int).length : Nat) : Int) = (j : Int) := by
        have x := draw_pos (i := (a : Int)) hl0
        refine ⟨((a : Int) % (((cells.map V.int).length : Nat) : Int)).toNat, ?_, by omega⟩
        rw [List.length_map] at x ⊢
        omega
      have hat : atI (cells.map V.int) ((a : Int) % (((cells.map V.int).length : Nat) : Int)) = some (V.int cells[j]) := by
        rw [ej]
        exact atI_nat (by rw [List.getElem?_map, List.getElem?_eq_getElem hj] <;> rfl)
      refine ⟨_, rfl, _, rfl, .inl ⟨_, rfl, _, rfl, c, _, rfl, .inl (SqL.of hcG), _, _, rfl, rfl, hl0, c, _, _, _, rfl, rfl, SqL.of hcG, hat, ?_⟩⟩
      refine ⟨_, rfl, _, rfl, c, _, rfl, .inl (SqL.of hcG), _, _, rfl, rfl, _, rfl, ?_⟩
      refine ite2 (fun h3 => ?_) (fun h3 => ?_)
      · refine ⟨_, rfl, _, _, rfl, rfl, pow18, _, _, rfl, rfl, _, rfl, ?_⟩
        refine ite2 (fun h4 => ?_) (fun h4 => ?_)
        · refine ⟨_, rfl, _, _, rfl, rfl, pow18, _, _, rfl, rfl, _, rfl, _, _, rfl, rfl, ⟨hm, hm2⟩, _, rfl, p, _, rfl, put_left hpG, ?_⟩
          refine ⟨_, rfl, _, _, rfl, rfl, pow18, _, _, rfl, rfl, .inl ⟨_, rfl, _, rfl, _, _, rfl, rfl, hm, ?_⟩⟩
          exact q _ _ (frG.trans fr_put) ⟨cells, a + 1, _, upd_same, by rw [upd_ne (Ne.symm npc)]; exact hcG, by omega⟩ (draw_pos hm).1 (draw_pos hm).2
        · refine ⟨_, rfl, .inl ⟨_, rfl, _, _, rfl, rfl, (by show (0 : Int) < _; decide), _, _, rfl, rfl, .inr ⟨by decide, by decide⟩, _, rfl, _, _, rfl, rfl, .inl ⟨by decide, by decide⟩, _, rfl, _, _, rfl, rfl, .inr (at_bnd ha hn), _, _, rfl, rfl, _, rfl, _, _, rfl, rfl, .inl ⟨by decide, by decide⟩, _, _, rfl, rfl, _, _, rfl, rfl, ?_⟩⟩
          refine ⟨_, rfl, .inl ⟨_, rfl, _, _, rfl, rfl, (by show (0 : Int) < _; decide), ?_⟩⟩
          refine ⟨_, rfl, _, rfl, _, _, rfl, rfl, _, _, rfl, rfl, .inl (bnd (by decide) (by decide)), .inl ⟨_, rfl, _, _, rfl, rfl, (by show (0 : Int) < _; decide), ?_⟩⟩
          refine ⟨_, rfl, _, rfl, _, _, rfl, rfl, .inl (bnd (by decide) (by decide)), .inl ⟨_, rfl, _, _, rfl, rfl, (by show (0 : Int) < _; decide), _, _, rfl, rfl, ⟨by decide, by decide⟩, .inl ⟨_, rfl, _, rfl, _, _, rfl, rfl, hm, ?_⟩⟩⟩
          exact q _ _ frG ⟨cells, a + 1, l, hpG, hcG, by omega⟩ (draw_pos hm).1 (draw_pos hm).2
      · refine iteF ?_
        refine ⟨_, rfl, .inl ⟨_, rfl, _, _, rfl, rfl, (by show (0 : Int) < _; decide), _, _, rfl, rfl, .inr ⟨by decide, by decide⟩, _, rfl, _, _, rfl, rfl, .inl ⟨by decide, by decide⟩, _, rfl, _, _, rfl, rfl, .inr (at_bnd ha hn), _, _, rfl, rfl, _, rfl, _, _, rfl, rfl, .inl ⟨by decide, by decide⟩, _, _, rfl, rfl, _, _, rfl, rfl, ?_⟩⟩
        refine ⟨_, rfl, .inl ⟨_, rfl, _, _, rfl, rfl, (by show (0 : Int) < _; decide), ?_⟩⟩
        refine ⟨_, rfl, _, rfl, _, _, rfl, rfl, _, _, rfl, rfl, .inl (bnd (by decide) (by decide)), .inl ⟨_, rfl, _, _, rfl, rfl, (by show (0 : Int) < _; decide), ?_⟩⟩
        refine ⟨_, rfl, _, rfl, _, _, rfl, rfl, .inl (bnd (by decide) (by decide)), .inl ⟨_, rfl, _, _, rfl, rfl, (by show (0 : Int) < _; decide), _, _, rfl, rfl, ⟨by decide, by decide⟩, .inl ⟨_, rfl, _, rfl, _, _, rfl, rfl, hm, ?_⟩⟩⟩
        exact q _ _ frG ⟨cells, a + 1, l, hpG, hcG, by omega⟩ (draw_pos hm).1 (draw_pos hm).2
    · refine ⟨_, rfl, _, _, rfl, rfl, .inl ⟨by decide, by decide⟩, _, _, rfl, rfl, ?_⟩
      refine ⟨_, rfl, _, rfl, c, _, rfl, .inl (SqL.of hcG), _, _, rfl, rfl, _, rfl, ?_⟩
      refine ite2 (fun h3 => ?_) (fun h3 => ?_)
      · refine ⟨_, rfl, _, _, rfl, rfl, pow18, _, _, rfl, rfl, _, rfl, ?_⟩
        refine ite2 (fun h4 => ?_) (fun h4 => ?_)
        · refine ⟨_, rfl, _, _, rfl, rfl, pow18, _, _, rfl, rfl, _, rfl, _, _, rfl, rfl, ⟨hm, hm2⟩, _, rfl, p, _, rfl, put_left hpG, ?_⟩
          refine ⟨_, rfl, _, _, rfl, rfl, pow18, _, _, rfl, rfl, .inl ⟨_, rfl, _, rfl, _, _, rfl, rfl, hm, ?_⟩⟩
          exact q _ _ (frG.trans fr_put) ⟨cells, a + 1, _, upd_same, by rw [upd_ne (Ne.symm npc)]; exact hcG, by omega⟩ (draw_pos hm).1 (draw_pos hm).2
        · refine ⟨_, rfl, .inl ⟨_, rfl, _, _, rfl, rfl, (by show (0 : Int) < _; decide), _, _, rfl, rfl, .inr ⟨by decide, by decide⟩, _, rfl, _, _, rfl, rfl, .inl ⟨by decide, by decide⟩, _, rfl, _, _, rfl, rfl, .inr (at_bnd ha hn), _, _, rfl, rfl, _, rfl, _, _, rfl, rfl, .inl ⟨by decide, by decide⟩, _, _, rfl, rfl, _, _, rfl, rfl, ?_⟩⟩
          refine ⟨_, rfl, .inl ⟨_, rfl, _, _, rfl, rfl, (by show (0 : Int) < _; decide), ?_⟩⟩
          refine ⟨_, rfl, _, rfl, _, _, rfl, rfl, _, _, rfl, rfl, .inl (bnd (by decide) (by decide)), .inl ⟨_, rfl, _, _, rfl, rfl, (by show (0 : Int) < _; decide), ?_⟩⟩
          refine ⟨_, rfl, _, rfl, _, _, rfl, rfl, .inl (bnd (by decide) (by decide)), .inl ⟨_, rfl, _, _, rfl, rfl, (by show (0 : Int) < _; decide), _, _, rfl, rfl, ⟨by decide, by decide⟩, .inl ⟨_, rfl, _, rfl, _, _, rfl, rfl, hm, ?_⟩⟩⟩
          exact q _ _ frG ⟨cells, a + 1, l, hpG, hcG, by omega⟩ (draw_pos hm).1 (draw_pos hm).2
      · refine iteF ?_
        refine ⟨_, rfl, .inl ⟨_, rfl, _, _, rfl, rfl, (by show (0 : Int) < _; decide), _, _, rfl, rfl, .inr ⟨by decide, by decide⟩, _, rfl, _, _, rfl, rfl, .inl ⟨by decide, by decide⟩, _, rfl, _, _, rfl, rfl, .inr (at_bnd ha hn), _, _, rfl, rfl, _, rfl, _, _, rfl, rfl, .inl ⟨by decide, by decide⟩, _, _, rfl, rfl, _, _, rfl, rfl, ?_⟩⟩
        refine ⟨_, rfl, .inl ⟨_, rfl, _, _, rfl, rfl, (by show (0 : Int) < _; decide), ?_⟩⟩
        refine ⟨_, rfl, _, rfl, _, _, rfl, rfl, _, _, rfl, rfl, .inl (bnd (by decide) (by decide)), .inl ⟨_, rfl, _, _, rfl, rfl, (by show (0 : Int) < _; decide), ?_⟩⟩
        refine ⟨_, rfl, _, rfl, _, _, rfl, rfl, .inl (bnd (by decide) (by decide)), .inl ⟨_, rfl, _, _, rfl, rfl, (by show (0 : Int) < _; decide), _, _, rfl, rfl, ⟨by decide, by decide⟩, .inl ⟨_, rfl, _, rfl, _, _, rfl, rfl, hm, ?_⟩⟩⟩
        exact q _ _ frG ⟨cells, a + 1, l, hpG, hcG, by omega⟩ (draw_pos hm).1 (draw_pos hm).2
end
end R9H
set_option Elab.async false
set_option linter.all false
set_option maxRecDepth 100000
set_option maxHeartbeats 4000000
/-! G7: a sign twice -/
namespace L2
open PySem PySem.Spec PyProof.Rows
theorem op_twice {X : Cx} : OpR X (binaryOp .Mult) (fun x y H Q => ∃ c, x = .str ⟨#[c]⟩ ∧ y = .int 2 ∧ Q (.str ⟨#[c, c]⟩) H) := by
  intro pins s σ H x y v u Q I rx ry h
  obtain ⟨c, rfl, rfl, q⟩ := h
  obtain ⟨t, rfl⟩ := rx
  obtain ⟨t', rfl⟩ := ry
  refine PySem.P.mul_str (by decide) (fun _ _ => by show ¬ ((1 : Nat) : Int) > (2 ^ 63 - 1) / 2; decide) (fun _ _ => by show Builtin.Str.tooLong 2 = false; decide +kernel) ?_
  show (Made.str ⟨(List.replicate (2 : Int).toNat #[c]).foldl (· ++ ·) #[]⟩).post _ _
  exact ⟨by rw [sizeLine_eq]; show 2 ≤ 16777216; decide, ⟨.str ⟨#[c, c]⟩, H, I.tok _, ⟨_, rfl⟩, q⟩⟩
end L2
set_option Elab.async false
set_option linter.all false
set_option maxRecDepth 100000
set_option maxHeartbeats 4000000
/-! k06, part Y: picks and names -/
namespace R9H
open PySem PySem.Spec PyProof.Rows L2
theorem pen_le {H : Hp} {p c : Addr} {n m : Nat} (h : PenAt H p c n) (e : n ≤ m) : PenAt H p c m := by
  obtain ⟨cells, a, l, h1, h2, h3⟩ := h
  exact ⟨cells, a, l, h1, h2, by omega⟩
def spPickL : Sp := fun vs H Q _ => ∃ (p c l : Addr) (n : Nat) (xs : List V), vs = [.ref p, .ref l] ∧ PenAt H p c n ∧ n < 1000000 ∧ H l = some (.lst xs) ∧ 0 < xs.length ∧ xs.length < 1000 ∧ ∀ H' (j : Nat) v, Fr p H H' → PenAt H' p c (n + 1) → xs[j]? = some v → Q v H'
def spPickS : Sp := fun vs H Q _ => ∃ (p c : Addr) (n : Nat) (z : Str), vs = [.ref p, .str z] ∧ PenAt H p c n ∧ n < 1000000 ∧ 0 < z.length ∧ z.length < 1000 ∧ ∀ H' (j : Nat) b, Fr p H H' → PenAt H' p c (n + 1) → z.cps.toList[j]? = some b → Q (.str ⟨#[b]⟩) H'
section
variable {w : World} {K : PySem.W.Frag} {mg : Str → Option Value} {base : Heap}
theorem ok_pickL (T : T6 K mg) : Has w K mg base 2 "_law_pick" ["_law_pen_here", "_law_items"] spPickL := by
  obtain ⟨fd, F⟩ := T.fn 69
  have HD : Has w K mg base 1 "_law_draw" ["_law_pen_here", "_law_many"] spDraw := ok_draw T
  have gn := T.free "len" (by decide +kernel)
  refine has_of (st := sPick) T F (by decide +kernel) (F.ok sc_pick (fun vs H Q E h => ?_) (fun cdv A outer s H vs Q E hr h => ⟨_, PSs.nox (
    (pss_one (ps_ret (pe_ix ix_list (pv 1) (pe_has HD rfl hr rfl (pa_cons (pv 0) (pa_cons (pe_callB call_len_seq rfl gn PySem.boot_len (pa_cons (pv 1) pa_nil)) pa_nil))) (fun _ _ => rfl))))), ?_⟩)) fun _ _ _ _ _ _ us hl => match us, hl with | [_, _], _ => rfl
  · obtain ⟨p, c, l, n, xs, rfl, _⟩ := h
    rfl
  obtain ⟨p, c, l, n, xs, rfl, hp, hn, hl, h0, h1, q⟩ := h
  refine ⟨_, rfl, _, rfl, _, rfl, l, xs, rfl, .inl (SqL.of hl), p, c, n, _, rfl, hp, hn, by omega, by omega, fun H' d fr pn d0 d1 => ?_⟩
  have npl : l ≠ p := fun z => by
    obtain ⟨cells, a, l', h2, _⟩ := hp
    rw [← z, hl] at h2
    cases h2
  obtain ⟨j, rfl⟩ : ∃ j : Nat, d = (j : Int) := ⟨d.toNat, by omega⟩
  have hj : j < xs.length := by omega
  exact ⟨l, xs, _, xs[j], rfl, rfl, SqL.of (fr _ _ npl hl), atI_nat (List.getElem?_eq_getElem hj), q H' j _ fr pn (List.getElem?_eq_getElem hj)⟩
theorem ok_pickS (T : T6 K mg) : Has w K mg base 2 "_law_pick" ["_law_pen_here", "_law_items"] spPickS := by
  obtain ⟨fd, F⟩ := T.fn 69
  have HD : Has w K mg base 1 "_law_draw" ["_law_pen_here", "_law_many"] spDraw := ok_draw T
  have gn := T.free "len" (by decide +kernel)
  refine has_of (st := sPick) T F (by decide +kernel) (F.ok sc_pick (fun vs H Q E h => ?_) (fun cdv A outer s H vs Q E hr h => ⟨_, PSs.nox (
    (pss_one (ps_ret (pe_ix ix_str (pv 1) (pe_has HD rfl hr rfl (pa_cons (pv 0) (pa_cons (pe_callB call_len_str rfl gn PySem.boot_len (pa_cons (pv 1) pa_nil)) pa_nil))) (fun _ _ => rfl))))), ?_⟩)) fun _ _ _ _ _ _ us hl => match us, hl with | [_, _], _ => rfl
  · obtain ⟨p, c, n, z, rfl, _⟩ := h
    rfl
  obtain ⟨p, c, n, z, rfl, hp, hn, h0, h1, q⟩ := h
  refine ⟨_, rfl, _, rfl, _, rfl, z, rfl, by rw [sizeLine_eq]; omega, p, c, n, _, rfl, hp, hn, by omega, by omega, fun H' d fr pn d0 d1 => ?_⟩
  obtain ⟨j, rfl⟩ : ∃ j : Nat, d = (j : Int) := ⟨d.toNat, by omega⟩
  have hj : j < z.cps.toList.length := by
    have : z.length = z.cps.toList.length := by simp [Str.length]
    omega
  exact ⟨z, _, _, rfl, rfl, by rw [sizeLine_eq]; omega, atI_nat (List.getElem?_eq_getElem hj), q H' j _ fr pn (List.getElem?_eq_getElem hj)⟩
end
end R9H
set_option Elab.async false
set_option linter.all false
set_option maxRecDepth 100000
set_option maxHeartbeats 4000000
/-! k24, part O: a reading as plain data -/
namespace R9H
open PySem PySem.Spec PyProof.Rows L2
/-! ### dicts against lists of pairs -/
def AtK {α κ : Type} (ky : κ → Key) (R : V → α → Prop) (kvs : List (Key × V)) (l : List (κ × α)) : Prop := Paired (fun (p : Key × V) (q : κ × α) => p.1 = ky q.1 ∧ R p.2 q.2) kvs l
def kS (x : Str) : Key := .inr x
def kI (i : Int) : Key := .inl i
theorem kS_inj {a b : Str} (h : kS a = kS b) : a = b := by injection h
theorem kI_inj {a b : Int} (h : kI a = kI b) : a = b := by injection h
section
variable {α κ : Type} [BEq κ] [LawfulBEq κ] {ky : κ → Key} {R R' : V → α → Prop} {kvs : List (Key × V)} {l : List (κ × α)}
theorem AtK.imp (h : AtK ky R kvs l) (f : ∀ v a, R v a → R' v a) : AtK ky R' kvs l := Paired.mapP h fun _ _ h => ⟨h.1, f _ _ h.2⟩
theorem AtK.len (h : AtK ky R kvs l) : kvs.length = l.length := Paired.length h
theorem AtK.non (h : AtK ky R kvs l) (hi : ∀ {a b}, ky a = ky b → a = b) {k : κ} (e : l.lookup k = none) : valV kvs (ky k) = none := by
  unfold AtK at h
  induction h with
  | nil => rfl
  | @cons a b l₁ l₂ r t ih =>
    rw [show b = (b.1, b.2) from rfl, List.lookup_cons] at e
    cases hb : k == b.1 with
    | true => rw [hb] at e; cases e
    | false =>
      rw [hb] at e
      rw [valV_neg]
      · exact ih e
      · rw [r.1]
        intro z
        rw [hi z] at hb
        simp at hb
theorem AtK.get (h : AtK ky R kvs l) (hi : ∀ {a b}, ky a = ky b → a = b) {k : κ} {v : α} (e : l.lookup k = some v) : ∃ u, valV kvs (ky k) = some u ∧ R u v := by
  unfold AtK at h
  induction h with
  | nil => cases e
  | @cons a b l₁ l₂ r t ih =>
    rw [show b = (b.1, b.2) from rfl, List.lookup_cons] at e
    cases hb : k == b.1 with
    | true =>
      rw [hb] at e
      cases e
      rw [beq_iff_eq] at hb
      exact ⟨a.2, valV_pos (by rw [r.1, hb]), r.2⟩
    | false =>
      rw [hb] at e
      rw [valV_neg]
      · exact ih e
      · rw [r.1]
        intro z
        rw [hi z] at hb
        simp at hb
theorem AtK.put (h : AtK ky R kvs l) (hi : ∀ {a b}, ky a = ky b → a = b) {k : κ} {u : V} {v : α} (e : l.lookup k = none) (hr : R u v) : AtK ky R (putK kvs (ky k) u) (l ++ [(k, v)]) := by
  rw [putK_new (h.non hi e)]
  exact Paired.snoc h ⟨rfl, hr⟩
theorem AtK.nil : AtK ky R [] ([] : List (κ × α)) := Paired.nil
end
def isS (v : V) (x : Str) : Prop := v = .str x
def isI (v : V) (i : Int) : Prop := v = .int i
def tupS (K : PySem.W.Frag) (H : Hp) (v : V) (ws : List Str) : Prop := ∃ t, v = .ref t ∧ SqT K H t (ws.map V.str)
def tupN (K : PySem.W.Frag) (H : Hp) (v : V) (ws : List Int) : Prop := ∃ t, v = .ref t ∧ SqT K H t (ws.map V.int)
theorem tupS.tx {K : PySem.W.Frag} {H G : Hp} (e : Tx H G) (v : V) (ws : List Str) (h : tupS K H v ws) : tupS K G v ws := let ⟨t, a, b⟩ := h; ⟨t, a, e.sqT b⟩
theorem tupN.tx {K : PySem.W.Frag} {H G : Hp} (e : Tx H G) (v : V) (ws : List Int) (h : tupN K H v ws) : tupN K G v ws := let ⟨t, a, b⟩ := h; ⟨t, a, e.sqT b⟩
/-- what a reading knows -/
structure RS where
  own : Option Str := none
  tab : Tab := []
  f : List (Str × List (Str × Str)) := []
  c : List (Str × Str) := []
  hd : List (Str × Int) := []
  pm : List (Str × List Str) := []
  due : List (Str × List Str) := []
  gives : List (Str × Option Str) := []
  cur : Option Str := none
  nms : List (Str × List (Str × Str)) := []
  kn : List (Str × Str) := []
  callees : List (Int × Str) := []
  kinds : List (Int × Str) := []
  rows : List (Int × List Str) := []
  owners : List (Int × Str) := []
  partners : List (Int × Int) := []
  ors : List (Int × List Int) := []
  eithers : List (Int × Int) := []
  evers : List (Int × Int) := []
  rooms_of : List (Int × List Int) := []
  makings : List Int := []
  rooms : List Int := []
  blocks : List Int := []
def RS.sz (r : RS) : Nat := r.f.length + r.c.length + r.hd.length + r.pm.length + r.due.length + r.gives.length + r.nms.length + r.callees.length + r.kn.length + r.kinds.length + r.rows.length + r.owners.length + r.partners.length + r.ors.length + r.eithers.length + r.evers.length + r.rooms_of.length + r.makings.length + r.rooms.length + r.blocks.length
def ownV : Option Str → V
  | none => .non
  | some m => .str m
def isO (v : V) (o : Option Str) : Prop := v = ownV o
def nmV : Option Addr → Option Str → List (Key × V)
  | some n, some f => [(.inr f, .ref n)]
  | _, _ => []
structure Rel (K : PySem.W.Frag) (H : Hp) (d : RD) (r : RS) : Prop where
  own : d.own = ownV r.own
  tab : AtK kS (WaysAt K H) d.r r.tab
  f : AtK kS (fun v ps => FldAt K ps H v) d.f r.f
  c : AtK kS isS d.c r.c
  due : AtK kS (tupS K H) d.due r.due
  gives : AtK kS isO d.gives r.gives
  callees : AtK kI isS d.callees r.callees
  heads : AtK kS isI d.heads r.hd
  params : AtK kS (tupS K H) d.params r.pm
  kinds : AtK kI isS d.kinds r.kinds
  rows : AtK kI (tupS K H) d.rows r.rows
  owners : AtK kI isS d.owners r.owners
  partners : AtK kI isI d.partners r.partners
  ors : AtK kI (tupN K H) d.ors r.ors
  eithers : AtK kI isI d.eithers r.eithers
  evers : AtK kI isI d.evers r.evers
  rooms_of : AtK kI (tupN K H) d.rooms_of r.rooms_of
  makings : d.makings = r.makings.map V.int
  rooms : d.rooms = r.rooms.map V.int
  blocks : d.blocks = r.blocks.map V.int
theorem Rel.tx {K : PySem.W.Frag} {H G : Hp} {d : RD} {r : RS} (h : Rel K H d r) (e : Tx H G) : Rel K G d r :=
  { h with tab := h.tab.imp fun _ _ x => WaysAt.tx x e, f := h.f.imp fun _ _ x => FldAt.tx x e, params := h.params.imp (tupS.tx e), due := h.due.imp (tupS.tx e), rows := h.rows.imp (tupS.tx e), ors := h.ors.imp (tupN.tx e), rooms_of := h.rooms_of.imp (tupN.tx e) }
/-- the names of the function that is read -/
structure KnAt (a : RA) (nm : Option Addr) (kn : List (Key × V)) (r : RS) (H : Hp) : Prop where
  knd : AtK kS isS kn r.kn
  at_ : ∀ n, nm = some n → H n = some (.dK kn) ∧ n ∉ ads a
/-- names of a function that has been read -/
def clD (a : RA) (nm : Option Addr) (H : Hp) (v : V) (l : List (Str × Str)) : Prop := ∃ m kv, v = .ref m ∧ H m = some (.dK kv) ∧ AtK kS isS kv l ∧ m ∉ ads a ∧ nm ≠ some m
structure Rs (K : PySem.W.Frag) (a : RA) (nm : Option Addr) (d : RD) (kn : List (Key × V)) (r : RS) (H : Hp) : Prop where
  rg : Rg K a d H
  rel : Rel K H d r
  kn : KnAt a nm kn r H
  nms : ∃ cls, d.names = cls ++ nmV nm r.cur ∧ AtK kS (clD a nm H) cls r.nms
  cur : ∀ f, r.own = some f → r.cur = some f ∧ r.nms.lookup f = none
def RsAt (K : PySem.W.Frag) (a : RA) (nm : Option Addr) (r : RS) (H : Hp) : Prop := ∃ d kn, Rs K a nm d kn r H
/-- what stands elsewhere stays -/
def Kq (a : RA) (nm : Option Addr) (H G : Hp) : Prop := ∀ b o, b ∉ ads a → nm ≠ some b → H b = some o → G b = some o
section
variable {K : PySem.W.Frag} {a : RA} {nm : Option Addr} {d d' : RD} {kn : List (Key × V)} {r r' : RS} {H G F : Hp}
theorem Kq.refl : Kq a nm H H := fun _ _ _ _ h => h
theorem Kq.trans (x : Kq a nm H G) (y : Kq a nm G F) : Kq a nm H F := fun b o n m h => y b o n m (x b o n m h)
theorem ext_kq (x : ExtH H G) : Kq a nm H G := fun b o _ _ h => x b o h
theorem kp_kq (x : Kp a H G) : Kq a nm H G := fun b o n _ h => x b o n h
theorem clD.mono {v : V} {l : List (Str × Str)} (h : clD a nm H v l) (e : Kq a nm H G) : clD a nm G v l := let ⟨m, kv, h1, h2, h3, h4, h5⟩ := h; ⟨m, kv, h1, e _ _ h4 h5 h2, h3, h4, h5⟩
theorem Rs.ext (h : Rs K a nm d kn r H) (e : ExtH H G) : Rs K a nm d kn r G := ⟨h.rg.ext e, h.rel.tx (ext_tx e), ⟨h.kn.knd, fun n hn => ⟨e _ _ (h.kn.at_ n hn).1, (h.kn.at_ n hn).2⟩⟩, let ⟨cls, h1, h2⟩ := h.nms; ⟨cls, h1, h2.imp fun _ _ x => x.mono (ext_kq e)⟩, h.cur⟩
theorem RsAt.ext (h : RsAt K a nm r H) (e : ExtH H G) : RsAt K a nm r G := let ⟨d, kn, h⟩ := h; ⟨d, kn, h.ext e⟩
theorem Rs.at_ (h : Rs K a nm d kn r H) (i : Nat) {x : Addr} {o : HO} (e : (led K a d)[i]? = some (x, o) := by rfl) : H x = some o := h.rg.at_ i e
theorem ads_soft (h : Rs K a nm d kn r H) {x : Addr} (hx : x ∈ ads a) : ∃ o, H x = some o ∧ soft o = true := by
  rw [← ads_eq K a d] at hx
  obtain ⟨p, hp, rfl⟩ := List.mem_map.mp hx
  obtain ⟨i, hi⟩ := List.getElem?_of_mem hp
  exact ⟨p.2, h.rg.holds i p.1 p.2 hi, List.all_eq_true.mp (led_soft (K := K) (a := a) (d := d)) p hp⟩
/-- one object of the reading is changed -/
theorem Rs.up (h : Rs K a nm d kn r H) (i : Nat) {x : Addr} {o : HO} (o' : HO) (d' : RD) (r' : RS) (rel : ∀ G, Tx H G → Rel K G d r → Rel K G d' r') (ek : r'.kn = r.kn) (e : (led K a d)[i]? = some (x, o) := by rfl) (e' : (led K a d).set i (x, o') = led K a d' := by rfl) (en : d'.names = d.names := by rfl) (er : r'.nms = r.nms := by rfl) (ec : r'.cur = r.cur := by rfl) (eo : ∀ f, r'.own = some f → r.own = some f := by exact fun _ h => h) :
    Rs K a nm d' kn r' (upd H x o') ∧ Kq a nm H (upd H x o') ∧ Tx H (upd H x o') := by
  have hx : x ∈ ads a := by
    rw [← ads_eq K a d]
    exact List.mem_of_getElem? (adr_get e)
  obtain ⟨o2, ho, hs⟩ := ads_soft h hx
  have tx : Tx H (upd H x o') := tx_upd ho hs
  refine ⟨⟨h.rg.up i o' e e', rel _ tx (h.rel.tx tx), ⟨by rw [ek]; exact h.kn.knd, fun n hn => ?_⟩, ?_, fun f hf => by rw [er, ec]; exact h.cur f (eo f hf)⟩, kp_kq (kp_upd hx), tx⟩
  · obtain ⟨h1, h2⟩ := h.kn.at_ n hn
    have ne : n ≠ x := fun z => h2 (z ▸ hx)
    exact ⟨by rw [upd_ne ne]; exact h1, h2⟩
  obtain ⟨cls, h1, h2⟩ := h.nms
  exact ⟨cls, by rw [en, ec]; exact h1, by rw [er]; exact h2.imp fun _ _ y => y.mono (kp_kq (kp_upd hx))⟩
/-- a name more -/
theorem Rs.upN {n : Addr} (h : Rs K a (some n) d kn r H) {x s : Str} (e : r.kn.lookup x = none) :
    Rs K a (some n) d (putK kn (.inr x) (.str s)) {r with kn := r.kn ++ [(x, s)]} (upd H n (.dK (putK kn (.inr x) (.str s)))) ∧ Kq a (some n) H (upd H n (.dK (putK kn (.inr x) (.str s)))) := by
  obtain ⟨h1, h2⟩ := h.kn.at_ n rfl
  have tx : Tx H (upd H n (.dK (putK kn (.inr x) (.str s)))) := tx_upd h1 rfl
  have kq : Kq a (some n) H (upd H n (.dK (putK kn (.inr x) (.str s)))) := fun b o _ nb hb => by
    rw [upd_ne (fun z => nb (by rw [z]))]
    exact hb
  refine ⟨⟨⟨fun i b o hi => ?_, h.rg.nd⟩, { h.rel.tx tx with }, ⟨h.kn.knd.put kS_inj (u := .str s) e rfl, fun m hm => ?_⟩, let ⟨cls, h1, h2⟩ := h.nms; ⟨cls, h1, h2.imp fun _ _ y => y.mono kq⟩, h.cur⟩, kq⟩
  · have hb : b ∈ ads a := by
      rw [← ads_eq K a d]
      exact List.mem_of_getElem? (adr_get hi)
    have ne : b ≠ n := fun z => h2 (z ▸ hb)
    rw [upd_ne ne]
    exact h.rg.holds i b o hi
  · cases hm
    exact ⟨upd_same, h2⟩
end
end R9H
set_option Elab.async false
set_option linter.all false
set_option maxRecDepth 100000
set_option maxHeartbeats 4000000
/-! k24, part P: have_shapes, give_shape, note_making, parts_shapes -/
namespace R9H
open PySem PySem.Spec PyProof.Rows L2
abbrev mainS : Str := "main"
def RS.fnm (r : RS) : Str := r.own.getD ""
theorem own_fn {r : RS} {g : Str} (h : r.own = some g) : r.own = some r.fnm := by unfold RS.fnm; rw [h] <;> rfl
def sp_have_shapes (K : PySem.W.Frag) : Sp := fun vs H Q _ => ∃ (a : RA) (n : Addr) (r : RS) (l1 l2 : Addr) (xs ss : List Str), vs = [.ref a.rd, .ref l1, .ref l2] ∧ RsAt K a (some n) r H ∧ r.own = some r.fnm ∧ SqL K H l1 (xs.map V.str) ∧ SqL K H l2 (ss.map V.str) ∧
  Paired (fun x s => r.kn.lookup x = some s) xs ss ∧ ∀ H', ExtH H H' → Q (.bl true) H'
/-- a name gets its shape -/
def Give (r : RS) (x s : Str) (r' : RS) : Prop := goodName x ∧ ((r.kn.lookup x = some s ∧ r' = r) ∨ (r.kn.lookup x = none ∧ r.kn.length < 8 ∧ r' = {r with kn := r.kn ++ [(x, s)]}))
def sp_give_shape (K : PySem.W.Frag) : Sp := fun vs H Q _ => ∃ (a : RA) (n : Addr) (r r' : RS) (x s : Str), vs = [.ref a.rd, .str x, .str s] ∧ RsAt K a (some n) r H ∧ r.own = some r.fnm ∧ Give r x s r' ∧ ∀ H', Kq a (some n) H H' → RsAt K a (some n) r' H' → Q (.bl true) H'
def sp_note_making (K : PySem.W.Frag) : Sp := fun vs H Q _ => ∃ (a : RA) (n : Addr) (r : RS) (i : Int), vs = [.ref a.rd, .int i] ∧ RsAt K a (some n) r H ∧ r.makings.length < 12 ∧ ∀ H', Kq a (some n) H H' → RsAt K a (some n) {r with makings := r.makings ++ [i]} H' → Q (.bl true) H'
def sp_parts_shapes (K : PySem.W.Frag) : Sp := fun vs H Q _ => ∃ (a : RA) (nm : Option Addr) (r : RS) (s : Str), vs = [.ref a.sh, .str s] ∧ RsAt K a nm r H ∧ (r.f.lookup s).getD [] = [] ∧ ∀ H' l, ExtH H H' → H' l = some (.lst []) → Q (.ref l) H'
section
variable {w : World} {K : PySem.W.Frag} {mg : Str → Option Value} {base : Heap}
theorem ok_is_name (T : T6 K mg) : Has w K mg base 1 "is_name" ["word"] spName := ok_name T
theorem own_main {d : RD} {r : RS} {H : Hp} (h : Rel K H d r) (e : r.own = some r.fnm) : d.own = .str r.fnm := by rw [h.own, e]; rfl
theorem valV_app {kvs l : List (Key × V)} {k : Key} (h : valV kvs k = none) : valV (kvs ++ l) k = valV l k := by
  induction kvs with
  | nil => rfl
  | cons p q ih =>
    by_cases e : p.1 = k
    · rw [valV_pos e] at h; cases h
    · rw [List.cons_append, valV_neg e]
      rw [valV_neg e] at h
      exact ih h
theorem nm_get {a : RA} {n : Addr} {d : RD} {kn : List (Key × V)} {r : RS} {H : Hp} (h : Rs K a (some n) d kn r H) (e : r.own = some r.fnm) : valV d.names (.inr r.fnm) = some (.ref n) := by
  obtain ⟨cls, h1, h2⟩ := h.nms
  obtain ⟨c1, c2⟩ := h.cur _ e
  rw [h1, c1]
  exact (valV_app (h2.non kS_inj c2)).trans (valV_pos rfl)
abbrev st_have_shapes : Stmt := top 64
theorem sc_have_shapes : FnScope ["reading", "names", "shapes", "known", "name", "shape"] ["reading", "names", "shapes"] (defScope st_have_shapes) := ⟨rfl, rfl, rfl, by decide +kernel, rfl, by decide +kernel, by decide +kernel⟩
theorem ok_have_shapes (T : T6 K mg) : Has w K mg base 1 "have_shapes" ["reading", "names", "shapes"] (sp_have_shapes K) := by
  obtain ⟨fd, F⟩ := T.fn 42
  have gf_len := T.free "len" (by decide +kernel)
  have gf_zip := T.free "zip" (by decide +kernel)
  refine has_of (st := st_have_shapes) T F (by decide +kernel) (F.ok sc_have_shapes (fun vs H Q E h => ?_) (fun cdv A outer s H vs Q E hr h => ⟨_, PSs.nox (
    (pss_cons (ps_set (i := 3) sc_have_shapes.nd rfl (Or.inl rfl) (pe_dget hr.u1 (pe_fld (pv 0) rfl) (pe_fld (pv 0) rfl) (fun _ _ => rfl)))
    (pss_cons (ps_if (pt_cmpR op_ne (pe_callB call_len_seq rfl gf_len PySem.boot_len (pa_cons (pv 1) pa_nil)) (pe_callB call_len_seq rfl gf_len PySem.boot_len (pa_cons (pv 2) pa_nil)) (nomark _))
      (pss_one (ps_ret pe_bl))
      pss_nil)
    (pss_cons (ps_for PassesOwn.never rfl (pi_zip (by rfl) gf_zip (pa_cons (pv 1) (pa_cons (pv 2) pa_nil))) (pg_tup rfl (pgs_cons (pg_name (i := 4) sc_have_shapes.nd rfl (Or.inl rfl)) (pgs_cons (pg_name (i := 5) sc_have_shapes.nd rfl (Or.inl rfl)) pgs_nil)))
      (pss_one (ps_if (PW.pt (pw_or (pt_cmp (pc_dnotin hr.u1 (pv 4) (pv 3))) (pw_or1 (pt_cmpR op_ne (pe_dget hr.u1 (pv 3) (pv 4) (fun _ _ => rfl)) (pv 5) (nomark _)))))
        (pss_one (ps_ret pe_bl))
        pss_nil)))
    (pss_one (ps_ret pe_bl)))))), ?_⟩)) fun _ _ _ _ _ _ us hl => match us, hl with | [_, _, _], _ => rfl
  · obtain ⟨a, n, r, l1, l2, xs, ss, rfl, _⟩ := h
    rfl
  · obtain ⟨a, n, r, l1, l2, xs, ss, rfl, ⟨d, kn, hs⟩, ho, hl1, hl2, hp, q⟩ := h
    clear F
    have hC := T.cls "Reading" (by decide +kernel)
    have hA1 := T.noat "Reading" "names" (by decide +kernel)
    have hA2 := T.noat "Reading" "owner" (by decide +kernel)
    have hlen := Paired.length hp
    refine ⟨_, rfl, _, _, _, _, _, rfl, hs.at_ 0, hC, hA1, rfl, _, rfl, _, _, _, _, _, rfl, hs.at_ 0, hC, hA2, rfl, _, _, rfl, by rw [own_main hs.rel ho, ← nm_get hs ho]; exact DGet.k (k := .inr r.fnm) (hs.at_ 9), ?_⟩
    refine ⟨_, rfl, l1, _, rfl, .inl hl1, _, rfl, l2, _, rfl, .inl hl2, rfl, _, rfl, ifF (by simp only [List.length_map, hlen, decide_true, Bool.not_true]) ?_⟩
    refine ⟨_, rfl, _, rfl, l1, l2, _, _, rfl, hl1, hl2, for_it (walk_zip (n := xs.length) (by simp only [List.length_map, hlen, Nat.min_self])) (fun i σ G => ExtH H G ∧ ∃ v4 v5, σ = [some (.ref a.rd), some (.ref l1), some (.ref l2), some (.ref n), v4, v5]) ⟨.refl, _, _, rfl⟩ (fun i σ G _ ⟨e, _⟩ => ⟨sqL_extH e hl1, sqL_extH e hl2⟩) ?_ (fun σ G ⟨e, v4, v5, eσ⟩ => q G e)⟩
    rintro i x σ G G' hi ⟨e, v4, v5, rfl⟩ ⟨t, x, y, rfl, nt, rfl, hx, hy⟩
    obtain ⟨y0, hy0, hk⟩ := L2.paired_get hp (List.getElem?_eq_getElem hi)
    dsimp only at hx hy
    rw [List.getElem?_map, List.getElem?_eq_getElem hi] at hx
    rw [List.getElem?_map, hy0] at hy
    cases hx
    cases hy
    have e1 : ExtH H (upd G t (.tup [.str xs[i], .str y0])) := e.trans (extH_put nt)
    have hn := e1 _ _ (hs.kn.at_ n rfl).1
    obtain ⟨u, hu, ru⟩ := hs.kn.knd.get kS_inj hk
    cases ru
    refine ⟨t, _, rfl, SqT.of upd_same, rfl, _, _, rfl, _, _, rfl, rfl, ?_⟩
    refine ⟨_, rfl, _, rfl, n, _, rfl, DGet.k (k := .inr xs[i]) hn, false, by rw [show valV kn (.inr xs[i]) = _ from hu] <;> rfl, ?_⟩
    refine ⟨_, rfl, _, rfl, n, _, rfl, by rw [← show valV kn (.inr xs[i]) = _ from hu]; exact DGet.k (k := .inr xs[i]) hn, _, rfl, rfl, _, rfl, ifF (by simp) ⟨e1, _, _, rfl⟩⟩
abbrev st_give_shape : Stmt := top 65
theorem sc_give_shape : FnScope ["reading", "name", "shape", "known"] ["reading", "name", "shape"] (defScope st_give_shape) := ⟨rfl, rfl, rfl, by decide +kernel, rfl, by decide +kernel, by decide +kernel⟩
theorem ok_give_shape (T : T6 K mg) : Has w K mg base 2 "give_shape" ["reading", "name", "shape"] (sp_give_shape K) := by
  obtain ⟨fd, F⟩ := T.fn 43
  have H_is_name := ok_is_name (w := w) (base := base) T
  have gf_len := T.free "len" (by decide +kernel)
  obtain ⟨t_MOST_NAMES, g_MOST_NAMES⟩ := T.int "MOST_NAMES" (8) (by decide +kernel)
  refine has_of (st := st_give_shape) T F (by decide +kernel) (F.ok sc_give_shape (fun vs H Q E h => ?_) (fun cdv A outer s H vs Q E hr h => ⟨_, PSs.nox (
    (pss_cons (ps_set (i := 3) sc_give_shape.nd rfl (Or.inl rfl) (pe_dget hr.u1 (pe_fld (pv 0) rfl) (pe_fld (pv 0) rfl) (fun _ _ => rfl)))
    (pss_cons (ps_if (PW.pt (pw_or (pt_cmpR op_isN (pv 2) pe_non rfl) (pw_or1 (pt_not (pt_val (pe_has H_is_name rfl (hr.mono (by decide)) rfl (pa_cons (pv 1) pa_nil)))))))
      (pss_one (ps_ret pe_bl))
      pss_nil)
    (pss_cons (ps_if (pt_cmp (pc_din hr.u1 (pv 1) (pv 3)))
      (pss_one (ps_ret (pe_cmpR op_eq (pe_dget hr.u1 (pv 3) (pv 1) (fun _ _ => rfl)) (pv 2) (nomark _))))
      pss_nil)
    (pss_cons (ps_if (pt_cmpR op_eq (pe_callB call_lenD rfl gf_len PySem.boot_len (pa_cons (pv 3) pa_nil)) (pe_gi rfl g_MOST_NAMES) (nomark _))
      (pss_one (ps_ret pe_bl))
      pss_nil)
    (pss_cons (ps_dput hr.u1 (pv 3) (pv 1) (pv 2) rfl)
    (pss_one (ps_ret pe_bl)))))))), ?_⟩)) fun _ _ _ _ _ _ us hl => match us, hl with | [_, _, _], _ => rfl
  · obtain ⟨a, n, r, r', x, s, rfl, _⟩ := h
    rfl
  · obtain ⟨a, n, r, r', x, sp, rfl, ⟨d, kn, hs⟩, ho, ⟨hg, hv⟩, q⟩ := h
    clear F
    have hC := T.cls "Reading" (by decide +kernel)
    have hA1 := T.noat "Reading" "names" (by decide +kernel)
    have hA2 := T.noat "Reading" "owner" (by decide +kernel)
    have hn := (hs.kn.at_ n rfl).1
    refine ⟨_, rfl, _, _, _, _, _, rfl, hs.at_ 0, hC, hA1, rfl, _, rfl, _, _, _, _, _, rfl, hs.at_ 0, hC, hA2, rfl, _, _, rfl, by rw [own_main hs.rel ho, ← nm_get hs ho]; exact DGet.k (k := .inr r.fnm) (hs.at_ 9), ?_⟩
    refine ⟨_, rfl, rfl, _, rfl, ifF rfl ?_⟩
    refine ⟨_, rfl, x, rfl, hg, true, rfl, ifF rfl ?_⟩
    rcases hv with ⟨e, rfl⟩ | ⟨e, hl, rfl⟩
    · obtain ⟨u, hu, ru⟩ := hs.kn.knd.get kS_inj e
      cases ru
      refine ⟨_, rfl, _, rfl, n, _, rfl, DGet.k (k := .inr x) hn, true, by rw [show valV kn (.inr x) = _ from hu] <;> rfl, ifT rfl ?_⟩
      exact ⟨_, rfl, _, rfl, n, _, rfl, by rw [← show valV kn (.inr x) = _ from hu]; exact DGet.k (k := .inr x) hn, _, rfl, rfl, qT (by simp) (q _ .refl ⟨d, kn, hs⟩)⟩
    · have hu : valV kn (.inr x) = none := hs.kn.knd.non kS_inj e
      have hlen := hs.kn.knd.len
      refine ⟨_, rfl, _, rfl, n, _, rfl, DGet.k (k := .inr x) hn, false, by rw [hu] <;> rfl, ifF rfl ?_⟩
      refine ⟨_, rfl, n, _, rfl, hn, rfl, _, rfl, ifF (decide_eq_false (by simp only [V.int.injEq]; omega)) ?_⟩
      obtain ⟨h2, k2⟩ := hs.upN (x := x) (s := sp) e
      exact ⟨_, rfl, _, rfl, _, rfl, n, _, rfl, DPut.k (k := .inr x) hn (by rw [sizeLine_eq]; omega), q _ k2 ⟨_, _, h2⟩⟩
abbrev st_note_making : Stmt := top 66
theorem sc_note_making : FnScope ["reading", "line"] ["reading", "line"] (defScope st_note_making) := ⟨rfl, rfl, rfl, by decide +kernel, rfl, by decide +kernel, by decide +kernel⟩
theorem ok_note_making (T : T6 K mg) : Has w K mg base 1 "note_making" ["reading", "line"] (sp_note_making K) := by
  obtain ⟨fd, F⟩ := T.fn 44
  have gf_len := T.free "len" (by decide +kernel)
  obtain ⟨t_MOST_MAKINGS, g_MOST_MAKINGS⟩ := T.int "MOST_MAKINGS" (12) (by decide +kernel)
  refine has_of (st := st_note_making) T F (by decide +kernel) (F.ok sc_note_making (fun vs H Q E h => ?_) (fun cdv A outer s H vs Q E hr h => ⟨_, PSs.nox (
    (pss_cons (ps_expr (pe_bm PySem.F.plainAttrs_list PySem.F.slot_list_append PySem.F.type_list_append mt_append (pe_fld (pv 0) rfl) (pa_cons (pv 1) pa_nil)))
    (pss_one (ps_ret (pe_cmpR op_le (pe_callB call_len_seq rfl gf_len PySem.boot_len (pa_cons (pe_fld (pv 0) rfl) pa_nil)) (pe_gi rfl g_MOST_MAKINGS) (nomark _)))))), ?_⟩)) fun _ _ _ _ _ _ us hl => match us, hl with | [_, _], _ => rfl
  · obtain ⟨a, n, r, i, rfl, _⟩ := h
    rfl
  · obtain ⟨a, n, r, i, rfl, ⟨d, kn, hs⟩, hl, q⟩ := h
    clear F
    have hC := T.cls "Reading" (by decide +kernel)
    have hA1 := T.noat "Reading" "makings" (by decide +kernel)
    have hm := hs.rel.makings
    have hml : d.makings.length = r.makings.length := by rw [hm, List.length_map]
    obtain ⟨h2, k2, _⟩ := hs.up 19 (.lst (d.makings ++ [.int i])) {d with makings := d.makings ++ [.int i]} {r with makings := r.makings ++ [i]} (fun G _ h => { h with makings := by rw [hm, List.map_append] <;> rfl }) rfl
    refine ⟨_, rfl, _, _, _, _, .ref a.makings, rfl, hs.at_ 0, hC, hA1, rfl, .inl ⟨rfl, _, SqL.of (hs.at_ 19)⟩, _, rfl, a.makings, _, _, rfl, rfl, hs.at_ 19, by rw [sizeLine_eq, hml]; omega, ?_⟩
    refine ⟨_, rfl, _, _, _, _, _, rfl, h2.at_ 0, hC, hA1, rfl, a.makings, _, rfl, .inl (SqL.of (h2.at_ 19)), _, _, rfl, rfl, qT (decide_eq_true ?_) (q _ k2 ⟨_, _, h2⟩)⟩
    rw [List.length_append, hml]
    show ((r.makings.length + 1 : Nat) : Int) ≤ 12
    omega
abbrev st_parts_shapes : Stmt := top 50
theorem sc_parts_shapes : FnScope ["shapes", "shape", "field", "kind"] ["shapes", "shape"] (defScope st_parts_shapes) := ⟨rfl, rfl, rfl, by decide +kernel, rfl, by decide +kernel, by decide +kernel⟩
theorem ok_parts_shapes (T : T6 K mg) : Has w K mg base 1 "parts_shapes" ["shapes", "shape"] (sp_parts_shapes K) := by
  obtain ⟨fd, F⟩ := T.fn 38
  refine has_of (st := st_parts_shapes) T F (by decide +kernel) (F.ok sc_parts_shapes (fun vs H Q E h => ?_) (fun cdv A outer s H vs Q E hr h => ⟨_, PSs.nox (
    (pss_one (ps_ret (pe_lc (own := [("field", 2), ("kind", 3)]) (g := gTup K 2 (gCons (gName 2) (gCons (gName 3) gNil))) (by rfl) sc_parts_shapes.nd (pi_tup (pe_dget2 hr.u1 (pe_fld (pv 0) rfl) (pv 1) (pe_tup pa_nil) ⟨rfl, rfl, rfl, rfl⟩)) (blkOk_by (own := [("field", 2), ("kind", 3)]) (N := ["shapes", "shape", "field", "kind"]) (sc := defScope st_parts_shapes) (by decide +kernel))
        (fun _ _ _ _ _ => (pg_tup rfl (pgs_cons (pg_name (i := 2) sc_parts_shapes.nd rfl (Or.inl rfl)) (pgs_cons (pg_name (i := 3) sc_parts_shapes.nd rfl (Or.inl rfl)) pgs_nil)))) (fun _ _ _ _ _ => pts_nil) (fun _ _ _ _ _ => (pv 3)))))), ?_⟩)) fun _ _ _ _ _ _ us hl => match us, hl with | [_, _], _ => rfl
  · obtain ⟨a, nm, r, s, rfl, _⟩ := h
    rfl
  · obtain ⟨a, nm, r, sp, rfl, ⟨d, kn, hs⟩, hf, q⟩ := h
    clear F
    have hC := T.cls "Shapes" (by decide +kernel)
    have hA1 := T.noat "Shapes" "fields" (by decide +kernel)
    refine ⟨_, rfl, _, _, _, _, _, rfl, hs.at_ 1, hC, hA1, lookF, a.f, rfl, .inl ⟨_, .inl (hs.at_ 2)⟩, _, rfl, Nat.zero_le _, fun pt npt => ?_⟩
    have e1 : ExtH H (upd H pt (.tup [])) := extH_put npt
    obtain ⟨o, t, ho, ht, hq⟩ : ∃ o t, valV d.f (.inr sp) = o ∧ SqT K (upd H pt (.tup [])) t [] ∧ o.getD (.ref pt) = V.ref t := by
      cases hl : r.f.lookup sp with
      | none => exact ⟨_, pt, hs.rel.f.non kS_inj hl, SqT.of upd_same, rfl⟩
      | some ps =>
        rw [hl] at hf
        cases hf
        obtain ⟨u, hu, t, ts, rfl, h1, h2⟩ := hs.rel.f.get kS_inj hl
        cases h2
        exact ⟨_, t, hu, (ext_tx e1).sqT h1, rfl⟩
    refine ⟨o, by rw [← ho]; exact DGet.k (k := .inr sp) (e1 _ _ (hs.at_ 2)), ?_⟩
    rw [hq]
    refine ⟨t, rfl, ⟨_, ht⟩, fun D hD => ?_⟩
    refine lc_it (n := 0) (walk_tup (xs := [])) (fun i G => G = upd (upd H pt (.tup [])) D (.lst [])) rfl ?_ (fun i x H H' hi => absurd hi (Nat.not_lt_zero _)) ?_
    · rintro i G _ rfl
      exact sqT_extH (extH_put hD) ht
    · rintro G rfl
      exact q _ D (e1.trans (extH_put hD)) upd_same
end
end R9H
set_option Elab.async false
set_option linter.all false
set_option maxRecDepth 100000
set_option maxHeartbeats 4000000
/-! k24, part Q: read_new, read_with, read_value -/
namespace R9H
open PySem PySem.Spec PyProof.Rows L2
abbrev mk1 (r : RS) (i : Int) : RS := {r with makings := r.makings ++ [i]}
def sp_read_new (K : PySem.W.Frag) : Sp := fun vs H Q _ => ∃ (a : RA) (n : Addr) (r r1 : RS) (wl : Addr) (i : Int) (x s : Str) (wy : List (List Str)), vs = [.ref a.rd, .ref wl, .int i] ∧ H wl = some (.lst [.str "new", .str x, .str s]) ∧ RsAt K a (some n) r H ∧ r.own = some r.fnm ∧
  r.tab.lookup s = some wy ∧ (r.f.lookup s).getD [] = [] ∧ Give r x s r1 ∧ r1.makings.length < 12 ∧ ∀ H', Kq a (some n) H H' → RsAt K a (some n) (mk1 r1 i) H' → Q (.bl true) H'
def sp_read_with (K : PySem.W.Frag) : Sp := fun vs H Q _ => ∃ (a : RA) (n : Addr) (r r1 : RS) (wl : Addr) (i : Int) (x b y bs cs : Str), vs = [.ref a.rd, .ref wl, .int i] ∧ H wl = some (.lst [.str "with", .str x, .str b, .str y]) ∧ RsAt K a (some n) r H ∧ r.own = some r.fnm ∧
  r.kn.lookup b = some bs ∧ r.c.lookup bs = some cs ∧ r.kn.lookup y = some cs ∧ Give r x bs r1 ∧ r1.makings.length < 12 ∧ ∀ H', Kq a (some n) H H' → RsAt K a (some n) (mk1 r1 i) H' → Q (.bl true) H'
inductive Val (r : RS) : Str → List Str → RS → Prop
  | use {x s} : r.kn.lookup x = some s → Val r "use" [x] r
  | non {x s wy r'} : r.tab.lookup s = some wy → Give r x s r' → Val r "none" [x, s] r'
  | let_ {x y s r'} : r.kn.lookup y = some s → Give r x s r' → Val r "let" [x, y] r'
  | some_ {x b bs cs r'} : r.kn.lookup b = some bs → r.c.lookup bs = some cs → Give r x cs r' → Val r "some" [x, b] r'
abbrev dLens : List (Key × V) := [(.inr "none", .int 3), (.inr "get", .int 4), (.inr "some", .int 3), (.inr "let", .int 3), (.inr "use", .int 2)]
def sp_read_value (K : PySem.W.Frag) : Sp := fun vs H Q _ => ∃ (a : RA) (n : Addr) (r r' : RS) (wl : Addr) (kw : Str) (ws : List Str), vs = [.ref a.rd, .ref wl] ∧ H wl = some (.lst ((kw :: ws).map V.str)) ∧ RsAt K a (some n) r H ∧ r.own = some r.fnm ∧ Val r kw ws r' ∧
  ∀ H', Kq a (some n) H H' → RsAt K a (some n) r' H' → Q (.bl true) H'
section
variable {w : World} {K : PySem.W.Frag} {mg : Str → Option Value} {base : Heap}
theorem Give.own {r r' : RS} {x s : Str} (h : Give r x s r') : r'.own = r.own := by
  rcases h.2 with ⟨_, rfl⟩ | ⟨_, _, rfl⟩ <;> rfl
abbrev st_read_new : Stmt := top 67
theorem sc_read_new : FnScope ["reading", "words", "line"] ["reading", "words", "line"] (defScope st_read_new) := ⟨rfl, rfl, rfl, by decide +kernel, rfl, by decide +kernel, by decide +kernel⟩
theorem ok_read_new (T : T6 K mg) : Has w K mg base 3 "read_new" ["reading", "words", "line"] (sp_read_new K) := by
  obtain ⟨fd, F⟩ := T.fn 45
  have H_have_shapes := ok_have_shapes (w := w) (base := base) T
  have H_parts_shapes := ok_parts_shapes (w := w) (base := base) T
  have H_note_making := ok_note_making (w := w) (base := base) T
  have H_give_shape := ok_give_shape (w := w) (base := base) T
  have gf_len := T.free "len" (by decide +kernel)
  refine has_of (st := st_read_new) T F (by decide +kernel) (F.ok sc_read_new (fun vs H Q E h => ?_) (fun cdv A outer s H vs Q E hr h => ⟨_, PSs.nox (
    (pss_cons (ps_if (PW.pt (pw_or (pt_cmpR op_lt (pe_callB call_len_seq rfl gf_len PySem.boot_len (pa_cons (pv 1) pa_nil)) pe_int (nomark _)) (pw_or1 (pt_cmp (pc_dnotin hr.u1 (pe_ix ix_list (pv 1) pe_int (fun _ _ => rfl)) (pe_fld (pe_fld (pv 0) rfl) rfl))))))
      (pss_one (ps_ret pe_bl))
      pss_nil)
    (pss_cons (ps_if (pt_not (pt_val (pe_has H_have_shapes rfl (hr.mono (by decide)) rfl (pa_cons (pv 0) (pa_cons (pe_slice sl_list (pv 1) (po_some pe_int) po_none) (pa_cons (pe_has H_parts_shapes rfl (hr.mono (by decide)) rfl (pa_cons (pe_fld (pv 0) rfl) (pa_cons (pe_ix ix_list (pv 1) pe_int (fun _ _ => rfl)) pa_nil))) pa_nil))))))
      (pss_one (ps_ret pe_bl))
      pss_nil)
    (pss_one (ps_ret (pe_and (pe_has H_give_shape rfl (hr.mono (by decide)) rfl (pa_cons (pv 0) (pa_cons (pe_ix ix_list (pv 1) pe_int (fun _ _ => rfl)) (pa_cons (pe_ix ix_list (pv 1) pe_int (fun _ _ => rfl)) pa_nil)))) (pe_one (pe_has H_note_making rfl (hr.mono (by decide)) rfl (pa_cons (pv 0) (pa_cons (pv 2) pa_nil)))))))))), ?_⟩)) fun _ _ _ _ _ _ us hl => match us, hl with | [_, _, _], _ => rfl
  · obtain ⟨a, n, r, r1, wl, i, x, s, wy, rfl, _⟩ := h
    rfl
  · obtain ⟨a, n, r, r1, wl, i, x, sp, wy, rfl, hw, ⟨d, kn, hs⟩, ho, ht, hf, hg, hm, q⟩ := h
    clear F
    have hC := T.cls "Reading" (by decide +kernel)
    have hS := T.cls "Shapes" (by decide +kernel)
    have hA1 := T.noat "Reading" "shapes" (by decide +kernel)
    have hA2 := T.noat "Shapes" "routes" (by decide +kernel)
    have i1 : atI [V.str "new", V.str x, V.str sp] 1 = some (V.str x) := atI_nat (j := 1) rfl
    have i2 : atI [V.str "new", V.str x, V.str sp] 2 = some (V.str sp) := atI_nat (j := 2) rfl
    obtain ⟨u, hu, _⟩ := hs.rel.tab.get kS_inj ht
    refine ⟨_, rfl, wl, _, rfl, .inl (SqL.of hw), _, _, rfl, rfl, _, rfl, ifF rfl ?_⟩
    refine ⟨_, rfl, wl, _, 2, _, rfl, rfl, SqL.of hw, i2, _, rfl, _, _, _, _, _, rfl, hs.at_ 0, hC, hA1, rfl, _, _, _, _, _, rfl, hs.at_ 1, hS, hA2, lookR, a.r, _, rfl, DGet.k (k := .inr sp) (hs.at_ 4), false, by rw [show valV d.r (.inr sp) = _ from hu] <;> rfl, ifF rfl ?_⟩
    refine ⟨_, rfl, _, rfl, 3, rfl, wl, _, rfl, SqL.of hw, fun p np => ?_⟩
    have ec : cutV [V.str "new", V.str x, V.str sp] (some 3) none = [] := rfl
    rw [ec]
    have e1 : ExtH H (upd H p (.lst [])) := extH_put np
    have p1 : upd H p (.lst []) p = some (.lst []) := upd_same
    generalize upd H p (.lst []) = G1 at e1 p1 ⊢
    have s1 := hs.ext e1
    refine ⟨_, rfl, _, _, _, _, _, rfl, s1.at_ 0, hC, hA1, rfl, _, rfl, wl, _, 2, _, rfl, rfl, SqL.of (e1 _ _ hw), i2, a, some n, r, sp, rfl, ⟨d, kn, s1⟩, hf, fun G2 l e2 hl => ?_⟩
    have s2 := s1.ext e2
    refine ⟨a, n, r, p, l, [], [], rfl, ⟨d, kn, s2⟩, ho, SqL.of (e2 _ _ p1), SqL.of hl, .nil, fun G3 e3 => ⟨true, rfl, ifF rfl ?_⟩⟩
    have e13 := e1.trans (e2.trans e3)
    refine ⟨_, rfl, _, rfl, wl, _, 1, _, rfl, rfl, SqL.of (e13 _ _ hw), i1, _, rfl, wl, _, 2, _, rfl, rfl, SqL.of (e13 _ _ hw), i2, a, n, r, r1, x, sp, rfl, ⟨d, kn, hs.ext e13⟩, ho, hg, fun G4 k4 h4 => ⟨true, rfl, ?_⟩⟩
    exact iteT ⟨_, rfl, _, rfl, a, n, r1, i, rfl, h4, hm, fun G5 k5 h5 => q G5 ((ext_kq e13).trans (k4.trans k5)) h5⟩
abbrev st_read_with : Stmt := top 68
theorem sc_read_with : FnScope ["reading", "words", "line", "bag"] ["reading", "words", "line"] (defScope st_read_with) := ⟨rfl, rfl, rfl, by decide +kernel, rfl, by decide +kernel, by decide +kernel⟩
theorem ok_read_with (T : T6 K mg) : Has w K mg base 3 "read_with" ["reading", "words", "line"] (sp_read_with K) := by
  obtain ⟨fd, F⟩ := T.fn 46
  have H_have_shapes := ok_have_shapes (w := w) (base := base) T
  have H_note_making := ok_note_making (w := w) (base := base) T
  have H_give_shape := ok_give_shape (w := w) (base := base) T
  have gf_len := T.free "len" (by decide +kernel)
  refine has_of (st := st_read_with) T F (by decide +kernel) (F.ok sc_read_with (fun vs H Q E h => ?_) (fun cdv A outer s H vs Q E hr h => ⟨_, PSs.nox (
    (pss_cons (ps_if (pt_cmpR op_ne (pe_callB call_len_seq rfl gf_len PySem.boot_len (pa_cons (pv 1) pa_nil)) pe_int (nomark _))
      (pss_one (ps_ret pe_bl))
      pss_nil)
    (pss_cons (ps_set (i := 3) sc_read_with.nd rfl (Or.inl rfl) (pe_dget1 hr.u1 (pe_dget hr.u1 (pe_fld (pv 0) rfl) (pe_fld (pv 0) rfl) (fun _ _ => rfl)) (pe_ix ix_list (pv 1) pe_int (fun _ _ => rfl)) ⟨rfl, rfl, rfl, rfl⟩))
    (pss_cons (ps_if (PW.pt (pw_or (pt_cmp (pc_dnotin hr.u1 (pv 3) (pe_fld (pe_fld (pv 0) rfl) rfl))) (pw_or1 (pt_not (pt_val (pe_has H_have_shapes rfl (hr.mono (by decide)) rfl (pa_cons (pv 0) (pa_cons (pe_slice sl_list (pv 1) (po_some pe_int) po_none) (pa_cons (pe_lst (pa_cons (pe_dget hr.u1 (pe_fld (pe_fld (pv 0) rfl) rfl) (pv 3) (fun _ _ => rfl)) pa_nil)) pa_nil)))))))))
      (pss_one (ps_ret pe_bl))
      pss_nil)
    (pss_one (ps_ret (pe_and (pe_has H_give_shape rfl (hr.mono (by decide)) rfl (pa_cons (pv 0) (pa_cons (pe_ix ix_list (pv 1) pe_int (fun _ _ => rfl)) (pa_cons (pv 3) pa_nil)))) (pe_one (pe_has H_note_making rfl (hr.mono (by decide)) rfl (pa_cons (pv 0) (pa_cons (pv 2) pa_nil))))))))))), ?_⟩)) fun _ _ _ _ _ _ us hl => match us, hl with | [_, _, _], _ => rfl
  · obtain ⟨a, n, r, r1, wl, i, x, b, y, bs, cs, rfl, _⟩ := h
    rfl
  · obtain ⟨a, n, r, r1, wl, i, x, b, y, bs, cs, rfl, hw, ⟨d, kn, hs⟩, ho, hb, hc, hy, hg, hm, q⟩ := h
    clear F
    have hC := T.cls "Reading" (by decide +kernel)
    have hS := T.cls "Shapes" (by decide +kernel)
    have hA1 := T.noat "Reading" "shapes" (by decide +kernel)
    have hA2 := T.noat "Shapes" "contents" (by decide +kernel)
    have hA3 := T.noat "Reading" "names" (by decide +kernel)
    have hA4 := T.noat "Reading" "owner" (by decide +kernel)
    have i1 : atI [V.str "with", V.str x, V.str b, V.str y] 1 = some (V.str x) := atI_nat (j := 1) rfl
    have i2 : atI [V.str "with", V.str x, V.str b, V.str y] 2 = some (V.str b) := atI_nat (j := 2) rfl
    obtain ⟨u, hu, ru⟩ := hs.kn.knd.get kS_inj hb
    cases ru
    obtain ⟨v, hv, rv⟩ := hs.rel.c.get kS_inj hc
    cases rv
    have hn := (hs.kn.at_ n rfl).1
    refine ⟨_, rfl, wl, _, rfl, .inl (SqL.of hw), rfl, _, rfl, ifF rfl ?_⟩
    refine ⟨_, rfl, _, _, _, _, _, rfl, hs.at_ 0, hC, hA3, rfl, _, rfl, _, _, _, _, _, rfl, hs.at_ 0, hC, hA4, rfl, _, _, rfl, by rw [own_main hs.rel ho, ← nm_get hs ho]; exact DGet.k (k := .inr r.fnm) (hs.at_ 9), ?_⟩
    refine ⟨n, rfl, .inl ⟨_, .inl hn⟩, _, rfl, wl, _, 2, _, rfl, rfl, SqL.of hw, i2, some (.str bs), by rw [← show valV kn (.inr b) = _ from hu]; exact DGet.k (k := .inr b) hn, ?_⟩
    refine ⟨_, rfl, _, rfl, _, _, _, _, _, rfl, hs.at_ 0, hC, hA1, rfl, _, _, _, _, _, rfl, hs.at_ 1, hS, hA2, lookC, a.c, _, rfl, DGet.k (k := .inr bs) (hs.at_ 3), false, by rw [show valV d.c (.inr bs) = _ from hv] <;> rfl, ifF rfl ?_⟩
    refine ⟨_, rfl, _, rfl, 3, rfl, wl, _, rfl, SqL.of hw, fun p np => ?_⟩
    have ec : cutV [V.str "with", V.str x, V.str b, V.str y] (some 3) none = [.str y] := rfl
    rw [ec]
    have e1 : ExtH H (upd H p (.lst [.str y])) := extH_put np
    have p1 : upd H p (.lst [.str y]) p = some (.lst [.str y]) := upd_same
    generalize upd H p (.lst [.str y]) = G1 at e1 p1 ⊢
    have s1 := hs.ext e1
    refine ⟨_, rfl, _, _, _, _, _, rfl, s1.at_ 0, hC, hA1, rfl, _, _, _, _, _, rfl, s1.at_ 1, hS, hA2, lookC, _, rfl, a.c, _, rfl, by rw [← show valV d.c (.inr bs) = _ from hv]; exact DGet.k (k := .inr bs) (s1.at_ 3), by rw [sizeLine_eq]; show 1 ≤ 16777216; decide, fun l nl => ?_⟩
    have e2 : ExtH G1 (upd G1 l (.lst [.str cs])) := extH_put nl
    have l2 : upd G1 l (.lst [.str cs]) l = some (.lst [.str cs]) := upd_same
    generalize upd G1 l (.lst [.str cs]) = G2 at e2 l2 ⊢
    have s2 := s1.ext e2
    refine ⟨a, n, r, p, l, [y], [cs], rfl, ⟨d, kn, s2⟩, ho, SqL.of (e2 _ _ p1), SqL.of l2, .cons hy .nil, fun G3 e3 => ⟨true, rfl, ifF rfl ?_⟩⟩
    have e13 := e1.trans (e2.trans e3)
    refine ⟨_, rfl, _, rfl, wl, _, 1, _, rfl, rfl, SqL.of (e13 _ _ hw), i1, _, rfl, a, n, r, r1, x, bs, rfl, ⟨d, kn, hs.ext e13⟩, ho, hg, fun G4 k4 h4 => ⟨true, rfl, ?_⟩⟩
    exact iteT ⟨_, rfl, _, rfl, a, n, r1, i, rfl, h4, hm, fun G5 k5 h5 => q G5 ((ext_kq e13).trans (k4.trans k5)) h5⟩
abbrev st_read_value : Stmt := top 69
theorem sc_read_value : FnScope ["reading", "words", "known", "shapes", "shape"] ["reading", "words"] (defScope st_read_value) := ⟨rfl, rfl, rfl, by decide +kernel, rfl, by decide +kernel, by decide +kernel⟩
theorem ok_read_value (T : T6 K mg) : Has w K mg base 3 "read_value" ["reading", "words"] (sp_read_value K) := by
  obtain ⟨fd, F⟩ := T.fn 47
  have H_give_shape := ok_give_shape (w := w) (base := base) T
  have gf_len := T.free "len" (by decide +kernel)
  refine has_of (st := st_read_value) T F (by decide +kernel) (F.ok sc_read_value (fun vs H Q E h => ?_) (fun cdv A outer s H vs Q E hr h => ⟨_, PSs.nox (
    (pss_cons (ps_par (i := 2) (j := 3) (by rfl) sc_read_value.nd rfl rfl (by decide) rfl rfl (pa_cons (pe_dget hr.u1 (pe_fld (pv 0) rfl) (pe_fld (pv 0) rfl) (fun _ _ => rfl)) (pa_cons (pe_fld (pv 0) rfl) pa_nil)) (by rfl))
    (pss_cons (ps_if (pt_cmpR op_ne (pe_callB call_len_seq rfl gf_len PySem.boot_len (pa_cons (pv 1) pa_nil)) (pe_dget hr.u1 (pe_disp (pps_cons pe_str pe_int (pps_cons pe_str pe_int (pps_cons pe_str pe_int (pps_cons pe_str pe_int (pps_cons pe_str pe_int pps_nil))))) (by rfl) (by rfl) (fun z => by cases z) (by decide)) (pe_ix ix_list (pv 1) pe_int (fun _ _ => rfl)) (fun _ _ => rfl)) (nomark _))
      (pss_one (ps_ret pe_bl))
      pss_nil)
    (pss_cons (ps_if (pt_cmpR op_eq (pe_ix ix_list (pv 1) pe_int (fun _ _ => rfl)) pe_str (nomark _))
      (pss_one (ps_ret (pe_cmp (pc_din hr.u1 (pe_ix ix_list (pv 1) pe_int (fun _ _ => rfl)) (pv 2)))))
      pss_nil)
    (pss_cons (ps_if (pt_cmpR op_eq (pe_ix ix_list (pv 1) pe_int (fun _ _ => rfl)) pe_str (nomark _))
      (pss_one (ps_ret (pe_and (pe_cmp (pc_din hr.u1 (pe_ix ix_list (pv 1) pe_int (fun _ _ => rfl)) (pe_fld (pv 3) rfl))) (pe_one (pe_has H_give_shape rfl (hr.mono (by decide)) rfl (pa_cons (pv 0) (pa_cons (pe_ix ix_list (pv 1) pe_int (fun _ _ => rfl)) (pa_cons (pe_ix ix_list (pv 1) pe_int (fun _ _ => rfl)) pa_nil))))))))
      pss_nil)
    (pss_cons (ps_set (i := 4) sc_read_value.nd rfl (Or.inl rfl) (pe_dget1 hr.u1 (pv 2) (pe_ix ix_list (pv 1) pe_int (fun _ _ => rfl)) ⟨rfl, rfl, rfl, rfl⟩))
    (pss_cons (ps_if (pt_cmpR op_eq (pe_ix ix_list (pv 1) pe_int (fun _ _ => rfl)) pe_str (nomark _))
      (pss_one (ps_set (i := 4) sc_read_value.nd rfl (Or.inl rfl) pe_no))
      (pss_one (ps_if (pt_cmpR op_eq (pe_ix ix_list (pv 1) pe_int (fun _ _ => rfl)) pe_str (nomark _))
        (pss_one (ps_set (i := 4) sc_read_value.nd rfl (Or.inl rfl) (pe_dget1 hr.u1 (pe_fld (pv 3) rfl) (pv 4) ⟨rfl, rfl, rfl, rfl⟩)))
        pss_nil)))
    (pss_one (ps_ret (pe_has H_give_shape rfl (hr.mono (by decide)) rfl (pa_cons (pv 0) (pa_cons (pe_ix ix_list (pv 1) pe_int (fun _ _ => rfl)) (pa_cons (pv 4) pa_nil))))))))))))), ?_⟩)) fun _ _ _ _ _ _ us hl => match us, hl with | [_, _], _ => rfl
  · obtain ⟨a, n, r, r', wl, kw, ws, rfl, _⟩ := h
    rfl
  · obtain ⟨a, n, r, r', wl, kw, ws, rfl, hw, ⟨d, kn, hs⟩, ho, hv, q⟩ := h
    clear F
    have hC := T.cls "Reading" (by decide +kernel)
    have hS := T.cls "Shapes" (by decide +kernel)
    have hA1 := T.noat "Reading" "shapes" (by decide +kernel)
    have hA2 := T.noat "Shapes" "contents" (by decide +kernel)
    have hA5 := T.noat "Shapes" "routes" (by decide +kernel)
    have hA3 := T.noat "Reading" "names" (by decide +kernel)
    have hA4 := T.noat "Reading" "owner" (by decide +kernel)
    have hn := (hs.kn.at_ n rfl).1
    refine ⟨_, rfl, _, _, _, _, _, rfl, hs.at_ 0, hC, hA3, rfl, _, rfl, _, _, _, _, _, rfl, hs.at_ 0, hC, hA4, rfl, _, _, rfl, by rw [own_main hs.rel ho, ← nm_get hs ho]; exact DGet.k (k := .inr r.fnm) (hs.at_ 9), ?_⟩
    refine ⟨_, rfl, _, _, _, _, _, rfl, hs.at_ 0, hC, hA1, rfl, _, _, rfl, ?_⟩
    refine ⟨_, rfl, wl, _, rfl, .inl (SqL.of hw), fun p np => ?_⟩
    refine ⟨upd_same, dLens, rfl, by decide, ?_⟩
    rw [show mergeK [] dLens = dLens from rfl]
    have e1 : ExtH H (upd (upd H p (.dK [])) p (.dK dLens)) := extH_upd (extH_put np) np
    have p1 : (upd (upd H p (.dK [])) p (.dK dLens)) p = some (.dK dLens) := upd_same
    generalize (upd (upd H p (.dK [])) p (.dK dLens)) = G at e1 p1 ⊢
    have w1 := e1 _ _ hw
    have s1 := hs.ext e1
    have n1 := e1 _ _ hn
    have rs1 : RsAt K a (some n) r G := ⟨d, kn, s1⟩
    have i0 : atI ((kw :: ws).map V.str) 0 = some (V.str kw) := atI_nat (j := 0) rfl
    cases hv with
    | @use x sp e =>
      obtain ⟨u, hu, ru⟩ := s1.kn.knd.get kS_inj e
      cases ru
      have i1 : atI ([("use" : Str), x].map V.str) 1 = some (V.str x) := atI_nat (j := 1) rfl
      refine ⟨_, rfl, wl, _, 0, _, rfl, rfl, SqL.of w1, i0, p, .int 2, rfl, DGet.k (k := .inr "use") p1, rfl, _, rfl, ifF rfl ?_⟩
      refine ⟨_, rfl, wl, _, 0, _, rfl, rfl, SqL.of w1, i0, rfl, _, rfl, ifT rfl ?_⟩
      exact ⟨_, rfl, wl, _, 1, _, rfl, rfl, SqL.of w1, i1, _, rfl, n, _, rfl, DGet.k (k := .inr x) n1, qT (by rw [show valV kn (.inr x) = _ from hu] <;> rfl) (q G (ext_kq e1) rs1)⟩
    | @non x sp wy r' e hg =>
      obtain ⟨u, hu, _⟩ := s1.rel.tab.get kS_inj e
      have i1 : atI ([("none" : Str), x, sp].map V.str) 1 = some (V.str x) := atI_nat (j := 1) rfl
      have i2 : atI ([("none" : Str), x, sp].map V.str) 2 = some (V.str sp) := atI_nat (j := 2) rfl
      refine ⟨_, rfl, wl, _, 0, _, rfl, rfl, SqL.of w1, i0, p, .int 3, rfl, DGet.k (k := .inr "none") p1, rfl, _, rfl, ifF rfl ?_⟩
      refine ⟨_, rfl, wl, _, 0, _, rfl, rfl, SqL.of w1, i0, rfl, _, rfl, ifF rfl ?_⟩
      refine ⟨_, rfl, wl, _, 0, _, rfl, rfl, SqL.of w1, i0, rfl, _, rfl, ifT rfl ?_⟩
      refine ⟨_, rfl, wl, _, 2, _, rfl, rfl, SqL.of w1, i2, _, rfl, _, _, _, _, _, rfl, s1.at_ 1, hS, hA5, lookR, a.r, _, rfl, DGet.k (k := .inr sp) (s1.at_ 4), true, by rw [show valV d.r (.inr sp) = _ from hu] <;> rfl, iteT ?_⟩
      exact ⟨_, rfl, _, rfl, wl, _, 1, _, rfl, rfl, SqL.of w1, i1, _, rfl, wl, _, 2, _, rfl, rfl, SqL.of w1, i2, a, n, r, r', x, sp, rfl, rs1, ho, hg, fun G4 k4 h4 => q G4 ((ext_kq e1).trans k4) h4⟩
    | @let_ x y sp r' e hg =>
      obtain ⟨u, hu, ru⟩ := s1.kn.knd.get kS_inj e
      cases ru
      have i1 : atI ([("let" : Str), x, y].map V.str) 1 = some (V.str x) := atI_nat (j := 1) rfl
      have i2 : atI ([("let" : Str), x, y].map V.str) 2 = some (V.str y) := atI_nat (j := 2) rfl
      refine ⟨_, rfl, wl, _, 0, _, rfl, rfl, SqL.of w1, i0, p, .int 3, rfl, DGet.k (k := .inr "let") p1, rfl, _, rfl, ifF rfl ?_⟩
      refine ⟨_, rfl, wl, _, 0, _, rfl, rfl, SqL.of w1, i0, rfl, _, rfl, ifF rfl ?_⟩
      refine ⟨_, rfl, wl, _, 0, _, rfl, rfl, SqL.of w1, i0, rfl, _, rfl, ifF rfl ?_⟩
      refine ⟨_, rfl, n, rfl, .inl ⟨_, .inl n1⟩, _, rfl, wl, _, 2, _, rfl, rfl, SqL.of w1, i2, some (.str sp), by rw [← show valV kn (.inr y) = _ from hu]; exact DGet.k (k := .inr y) n1, ?_⟩
      refine ⟨_, rfl, wl, _, 0, _, rfl, rfl, SqL.of w1, i0, rfl, _, rfl, ifF rfl ?_⟩
      refine ⟨_, rfl, wl, _, 0, _, rfl, rfl, SqL.of w1, i0, rfl, _, rfl, ifF rfl ?_⟩
      exact ⟨_, rfl, _, rfl, wl, _, 1, _, rfl, rfl, SqL.of w1, i1, _, rfl, a, n, r, r', x, sp, rfl, rs1, ho, hg, fun G4 k4 h4 => q G4 ((ext_kq e1).trans k4) h4⟩
    | @some_ x b bs cs r' e hc hg =>
      obtain ⟨u, hu, ru⟩ := s1.kn.knd.get kS_inj e
      cases ru
      obtain ⟨v, hv, rv⟩ := s1.rel.c.get kS_inj hc
      cases rv
      have i1 : atI ([("some" : Str), x, b].map V.str) 1 = some (V.str x) := atI_nat (j := 1) rfl
      have i2 : atI ([("some" : Str), x, b].map V.str) 2 = some (V.str b) := atI_nat (j := 2) rfl
      refine ⟨_, rfl, wl, _, 0, _, rfl, rfl, SqL.of w1, i0, p, .int 3, rfl, DGet.k (k := .inr "some") p1, rfl, _, rfl, ifF rfl ?_⟩
      refine ⟨_, rfl, wl, _, 0, _, rfl, rfl, SqL.of w1, i0, rfl, _, rfl, ifF rfl ?_⟩
      refine ⟨_, rfl, wl, _, 0, _, rfl, rfl, SqL.of w1, i0, rfl, _, rfl, ifF rfl ?_⟩
      refine ⟨_, rfl, n, rfl, .inl ⟨_, .inl n1⟩, _, rfl, wl, _, 2, _, rfl, rfl, SqL.of w1, i2, some (.str bs), by rw [← show valV kn (.inr b) = _ from hu]; exact DGet.k (k := .inr b) n1, ?_⟩
      refine ⟨_, rfl, wl, _, 0, _, rfl, rfl, SqL.of w1, i0, rfl, _, rfl, ifF rfl ?_⟩
      refine ⟨_, rfl, wl, _, 0, _, rfl, rfl, SqL.of w1, i0, rfl, _, rfl, ifT rfl ?_⟩
      refine ⟨_, rfl, _, _, _, _, _, rfl, s1.at_ 1, hS, hA2, lookC, a.c, rfl, .inl ⟨_, .inl (s1.at_ 3)⟩, _, rfl, some (.str cs), by rw [← show valV d.c (.inr bs) = _ from hv]; exact DGet.k (k := .inr bs) (s1.at_ 3), ?_⟩
      exact ⟨_, rfl, _, rfl, wl, _, 1, _, rfl, rfl, SqL.of w1, i1, _, rfl, a, n, r, r', x, cs, rfl, rs1, ho, hg, fun G4 k4 h4 => q G4 ((ext_kq e1).trans k4) h4⟩
end
end R9H
set_option Elab.async false
set_option linter.all false
set_option maxRecDepth 100000
set_option maxHeartbeats 4000000
/-! k24, part R: read_end, read_block, read_bare, read_inside, rooms_around -/
namespace R9H
open PySem PySem.Spec PyProof.Rows L2
theorem lookup_snoc {κ α : Type} [BEq κ] [LawfulBEq κ] {l : List (κ × α)} {k k' : κ} {v : α} (h : l.lookup k' = none) (n : k' ≠ k) : (l ++ [(k, v)]).lookup k' = none := by
  induction l with
  | nil =>
    rw [List.nil_append, List.lookup_cons]
    have : (k' == k) = false := by simpa using n
    rw [this] <;> rfl
  | cons p r ih =>
    rw [show p = (p.1, p.2) from rfl, List.lookup_cons] at h
    rw [List.cons_append, show p = (p.1, p.2) from rfl, List.lookup_cons]
    cases hb : k' == p.1 with
    | true => rw [hb] at h; cases h
    | false =>
      rw [hb] at h
      exact ih h
inductive EndS (r : RS) (i : Int) : RS → Prop
  | pop {bs b} : r.blocks = bs ++ [b] → r.partners.lookup b = none → r.partners.lookup i = none → i ≠ b → EndS r i {r with blocks := bs, partners := r.partners ++ [(b, i)] ++ [(i, b)]}
  | last {f} : r.own = some r.fnm → r.blocks = [] → r.hd.lookup r.fnm = some f → r.partners.lookup f = none → r.partners.lookup i = none → i ≠ f → EndS r i {r with own := none, partners := r.partners ++ [(f, i)] ++ [(i, f)]}
def sp_read_end (K : PySem.W.Frag) : Sp := fun vs H Q _ => ∃ (a : RA) (n : Addr) (r r' : RS) (i : Int), vs = [.ref a.rd, .int i] ∧ RsAt K a (some n) r H ∧ r.sz ≤ 1000 ∧ EndS r i r' ∧ ∀ H', Kq a (some n) H H' → RsAt K a (some n) r' H' → Q .non H'
inductive BlockS (r : RS) (i : Int) : Str → RS → Prop
  | room : BlockS r i "room" {r with blocks := r.blocks ++ [i], rooms := r.rooms ++ [i]}
  | loop : BlockS r i "loop" {r with blocks := r.blocks ++ [i]}
  | ever : BlockS r i "ever" {r with blocks := r.blocks ++ [i]}
  | either : r.ors.lookup i = none → BlockS r i "either" {r with blocks := r.blocks ++ [i], ors := r.ors ++ [(i, [])]}
def sp_read_block (K : PySem.W.Frag) : Sp := fun vs H Q _ => ∃ (a : RA) (n : Addr) (r r' : RS) (i : Int) (kw : Str), vs = [.ref a.rd, .str kw, .int i] ∧ RsAt K a (some n) r H ∧ r.sz ≤ 1000 ∧ r.blocks.length < 8 ∧ BlockS r i kw r' ∧ ∀ H', Kq a (some n) H H' → RsAt K a (some n) r' H' → Q (.bl true) H'
section
variable {w : World} {K : PySem.W.Frag} {mg : Str → Option Value} {base : Heap}
theorem blocks_at {a : RA} {nm : Option Addr} {d : RD} {kn : List (Key × V)} {r : RS} {H : Hp} (h : Rs K a nm d kn r H) : H a.blocks = some (.lst (r.blocks.map V.int)) := by
  have := h.at_ 21
  rw [h.rel.blocks] at this
  exact this
theorem dpAll_ints {H : Hp} (ns : List Int) : DpAll K H (ns.map V.int) (ns.map PyData.int) := dps_ints' ns
where
  dps_ints' : ∀ ns : List Int, DpAll K H (ns.map V.int) (ns.map PyData.int)
  | [] => .nil
  | n :: ns => .cons (.int n) (dps_ints' ns)
theorem canLayInts : ∀ ns : List Int, PyData.canLayAll0 (ns.map PyData.int) = true
  | [] => by simp [PyData.canLayAll0]
  | n :: ns => by
    show PyData.canLayAll0 (.int n :: ns.map PyData.int) = true
    rw [PyData.canLayAll0, canLayInts ns]
    simp [PyData.canLay0]
theorem depthInts : ∀ ns : List Int, PyData.depthAll (ns.map PyData.int) = 0
  | [] => by simp [PyData.depthAll]
  | n :: ns => by
    show PyData.depthAll (.int n :: ns.map PyData.int) = 0
    rw [PyData.depthAll, depthInts ns]
    simp [PyData.depth]
theorem shapedInts (ns : List Int) : SeqAt.shaped (.list (ns.map PyData.int)) = true := by
  unfold SeqAt.shaped
  rw [PyData.canLay0, canLayInts, PyData.depth, depthInts] <;> rfl
theorem eqvNil (ds : List PyData) : PyData.eqv (.list ds) (.list []) = ds.isEmpty := by
  cases ds <;> simp [PyData.eqv, PyData.eqvAll]
abbrev st_read_end : Stmt := top 72
theorem sc_read_end : FnScope ["reading", "line", "first"] ["reading", "line"] (defScope st_read_end) := ⟨rfl, rfl, rfl, by decide +kernel, rfl, by decide +kernel, by decide +kernel⟩
theorem ok_read_end (T : T6 K mg) : Has w K mg base 1 "read_end" ["reading", "line"] (sp_read_end K) := by
  obtain ⟨fd, F⟩ := T.fn 50
  refine has_of (st := st_read_end) T F (by decide +kernel) (F.ok sc_read_end (fun vs H Q E h => ?_) (fun cdv A outer s H vs Q E hr h => ⟨_, PSs.nox (
    (pss_cons (ps_if (pt_cmpR (op_eqD hr.units) (pe_fld (pv 0) rfl) (pe_lst pa_nil) (nomark _))
      (pss_cons (ps_set (i := 2) sc_read_end.nd rfl (Or.inl rfl) (pe_dget hr.u1 (pe_fld (pv 0) rfl) (pe_fld (pv 0) rfl) (fun _ _ => rfl)))
      (pss_one (ps_fld (pv 0) pe_non rfl)))
      (pss_one (ps_set (i := 2) sc_read_end.nd rfl (Or.inl rfl) (pe_bm0 PySem.F.plainAttrs_list PySem.F.slot_list_pop PySem.F.type_list_pop mt_pop (pe_fld (pv 0) rfl)))))
    (pss_cons (ps_dput hr.u1 (pe_fld (pv 0) rfl) (pv 2) (pv 1) rfl)
    (pss_one (ps_dput hr.u1 (pe_fld (pv 0) rfl) (pv 1) (pv 2) rfl))))), ?_⟩)) fun _ _ _ _ _ _ us hl => match us, hl with | [_, _], _ => rfl
  · obtain ⟨a, n, r, r', i, rfl, _⟩ := h
    rfl
  · obtain ⟨a, n, r, r', i, rfl, ⟨d, kn, hs⟩, hz, he, q⟩ := h
    clear F
    have hC := T.cls "Reading" (by decide +kernel)
    have hA1 := T.noat "Reading" "blocks" (by decide +kernel)
    have hA2 := T.noat "Reading" "heads" (by decide +kernel)
    have hA3 := T.noat "Reading" "owner" (by decide +kernel)
    have hA4 := T.noat "Reading" "partners" (by decide +kernel)
    have hzp : r.partners.length ≤ 1000 := by unfold RS.sz at hz; omega
    have fin : ∀ (r1 : RS) (d1 : RD) (G : Hp) (b : Int), Rs K a (some n) d1 kn r1 G → Kq a (some n) H G → r1.partners = r.partners → r.partners.lookup b = none → r.partners.lookup i = none → i ≠ b →
        (∀ H', Kq a (some n) H H' → RsAt K a (some n) {r1 with partners := r.partners ++ [(b, i)] ++ [(i, b)]} H' → Q .non H') →
        tSeq (sDPut (tFld K (tVar 0) "partners") (tVar 2) (tVar 1)) (sDPut (tFld K (tVar 0) "partners") (tVar 1) (tVar 2)) ⟨fun _ H' => Q .non H', Q, fun _ _ => False, fun _ _ => False⟩ [some (.ref a.rd), some (.int i), some (.int b)] G := fun r1 d1 G b h1 k1 ep l1 l2 nb q' => by
      have lp := h1.rel.partners.len
      rw [ep] at lp
      obtain ⟨h2, k2, _⟩ := h1.up 13 (.dK (putK d1.partners (.inl b) (.int i))) {d1 with partners := putK d1.partners (.inl b) (.int i)} {r1 with partners := r.partners ++ [(b, i)]} (fun G' _ hh => { hh with partners := by have := hh.partners.put kI_inj (k := b) (u := .int i) (v := i) (by rw [ep]; exact l1) rfl; rw [ep] at this; exact this }) rfl
      obtain ⟨h3, k3, _⟩ := h2.up 13 (.dK (putK (putK d1.partners (.inl b) (.int i)) (.inl i) (.int b))) {d1 with partners := putK (putK d1.partners (.inl b) (.int i)) (.inl i) (.int b)} {r1 with partners := r.partners ++ [(b, i)] ++ [(i, b)]} (fun G' _ hh => { hh with partners := hh.partners.put kI_inj (k := i) (u := .int b) (v := b) (lookup_snoc l2 nb) rfl }) rfl
      have lp2 := h2.rel.partners.len
      rw [List.length_append] at lp2
      refine ⟨_, rfl, _, rfl, _, _, _, _, _, rfl, h1.at_ 0, hC, hA4, rfl, _, rfl, _, _, rfl, DPut.k (k := .inl b) (h1.at_ 13) (by rw [sizeLine_eq]; omega), ?_⟩
      refine ⟨_, rfl, _, rfl, _, _, _, _, _, rfl, h2.at_ 0, hC, hA4, rfl, _, rfl, _, _, rfl, DPut.k (k := .inl i) (h2.at_ 13) ?_, q' _ (k1.trans (k2.trans k3)) ⟨_, _, h3⟩⟩
      rw [sizeLine_eq]
      simp only [List.length_singleton] at lp2
      omega
    have hb := blocks_at hs
    refine ⟨_, rfl, _, _, _, _, .ref a.blocks, rfl, hs.at_ 0, hC, hA1, rfl, Nat.zero_le _, fun p np => ?_⟩
    have e1 : ExtH H (upd H p (.lst [])) := extH_put np
    refine ⟨.list (r.blocks.map PyData.int), .list [], .lst (SqL.of (e1 _ _ hb)) (dpAll_ints _), .lst (xs := []) (SqL.of upd_same) .nil, shapedInts _, rfl, ?_⟩
    have p1 : upd H p (.lst []) p = some (.lst []) := upd_same
    generalize upd H p (.lst []) = G1 at e1 p1 ⊢
    have s1 := hs.ext e1
    have b1 := e1 _ _ hb
    rw [eqvNil]
    refine ⟨_, rfl, ?_⟩
    cases he with
    | @pop bs b eb l1 l2 nb =>
      refine ifF (by rw [eb]; cases bs <;> rfl) ?_
      rw [eb, List.map_append] at b1
      refine ⟨_, rfl, _, _, _, _, .ref a.blocks, rfl, s1.at_ 0, hC, hA1, rfl, .inl ⟨rfl, _, SqL.of b1⟩, a.blocks, _, .int b, rfl, rfl, b1, by simp, ?_⟩
      have ed : (bs.map V.int ++ [b].map V.int).dropLast = bs.map V.int := by simp
      rw [ed]
      obtain ⟨h2, k2, _⟩ := s1.up 21 (.lst (bs.map V.int)) {d with blocks := bs.map V.int} {r with blocks := bs} (fun G _ h => { h with blocks := rfl }) rfl
      exact fin {r with blocks := bs} _ _ b h2 ((ext_kq e1).trans k2) rfl l1 l2 nb q
    | @last f ho eb hf l1 l2 nb =>
      refine ifT (by rw [eb]; rfl) ?_
      obtain ⟨u, hu, ru⟩ := s1.rel.heads.get kS_inj hf
      cases ru
      refine ⟨_, rfl, _, _, _, _, _, rfl, s1.at_ 0, hC, hA2, rfl, _, rfl, _, _, _, _, _, rfl, s1.at_ 0, hC, hA3, rfl, _, _, rfl, by rw [own_main s1.rel ho, ← show valV d.heads (.inr r.fnm) = _ from hu]; exact DGet.k (k := .inr r.fnm) (s1.at_ 7), ?_⟩
      refine ⟨_, rfl, _, _, _, _, rfl, s1.at_ 0, hC, hA3, own_len, ?_⟩
      rw [put_owner]
      obtain ⟨h2, k2, _⟩ := s1.up 0 (.ins (ga K "Reading") a.dR (rdF a .non)) {d with own := .non} {r with own := none} (fun G _ h => { h with own := rfl }) rfl (eo := fun f hf => by cases hf)
      exact fin {r with own := none} _ _ f h2 ((ext_kq e1).trans k2) rfl l1 l2 nb q
abbrev st_read_block : Stmt := top 75
theorem sc_read_block : FnScope ["reading", "kind", "line"] ["reading", "kind", "line"] (defScope st_read_block) := ⟨rfl, rfl, rfl, by decide +kernel, rfl, by decide +kernel, by decide +kernel⟩
theorem ok_read_block (T : T6 K mg) : Has w K mg base 1 "read_block" ["reading", "kind", "line"] (sp_read_block K) := by
  obtain ⟨fd, F⟩ := T.fn 53
  have gf_len := T.free "len" (by decide +kernel)
  obtain ⟨t_MOST_BLOCKS, g_MOST_BLOCKS⟩ := T.int "MOST_BLOCKS" (8) (by decide +kernel)
  refine has_of (st := st_read_block) T F (by decide +kernel) (F.ok sc_read_block (fun vs H Q E h => ?_) (fun cdv A outer s H vs Q E hr h => ⟨_, PSs.nox (
    (pss_cons (ps_if (pt_cmpR op_eq (pe_callB call_len_seq rfl gf_len PySem.boot_len (pa_cons (pe_fld (pv 0) rfl) pa_nil)) (pe_gi rfl g_MOST_BLOCKS) (nomark _))
      (pss_one (ps_ret pe_bl))
      pss_nil)
    (pss_cons (ps_expr (pe_bm PySem.F.plainAttrs_list PySem.F.slot_list_append PySem.F.type_list_append mt_append (pe_fld (pv 0) rfl) (pa_cons (pv 2) pa_nil)))
    (pss_cons (ps_if (pt_cmpR op_eq (pv 1) pe_str (nomark _))
      (pss_one (ps_dput hr.u1 (pe_fld (pv 0) rfl) (pv 2) (pe_tup pa_nil) rfl))
      pss_nil)
    (pss_cons (ps_if (pt_cmpR op_eq (pv 1) pe_str (nomark _))
      (pss_one (ps_expr (pe_bm PySem.F.plainAttrs_list PySem.F.slot_list_append PySem.F.type_list_append mt_append (pe_fld (pv 0) rfl) (pa_cons (pv 2) pa_nil))))
      pss_nil)
    (pss_one (ps_ret pe_bl))))))), ?_⟩)) fun _ _ _ _ _ _ us hl => match us, hl with | [_, _, _], _ => rfl
  · obtain ⟨a, n, r, r', i, kw, rfl, _⟩ := h
    rfl
  · obtain ⟨a, n, r, r', i, kw, rfl, ⟨d, kn, hs⟩, hz, hl, he, q⟩ := h
    clear F
    have hC := T.cls "Reading" (by decide +kernel)
    have hA1 := T.noat "Reading" "blocks" (by decide +kernel)
    have hA2 := T.noat "Reading" "ors" (by decide +kernel)
    have hA3 := T.noat "Reading" "rooms" (by decide +kernel)
    have hb := blocks_at hs
    have hzo : r.ors.length ≤ 1000 := by unfold RS.sz at hz; omega
    have hzr : r.rooms.length ≤ 1000 := by unfold RS.sz at hz; omega
    refine ⟨_, rfl, _, _, _, _, .ref a.blocks, rfl, hs.at_ 0, hC, hA1, rfl, a.blocks, _, rfl, .inl (SqL.of hb), rfl, _, rfl, ifF (decide_eq_false (by simp only [V.int.injEq, List.length_map]; omega)) ?_⟩
    refine ⟨_, rfl, _, _, _, _, .ref a.blocks, rfl, hs.at_ 0, hC, hA1, rfl, .inl ⟨rfl, _, SqL.of hb⟩, _, rfl, a.blocks, _, _, rfl, rfl, hb, by rw [sizeLine_eq, List.length_map]; omega, ?_⟩
    obtain ⟨h2, k2, _⟩ := hs.up 21 (.lst (r.blocks.map V.int ++ [.int i])) {d with blocks := r.blocks.map V.int ++ [.int i]} {r with blocks := r.blocks ++ [i]} (fun G _ h => { h with blocks := by rw [List.map_append] <;> rfl }) rfl
    generalize upd H a.blocks (.lst (r.blocks.map V.int ++ [.int i])) = G1 at h2 k2 ⊢
    cases he with
    | room =>
      refine ⟨_, rfl, rfl, _, rfl, ifF rfl ?_⟩
      refine ⟨_, rfl, rfl, _, rfl, ifT rfl ?_⟩
      have hr2 : G1 a.rooms = some (.lst (r.rooms.map V.int)) := by
        have := h2.at_ 20
        rw [h2.rel.rooms] at this
        exact this
      refine ⟨_, rfl, _, _, _, _, .ref a.rooms, rfl, h2.at_ 0, hC, hA3, rfl, .inl ⟨rfl, _, SqL.of hr2⟩, _, rfl, a.rooms, _, _, rfl, rfl, hr2, by rw [sizeLine_eq, List.length_map]; omega, ?_⟩
      obtain ⟨h3, k3, _⟩ := h2.up 20 (.lst (r.rooms.map V.int ++ [.int i])) {d with blocks := r.blocks.map V.int ++ [.int i], rooms := r.rooms.map V.int ++ [.int i]} {r with blocks := r.blocks ++ [i], rooms := r.rooms ++ [i]} (fun G _ h => { h with rooms := by rw [List.map_append] <;> rfl }) rfl
      exact q _ (k2.trans k3) ⟨_, _, h3⟩
    | loop =>
      refine ⟨_, rfl, rfl, _, rfl, ifF rfl ?_⟩
      refine ⟨_, rfl, rfl, _, rfl, ifF rfl ?_⟩
      exact q _ k2 ⟨_, _, h2⟩
    | ever =>
      refine ⟨_, rfl, rfl, _, rfl, ifF rfl ?_⟩
      refine ⟨_, rfl, rfl, _, rfl, ifF rfl ?_⟩
      exact q _ k2 ⟨_, _, h2⟩
    | either lo =>
      refine ⟨_, rfl, rfl, _, rfl, ifT rfl ?_⟩
      refine ⟨Nat.zero_le _, fun t nt => ?_⟩
      have e3 := extH_put (o := .tup []) nt
      have t3 : upd G1 t (.tup []) t = some (.tup []) := upd_same
      generalize upd G1 t (.tup []) = G2 at e3 t3 ⊢
      have s3 := h2.ext e3
      have lo' := s3.rel.ors.len
      refine ⟨_, rfl, _, _, _, _, _, rfl, s3.at_ 0, hC, hA2, rfl, _, rfl, _, _, rfl, DPut.k (k := .inl i) (s3.at_ 14) (by rw [sizeLine_eq]; have : (RS.ors _).length ≤ 1000 := hzo; show d.ors.length < _; rw [lo']; show r.ors.length < _; omega), ?_⟩
      obtain ⟨h4, k4, _⟩ := s3.up 14 (.dK (putK d.ors (.inl i) (.ref t))) {d with blocks := r.blocks.map V.int ++ [.int i], ors := putK d.ors (.inl i) (.ref t)} {r with blocks := r.blocks ++ [i], ors := r.ors ++ [(i, [])]} (fun G tx h => { h with ors := h.ors.put kI_inj (k := i) (u := .ref t) (v := []) lo ⟨t, rfl, tx.sqT (SqT.of t3)⟩ }) rfl
      refine ⟨_, rfl, rfl, _, rfl, ifF rfl ?_⟩
      exact q _ (k2.trans ((ext_kq e3).trans k4)) ⟨_, _, h4⟩
end
end R9H
set_option Elab.async false
set_option linter.all false
set_option maxRecDepth 100000
set_option maxHeartbeats 4000000
/-! k24, part RB: read_or, read_call, read_give -/
namespace R9H
open PySem PySem.Spec PyProof.Rows L2
def setA {κ α : Type} [BEq κ] (l : List (κ × α)) (k : κ) (v : α) : List (κ × α) := l.map fun p => if k == p.1 then (p.1, v) else p
section
variable {α κ : Type} [BEq κ] [LawfulBEq κ] {ky : κ → Key} {R R' : V → α → Prop} {kvs : List (Key × V)} {l : List (κ × α)}
theorem any_valV {kvs : List (Key × V)} {k : Key} {u : V} (h : valV kvs k = some u) : (kvs.any fun kv => decide (kv.1 = k)) = true := by
  induction kvs with
  | nil => cases h
  | cons p q ih =>
    rw [List.any_cons]
    by_cases e : p.1 = k
    · rw [decide_eq_true e]; rfl
    · rw [valV_neg e] at h
      rw [ih h, Bool.or_true]
theorem AtK.set (h : AtK ky R kvs l) (hi : ∀ {a b}, ky a = ky b → a = b) {k : κ} {u : V} {v v0 : α} (e : l.lookup k = some v0) (hr : R u v) : AtK ky R (putK kvs (ky k) u) (setA l k v) := by
  obtain ⟨u0, hu0, _⟩ := h.get hi e
  have ha := any_valV hu0
  unfold putK
  rw [if_pos ha]
  clear e ha hu0
  unfold AtK setA at *
  induction h with
  | nil => exact .nil
  | @cons a b l₁ l₂ r t ih =>
    rw [List.map_cons, List.map_cons]
    refine .cons ?_ ih
    by_cases ek : k = b.1
    · rw [if_pos (by rw [r.1, ek]), if_pos (by rw [ek]; exact beq_self_eq_true _)]
      exact ⟨r.1, hr⟩
    · rw [if_neg (fun z => ek (hi (r.1.symm.trans z)).symm), if_neg (by simpa using ek)]
      exact r
end
theorem at_last {xs : List V} {v : V} : atI (xs ++ [v]) (-1) = some v := by
  unfold atI ixN
  have e : -1 + ((xs ++ [v]).length : Int) = (xs.length : Int) := by rw [List.length_append]; show -1 + ((xs.length + 1 : Nat) : Int) = _; omega
  rw [if_neg (by decide), if_pos (by omega), e]
  simp
def sp_read_or (K : PySem.W.Frag) : Sp := fun vs H Q _ => ∃ (a : RA) (n : Addr) (r : RS) (i b : Int) (bs l : List Int), vs = [.ref a.rd, .int i] ∧ RsAt K a (some n) r H ∧ r.sz ≤ 1000 ∧ r.blocks = bs ++ [b] ∧ r.kinds.lookup b = some ("either" : Str) ∧ r.ors.lookup b = some l ∧ l.length ≤ 1000 ∧ r.eithers.lookup i = none ∧
  ∀ H', Kq a (some n) H H' → RsAt K a (some n) {r with eithers := r.eithers ++ [(i, b)], ors := setA r.ors b (l ++ [i])} H' → Q (.bl true) H'
section
variable {w : World} {K : PySem.W.Frag} {mg : Str → Option Value} {base : Heap}
abbrev st_read_or : Stmt := top 73
theorem sc_read_or : FnScope ["reading", "line", "first"] ["reading", "line"] (defScope st_read_or) := ⟨rfl, rfl, rfl, by decide +kernel, rfl, by decide +kernel, by decide +kernel⟩
theorem ok_read_or (T : T6 K mg) : Has w K mg base 1 "read_or" ["reading", "line"] (sp_read_or K) := by
  obtain ⟨fd, F⟩ := T.fn 51
  refine has_of (st := st_read_or) T F (by decide +kernel) (F.ok sc_read_or (fun vs H Q E h => ?_) (fun cdv A outer s H vs Q E hr h => ⟨_, PSs.nox (
    (pss_cons (ps_if (PW.pt (pw_or (pt_cmpR (op_eqD hr.units) (pe_fld (pv 0) rfl) (pe_lst pa_nil) (nomark _)) (pw_or1 (pt_cmpR op_ne (pe_dget hr.u1 (pe_fld (pv 0) rfl) (pe_ix ix_list (pe_fld (pv 0) rfl) (pe_un un_neg pe_int) (fun _ _ => rfl)) (fun _ _ => rfl)) pe_str (nomark _)))))
      (pss_one (ps_ret pe_bl))
      pss_nil)
    (pss_cons (ps_set (i := 2) sc_read_or.nd rfl (Or.inl rfl) (pe_ix ix_list (pe_fld (pv 0) rfl) (pe_un un_neg pe_int) (fun _ _ => rfl)))
    (pss_cons (ps_dput hr.u1 (pe_fld (pv 0) rfl) (pv 1) (pv 2) rfl)
    (pss_cons (ps_dput hr.u1 (pe_fld (pv 0) rfl) (pv 2) (pe_tup (StX.pa_star (pe_dget hr.u1 (pe_fld (pv 0) rfl) (pv 2) (fun _ _ => rfl)) (pa_cons (pv 1) pa_nil))) rfl)
    (pss_one (ps_ret pe_bl))))))), ?_⟩)) fun _ _ _ _ _ _ us hl => match us, hl with | [_, _], _ => rfl
  · obtain ⟨a, n, r, i, b, bs, l, rfl, _⟩ := h
    rfl
  · obtain ⟨a, n, r, i, b, bs, l, rfl, ⟨d, kn, hs⟩, hz, eb, hk, hl, hll, he, q⟩ := h
    clear F
    have hC := T.cls "Reading" (by decide +kernel)
    have hA1 := T.noat "Reading" "blocks" (by decide +kernel)
    have hA2 := T.noat "Reading" "kinds" (by decide +kernel)
    have hA3 := T.noat "Reading" "eithers" (by decide +kernel)
    have hA4 := T.noat "Reading" "ors" (by decide +kernel)
    have hb := blocks_at hs
    refine ⟨_, rfl, _, _, _, _, .ref a.blocks, rfl, hs.at_ 0, hC, hA1, rfl, Nat.zero_le _, fun p np => ?_⟩
    have e1 : ExtH H (upd H p (.lst [])) := extH_put np
    refine ⟨.list (r.blocks.map PyData.int), .list [], .lst (SqL.of (e1 _ _ hb)) (dpAll_ints _), .lst (xs := []) (SqL.of upd_same) .nil, shapedInts _, rfl, ?_⟩
    have p1 : upd H p (.lst []) p = some (.lst []) := upd_same
    generalize upd H p (.lst []) = G1 at e1 p1 ⊢
    have s1 := hs.ext e1
    have b1 := e1 _ _ hb
    rw [eqvNil]
    refine ⟨_, rfl, ifF (by rw [eb]; cases bs <;> rfl) ?_⟩
    rw [eb, List.map_append] at b1
    obtain ⟨u, hu, ru⟩ := s1.rel.kinds.get kI_inj hk
    cases ru
    refine ⟨_, rfl, _, _, _, _, _, rfl, s1.at_ 0, hC, hA2, rfl, _, rfl, _, _, _, _, .ref a.blocks, rfl, s1.at_ 0, hC, hA1, rfl, _, rfl, a.blocks, _, -1, .int b, rfl, rfl, SqL.of b1, at_last, _, _, rfl, by rw [← show valV d.kinds (.inl b) = _ from hu]; exact DGet.k (k := .inl b) (s1.at_ 10), rfl, _, rfl, ifF rfl ?_⟩
    refine ⟨_, rfl, _, _, _, _, .ref a.blocks, rfl, s1.at_ 0, hC, hA1, rfl, _, rfl, a.blocks, _, -1, .int b, rfl, rfl, SqL.of b1, at_last, ?_⟩
    have hzo : r.ors.length ≤ 1000 := by unfold RS.sz at hz; omega
    have hze : r.eithers.length ≤ 1000 := by unfold RS.sz at hz; omega
    have le := s1.rel.eithers.len
    refine ⟨_, rfl, _, rfl, _, _, _, _, _, rfl, s1.at_ 0, hC, hA3, rfl, _, rfl, _, _, rfl, DPut.k (k := .inl i) (s1.at_ 15) (by rw [sizeLine_eq]; omega), ?_⟩
    obtain ⟨h2, k2, _⟩ := s1.up 15 (.dK (putK d.eithers (.inl i) (.int b))) {d with eithers := putK d.eithers (.inl i) (.int b)} {r with eithers := r.eithers ++ [(i, b)]} (fun G _ h => { h with eithers := h.eithers.put kI_inj (k := i) (u := .int b) (v := b) he rfl }) rfl
    generalize upd G1 a.eithers (.dK (putK d.eithers (.inl i) (.int b))) = G2 at h2 k2 ⊢
    obtain ⟨u2, hu2, t2, rfl, ht2⟩ := h2.rel.ors.get kI_inj hl
    refine ⟨_, rfl, _, _, _, _, _, rfl, h2.at_ 0, hC, hA4, rfl, _, rfl, _, _, rfl, by rw [← show valV d.ors (.inl b) = _ from hu2]; exact DGet.k (k := .inl b) (h2.at_ 14), ?_⟩
    refine ⟨t2, _, rfl, .inl ht2, _, rfl, by rw [sizeLine_eq]; simp; omega, fun t nt => ?_⟩
    have e3 := extH_put (o := .tup (l.map V.int ++ [.int i])) nt
    have t3 : upd G2 t (.tup (l.map V.int ++ [.int i])) t = some (.tup ((l ++ [i]).map V.int)) := by rw [upd_same, List.map_append] <;> rfl
    generalize upd G2 t (.tup (l.map V.int ++ [.int i])) = G3 at e3 t3 ⊢
    have h3 := h2.ext e3
    have lo := h3.rel.ors.len
    refine ⟨_, rfl, _, _, _, _, _, rfl, h3.at_ 0, hC, hA4, rfl, _, rfl, _, _, rfl, DPut.k (k := .inl b) (h3.at_ 14) (by rw [sizeLine_eq]; show d.ors.length < _; rw [lo]; show r.ors.length < _; omega), ?_⟩
    obtain ⟨h4, k4, _⟩ := h3.up 14 (.dK (putK d.ors (.inl b) (.ref t))) {d with eithers := putK d.eithers (.inl i) (.int b), ors := putK d.ors (.inl b) (.ref t)} {r with eithers := r.eithers ++ [(i, b)], ors := setA r.ors b (l ++ [i])} (fun G tx h => { h with ors := h.ors.set kI_inj (k := b) (u := .ref t) hl ⟨t, rfl, tx.sqT (SqT.of t3)⟩ }) rfl
    exact q _ ((ext_kq e1).trans (k2.trans ((ext_kq e3).trans k4))) ⟨_, _, h4⟩
end
end R9H
set_option Elab.async false
set_option linter.all false
set_option maxRecDepth 100000
set_option maxHeartbeats 4000000
/-! G8: x not in a tuple of data -/
namespace L2
open PySem PySem.Spec PyProof.Rows
def rNotInT (K : PySem.W.Frag) : R2 := fun x y H Q => ∃ d ds, Dp K H x d ∧ Dp K H y (.tuple ds) ∧ SeqAt.shaped d = true ∧ SeqAt.shaped (.tuple ds) = true ∧ Q (.bl (!ds.any fun z => PyData.eqv z d)) H
theorem op_notInT {X : Cx} {K : PySem.W.Frag} (hu : X.A.units + 65 < cLine) (hK : X.K = K := by rfl) : OpR X (compareOp .NotIn) (rNotInT K) := by
  subst hK
  intro pins s σ H x y v u Q I rx ry h
  obtain ⟨d, ds, hd, he, sd, se, q⟩ := h
  obtain ⟨as, r1⟩ := Dp.reads I d x v hd rx
  obtain ⟨bs, r2⟩ := Dp.reads I (.tuple ds) y u he ry
  exact SeqAt.notIn_tuple_reads r2 r1 (SeqAt.canLay_of_shaped se) (SeqAt.canLay_of_shaped sd) (room_in_shaped sd hu) ⟨.bl _, H, I, rfl, q⟩
end L2
set_option Elab.async false
set_option linter.all false
set_option maxRecDepth 100000
set_option maxHeartbeats 4000000
/-! G9: **d in a display -/
namespace PySem
open Sem (wp)
section
variable {prog : Program} {w : World} {K : Type} [DecidableEq K] {knd : KeyKind prog w K} {A : Around} {E : Value → Shared → Prop} {s : Shared}
theorem wpAny_dictPut_pairs {d : Addr} {kvs : List (K × Value)} {k : K} {key v : Value} {Q : Unit → Shared → Prop} (hkey : knd.is k key = true) (hm : s.heap.DictOf knd d kvs)
    (hQ : ∀ h', h'.DictOf knd d (stored kvs k v) → Heap.SameBut d s.heap h' → Q () { s with heap := h' })
    (hsz : kvs.length ≤ sizeLine := by size_fits) :
    wpAny (model prog w) A (dictPut d (knd.hash k) key v) Q E s := by
  obtain ⟨o, es, ep, ho, hc, hd, hk, hp, hn⟩ := hm
  have hes : es.size ≤ sizeLine := by have e1 := hp.length; have e2 : es.toList.length = es.size := by simp
                                      omega
  unfold dictPut
  refine wpAny_bind (wpAny_dictFind_of hkey ho hd hk ?_)
  have hidx : (es.findIdx? fun e => knd.is k e.key) = kvs.findIdx? fun kv => decide (kv.1 = k) := by
    rw [← hp.findIdx k]; obtain ⟨l⟩ := es; simp
  cases hi : es.findIdx? fun e => knd.is k e.key with
  | some i =>
    refine wpAny_updateDict ho hd (hQ _ ⟨_, _, ep, Heap.get?_update_self _ ho (Obj.isFreed_of_dict (Obj.data_mapDict hd _)),
      hc.mapDict _, Obj.data_mapDict hd _, hk.modify _ _, ?_, ?_⟩ (Heap.SameBut.update ..))
    · rw [stored, if_pos (any_of_findIdx_some (hidx ▸ hi))]
      have hl : (es.toList.findIdx? fun e => knd.is k e.key) = some i := by rw [← hi]; obtain ⟨l⟩ := es; simp
      have := hp.modify hn hl v
      obtain ⟨l⟩ := es
      simpa using this
    · rw [stored, if_pos (any_of_findIdx_some (hidx ▸ hi)), keys_map_store]; exact hn
  | none =>
    have hnot : k ∉ kvs.map (·.1) := not_mem_of_findIdx_none (hidx ▸ hi)
    have hany : ¬ (kvs.any fun kv => decide (kv.1 = k)) = true := by
      rw [List.any_eq_true]; rintro ⟨kv, hkv, he⟩
      exact hnot (List.mem_map.mpr ⟨kv, hkv, of_decide_eq_true he⟩)
    refine wpAny_updateDictKeys (hz := hes) ho hd (hQ _ ⟨_, _, ep + 1, Heap.get?_update_self _ ho (Obj.isFreed_of_dict (Obj.data_mapDictKeys hd _)),
      hc.mapDictKeys _, Obj.data_mapDictKeys hd _, hk.push hkey _, ?_, ?_⟩ (Heap.SameBut.update ..))
    · rw [stored, if_neg hany]
      have := hp.append hkey (knd.hash k) v
      obtain ⟨l⟩ := es
      simpa using this
    · rw [stored, if_neg hany, List.map_append, List.nodup_append]
      refine ⟨hn, by simp, ?_⟩
      intro a ha b hb
      simp only [List.map_cons, List.map_nil, List.mem_singleton] at hb
      subst hb
      exact fun e => hnot (e ▸ ha)
theorem wpAny_mergeMapping {d o : Addr} {kvs more : List (K × Value)} {Q : Unit → Shared → Prop} (hnr : ∀ k a, knd.is k (.ref a) = false) (hdo : d ≠ o) (hoS : (o == sysModules) = false)
    (hd : s.heap.DictOf knd d kvs) (ho : s.heap.DictOf knd o more)
    (hQ : ∀ h', h'.DictOf knd d (merged kvs more) → h'.DictOf knd o more → Heap.SameBut d s.heap h' → Q () { s with heap := h' })
    (hsz : kvs.length + more.length ≤ sizeLine := by size_fits) :
    wpAny (model prog w) A (mergeMapping d (.ref o) false) Q E s := by
  obtain ⟨od, esd, epd, hod, hcd, hdd, hkd, hpd, hnd⟩ := id hd
  obtain ⟨oo, eso, epo, hoo, hco, hdo', hko, hpo, hno⟩ := id ho
  have hlen : more.length = eso.size := by rw [← hpo.length]; simp
  unfold mergeMapping
  refine wpAny_bind (wpAny_isInstance ho.typeIs isSubtype_dict_dict ?_)
  rw [if_pos rfl]
  refine wpAny_bind (wpAny_specialOf ho.typeIs F.slot_dict_iter.lookup (wpAny_bind (wpAny_pure ?_)))
  simp only [beq_self_eq_true, Bool.false_eq_true, if_false]
  rw [if_neg (by rw [hoS]; exact Bool.false_ne_true)]
  refine wpAny_bind (wpAny_dictEntries hod hdd ?_)
  have loop : wpAny (model prog w) A (do
      let l ← dictEntries o
      let epoch ← dictEpoch o
      forIn (List.range l.size) PUnit.unit fun i (_ : PUnit) => (do
          let l' ← dictEntries o
          match l'[i]? with
            | some e => do
              holding [e.key, e.val] (dictPut d e.hash e.key e.val)
              let ep' ← dictEpoch o
              if (ep' != epoch) = true then do
                  (unsupported "dict.changed-during-merge" : Sem PUnit)
                  pure (ForInStep.yield PUnit.unit)
                else pure (ForInStep.yield PUnit.unit)
            | _ => do
              (unsupported "dict.changed-during-merge" : Sem PUnit)
              pure (ForInStep.yield PUnit.unit) : Sem (ForInStep PUnit))
      pure ()) Q E s := by
    refine wpAny_bind (wpAny_dictEntries hoo hdo' ?_)
    refine wpAny_bind (wpAny_dictEpoch hoo hdo' ?_)
    refine wpAny_bind ?_
    rw [List.range_eq_range']
    refine wpAny_forIn_list _
      (fun rest _ s' => ∃ h' i, s' = { s with heap := h' } ∧ rest = List.range' i (eso.size - i) ∧ i ≤ eso.size ∧ h'.DictOf knd d (merged kvs (more.take i)) ∧ h'.get? o = some oo ∧ Heap.SameBut d s.heap h')
      _ ?_ ?_ _ _ ⟨s.heap, 0, rfl, by simp, Nat.zero_le _, by simpa [merged] using hd, hoo, Heap.SameBut.refl _ _⟩
    · rintro x rest b s' ⟨h', i, rfl, hr, hi, hd', hoo', hs'⟩
      have hlt : i < eso.size := by
        rcases Nat.lt_or_ge i eso.size with h | h
        · exact h
        · rw [Nat.sub_eq_zero_of_le h] at hr; simp at hr
      obtain ⟨rfl, hrest⟩ : x = i ∧ rest = List.range' (i + 1) (eso.size - (i + 1)) := by
        have e : eso.size - i = (eso.size - (i + 1)) + 1 := by omega
        rw [e, List.range'_succ] at hr
        injection hr with h1 h2
        exact ⟨h1, h2⟩
      refine wpAny_bind (wpAny_dictEntries hoo' hdo' ?_)
      rw [Array.getElem?_eq_getElem hlt]
      obtain ⟨kv, hkv⟩ : ∃ kv, more[x]? = some kv := ⟨more[x]'(by rw [hlen]; exact hlt), List.getElem?_eq_getElem _⟩
      obtain ⟨k, v⟩ := kv
      obtain ⟨hkey, hval⟩ := hpo.get? (e := eso[x]) (by simp [hlt]) hkv
      obtain ⟨k', hkey', hhash⟩ := hko eso[x] (Array.getElem_mem hlt)
      obtain rfl : k' = k := knd.inj _ _ _ hkey' hkey
      show wpAny _ _ (holding [eso[x].key, eso[x].val] (dictPut d eso[x].hash eso[x].key eso[x].val) >>= _) _ _ _
      rw [hhash, hval]
      have hmx : (merged kvs (more.take x)).length ≤ sizeLine := by
        have e1 := merged_length_le kvs (more.take x)
        have e2 : (more.take x).length ≤ more.length := by rw [List.length_take]; omega
        omega
      refine wpAny_bind (wpAny_holding (wpAny_dictPut_pairs (hsz := hmx) hkey hd' fun h'' hd'' hs'' => ?_))
      have hoo'' : h''.get? o = some oo := (hs''.2 o (Ne.symm hdo)).trans hoo'
      refine wpAny_bind (wpAny_dictEpoch hoo'' hdo' ?_)
      rw [if_neg (by simp)]
      exact wpAny_pure ⟨h'', x + 1, rfl, hrest, hlt, by rw [merged_take_succ kvs more x (k', v) hkv]; exact hd'', hoo'', hs'.trans hs''⟩
    · rintro b s' ⟨h', i, rfl, hr, hi, hd', hoo', hs'⟩
      have hin : i = eso.size := by
        rcases Nat.lt_or_ge i eso.size with h | h
        · have e : eso.size - i = (eso.size - (i + 1)) + 1 := by omega
          rw [e, List.range'_succ] at hr; exact nomatch hr
        · exact Nat.le_antisymm hi h
      refine wpAny_pure (hQ h' ?_ ⟨oo, eso, epo, hoo', hco, hdo', hko, hpo, hno⟩ hs')
      rw [hin, ← hlen, List.take_length] at hd'; exact hd'
  split
  · refine wpAny_bind (wpAny_dictEntries hoo hdo' ?_)
    refine wpAny_bind ?_
    have hall : ∀ e ∈ eso.toList, ∃ k, knd.is k e.key = true := fun e he => let ⟨k, h, _⟩ := hko e (by simpa using he); ⟨k, h⟩
    refine MeetsSeq2.wpAny_forIn_array _ (fun rest _ s' => s' = s ∧ ∀ e ∈ rest, ∃ k, knd.is k e.key = true) _ ?_ ?_ _ _ ⟨rfl, hall⟩
    · rintro x rest b s' ⟨rfl, hk⟩
      obtain ⟨k, hkx⟩ := hk x List.mem_cons_self
      have hx : ∀ a, x.key ≠ .ref a := fun a z => by rw [z, hnr] at hkx; cases hkx
      have e1 : ∀ (F : Addr → Sem (ForInStep PUnit)) (G : Sem (ForInStep PUnit)), (match x.key with | .ref a => F a | _ => G) = G := fun F G => by
        cases hq : x.key with
        | ref a => exact absurd hq (hx a)
        | _ => rfl
      split
      · rename_i a hq; exact absurd hq (hx a)
      · exact wpAny_pure ⟨rfl, fun e he => hk e (List.mem_cons_of_mem _ he)⟩
    · rintro b s' ⟨rfl, _⟩
      exact loop
  · exact loop
end
end PySem
set_option Elab.async false
set_option linter.all false
set_option maxRecDepth 100000
set_option maxHeartbeats 4000000
namespace L2
open PySem PySem.Spec PyProof.Rows
def tDictStar (td tk tv : TE) : TE := fun σ H Q => ∀ p, H p = none → td σ (upd H p (.dK [])) fun x H1 => ∃ a kvs, x = .ref a ∧ H1 p = some (.dK []) ∧ H1 a = some (.dK kvs) ∧ a ≠ p ∧ kvs.length < sizeLine ∧
  ∀ p2, upd H1 p (.dK kvs) p2 = none → tk σ (upd (upd H1 p (.dK kvs)) p2 (.dK [])) fun y H3 => tv σ H3 fun z H4 => ∃ key kvs', y = kV key ∧ H4 p2 = some (.dK []) ∧ H4 p = some (.dK kvs') ∧ kvs'.length < sizeLine ∧ Q (.ref p) (upd (upd H4 p2 (.dK [(key, z)])) p (.dK (putK kvs' key z)))
theorem pe_dictStar {X : Cx} {pos : Pos} {ke ve xe : Expr} {td tk tv : TE} (hd : PE X ve td) (hk : PE X ke tk) (hv : PE X xe tv) : PE X (.Dict [none, some ke] [ve, xe] pos) (tDictStar td tk tv) := by
  refine ⟨fun pins s σ H Q I q => ?_⟩
  rw [arm_eval_Dict]
  refine wpAny_bind (wpAny_standAt ?_)
  have hn := I.hok.fresh (Nat.le_refl s.heap.objs.size)
  have I1 := I.laid (a := s.heap.objs.size) (o := .dK []) (h' := s.heap.push { cls := .type "dict", data := .dict #[] }) (t' := s.toks) (fun _ _ q => Heap.get?_push_of_some _ q) (Nat.le_refl _) (dk_empty s.heap I.big)
  show wpAny _ _ (dictDisplay [(none, _), (some _, _)]) _ _ _
  unfold dictDisplay
  dsimp only
  rw [List.forIn_cons]
  dsimp only [List.isEmpty_nil]
  rw [if_pos rfl]
  refine wpAny_bind ?_
  refine wpAny_bind ?_
  refine wpAny_bind (wpAny_pure ?_)
  dsimp only
  refine wpAny_bind (wpAny_alloc ?_)
  refine wpAny_bind (wpAny_holding (wpAny_bind (thn (hd.run pins _ σ _ _ I1 (q _ hn)) fun v s2 ⟨x, H2, I2, rx, a, kvs, ex, hp2, ha2, nap, hl, q2⟩ => ?_)))
  refine wpAny_bind (wpAny_standAt (wpAny_pure ?_))
  subst ex
  obtain rfl : v = Value.ref a := rx
  have hp : s.heap.objs.size ≠ a := Ne.symm nap
  obtain ⟨z1, hS1, vs1, r1', dd1⟩ := dk_of I2.hok hp2
  cases r1'
  obtain ⟨z2, hS2, vs, rel, dd⟩ := dk_of I2.hok ha2
  have hnd : (vs.map (·.1)).Nodup := by obtain ⟨_, _, _, _, _, _, _, _, h⟩ := id dd; exact h
  have hnr : ∀ (k : Key) (a : Addr), (mixKind X.prog X.w).is k (.ref a) = false := fun k a => by cases k <;> rfl
  refine wpAny_bind (wpAny_onRaise (wpAny_tryCatch (wpAny_onRaise (wpAny_holding (wpAny_mergeMapping (knd := mixKind X.prog X.w) (kvs := []) (more := vs) hnr hp hS2 dd1 dd (fun h' dd' dda hs => ?_) (by rw [← rel.length]; simpa using z2))))))
  rw [merged_nil_of_nodup vs hnd] at dd'
  have he : ∃ q, h'.get? s.heap.objs.size = some q := let ⟨q, _, _, hq, _⟩ := dd'; ⟨q, hq⟩
  have I3 : Inv X pins σ (upd H2 s.heap.objs.size (.dK kvs)) { s2 with heap := h' } := d_write (t' := s2.toks) I2 (by rw [hp2]; exact True.intro) hs he (dk_new z2 hS1 rel dd')
  refine wpAny_pure ?_
  dsimp only
  rw [List.forIn_cons]
  dsimp only [List.nil_append, List.length_singleton]
  rw [if_neg (by decide)]
  refine wpAny_bind (wpAny_pure ?_)
  dsimp only
  rw [List.forIn_nil]
  refine wpAny_pure ?_
  dsimp only [List.isEmpty_cons]
  rw [if_neg (by decide)]
  have hn3 := I3.hok.fresh (Nat.le_refl h'.objs.size)
  have I4 := I3.laid (a := h'.objs.size) (o := .dK []) (h' := h'.push { cls := .type "dict", data := .dict #[] }) (t' := s2.toks) (fun _ _ q => Heap.get?_push_of_some _ q) (Nat.le_refl _) (dk_empty h' I3.big)
  refine wpAny_bind ?_
  refine wpAny_bind (wpAny_holding (wpAny_subDict (knd := mixKind X.prog X.w) (by show 1 ≤ 15; decide) ?_))
  refine evalPairs_cons ?_
  refine thn (hk.run pins _ σ _ _ I4 (q2 _ hn3)) fun kv s5 ⟨y, H5, I5, ry, q5⟩ => ?_
  refine wpAny_bind (thn (hv.run pins _ σ _ _ I5 q5) fun xv s6 ⟨z, H6, I6, rz, key, kvs', ey, hs6, hp6, hl6, q6⟩ => ?_)
  refine wpAny_bind (wpAny_standAt (wpAny_pure (evalPairs_nil ?_)))
  obtain ⟨z5, hS5, vs5, r5, dd5⟩ := dk_of I6.hok hs6
  cases r5
  refine ⟨[(key, xv)], ⟨by subst ey; exact kV_is ry, rfl, True.intro⟩, dd5, fun h7 dd7 hs7 => ?_⟩
  have he7 : ∃ q, h7.get? h'.objs.size = some q := let ⟨q, _, _, hq, _⟩ := dd7; ⟨q, hq⟩
  have hm1 : merged ([] : List (Key × Value)) [(key, xv)] = [(key, xv)] := rfl
  rw [hm1] at dd7
  have I7 : Inv X pins σ (upd H6 h'.objs.size (.dK [(key, z)])) { s6 with heap := h7, toks := s6.toks + 1 } := d_write I6 (by rw [hs6]; exact True.intro) hs7 he7 (dk_new (by show 1 ≤ sizeLine; rw [sizeLine_eq]; decide) hS5 (.cons ⟨rfl, rz⟩ .nil) dd7)
  have hpp : s.heap.objs.size ≠ h'.objs.size := fun e => by
    rw [← e, upd_same] at hn3; cases hn3
  have hp7 : upd H6 h'.objs.size (.dK [(key, z)]) s.heap.objs.size = some (.dK kvs') := by rw [upd_ne hpp]; exact hp6
  have hs7' : upd H6 h'.objs.size (.dK [(key, z)]) h'.objs.size = some (.dK [(key, z)]) := upd_same
  obtain ⟨z8, hS8, vs8, r8, dd8⟩ := dk_of I7.hok hp7
  obtain ⟨z9, hS9, vs9, r9, dd9⟩ := dk_of I7.hok hs7'
  have l9 : vs9.length = 1 := by rw [← r9.length]; rfl
  refine wpAny_bind (wpAny_onRaise (wpAny_holding (wpAny_mergeMapping (knd := mixKind X.prog X.w) (kvs := vs8) (more := vs9) hnr hpp hS9 dd8 dd9 (fun h9 dd' dda hs9 => ?_) (by rw [← r8.length, l9]; omega))))
  refine wpAny_pure (wpAny_pure ⟨.ref s.heap.objs.size, _, ?_, rfl, q6⟩)
  have he9 : ∃ q, h9.get? s.heap.objs.size = some q := let ⟨q, _, _, hq, _⟩ := dd'; ⟨q, hq⟩
  have e9 : putK kvs' key z = mergeK kvs' [(key, z)] := rfl
  rw [e9]
  exact d_write I7 (by rw [hp7]; exact True.intro) hs9 he9 (dk_new (by have := length_mergeK [(key, z)] kvs'; simp only [List.length_singleton] at this; omega) hS8 (r9.merge r8) dd')
end L2
set_option Elab.async false
set_option linter.all false
set_option maxRecDepth 100000
/-! G10: enumerate(tuple) -/
namespace PySem
open Sem (wp)
open AutoSeq1 (wpAny_loadPart')
set_option maxHeartbeats 1000000 in
theorem meets_enumerate_newB1 {v : Value} {o : Obj} {H : Heap → Prop} (B : Begins v o H) :
    Meets (Builtin.«enumerate.__new__» ⟨[.type "enumerate", v], []⟩) (fun _ R s => H s.heap ∧
      R (.ok (.ret (.ref (s.heap.push o).objs.size))) { s with heap := (s.heap.push o).push { cls := .type "enumerate", data := .fields #[.none, .bool false, .ref s.heap.objs.size, rawInt 0, .none, .none] } }) :=
  .of_wp fun prog w A R s h => by
    obtain ⟨hp, g, d, tk, os⟩ := s; obtain ⟨h1, h⟩ := h
    have hsub := sub_enumerate
    have q1 : ∀ {A' : Around} {E : Value → Shared → Prop} {Q : Value → Shared → Prop}, Q (.ref hp.objs.size) ⟨hp.push o, g, d, tk, os⟩ → wpAny (model prog w) A' (pyIter v) Q E ⟨hp, g, d, tk, os⟩ :=
      fun q => B.iter prog w _ _ ⟨hp, g, d, tk, os⟩ _ h1 q
    wp_walk using q1
    refine wpAny_stack_any fun st => wpAny_pure ?_
    split
    · rename_i c _ _ _ _ _
      cases (c == Value.type "enumerate")
      · wp_walk using q1
        exact ⟨_, rfl, h⟩
      · wp_walk using q1
        exact ⟨_, rfl, h⟩
    · wp_walk using q1
      exact ⟨_, rfl, h⟩
section
variable {prog : Program} {w : World} {A : Around} {E : Value → Shared → Prop} {s : Shared}
theorem enum_begins1 {v : Value} {o : Obj} {H : Heap → Prop} {Q : Value → Shared → Prop} (B : Begins v o H) (h1 : H s.heap)
    (h : ∀ h', IsEnum h' (s.heap.objs.size + 1) s.heap.objs.size 0 .none → h'.get? s.heap.objs.size = some o → h'.objs.size = s.heap.objs.size + 2 →
      (∀ b o, s.heap.get? b = some o → h'.get? b = some o) → Q (.ref (s.heap.objs.size + 1)) { s with heap := h' }) :
    wpAny (model prog w) A (call (.type "enumerate") [v]) Q E s := by
  refine callType_new F.called_enumerate (by decide) (F.typeCall_enumerate_1 _) (F.newCall_enumerate_1 _) (fun obj => F.args_object_init_2 obj _) F.entry_enumerate_new
    (meets_enumerate_newB1 B) ⟨h1, ?_⟩
  have hz : (s.heap.push o).objs.size = s.heap.objs.size + 1 := Heap.size_push ..
  show _ ∧ _
  rw [hz]
  have he : IsEnum ((s.heap.push o).push { cls := .type "enumerate", data := .fields #[.none, .bool false, .ref s.heap.objs.size, rawInt 0, .none, .none] }) (s.heap.objs.size + 1) s.heap.objs.size 0 .none := by
    have := Heap.get?_push_size (s.heap.push o) (o := { cls := .type "enumerate", data := .fields #[.none, .bool false, .ref s.heap.objs.size, rawInt 0, .none, .none] }) rfl
    rw [hz] at this; exact this
  refine ⟨⟨_, he, rfl⟩, h _ he (Heap.get?_push_of_some _ (Heap.get?_push_size _ B.free)) (by rw [Heap.size_push, hz]) fun b o x => Heap.get?_push_of_some _ (Heap.get?_push_of_some _ x)⟩
end
end PySem
set_option maxHeartbeats 4000000
namespace L2
open PySem PySem.Spec PyProof.Rows
def IteT (K : PySem.W.Frag) (a : Addr) : It :=
  ⟨fun i H => ∃ (xs : List V) (x : V), SqT K H a xs ∧ xs[i]? = some x, fun i H v H' => ∃ T x, v = .ref T ∧ H T = none ∧ H' = upd H T (.tup [.int ((i : Nat) : Int), x]) ∧ ∀ xs, SqT K H a xs → xs[i]? = some x, fun i H => ∃ xs : List V, SqT K H a xs ∧ xs.length = i⟩
theorem turn_enumT {P : Program} {w : World} {K : PySem.W.Frag} {elts : List Expr} {kk : Nat} {tpos : Pos} (a e it : Addr) (hai : a ≠ it) (hae : a ≠ e) :
    Turn P w K (.Tuple elts kk tpos) (IteT K a) [e, it] e (fun i h => (∃ old, IsEnum h e it ((i : Nat) : Int) old) ∧ h.IsTupleIter it a i ∧ e ≠ it) where
  mem := by simp
  obj := fun i h st b hb => by
    obtain ⟨⟨old, he⟩, ⟨o, ho, hc, hd⟩, _⟩ := st
    have e' : b = e ∨ b = it := by simpa using hb
    rcases e' with z | z
    · rw [z]; exact ⟨_, he, fun v q => nomatch q⟩
    · rw [z]; exact ⟨o, ho, fun v q => by rw [hd] at q; cases q⟩
  keep := fun i h h' st k => let ⟨⟨old, he⟩, hi, hne⟩ := st; ⟨⟨old, k e (by simp) _ he⟩, hi.at fun o q => k it (by simp) o q, hne⟩
  item := by
    intro X hP hw hK hc i pins s σ H E I hf st hg
    subst hP hw hK
    obtain ⟨⟨old, he⟩, hit, hne⟩ := st
    obtain ⟨xs, x, hq, hx⟩ := hg
    obtain ⟨its, rv, p, hz⟩ := I.tuple hq
    obtain ⟨u, hu, ru⟩ := rv.get hx
    have hel : e < s.heap.objs.size := Heap.lt_size he
    have hil : it < s.heap.objs.size := by obtain ⟨_, q, _⟩ := hit; exact Heap.lt_size q
    have hlt : i < its.toArray.size := by
      obtain ⟨hh, _⟩ := List.getElem?_eq_some_iff.mp hu
      simpa using hh
    have DR := Draws.tuple (prog := X.prog) (w := X.w) (A := X.A.in1) (I.ok.hd hc) it a hai its.toArray
    refine wpAny_pyNext_enum_itemC DR he ⟨hit, p⟩ hlt hne (by simp [hne, Ne.symm hae]) fun u' h' tk hu' ho hit' hT hsz hk => ?_
    have eu : u' = u := by
      have : its.toArray[i]? = some u := by simpa using hu
      exact Option.some.inj (hu'.symm.trans this)
    subst eu
    refine ⟨_, rfl, wpAny_letOwnedTupleGo_enum (s := { s with heap := h', toks := tk + 1 }) ho fun h'' he' sb => ?_⟩
    have hT2 : h''.get? s.heap.objs.size = some { cls := .type "tuple", data := .seq #[.int ((i : Nat) : Int) tk, u'] } := (sb.2 _ (Nat.ne_of_gt hel)).trans hT
    have new : ObjOk X.prog X.w (upd H s.heap.objs.size (.tup [.int ((i : Nat) : Int), x])) h'' s.heap.objs.size (.tup [.int ((i : Nat) : Int), x]) :=
      ⟨by show 2 ≤ sizeLine; decide, [.int ((i : Nat) : Int) tk, u'], .cons ⟨_, rfl⟩ (.cons ru .nil), ⟨_, hT2, rfl, _, rfl⟩⟩
    have I1 : Inv X pins σ (upd H s.heap.objs.size (.tup [.int ((i : Nat) : Int), x])) { s with heap := h'', toks := tk + 1 } :=
      I.turnedNew (ch := [e, it]) (fun b ob hb q => (sb.2 b (fun z => hb (by simp [z]))).trans (hk b ob (fun z => hb (by simp [z])) (fun z => hb (by simp [z])) q)) hf (Nat.le_refl _) new
    refine ⟨.ref s.heap.objs.size, _, I1, rfl, ⟨_, x, rfl, I.hok.fresh (Nat.le_refl _), rfl, fun ys hy => by rw [I.tuple_inj hy hq]; exact hx⟩, ⟨⟨u', ?_⟩, hit'.1.at fun o q => (sb.2 it (Ne.symm hne)).trans q, hne⟩, fun b hb => ?_⟩
    · have e1 : ((i + 1 : Nat) : Int) = (i : Int) + 1 := by omega
      rw [e1]; exact he'
    · have hb' : b < s.heap.objs.size := by
        have e' : b = e ∨ b = it := by simpa using hb
        rcases e' with z | z
        · rw [z]; exact hel
        · rw [z]; exact hil
      rw [upd_ne (Nat.ne_of_lt hb')]
      exact (hf b hb).1
  done := by
    intro X hP hw hK hc i pins s σ H E I hf st hg
    subst hP hw hK
    obtain ⟨⟨old, he⟩, hit, hne⟩ := st
    obtain ⟨xs, hq, hx⟩ := hg
    obtain ⟨its, rv, p, hz⟩ := I.tuple hq
    obtain ⟨f0, f1, f2, f3, f4, f5⟩ := hf it (by simp)
    have hl := rv.length
    have DR := Draws.tuple (prog := X.prog) (w := X.w) (A := X.A.in1) (I.ok.hd hc) it a hai its.toArray
    have ei : i = its.toArray.size := by rw [← hx, hl]; simp
    exact wpAny_pyNext_enum_endD DR he (by rw [← ei]; exact ⟨hit, p⟩) fun h' eb => ⟨rfl, I.turned (t' := s.toks) (fun b o hb q => eb b o hb q) f0 f1 f3 f4 f5⟩
  self := fun A i s Q E st h => let ⟨⟨_, he⟩, _⟩ := st; wpAny_pyIter_enum he h
def iEnumT (K : PySem.W.Frag) (ta : TA) : TI := fun σ H R => ta σ H fun vs H1 => ∃ a xs, vs = [.ref a] ∧ SqT K H1 a xs ∧ R (IteT K a) H1
theorem pi_enumT {X : Cx} {e : Expr} {ta : TA} {p pos tpos : Pos} {elts : List Expr} {kk : Nat} (hg : Gl X "enumerate") (hm : X.mg "enumerate" = none) (ha : PA X [e] ta) (hs : starEach [e] X.env = [(false, eval e X.env)] := by rfl) :
    PI X (.Tuple elts kk tpos) (.Call (.Name "enumerate" p) [e] [] pos) (iEnumT X.K ta) := by
  refine ⟨fun pins s σ H R I h => ?_⟩
  refine Call_ (ld_blt I hg hm PyProof.Rows.boot_enumerate (PyProof.Rows.callWith_type1 (thn (ha.run pos pins s σ H _ I h) fun us s1 ⟨vs, H1, I1, r1, q1⟩ => ?_) hs rfl))
  obtain ⟨a, xs, ex, hq, q⟩ := q1
  subst ex
  cases r1 with
  | cons r rr =>
    cases rr
    cases r
    obtain ⟨its, rv, p', hz⟩ := I1.tuple hq
    have ha1 : a < s1.heap.objs.size := by
      obtain ⟨o, ho, _⟩ := id p'
      exact Heap.lt_size ho
    refine enum_begins1 (begins_tuple a its.toArray) p' fun h' he hit hsz hk => wpAny_pyIter_enum he ?_
    have I2 : Inv X pins σ H1 { s1 with heap := h' } := I1.kept (t' := s1.toks) hk
    refine ⟨s1.heap.objs.size + 1, [s1.heap.objs.size + 1, s1.heap.objs.size], _, _, H1, rfl, I2, turn_enumT a (s1.heap.objs.size + 1) s1.heap.objs.size (Nat.ne_of_lt ha1) (Nat.ne_of_lt (Nat.lt_succ_of_lt ha1)), ⟨⟨.none, by simpa using he⟩, ⟨_, hit, rfl, rfl⟩, Nat.succ_ne_self _⟩, fun b hb => ?_, q⟩
    have e' : b = s1.heap.objs.size + 1 ∨ b = s1.heap.objs.size := by simpa using hb
    have hle : s1.heap.objs.size ≤ b := by
      rcases e' with z | z
      · rw [z]; exact Nat.le_add_right _ _
      · rw [z]; exact Nat.le_refl _
    exact I1.fpOk hle (I1.hok.fresh hle)
theorem walk_enumT {K : PySem.W.Frag} {a : Addr} {xs : List V} : Walk (IteT K a) xs.length (fun H => SqT K H a xs) (fun i H v H' => ∃ T x, v = .ref T ∧ H T = none ∧ H' = upd H T (.tup [.int ((i : Nat) : Int), x]) ∧ xs[i]? = some x) :=
  ⟨fun i _ hi q => ⟨xs, xs[i], q, by simp [hi]⟩, fun _ q => ⟨xs, q, rfl⟩, fun i H v H' _ q y => by
    obtain ⟨T, x, h1, h2, h3, h4⟩ := y
    exact ⟨T, x, h1, h2, h3, h4 xs q⟩⟩
end L2
set_option Elab.async false
set_option linter.all false
set_option maxRecDepth 100000
set_option maxHeartbeats 4000000
/-! G11: a tuple's [::-1]; a part of a slice that is None -/
namespace HT
open PySem PySem.Spec PyProof.Rows L2
section
variable {prog : Program} {w : World} {A : Around} {E : Value → Shared → Prop} {s : Shared}
theorem sliceApplied_rev {sl : Addr} {n : Nat} {k : Tok} {Q : Int × Int × Nat → Shared → Prop} (hs : s.heap.IsSliceOf sl .none .none (.int (-1) k))
    (h : Q ((n : Int) - 1, -1, n) s) : wpAny (model prog w) A (Builtin.Slice.sliceApplied (.ref sl) (pure (n : Int))) Q E s := by
  obtain ⟨os, hos, hcs, hds⟩ := id hs
  unfold Builtin.Slice.sliceApplied Builtin.Slice.sliceFields
  refine wpAny_bind (wpAny_bind (wpAny_field hos hds (x := .none) rfl (wpAny_bind (wpAny_field hos hds (x := .none) rfl (wpAny_bind (wpAny_field hos hds (x := .int (-1) k) rfl (wpAny_pure ?_)))))))
  refine wpAny_bind (slicePart_int ?_)
  show wpAny _ _ (if ((-1 : Int) == 0) = true then _ else _) _ _ s
  rw [if_neg (by decide)]
  refine wpAny_bind (slicePart_none (wpAny_bind (slicePart_none (wpAny_bind (wpAny_pure ?_)))))
  have e1 : Builtin.Slice.sliceAdjust none none (-1) (n : Int) = ((n : Int) - 1, -1) := rfl
  have e2 : Builtin.Slice.slicePlaces ((n : Int) - 1) (-1) (-1) = n := by
    unfold Builtin.Slice.slicePlaces
    rw [if_neg (by decide)]
    by_cases h0 : n = 0
    · subst h0
      rw [if_neg (by decide)]
      rfl
    · rw [if_pos (by omega)]
      have : ((n : Int) - 1 - -1 - 1) / (- -1) + 1 = (n : Int) := by
        rw [Int.neg_neg, Int.ediv_one]
        omega
      rw [this]
      rfl
  show wpAny _ _ (match Builtin.Slice.sliceAdjust none none (-1) (n : Int) with | (lo, hi) => pure (lo, (-1 : Int), Builtin.Slice.slicePlaces lo hi (-1))) _ _ s
  rw [e1]
  show wpAny _ _ (pure ((n : Int) - 1, (-1 : Int), Builtin.Slice.slicePlaces ((n : Int) - 1) (-1) (-1))) _ _ s
  rw [e2]
  exact wpAny_pure h
theorem pick_rev (xs : Array Value) : ((List.range xs.size).filterMap fun (m : Nat) => xs[(((xs.size : Nat) : Int) - 1 + (m : Int) * (-1)).toNat]?).toArray = xs.toList.reverse.toArray := by
  congr 1
  apply List.ext_getElem?
  intro i
  have e : ∀ m ∈ List.range xs.size, xs[(((xs.size : Nat) : Int) - 1 + (m : Int) * (-1)).toNat]? = (some ∘ fun m => xs[xs.size - 1 - m]?.getD default) m := fun m hm => by
    rw [List.mem_range] at hm
    have : (((xs.size : Nat) : Int) - 1 + (m : Int) * (-1)).toNat = xs.size - 1 - m := by omega
    rw [this]
    show _ = some (xs[xs.size - 1 - m]?.getD default)
    rw [Array.getElem?_eq_getElem (by omega)]
    rfl
  have fc : ∀ (l : List Nat), (∀ m ∈ l, m ∈ List.range xs.size) → (l.filterMap fun (m : Nat) => xs[(((xs.size : Nat) : Int) - 1 + (m : Int) * (-1)).toNat]?) = l.map fun m => xs[xs.size - 1 - m]?.getD default := fun l => by
    induction l with
    | nil => intro _; rfl
    | cons m l ih =>
      intro hm
      rw [List.filterMap_cons, e m (hm m List.mem_cons_self), List.map_cons, ← ih (fun x hx => hm x (List.mem_cons_of_mem _ hx))]
      rfl
  rw [fc _ (fun _ h => h), List.getElem?_map]
  rcases Nat.lt_or_ge i xs.size with h | h
  · rw [List.getElem?_range h, List.getElem?_reverse (by simpa using h)]
    show some (xs[xs.size - 1 - i]?.getD default) = _
    rw [Array.length_toList, Array.getElem?_toList, Array.getElem?_eq_getElem (by omega)]
    rfl
  · rw [List.getElem?_eq_none (by simpa using h), List.getElem?_eq_none (by simpa using h)]
    rfl
theorem getItem_tuple_rev {t sl : Addr} {items : Array Value} {k : Tok} {Q : Value → Shared → Prop} (ht : IsTup s.heap t items) (hs : s.heap.IsSliceOf sl .none .none (.int (-1) k))
    (h : Q (.ref s.heap.objs.size) { s with heap := s.heap.push { cls := .type "tuple", data := .seq items.toList.reverse.toArray } })
    (hsz : items.size ≤ sizeLine) : wpAny (model prog w) A (getItem (.ref t) (.ref sl)) Q E s := by
  have htake : sizeOk (.seq items.toList.reverse.toArray) := by
    show items.toList.reverse.toArray.size ≤ sizeLine
    rw [List.size_toArray, List.length_reverse, Array.length_toList]
    exact hsz
  obtain ⟨os, hos, hcs, hds⟩ := id hs
  have hTs : s.TypeIs (.ref sl) "slice" := ⟨os, hos, hcs⟩
  unfold getItem
  try with_reducible refine wpAny_holding ?_
  first | refine wpAny_bind (wpAny_pure ?_) | skip
  refine wpAny_bind (wpAny_sequenceKey ht.typeIs (by decide) ?_)
  refine wpAny_bind (wpAny_callSpecial?_slot (name := Str.ofString "__getitem__") ht.typeIs PyProof.Rows.slot_tuple_getitem
    (wpAny_call_entry PyProof.Rows.slot_tuple_getitem ht.typeIs entry_tuple_getitem ?_ (args_tuple_getitem _ _)))
  show wpAny _ _ (Builtin.Tuple.tupleItemsOf (.ref t) >>= _) _ _ s
  refine wpAny_bind (tupleItemsOf_ ht ?_)
  refine wpAny_bind (wpAny_typeOf hTs ?_)
  rw [if_pos (by decide)]
  refine wpAny_bind (sliceApplied_rev hs ?_)
  have hno : ¬ (((((items.size : Nat) : Int) - 1) == 0 && (-1 : Int) == 1 && items.size == items.size) = true) := by
    intro q
    rw [Bool.and_eq_true, Bool.and_eq_true] at q
    exact absurd q.1.2 (by decide)
  show wpAny _ _ (if ((((items.size : Nat) : Int) - 1) == 0 && (-1 : Int) == 1 && items.size == items.size) = true then _ else _) _ _ s
  rw [if_neg hno, pick_rev]
  first
    | exact wpAny_bind (m := Builtin.Tuple.tupleExact _) (wpAny_newObj_type (wpAny_pure ⟨_, rfl, wpAny_pure h⟩) htake)
    | exact wpAny_bind (m := Builtin.Tuple.tupleExact _) (wpAny_newObj_type (wpAny_bind (wpAny_pure (wpAny_pure ⟨_, rfl, wpAny_pure h⟩))) htake)
    | exact wpAny_bind (wpAny_bind (m := Builtin.Tuple.tupleExact _) (wpAny_newObj_type (wpAny_pure (wpAny_pure ⟨_, rfl, wpAny_pure h⟩)) htake))
    | exact wpAny_bind (wpAny_bind (m := Builtin.Tuple.tupleExact _) (wpAny_newObj_type (wpAny_pure ⟨_, rfl, wpAny_pure h⟩) htake))
end
end HT
namespace L2
open PySem PySem.Spec PyProof.Rows
section
variable {X : Cx}
theorem po_nonV {e : Expr} {te : TE} (h : PE X e te) : PO X (some e) (fun σ H Q => te σ H fun x H1 => x = .non ∧ Q none H1) := by
  refine ⟨fun pins s σ H Q I hw => ?_⟩
  rw [evalPart_some]
  refine thn (h.run pins s σ H _ I hw) fun u s1 ⟨x, H1, I1, r1, ex, q1⟩ => ?_
  subst ex
  cases r1
  exact ⟨none, H1, I1, .none, q1⟩
def tRevT (K : PySem.W.Frag) (te : TE) : TE := fun σ H Q => te σ H fun x H1 => ∃ a xs, x = .ref a ∧ SqT K H1 a xs ∧ ∀ p, H1 p = none → Q (.ref p) (upd H1 p (.tup xs.reverse))
theorem pe_revT {e : Expr} {te : TE} {k : Nat} {p1 p2 p3 pos : Pos} (he : PE X e te) : PE X (.Subscript e (.Slice none none (some (.UnaryOp .USub (.Constant (.int 1) k p1) p2)) p3) pos) (tRevT X.K te) := by
  refine ⟨fun pins s σ H Q I h => ?_⟩
  refine Subscript_ (thn (he.run pins s σ H _ I h) fun v s1 ⟨x, H1, I1, r1, q1⟩ => ?_)
  obtain ⟨a, xs, ex, hx, q⟩ := q1
  subst ex
  cases r1
  have hst : PO X (some (.UnaryOp .USub (.Constant (.int 1) k p1) p2)) (tPart (tUn (rU fun i => .int (-i)) (tC (.int 1)))) := po_some (pe_un un_neg pe_int)
  refine wpAny_Slice (thn (po_none.run pins s1 σ H1 (fun o H2 => o = none ∧ H2 = H1) I1 ⟨rfl, rfl⟩) fun vl s2 ⟨l, H2, I2, pl, el, e2⟩ => ?_)
  subst el e2
  refine thn (po_none.run pins s2 σ H2 (fun o H3 => o = none ∧ H3 = H2) I2 ⟨rfl, rfl⟩) fun vu s3 ⟨u, H3, I3, pu, eu, e3⟩ => ?_
  subst eu e3
  refine thn (hst.run pins s3 σ H3 (fun o H4 => o = some (-1) ∧ H4 = H3) I3 ⟨1, rfl, -1, rfl, rfl, rfl⟩) fun vs s4 ⟨o, H4, I4, ps, eo, e4⟩ => ?_
  subst eo e4
  cases pl
  cases pu
  obtain ⟨tk, rfl⟩ : ∃ tk, vs = Value.int (-1) tk := by cases ps; exact ⟨_, rfl⟩
  have I5 : Inv X pins σ H4 { s4 with heap := s4.heap.push { cls := .type "slice", data := .fields #[.none, .none, .int (-1) tk] } } := I4.kept (t' := s4.toks) fun b ob q => Heap.get?_push_of_some _ q
  obtain ⟨its, r, ht, hz⟩ := I5.tuple hx
  have hlen := r.length
  show wpAny (model X.prog X.w) X.A (subscriptTail e (.Slice none none (some (.UnaryOp .USub (.Constant (.int 1) k p1) p2)) p3) (.ref a) (.ref s4.heap.objs.size)) (EP X pins σ Q) X.xe { s4 with heap := s4.heap.push { cls := .type "slice", data := .fields #[.none, .none, .int (-1) tk] } }
  refine tail_any (ops := [.ref a, .ref s4.heap.objs.size]) ht.typeIs (PyProof.Rows.slot_tuple_getitem.lookup) ?_ (by with_unfolding_all rfl)
  refine HT.getItem_tuple_rev ht (Heap.IsSliceOf.new _ .none .none (.int (-1) tk)) ?_ (by rw [List.size_toArray]; omega)
  refine ⟨.ref _, _, I5.laid (t' := s4.toks) (o := .tup xs.reverse) (fun b ob q => Heap.get?_push_of_some _ q) (Nat.le_refl _) ?_, rfl, q _ (I5.hok.fresh (Nat.le_refl _))⟩
  exact ⟨by rw [List.length_reverse]; exact hz, _, r.reverse, IsTup.new _ _⟩
end
end L2
set_option Elab.async false
set_option linter.all false
set_option maxRecDepth 100000
set_option maxHeartbeats 4000000
/-! G12: zip of a list and a tuple walked -/
namespace L2
open PySem PySem.Spec PyProof.Rows
theorem add_ne {N i j : Nat} (h : i ≠ j) : N + i ≠ N + j := by omega
theorem add_ne0 {N j : Nat} (h : j ≠ 0) : N ≠ N + j := by omega
theorem add_ne1 {N j : Nat} (h : j ≠ 0) : N + j ≠ N := by omega
def ItzM (K : PySem.W.Frag) (a b : Addr) : It :=
  ⟨fun i H => ∃ (xs ys : List V) (x y : V), SqL K H a xs ∧ SqT K H b ys ∧ xs[i]? = some x ∧ ys[i]? = some y,
   fun i H v H' => ∃ T x y, v = .ref T ∧ H T = none ∧ H' = upd H T (.tup [x, y]) ∧ (∀ xs, SqL K H a xs → xs[i]? = some x) ∧ ∀ ys, SqT K H b ys → ys[i]? = some y,
   fun i H => ∃ xs ys : List V, SqL K H a xs ∧ SqT K H b ys ∧ i ≤ xs.length ∧ i ≤ ys.length ∧ (i = xs.length ∨ i = ys.length)⟩
def iZipM (K : PySem.W.Frag) (ta : TA) : TI := fun σ H R => ta σ H fun vs H1 => ∃ a b xs ys, vs = [.ref a, .ref b] ∧ SqL K H1 a xs ∧ SqT K H1 b ys ∧ R (ItzM K a b) H1
theorem turn_zipM {P : Program} {w : World} {K : PySem.W.Frag} {elts : List Expr} {kk : Nat} {tpos : Pos} {a b N : Addr} (ha : a < N) (hb : b < N) :
    Turn P w K (.Tuple elts kk tpos) (ItzM K a b) [N + 4, N + 2, N + 3, N, N + 1] (N + 4) (fun i h => IsZip h (N + 4) (N + 2) (N + 3) .none ∧ IsTupOf2 h (N + 2) (.ref N) (.ref (N + 1)) ∧ (∃ x y, IsTupOf2 h (N + 3) x y) ∧ h.IsListIter N a i ∧ h.IsTupleIter (N + 1) b i) where
  mem := by simp
  obj := fun i h st c hc => by
    obtain ⟨hz, hTI, ⟨x, y, hTO⟩, ⟨o1, e1, _, d1⟩, ⟨o2, e2, _, d2⟩⟩ := st
    have e' : c = N + 4 ∨ c = N + 2 ∨ c = N + 3 ∨ c = N ∨ c = N + 1 := by simpa using hc
    rcases e' with q | q | q | q | q
    · rw [q]; exact ⟨_, hz, fun v q => nomatch q⟩
    · rw [q]; exact ⟨_, hTI, fun v q => nomatch q⟩
    · rw [q]; exact ⟨_, hTO, fun v q => nomatch q⟩
    · rw [q]; exact ⟨o1, e1, fun v q => by rw [d1] at q; cases q⟩
    · rw [q]; exact ⟨o2, e2, fun v q => by rw [d2] at q; cases q⟩
  keep := fun i h h' st k => by
    obtain ⟨hz, hTI, ⟨x, y, hTO⟩, h1, h2⟩ := st
    exact ⟨k _ (by simp) _ hz, k _ (by simp) _ hTI, ⟨x, y, k _ (by simp) _ hTO⟩, h1.at fun o q => k _ (by simp) o q, h2.at fun o q => k _ (by simp) o q⟩
  item := by
    intro X hP hw hK hc i pins s σ H E I hf st hg
    subst hP hw hK
    obtain ⟨hz, hTI, ⟨a1, a2, hTO⟩, h1, h2⟩ := st
    obtain ⟨xs, ys, x, y, hqx, hqy, hx, hy⟩ := hg
    obtain ⟨its, rv, p1, _⟩ := I.list hqx
    obtain ⟨its2, rv2, p2, _⟩ := I.tuple hqy
    obtain ⟨u, hu, ru⟩ := rv.get hx
    obtain ⟨u2, hu2, ru2⟩ := rv2.get hy
    have hlt1 : i < its.toArray.size := by
      obtain ⟨hh, _⟩ := List.getElem?_eq_some_iff.mp hu
      simpa using hh
    have hlt2 : i < its2.toArray.size := by
      obtain ⟨hh, _⟩ := List.getElem?_eq_some_iff.mp hu2
      simpa using hh
    have hh : X.A.handled = none := I.ok.hd hc
    have D1 := Draws.list (prog := X.prog) (w := X.w) (A := X.A.in1) hh N a (Nat.ne_of_lt ha) its.toArray
    have D2 := Draws.tuple (prog := X.prog) (w := X.w) (A := X.A.in1) hh (N + 1) b (Nat.ne_of_lt (Nat.lt_succ_of_lt hb)) its2.toArray
    have S := zip_sep2 (N := N) (fp1 := [a]) (fp2 := [b]) (one_lt ha) (one_lt hb)
    have hNl : N + 4 < s.heap.objs.size := Heap.lt_size hz
    refine wpAny_pyNext_zipD2_item S D1 D2 hz hTI hTO ⟨h1, p1.isList⟩ ⟨h2, p2⟩ hlt1 hlt2 fun x1 x2 h' tk hx1 hx2 hz' hTO' st1 st2 hT hsz hk => ?_
    have eu : x1 = u := by
      have : its.toArray[i]? = some u := by simpa using hu
      exact Option.some.inj (hx1.symm.trans this)
    have eu2 : x2 = u2 := by
      have : its2.toArray[i]? = some u2 := by simpa using hu2
      exact Option.some.inj (hx2.symm.trans this)
    subst eu eu2
    refine ⟨_, rfl, wpAny_letOwnedTupleGo_zip (s := ⟨h', s.gens, s.drawn, tk, s.os⟩) hz' fun h'' hz'' sb => ?_⟩
    have hT2 : h''.get? s.heap.objs.size = some { cls := .type "tuple", data := .seq #[x1, x2] } := (sb.2 _ (Nat.ne_of_gt hNl)).trans hT
    have new : ObjOk X.prog X.w (upd H s.heap.objs.size (.tup [x, y])) h'' s.heap.objs.size (.tup [x, y]) :=
      ⟨by show 2 ≤ sizeLine; decide, [x1, x2], .cons ru (.cons ru2 .nil), ⟨_, hT2, rfl, _, rfl⟩⟩
    have I1 : Inv X pins σ (upd H s.heap.objs.size (.tup [x, y])) { s with heap := h'', toks := tk } :=
      I.turnedNew (ch := [N + 4, N + 2, N + 3, N, N + 1]) (fun b ob hb q => (sb.2 b (fun z => hb (by simp [z]))).trans (hk b ob (fun z => hb (by simp [z])) (fun z => hb (by simp [z])) (fun z => hb (by simp [z])) (fun z => hb (by simp [z])) q)) hf (Nat.le_refl _) new
    refine ⟨.ref s.heap.objs.size, _, I1, rfl, ⟨_, x, y, rfl, I.hok.fresh (Nat.le_refl _), rfl, fun zs hq => by rw [I.list_inj hq hqx]; exact hx, fun zs hq => by rw [I.tuple_inj hq hqy]; exact hy⟩, ⟨hz'', ?_, ⟨_, _, (sb.2 (N + 3) (add_ne (by decide))).trans hTO'⟩, st1.1.at fun o q => (sb.2 N (add_ne0 (by decide))).trans q, st2.1.at fun o q => (sb.2 (N + 1) (add_ne (by decide))).trans q⟩, fun b hb => ?_⟩
    · exact (sb.2 (N + 2) (add_ne (by decide))).trans (hk (N + 2) _ (add_ne (by decide)) (add_ne (by decide)) (add_ne1 (by decide)) (add_ne (by decide)) hTI)
    · have hb' : b < s.heap.objs.size := by
        have e' : b = N + 4 ∨ b = N + 2 ∨ b = N + 3 ∨ b = N ∨ b = N + 1 := by simpa using hb
        have hq : ∀ j : Nat, j ≤ 4 → N + j < s.heap.objs.size := fun j hj => Nat.lt_of_le_of_lt (Nat.add_le_add_left hj N) hNl
        rcases e' with z | z | z | z | z
        · rw [z]; exact hq 4 (by decide)
        · rw [z]; exact hq 2 (by decide)
        · rw [z]; exact hq 3 (by decide)
        · rw [z]; exact hq 0 (by decide)
        · rw [z]; exact hq 1 (by decide)
      rw [upd_ne (Nat.ne_of_lt hb')]
      exact (hf b hb).1
  done := by
    intro X hP hw hK hc i pins s σ H E I hf st hg
    subst hP hw hK
    obtain ⟨hz, hTI, ⟨a1, a2, hTO⟩, h1, h2⟩ := st
    obtain ⟨xs, ys, hqx, hqy, l1, l2, l3⟩ := hg
    obtain ⟨its, rv, p1, _⟩ := I.list hqx
    obtain ⟨its2, rv2, p2, _⟩ := I.tuple hqy
    have e1 : its.toArray.size = xs.length := by rw [List.size_toArray]; exact rv.length.symm
    have e2 : its2.toArray.size = ys.length := by rw [List.size_toArray]; exact rv2.length.symm
    have hh : X.A.handled = none := I.ok.hd hc
    have D1 := Draws.list (prog := X.prog) (w := X.w) (A := X.A.in1) hh N a (Nat.ne_of_lt ha) its.toArray
    have D2 := Draws.tuple (prog := X.prog) (w := X.w) (A := X.A.in1) hh (N + 1) b (Nat.ne_of_lt (Nat.lt_succ_of_lt hb)) its2.toArray
    have S := zip_sep2 (N := N) (fp1 := [a]) (fp2 := [b]) (one_lt ha) (one_lt hb)
    refine wpAny_pyNext_zipD2_end S D1 D2 hz hTI hTO ⟨h1, p1.isList⟩ ⟨h2, p2⟩ (by omega) (by omega) (by omega) fun h' tk hk => ⟨rfl, ?_⟩
    exact I.turnedL (t' := tk) (ch := [N + 4, N + 2, N + 3, N, N + 1]) (fun c o hb q => hk c o (fun z => hb (by simp [z])) (fun z => hb (by simp [z])) (fun z => hb (by simp [z])) (fun z => hb (by simp [z])) q) hf
  self := fun A i s Q E st h => wpAny_pyIter_zip st.1 h
theorem pi_zipM {X : Cx} {e e2 : Expr} {ta : TA} {p pos tpos : Pos} {elts : List Expr} {kk : Nat} (hg : Gl X "zip") (hm : X.mg "zip" = none) (ha : PA X [e, e2] ta)
    (hs : starEach [e, e2] X.env = (false, eval e X.env) :: starEach [e2] X.env := by rfl) (hpl : (backTo pos (starEach [e2] X.env)).any (·.1) = false := by rfl) :
    PI X (.Tuple elts kk tpos) (.Call (.Name "zip" p) [e, e2] [] pos) (iZipM X.K ta) := by
  refine ⟨fun pins s σ H R I h => ?_⟩
  refine Call_ (ld_blt I hg hm PyProof.Rows.boot_zip (PyProof.Rows.callWith_type1 (thn (ha.run pos pins s σ H _ I h) fun us s1 ⟨vs, H1, I1, r1, q1⟩ => ?_) hs hpl))
  obtain ⟨a, b, xs, ys, ex, hqx, hqy, q⟩ := q1
  subst ex
  cases r1 with
  | cons r rr =>
    cases rr with
    | cons r' rr =>
      cases rr
      cases r
      cases r'
      obtain ⟨its, rv, p1, _⟩ := I1.list hqx
      obtain ⟨its2, rv2, p2, _⟩ := I1.tuple hqy
      obtain ⟨o2, ho2, _⟩ := id p2
      refine zip_begins2 (begins_list a its.toArray) (begins_tuple b its2.toArray) p1.isList p2 fun h' hz hTI hTO h1 h2 hsz hk => wpAny_pyIter_zip hz ?_
      have I2 : Inv X pins σ H1 { s1 with heap := h' } := I1.kept (t' := s1.toks) hk
      refine ⟨s1.heap.objs.size + 4, [s1.heap.objs.size + 4, s1.heap.objs.size + 2, s1.heap.objs.size + 3, s1.heap.objs.size, s1.heap.objs.size + 1], _, _, H1, rfl, I2, turn_zipM p1.lt (Heap.lt_size ho2), ⟨hz, hTI, ⟨_, _, hTO⟩, ⟨_, h1, rfl, rfl⟩, ⟨_, h2, rfl, rfl⟩⟩, fun c hcm => ?_, q⟩
      have e' : c = s1.heap.objs.size + 4 ∨ c = s1.heap.objs.size + 2 ∨ c = s1.heap.objs.size + 3 ∨ c = s1.heap.objs.size ∨ c = s1.heap.objs.size + 1 := by simpa using hcm
      have hle : s1.heap.objs.size ≤ c := by
        rcases e' with z | z | z | z | z <;> rw [z] <;> first | exact Nat.le_refl _ | exact Nat.le_add_right _ _
      exact I1.fpOk hle (I1.hok.fresh hle)
theorem walk_zipM {K : PySem.W.Frag} {a b : Addr} {xs ys : List V} {n : Nat} (hn : n = min xs.length ys.length) : Walk (ItzM K a b) n (fun H => SqL K H a xs ∧ SqT K H b ys) (YPair (fun i => xs[i]?) fun i => ys[i]?) :=
  ⟨fun i _ hi q => ⟨xs, ys, xs[i]'(by omega), ys[i]'(by omega), q.1, q.2, List.getElem?_eq_getElem _, List.getElem?_eq_getElem _⟩, fun _ q => ⟨xs, ys, q.1, q.2, by omega, by omega, by omega⟩, fun i H v H' _ q y => by
    obtain ⟨T, x, z, h1, h2, h3, h4, h5⟩ := y
    exact ⟨T, x, z, h1, h2, h3, h4 xs q.1, h5 ys q.2⟩⟩
end L2
set_option Elab.async false
set_option linter.all false
set_option maxRecDepth 100000
set_option maxHeartbeats 4000000
/-! k24, part RC: have_shapes of a tuple, read_call, read_give -/
namespace R9H
open PySem PySem.Spec PyProof.Rows L2
def sp_have_shapesT (K : PySem.W.Frag) : Sp := fun vs H Q _ => ∃ (a : RA) (n : Addr) (r : RS) (l1 l2 : Addr) (xs ss : List Str), vs = [.ref a.rd, .ref l1, .ref l2] ∧ RsAt K a (some n) r H ∧ r.own = some r.fnm ∧ SqL K H l1 (xs.map V.str) ∧ SqT K H l2 (ss.map V.str) ∧
  Paired (fun x s => r.kn.lookup x = some s) xs ss ∧ ∀ H', ExtH H H' → Q (.bl true) H'
inductive CallS (r : RS) (i : Int) : Str → List Str → RS → Prop
  | call {x g ys ss s r1} : r.due.lookup g = some ss → Paired (fun x s => r.kn.lookup x = some s) ys ss → r.gives.lookup g = some (some s) → Give r x s r1 → r.callees.lookup i = none → r.callees.length < 20 → CallS r i "call" (x :: g :: ys) {r1 with callees := r1.callees ++ [(i, g)]}
  | do_ {g ys ss} : r.due.lookup g = some ss → Paired (fun x s => r.kn.lookup x = some s) ys ss → r.callees.lookup i = none → r.callees.length < 20 → CallS r i "do" (g :: ys) {r with callees := r.callees ++ [(i, g)]}
def sp_read_call (K : PySem.W.Frag) : Sp := fun vs H Q _ => ∃ (a : RA) (n : Addr) (r r' : RS) (wl : Addr) (i : Int) (kw : Str) (ws : List Str), vs = [.ref a.rd, .ref wl, .int i] ∧ H wl = some (.lst ((kw :: ws).map V.str)) ∧ RsAt K a (some n) r H ∧ r.own = some r.fnm ∧ CallS r i kw ws r' ∧ ∀ H', Kq a (some n) H H' → RsAt K a (some n) r' H' → Q (.bl true) H'
def sp_read_give (K : PySem.W.Frag) : Sp := fun vs H Q _ => ∃ (a : RA) (n : Addr) (r : RS) (wl : Addr) (x s : Str), vs = [.ref a.rd, .ref wl] ∧ H wl = some (.lst [.str "give", .str x]) ∧ RsAt K a (some n) r H ∧ r.own = some r.fnm ∧ r.gives.lookup r.fnm = some (some s) ∧ r.kn.lookup x = some s ∧ ∀ H', ExtH H H' → Q (.bl true) H'
section
variable {w : World} {K : PySem.W.Frag} {mg : Str → Option Value} {base : Heap}
namespace HT
abbrev st_have_shapes : Stmt := top 64
theorem sc_have_shapes : FnScope ["reading", "names", "shapes", "known", "name", "shape"] ["reading", "names", "shapes"] (defScope st_have_shapes) := ⟨rfl, rfl, rfl, by decide +kernel, rfl, by decide +kernel, by decide +kernel⟩
theorem ok_have_shapesT (T : T6 K mg) : Has w K mg base 1 "have_shapes" ["reading", "names", "shapes"] (sp_have_shapesT K) := by
  obtain ⟨fd, F⟩ := T.fn 42
  have gf_len := T.free "len" (by decide +kernel)
  have gf_zip := T.free "zip" (by decide +kernel)
  refine has_of (st := st_have_shapes) T F (by decide +kernel) (F.ok sc_have_shapes (fun vs H Q E h => ?_) (fun cdv A outer s H vs Q E hr h => ⟨_, PSs.nox (
    (pss_cons (ps_set (i := 3) sc_have_shapes.nd rfl (Or.inl rfl) (pe_dget hr.u1 (pe_fld (pv 0) rfl) (pe_fld (pv 0) rfl) (fun _ _ => rfl)))
    (pss_cons (ps_if (pt_cmpR op_ne (pe_callB call_len_seq rfl gf_len PySem.boot_len (pa_cons (pv 1) pa_nil)) (pe_callB call_len_seq rfl gf_len PySem.boot_len (pa_cons (pv 2) pa_nil)) (nomark _))
      (pss_one (ps_ret pe_bl))
      pss_nil)
    (pss_cons (ps_for PassesOwn.never rfl (pi_zipM (by rfl) gf_zip (pa_cons (pv 1) (pa_cons (pv 2) pa_nil))) (pg_tup rfl (pgs_cons (pg_name (i := 4) sc_have_shapes.nd rfl (Or.inl rfl)) (pgs_cons (pg_name (i := 5) sc_have_shapes.nd rfl (Or.inl rfl)) pgs_nil)))
      (pss_one (ps_if (PW.pt (pw_or (pt_cmp (pc_dnotin hr.u1 (pv 4) (pv 3))) (pw_or1 (pt_cmpR op_ne (pe_dget hr.u1 (pv 3) (pv 4) (fun _ _ => rfl)) (pv 5) (nomark _)))))
        (pss_one (ps_ret pe_bl))
        pss_nil)))
    (pss_one (ps_ret pe_bl)))))), ?_⟩)) fun _ _ _ _ _ _ us hl => match us, hl with | [_, _, _], _ => rfl
  · obtain ⟨a, n, r, l1, l2, xs, ss, rfl, _⟩ := h
    rfl
  · obtain ⟨a, n, r, l1, l2, xs, ss, rfl, ⟨d, kn, hs⟩, ho, hl1, hl2, hp, q⟩ := h
    clear F
    have hC := T.cls "Reading" (by decide +kernel)
    have hA1 := T.noat "Reading" "names" (by decide +kernel)
    have hA2 := T.noat "Reading" "owner" (by decide +kernel)
    have hlen := Paired.length hp
    refine ⟨_, rfl, _, _, _, _, _, rfl, hs.at_ 0, hC, hA1, rfl, _, rfl, _, _, _, _, _, rfl, hs.at_ 0, hC, hA2, rfl, _, _, rfl, by rw [own_main hs.rel ho, ← nm_get hs ho]; exact DGet.k (k := .inr r.fnm) (hs.at_ 9), ?_⟩
    refine ⟨_, rfl, l1, _, rfl, .inl hl1, _, rfl, l2, _, rfl, .inr hl2, rfl, _, rfl, ifF (by simp only [List.length_map, hlen, decide_true, Bool.not_true]) ?_⟩
    refine ⟨_, rfl, _, rfl, l1, l2, _, _, rfl, hl1, hl2, for_it (walk_zipM (n := xs.length) (by simp only [List.length_map, hlen, Nat.min_self])) (fun i σ G => ExtH H G ∧ ∃ v4 v5, σ = [some (.ref a.rd), some (.ref l1), some (.ref l2), some (.ref n), v4, v5]) ⟨.refl, _, _, rfl⟩ (fun i σ G _ ⟨e, _⟩ => ⟨sqL_extH e hl1, sqT_extH e hl2⟩) ?_ (fun σ G ⟨e, v4, v5, eσ⟩ => q G e)⟩
    rintro i x σ G G' hi ⟨e, v4, v5, rfl⟩ ⟨t, x, y, rfl, nt, rfl, hx, hy⟩
    obtain ⟨y0, hy0, hk⟩ := L2.paired_get hp (List.getElem?_eq_getElem hi)
    dsimp only at hx hy
    rw [List.getElem?_map, List.getElem?_eq_getElem hi] at hx
    rw [List.getElem?_map, hy0] at hy
    cases hx
    cases hy
    have e1 : ExtH H (upd G t (.tup [.str xs[i], .str y0])) := e.trans (extH_put nt)
    have hn := e1 _ _ (hs.kn.at_ n rfl).1
    obtain ⟨u, hu, ru⟩ := hs.kn.knd.get kS_inj hk
    cases ru
    refine ⟨t, _, rfl, SqT.of upd_same, rfl, _, _, rfl, _, _, rfl, rfl, ?_⟩
    refine ⟨_, rfl, _, rfl, n, _, rfl, DGet.k (k := .inr xs[i]) hn, false, by rw [show valV kn (.inr xs[i]) = _ from hu] <;> rfl, ?_⟩
    refine ⟨_, rfl, _, rfl, n, _, rfl, by rw [← show valV kn (.inr xs[i]) = _ from hu]; exact DGet.k (k := .inr xs[i]) hn, _, rfl, rfl, _, rfl, ifF (by simp) ⟨e1, _, _, rfl⟩⟩
end HT
theorem ok_have_shapesL (T : T6 K mg) : Has w K mg base 1 "have_shapes" ["reading", "names", "shapes"] (sp_have_shapes K) := ok_have_shapes T
abbrev st_read_give : Stmt := top 71
theorem sc_read_give : FnScope ["reading", "words", "shape"] ["reading", "words"] (defScope st_read_give) := ⟨rfl, rfl, rfl, by decide +kernel, rfl, by decide +kernel, by decide +kernel⟩
theorem ok_read_give (T : T6 K mg) : Has w K mg base 2 "read_give" ["reading", "words"] (sp_read_give K) := by
  obtain ⟨fd, F⟩ := T.fn 49
  have H_have_shapes := ok_have_shapes (w := w) (base := base) T
  refine has_of (st := st_read_give) T F (by decide +kernel) (F.ok sc_read_give (fun vs H Q E h => ?_) (fun cdv A outer s H vs Q E hr h => ⟨_, PSs.nox (
    (pss_cons (ps_set (i := 2) sc_read_give.nd rfl (Or.inl rfl) (pe_dget1 hr.u1 (pe_fld (pv 0) rfl) (pe_fld (pv 0) rfl) ⟨rfl, rfl, rfl, rfl⟩))
    (pss_one (ps_ret (pe_and (pe_cmpR op_notN (pv 2) pe_non rfl) (pe_one (pe_has H_have_shapes rfl (hr.mono (by decide)) rfl (pa_cons (pv 0) (pa_cons (pe_slice sl_list (pv 1) (po_some pe_int) po_none) (pa_cons (pe_lst (pa_cons (pv 2) pa_nil)) pa_nil)))))))))), ?_⟩)) fun _ _ _ _ _ _ us hl => match us, hl with | [_, _], _ => rfl
  · obtain ⟨a, n, r, wl, x, sp, rfl, _⟩ := h
    rfl
  · obtain ⟨a, n, r, wl, x, sp, rfl, hw, ⟨d, kn, hs⟩, ho, hg, hk, q⟩ := h
    clear F
    have hC := T.cls "Reading" (by decide +kernel)
    have hA1 := T.noat "Reading" "gives" (by decide +kernel)
    have hA2 := T.noat "Reading" "owner" (by decide +kernel)
    obtain ⟨u, hu, ru⟩ := hs.rel.gives.get kS_inj hg
    have ru : u = .str sp := ru
    subst ru
    refine ⟨_, rfl, _, _, _, _, _, rfl, hs.at_ 0, hC, hA1, rfl, ?_⟩
    refine ⟨a.gives, rfl, .inl ⟨_, .inl (hs.at_ 6)⟩, _, rfl, _, _, _, _, _, rfl, hs.at_ 0, hC, hA2, rfl, some (.str sp), by rw [own_main hs.rel ho, ← show valV d.gives (.inr r.fnm) = _ from hu]; exact DGet.k (k := .inr r.fnm) (hs.at_ 6), ?_⟩
    refine ⟨_, rfl, rfl, _, rfl, ?_⟩
    refine iteT ⟨_, rfl, _, rfl, 1, rfl, wl, _, rfl, SqL.of hw, fun p np => ?_⟩
    have ec : cutV [V.str "give", V.str x] (some 1) none = [.str x] := rfl
    rw [ec]
    have e1 : ExtH H (upd H p (.lst [.str x])) := extH_put np
    have p1 : upd H p (.lst [.str x]) p = some (.lst [.str x]) := upd_same
    generalize upd H p (.lst [.str x]) = G1 at e1 p1 ⊢
    refine ⟨_, rfl, by rw [sizeLine_eq]; show 1 ≤ 16777216; decide, fun l nl => ?_⟩
    rw [show (some (V.str sp)).getD V.non = V.str sp from rfl]
    have e2 : ExtH G1 (upd G1 l (.lst [.str sp])) := extH_put nl
    have l2 : upd G1 l (.lst [.str sp]) l = some (.lst [.str sp]) := upd_same
    generalize upd G1 l (.lst [.str sp]) = G2 at e2 l2 ⊢
    exact ⟨a, n, r, p, l, [x], [sp], rfl, ⟨d, kn, (hs.ext e1).ext e2⟩, ho, SqL.of (e2 _ _ p1), SqL.of l2, .cons hk .nil, fun G3 e3 => q G3 ((e1.trans e2).trans e3)⟩
end
end R9H
set_option Elab.async false
set_option linter.all false
set_option maxRecDepth 100000
set_option maxHeartbeats 4000000
/-! k24, part RD: read_call -/
namespace R9H
open PySem PySem.Spec PyProof.Rows L2
theorem cut_from (xs : List V) (k : Nat) (h : k ≤ xs.length) : cutV xs (some (k : Int)) none = xs.drop k := by
  unfold cutV
  rw [HT.sIx_none, HT.sIx_nat, Nat.min_eq_left h]
  exact List.take_of_length_le (by rw [List.length_drop]; exact Nat.le_refl _)
theorem Give.callees {r r' : RS} {x s : Str} (h : Give r x s r') : r'.callees = r.callees := by
  rcases h.2 with ⟨_, rfl⟩ | ⟨_, _, rfl⟩ <;> rfl
section
variable {w : World} {K : PySem.W.Frag} {mg : Str → Option Value} {base : Heap}
abbrev st_read_call : Stmt := top 70
theorem sc_read_call : FnScope ["reading", "words", "line", "at", "name"] ["reading", "words", "line"] (defScope st_read_call) := ⟨rfl, rfl, rfl, by decide +kernel, rfl, by decide +kernel, by decide +kernel⟩
theorem ok_read_call (T : T6 K mg) : Has w K mg base 3 "read_call" ["reading", "words", "line"] (sp_read_call K) := by
  obtain ⟨fd, F⟩ := T.fn 48
  have H_have_shapes := HT.ok_have_shapesT (w := w) (base := base) T
  have H_give_shape := ok_give_shape (w := w) (base := base) T
  have gf_len := T.free "len" (by decide +kernel)
  obtain ⟨t_MOST_CALLS, g_MOST_CALLS⟩ := T.int "MOST_CALLS" (20) (by decide +kernel)
  refine has_of (st := st_read_call) T F (by decide +kernel) (F.ok sc_read_call (fun vs H Q E h => ?_) (fun cdv A outer s H vs Q E hr h => ⟨_, PSs.nox (
    (pss_cons (ps_set (i := 3) sc_read_call.nd rfl (Or.inl rfl) (pe_ifExp (pt_cmpR op_eq (pe_ix ix_list (pv 1) pe_int (fun _ _ => rfl)) pe_str (nomark _)) pe_int pe_int))
    (pss_cons (ps_if (PW.pt (pw_or (pt_cmpR op_le (pe_callB call_len_seq rfl gf_len PySem.boot_len (pa_cons (pv 1) pa_nil)) (pv 3) (nomark _)) (pw_or1 (pt_cmp (pc_dnotin hr.u1 (pe_ix ix_list (pv 1) (pv 3) (fun _ _ => rfl)) (pe_fld (pv 0) rfl))))))
      (pss_one (ps_ret pe_bl))
      pss_nil)
    (pss_cons (ps_set (i := 4) sc_read_call.nd rfl (Or.inl rfl) (pe_ix ix_list (pv 1) (pv 3) (fun _ _ => rfl)))
    (pss_cons (ps_if (pt_not (pt_val (pe_has H_have_shapes rfl (hr.mono (by decide)) rfl (pa_cons (pv 0) (pa_cons (pe_slice sl_list (pv 1) (po_some (pe_op op_add (pv 3) pe_int)) po_none) (pa_cons (pe_dget hr.u1 (pe_fld (pv 0) rfl) (pv 4) (fun _ _ => rfl)) pa_nil))))))
      (pss_one (ps_ret pe_bl))
      pss_nil)
    (pss_cons (ps_if (PW.pt (pw_and (pt_cmpR op_eq (pv 3) pe_int (nomark _)) (pw_and1 (pt_not (pt_val (pe_has H_give_shape rfl (hr.mono (by decide)) rfl (pa_cons (pv 0) (pa_cons (pe_ix ix_list (pv 1) pe_int (fun _ _ => rfl)) (pa_cons (pe_dget hr.u1 (pe_fld (pv 0) rfl) (pv 4) (fun _ _ => rfl)) pa_nil)))))))))
      (pss_one (ps_ret pe_bl))
      pss_nil)
    (pss_cons (ps_dput hr.u1 (pe_fld (pv 0) rfl) (pv 2) (pv 4) rfl)
    (pss_one (ps_ret (pe_cmpR op_le (pe_callB call_lenD rfl gf_len PySem.boot_len (pa_cons (pe_fld (pv 0) rfl) pa_nil)) (pe_gi rfl g_MOST_CALLS) (nomark _))))))))))), ?_⟩)) fun _ _ _ _ _ _ us hl => match us, hl with | [_, _, _], _ => rfl
  · obtain ⟨a, n, r, r', wl, i, kw, ws, rfl, _⟩ := h
    rfl
  · obtain ⟨a, n, r, r', wl, i, kw, ws, rfl, hw, ⟨d, kn, hs⟩, ho, he, q⟩ := h
    clear F
    have hC := T.cls "Reading" (by decide +kernel)
    have hA1 := T.noat "Reading" "due" (by decide +kernel)
    have hA2 := T.noat "Reading" "gives" (by decide +kernel)
    have hA3 := T.noat "Reading" "callees" (by decide +kernel)
    cases he with
    | @call x g ys ss sp r1 e1 e2 e3 e4 e5 e6 =>
      have i0 : atI ((("call" : Str) :: x :: g :: ys).map V.str) 0 = some (V.str "call") := atI_nat (j := 0) rfl
      have i1 : atI ((("call" : Str) :: x :: g :: ys).map V.str) 1 = some (V.str x) := atI_nat (j := 1) rfl
      have i2 : atI ((("call" : Str) :: x :: g :: ys).map V.str) 2 = some (V.str g) := atI_nat (j := 2) rfl
      obtain ⟨u, hu, td, rfl, htd⟩ := hs.rel.due.get kS_inj e1
      obtain ⟨v, hv, rv⟩ := hs.rel.gives.get kS_inj e3
      have rv : v = .str sp := rv
      subst rv
      refine ⟨_, rfl, wl, _, 0, _, rfl, rfl, SqL.of hw, i0, rfl, _, rfl, ifT rfl ?_⟩
      refine ⟨_, rfl, wl, _, rfl, .inl (SqL.of hw), _, rfl, _, _, rfl, rfl, _, rfl, ?_⟩
      refine ifF (decide_eq_false (by rw [List.length_map]; show ¬ (((ys.length + 3 : Nat) : Int) ≤ 2); omega)) ?_
      refine ⟨_, rfl, _, rfl, wl, _, 2, _, rfl, rfl, SqL.of hw, i2, _, rfl, _, _, _, _, _, rfl, hs.at_ 0, hC, hA1, rfl, a.due, _, rfl, DGet.k (k := .inr g) (hs.at_ 5), false, by rw [show valV d.due (.inr g) = _ from hu] <;> rfl, ifF rfl ?_⟩
      refine ⟨_, rfl, _, rfl, wl, _, 2, _, rfl, rfl, SqL.of hw, i2, ?_⟩
      refine ⟨_, rfl, _, rfl, _, rfl, _, _, rfl, rfl, 2 + 1, rfl, wl, _, rfl, SqL.of hw, fun p np => ?_⟩
      have ec : cutV ((("call" : Str) :: x :: g :: ys).map V.str) (some (2 + 1)) none = ys.map V.str := cut_from _ 3 (by simp)
      rw [ec]
      have x1 : ExtH H (upd H p (.lst (ys.map V.str))) := extH_put np
      have p1 : upd H p (.lst (ys.map V.str)) p = some (.lst (ys.map V.str)) := upd_same
      generalize upd H p (.lst (ys.map V.str)) = G1 at x1 p1 ⊢
      have s1 := hs.ext x1
      refine ⟨_, rfl, _, _, _, _, _, rfl, s1.at_ 0, hC, hA1, rfl, _, rfl, _, _, rfl, by rw [← show valV d.due (.inr g) = _ from hu]; exact DGet.k (k := .inr g) (s1.at_ 5), ?_⟩
      refine ⟨a, n, r, p, td, ys, ss, rfl, ⟨d, kn, s1⟩, ho, SqL.of p1, sqT_extH x1 htd, e2, fun G2 x2 => ⟨true, rfl, ifF rfl ?_⟩⟩
      have x12 := x1.trans x2
      have s2 := hs.ext x12
      refine ⟨_, rfl, rfl, _, rfl, ifT rfl ?_⟩
      refine ⟨_, rfl, _, rfl, wl, _, 1, _, rfl, rfl, SqL.of (x12 _ _ hw), i1, _, rfl, _, _, _, _, _, rfl, s2.at_ 0, hC, hA2, rfl, _, rfl, _, _, rfl, by rw [← show valV d.gives (.inr g) = _ from hv]; exact DGet.k (k := .inr g) (s2.at_ 6), ?_⟩
      refine ⟨a, n, r, r1, x, sp, rfl, ⟨d, kn, s2⟩, ho, e4, fun G4 k4 ⟨d4, kn4, s4⟩ => ⟨true, rfl, ifF rfl ?_⟩⟩
      have ecl := e4.callees
      have lc := s4.rel.callees.len
      rw [ecl] at lc
      refine ⟨_, rfl, _, rfl, _, _, _, _, _, rfl, s4.at_ 0, hC, hA3, rfl, _, rfl, _, _, rfl, DPut.k (k := .inl i) (s4.at_ 17) (by rw [sizeLine_eq]; omega), ?_⟩
      obtain ⟨h5, k5, _⟩ := s4.up 17 (.dK (putK d4.callees (.inl i) (.str g))) {d4 with callees := putK d4.callees (.inl i) (.str g)} {r1 with callees := r1.callees ++ [(i, g)]} (fun G _ h => { h with callees := h.callees.put kI_inj (k := i) (u := .str g) (v := g) (by rw [ecl]; exact e5) rfl }) rfl
      have lc5 := h5.rel.callees.len
      refine ⟨_, rfl, _, _, _, _, .ref a.callees, rfl, h5.at_ 0, hC, hA3, rfl, a.callees, _, rfl, h5.at_ 17, _, _, rfl, rfl, ?_⟩
      refine qT (decide_eq_true ?_) (q _ ((ext_kq x12).trans (k4.trans k5)) ⟨_, _, h5⟩)
      dsimp only at lc5
      rw [List.length_append, ecl] at lc5
      have h1 : ([(i, g)] : List (Int × Str)).length = 1 := rfl
      rw [h1] at lc5
      rw [lc5]
      omega
    | @do_ g ys ss e1 e2 e5 e6 =>
      have i0 : atI ((("do" : Str) :: g :: ys).map V.str) 0 = some (V.str "do") := atI_nat (j := 0) rfl
      have i1 : atI ((("do" : Str) :: g :: ys).map V.str) 1 = some (V.str g) := atI_nat (j := 1) rfl
      obtain ⟨u, hu, td, rfl, htd⟩ := hs.rel.due.get kS_inj e1
      refine ⟨_, rfl, wl, _, 0, _, rfl, rfl, SqL.of hw, i0, rfl, _, rfl, ifF rfl ?_⟩
      refine ⟨_, rfl, wl, _, rfl, .inl (SqL.of hw), _, rfl, _, _, rfl, rfl, _, rfl, ?_⟩
      refine ifF (decide_eq_false (by rw [List.length_map]; show ¬ (((ys.length + 2 : Nat) : Int) ≤ 1); omega)) ?_
      refine ⟨_, rfl, _, rfl, wl, _, 1, _, rfl, rfl, SqL.of hw, i1, _, rfl, _, _, _, _, _, rfl, hs.at_ 0, hC, hA1, rfl, a.due, _, rfl, DGet.k (k := .inr g) (hs.at_ 5), false, by rw [show valV d.due (.inr g) = _ from hu] <;> rfl, ifF rfl ?_⟩
      refine ⟨_, rfl, _, rfl, wl, _, 1, _, rfl, rfl, SqL.of hw, i1, ?_⟩
      refine ⟨_, rfl, _, rfl, _, rfl, _, _, rfl, rfl, 1 + 1, rfl, wl, _, rfl, SqL.of hw, fun p np => ?_⟩
      have ec : cutV ((("do" : Str) :: g :: ys).map V.str) (some (1 + 1)) none = ys.map V.str := cut_from _ 2 (by simp)
      rw [ec]
      have x1 : ExtH H (upd H p (.lst (ys.map V.str))) := extH_put np
      have p1 : upd H p (.lst (ys.map V.str)) p = some (.lst (ys.map V.str)) := upd_same
      generalize upd H p (.lst (ys.map V.str)) = G1 at x1 p1 ⊢
      have s1 := hs.ext x1
      refine ⟨_, rfl, _, _, _, _, _, rfl, s1.at_ 0, hC, hA1, rfl, _, rfl, _, _, rfl, by rw [← show valV d.due (.inr g) = _ from hu]; exact DGet.k (k := .inr g) (s1.at_ 5), ?_⟩
      refine ⟨a, n, r, p, td, ys, ss, rfl, ⟨d, kn, s1⟩, ho, SqL.of p1, sqT_extH x1 htd, e2, fun G2 x2 => ⟨true, rfl, ifF rfl ?_⟩⟩
      have x12 := x1.trans x2
      have s2 := hs.ext x12
      refine ⟨_, rfl, rfl, _, rfl, ifF rfl ?_⟩
      have lc := s2.rel.callees.len
      refine ⟨_, rfl, _, rfl, _, _, _, _, _, rfl, s2.at_ 0, hC, hA3, rfl, _, rfl, _, _, rfl, DPut.k (k := .inl i) (s2.at_ 17) (by rw [sizeLine_eq]; omega), ?_⟩
      obtain ⟨h5, k5, _⟩ := s2.up 17 (.dK (putK d.callees (.inl i) (.str g))) {d with callees := putK d.callees (.inl i) (.str g)} {r with callees := r.callees ++ [(i, g)]} (fun G _ h => { h with callees := h.callees.put kI_inj (k := i) (u := .str g) (v := g) e5 rfl }) rfl
      have lc5 := h5.rel.callees.len
      refine ⟨_, rfl, _, _, _, _, .ref a.callees, rfl, h5.at_ 0, hC, hA3, rfl, a.callees, _, rfl, h5.at_ 17, _, _, rfl, rfl, ?_⟩
      refine qT (decide_eq_true ?_) (q _ ((ext_kq x12).trans k5) ⟨_, _, h5⟩)
      dsimp only at lc5
      rw [List.length_append] at lc5
      have h1 : ([(i, g)] : List (Int × Str)).length = 1 := rfl
      rw [h1] at lc5
      rw [lc5]
      omega
end
end R9H
set_option Elab.async false
set_option linter.all false
set_option maxRecDepth 100000
set_option maxHeartbeats 4000000
/-! k24, part TB: parts_shapes of any shape -/
namespace R9H
open PySem PySem.Spec PyProof.Rows L2
def sp_parts_shapesF (K : PySem.W.Frag) : Sp := fun vs H Q _ => ∃ (a : RA) (nm : Option Addr) (r : RS) (s : Str) (ps : List (Str × Str)), vs = [.ref a.sh, .str s] ∧ RsAt K a nm r H ∧ (r.f.lookup s).getD [] = ps ∧ ps.length ≤ 1000 ∧ ∀ H' l, ExtH H H' → H' l = some (.lst ((ps.map (·.2)).map V.str)) → Q (.ref l) H'
section
variable {w : World} {K : PySem.W.Frag} {mg : Str → Option Value} {base : Heap}
namespace HF
abbrev st_parts_shapes : Stmt := top 50
theorem sc_parts_shapes : FnScope ["shapes", "shape", "field", "kind"] ["shapes", "shape"] (defScope st_parts_shapes) := ⟨rfl, rfl, rfl, by decide +kernel, rfl, by decide +kernel, by decide +kernel⟩
theorem ok_parts_shapesF (T : T6 K mg) : Has w K mg base 1 "parts_shapes" ["shapes", "shape"] (sp_parts_shapesF K) := by
  obtain ⟨fd, F⟩ := T.fn 38
  refine has_of (st := st_parts_shapes) T F (by decide +kernel) (F.ok sc_parts_shapes (fun vs H Q E h => ?_) (fun cdv A outer s H vs Q E hr h => ⟨_, PSs.nox (
    (pss_one (ps_ret (pe_lc (own := [("field", 2), ("kind", 3)]) (g := gTup K 2 (gCons (gName 2) (gCons (gName 3) gNil))) (by rfl) sc_parts_shapes.nd (pi_tup (pe_dget2 hr.u1 (pe_fld (pv 0) rfl) (pv 1) (pe_tup pa_nil) ⟨rfl, rfl, rfl, rfl⟩)) (blkOk_by (own := [("field", 2), ("kind", 3)]) (N := ["shapes", "shape", "field", "kind"]) (sc := defScope st_parts_shapes) (by decide +kernel))
        (fun _ _ _ _ _ => (pg_tup rfl (pgs_cons (pg_name (i := 2) sc_parts_shapes.nd rfl (Or.inl rfl)) (pgs_cons (pg_name (i := 3) sc_parts_shapes.nd rfl (Or.inl rfl)) pgs_nil)))) (fun _ _ _ _ _ => pts_nil) (fun _ _ _ _ _ => (pv 3)))))), ?_⟩)) fun _ _ _ _ _ _ us hl => match us, hl with | [_, _], _ => rfl
  · obtain ⟨a, nm, r, s, ps, rfl, _⟩ := h
    rfl
  · obtain ⟨a, nm, r, sp, ps, rfl, ⟨d, kn, hs⟩, hf, hpl, q⟩ := h
    clear F
    have hC := T.cls "Shapes" (by decide +kernel)
    have hA1 := T.noat "Shapes" "fields" (by decide +kernel)
    refine ⟨_, rfl, _, _, _, _, _, rfl, hs.at_ 1, hC, hA1, lookF, a.f, rfl, .inl ⟨_, .inl (hs.at_ 2)⟩, _, rfl, Nat.zero_le _, fun pt npt => ?_⟩
    have e1 : ExtH H (upd H pt (.tup [])) := extH_put npt
    obtain ⟨o, t, ts, ho, ht, hq, hp⟩ : ∃ o t, ∃ ts : List Addr, valV d.f (.inr sp) = o ∧ SqT K (upd H pt (.tup [])) t (ts.map V.ref) ∧ o.getD (.ref pt) = V.ref t ∧ Paired (fun t (p : Str × Str) => SqT K (upd H pt (.tup [])) t [.str p.1, .str p.2]) ts ps := by
      cases hl : r.f.lookup sp with
      | none =>
        rw [hl] at hf
        cases hf
        exact ⟨_, pt, [], hs.rel.f.non kS_inj hl, SqT.of upd_same, rfl, .nil⟩
      | some ps' =>
        rw [hl] at hf
        cases hf
        obtain ⟨u, hu, t, ts, rfl, h1, h2⟩ := hs.rel.f.get kS_inj hl
        exact ⟨_, t, ts, hu, (ext_tx e1).sqT h1, rfl, Paired.mapP h2 fun _ _ h => (ext_tx e1).sqT h⟩
    refine ⟨o, by rw [← ho]; exact DGet.k (k := .inr sp) (e1 _ _ (hs.at_ 2)), ?_⟩
    rw [hq]
    have dd := e1 _ _ (hs.at_ 2)
    generalize upd H pt (.tup []) = H2 at e1 ht hp dd ⊢
    refine ⟨t, rfl, ⟨_, ht⟩, fun D hD => ?_⟩
    have lts := Paired.length hp
    refine lc_it (walk_tup (xs := ts.map V.ref)) (fun i G => ExtH H2 G ∧ G D = some (.lst (((ps.take i).map (·.2)).map V.str))) ⟨extH_put hD, by rw [List.take_zero]; exact upd_same⟩ (fun i G _ h => sqT_extH h.1 ht) ?_ ?_
    · rintro i x G G' hi ⟨e, hd⟩ ⟨rfl, hx⟩
      rw [List.getElem?_map] at hx
      obtain ⟨ta, hta, rfl⟩ := Option.map_eq_some_iff.mp hx
      obtain ⟨pr, hpr, htp⟩ := L2.paired_get hp hta
      refine ⟨ta, _, rfl, sqT_extH e htp, rfl, _, _, rfl, _, _, rfl, rfl, ?_⟩
      refine ⟨rfl, tyes (ifT rfl ⟨_, rfl, _, hd, by rw [sizeLine_eq, List.length_map, List.length_map, List.length_take]; omega, extH_upd e hD, ?_⟩)⟩
      rw [upd_same, List.take_add_one, hpr, List.map_append, List.map_append]
      rfl
    · rintro G ⟨e, hd⟩
      rw [List.length_map, lts, List.take_of_length_le (Nat.le_refl _)] at hd
      exact q _ D (e1.trans e) hd
end HF
end
end R9H
set_option Elab.async false
set_option linter.all false
set_option maxRecDepth 100000
set_option maxHeartbeats 4000000
/-! k24, part TC: read_new of any shape -/
namespace R9H
open PySem PySem.Spec PyProof.Rows L2
def sp_read_newF (K : PySem.W.Frag) : Sp := fun vs H Q _ => ∃ (a : RA) (n : Addr) (r r1 : RS) (wl : Addr) (i : Int) (x s : Str) (wy : List (List Str)) (ys : List Str) (ps : List (Str × Str)), vs = [.ref a.rd, .ref wl, .int i] ∧ H wl = some (.lst ((("new" : Str) :: x :: s :: ys).map V.str)) ∧ RsAt K a (some n) r H ∧ r.own = some r.fnm ∧
  r.tab.lookup s = some wy ∧ (r.f.lookup s).getD [] = ps ∧ ps.length ≤ 1000 ∧ Paired (fun x s => r.kn.lookup x = some s) ys (ps.map (·.2)) ∧ Give r x s r1 ∧ r1.makings.length < 12 ∧ ∀ H', Kq a (some n) H H' → RsAt K a (some n) (mk1 r1 i) H' → Q (.bl true) H'
section
variable {w : World} {K : PySem.W.Frag} {mg : Str → Option Value} {base : Heap}
namespace HF
abbrev st_read_new : Stmt := top 67
theorem sc_read_new : FnScope ["reading", "words", "line"] ["reading", "words", "line"] (defScope st_read_new) := ⟨rfl, rfl, rfl, by decide +kernel, rfl, by decide +kernel, by decide +kernel⟩
theorem ok_read_newF (T : T6 K mg) : Has w K mg base 3 "read_new" ["reading", "words", "line"] (sp_read_newF K) := by
  obtain ⟨fd, F⟩ := T.fn 45
  have H_have_shapes := ok_have_shapes (w := w) (base := base) T
  have H_parts_shapes := HF.ok_parts_shapesF (w := w) (base := base) T
  have H_note_making := ok_note_making (w := w) (base := base) T
  have H_give_shape := ok_give_shape (w := w) (base := base) T
  have gf_len := T.free "len" (by decide +kernel)
  refine has_of (st := st_read_new) T F (by decide +kernel) (F.ok sc_read_new (fun vs H Q E h => ?_) (fun cdv A outer s H vs Q E hr h => ⟨_, PSs.nox (
    (pss_cons (ps_if (PW.pt (pw_or (pt_cmpR op_lt (pe_callB call_len_seq rfl gf_len PySem.boot_len (pa_cons (pv 1) pa_nil)) pe_int (nomark _)) (pw_or1 (pt_cmp (pc_dnotin hr.u1 (pe_ix ix_list (pv 1) pe_int (fun _ _ => rfl)) (pe_fld (pe_fld (pv 0) rfl) rfl))))))
      (pss_one (ps_ret pe_bl))
      pss_nil)
    (pss_cons (ps_if (pt_not (pt_val (pe_has H_have_shapes rfl (hr.mono (by decide)) rfl (pa_cons (pv 0) (pa_cons (pe_slice sl_list (pv 1) (po_some pe_int) po_none) (pa_cons (pe_has H_parts_shapes rfl (hr.mono (by decide)) rfl (pa_cons (pe_fld (pv 0) rfl) (pa_cons (pe_ix ix_list (pv 1) pe_int (fun _ _ => rfl)) pa_nil))) pa_nil))))))
      (pss_one (ps_ret pe_bl))
      pss_nil)
    (pss_one (ps_ret (pe_and (pe_has H_give_shape rfl (hr.mono (by decide)) rfl (pa_cons (pv 0) (pa_cons (pe_ix ix_list (pv 1) pe_int (fun _ _ => rfl)) (pa_cons (pe_ix ix_list (pv 1) pe_int (fun _ _ => rfl)) pa_nil)))) (pe_one (pe_has H_note_making rfl (hr.mono (by decide)) rfl (pa_cons (pv 0) (pa_cons (pv 2) pa_nil)))))))))), ?_⟩)) fun _ _ _ _ _ _ us hl => match us, hl with | [_, _, _], _ => rfl
  · obtain ⟨a, n, r, r1, wl, i, x, s, wy, ys, ps, rfl, _⟩ := h
    rfl
  · obtain ⟨a, n, r, r1, wl, i, x, sp, wy, ys, ps, rfl, hw, ⟨d, kn, hs⟩, ho, ht, hf, hpl, hpy, hg, hm, q⟩ := h
    clear F
    have hC := T.cls "Reading" (by decide +kernel)
    have hS := T.cls "Shapes" (by decide +kernel)
    have hA1 := T.noat "Reading" "shapes" (by decide +kernel)
    have hA2 := T.noat "Shapes" "routes" (by decide +kernel)
    have i1 : atI ((("new" : Str) :: x :: sp :: ys).map V.str) 1 = some (V.str x) := atI_nat (j := 1) rfl
    have i2 : atI ((("new" : Str) :: x :: sp :: ys).map V.str) 2 = some (V.str sp) := atI_nat (j := 2) rfl
    obtain ⟨u, hu, _⟩ := hs.rel.tab.get kS_inj ht
    refine ⟨_, rfl, wl, _, rfl, .inl (SqL.of hw), _, _, rfl, rfl, _, rfl, ifF (decide_eq_false (by rw [List.length_map]; show ¬ (((ys.length + 3 : Nat) : Int) < 3); omega)) ?_⟩
    refine ⟨_, rfl, wl, _, 2, _, rfl, rfl, SqL.of hw, i2, _, rfl, _, _, _, _, _, rfl, hs.at_ 0, hC, hA1, rfl, _, _, _, _, _, rfl, hs.at_ 1, hS, hA2, lookR, a.r, _, rfl, DGet.k (k := .inr sp) (hs.at_ 4), false, by rw [show valV d.r (.inr sp) = _ from hu] <;> rfl, ifF rfl ?_⟩
    refine ⟨_, rfl, _, rfl, 3, rfl, wl, _, rfl, SqL.of hw, fun p np => ?_⟩
    have ec : cutV ((("new" : Str) :: x :: sp :: ys).map V.str) (some 3) none = ys.map V.str := cut_from _ 3 (by simp)
    rw [ec]
    have e1 : ExtH H (upd H p (.lst (ys.map V.str))) := extH_put np
    have p1 : upd H p (.lst (ys.map V.str)) p = some (.lst (ys.map V.str)) := upd_same
    generalize upd H p (.lst (ys.map V.str)) = G1 at e1 p1 ⊢
    have s1 := hs.ext e1
    refine ⟨_, rfl, _, _, _, _, _, rfl, s1.at_ 0, hC, hA1, rfl, _, rfl, wl, _, 2, _, rfl, rfl, SqL.of (e1 _ _ hw), i2, a, some n, r, sp, ps, rfl, ⟨d, kn, s1⟩, hf, hpl, fun G2 l e2 hl => ?_⟩
    have s2 := s1.ext e2
    refine ⟨a, n, r, p, l, ys, ps.map (·.2), rfl, ⟨d, kn, s2⟩, ho, SqL.of (e2 _ _ p1), SqL.of hl, hpy, fun G3 e3 => ⟨true, rfl, ifF rfl ?_⟩⟩
    have e13 := e1.trans (e2.trans e3)
    refine ⟨_, rfl, _, rfl, wl, _, 1, _, rfl, rfl, SqL.of (e13 _ _ hw), i1, _, rfl, wl, _, 2, _, rfl, rfl, SqL.of (e13 _ _ hw), i2, a, n, r, r1, x, sp, rfl, ⟨d, kn, hs.ext e13⟩, ho, hg, fun G4 k4 h4 => ⟨true, rfl, ?_⟩⟩
    exact iteT ⟨_, rfl, _, rfl, a, n, r1, i, rfl, h4, hm, fun G5 k5 h5 => q G5 ((ext_kq e13).trans (k4.trans k5)) h5⟩
end HF
end
end R9H
set_option Elab.async false
set_option linter.all false
set_option maxRecDepth 100000
set_option maxHeartbeats 4000000
/-! k24, part T: read_bare, read_inside, rooms_around -/
namespace R9H
open PySem PySem.Spec PyProof.Rows L2
inductive BareS (r : RS) (i : Int) : Str → RS → Prop
  | end_ {r'} : EndS r i r' → BareS r i "end" r'
  | block {kw r'} : r.blocks.length < 8 → BlockS r i kw r' → BareS r i kw r'
  | or_ {bs b l} : r.blocks = bs ++ [b] → r.kinds.lookup b = some ("either" : Str) → r.ors.lookup b = some l → l.length ≤ 1000 → r.eithers.lookup i = none → BareS r i "or" {r with eithers := r.eithers ++ [(i, b)], ors := setA r.ors b (l ++ [i])}
  | back : BareS r i "back" r
  | stop : BareS r i "stop" r
def sp_read_bare (K : PySem.W.Frag) : Sp := fun vs H Q _ => ∃ (a : RA) (n : Addr) (r r' : RS) (wl : Addr) (i : Int) (kw : Str), vs = [.ref a.rd, .ref wl, .int i] ∧ H wl = some (.lst [.str kw]) ∧ RsAt K a (some n) r H ∧ r.sz ≤ 1000 ∧ BareS r i kw r' ∧ ∀ H', Kq a (some n) H H' → RsAt K a (some n) r' H' → Q (.bl true) H'
inductive InsS (r : RS) (i : Int) : Str → List Str → RS → Prop
  | new {x s wy ys ps r1} : r.tab.lookup s = some wy → (r.f.lookup s).getD [] = ps → ps.length ≤ 1000 → Paired (fun x s => r.kn.lookup x = some s) ys (ps.map (·.2)) → Give r x s r1 → r1.makings.length < 12 → InsS r i "new" (x :: s :: ys) (mk1 r1 i)
  | with_ {x b y bs cs r1} : r.kn.lookup b = some bs → r.c.lookup bs = some cs → r.kn.lookup y = some cs → Give r x bs r1 → r1.makings.length < 12 → InsS r i "with" [x, b, y] (mk1 r1 i)
  | val {kw ws r'} : Val r kw ws r' → InsS r i kw ws r'
  | bare {kw r'} : BareS r i kw r' → InsS r i kw [] r'
  | call {kw ws r'} : CallS r i kw ws r' → InsS r i kw ws r'
  | give {x s} : r.gives.lookup r.fnm = some (some s) → r.kn.lookup x = some s → InsS r i "give" [x] r
def sp_read_inside (K : PySem.W.Frag) : Sp := fun vs H Q _ => ∃ (a : RA) (n : Addr) (r r' : RS) (wl : Addr) (i : Int) (kw : Str) (ws : List Str), vs = [.ref a.rd, .ref wl, .int i] ∧ H wl = some (.lst ((kw :: ws).map V.str)) ∧ RsAt K a (some n) r H ∧ r.own = some r.fnm ∧ r.sz ≤ 1000 ∧ InsS r i kw ws r' ∧
  ∀ H', Kq a (some n) H H' → RsAt K a (some n) r' H' → Q (.bl true) H'
def isRoom (r : RS) (b : Int) : Bool := r.kinds.lookup b == some ("room" : Str)
def aroundS (r : RS) (f : Int) : List Int := (r.blocks.filter (isRoom r)).reverse ++ [f]
def sp_rooms_around (K : PySem.W.Frag) : Sp := fun vs H Q _ => ∃ (a : RA) (nm : Option Addr) (r : RS) (f : Int), vs = [.ref a.rd] ∧ RsAt K a nm r H ∧ r.own = some r.fnm ∧ r.hd.lookup r.fnm = some f ∧ r.blocks.length ≤ 1000 ∧ (∀ b ∈ r.blocks, ∃ k, r.kinds.lookup b = some k) ∧
  ∀ H' p, ExtH H H' → SqT K H' p ((aroundS r f).map V.int) → Q (.ref p) H'
section
variable {w : World} {K : PySem.W.Frag} {mg : Str → Option Value} {base : Heap}
abbrev st_read_bare : Stmt := top 76
theorem sc_read_bare : FnScope ["reading", "words", "line"] ["reading", "words", "line"] (defScope st_read_bare) := ⟨rfl, rfl, rfl, by decide +kernel, rfl, by decide +kernel, by decide +kernel⟩
theorem ok_read_bare (T : T6 K mg) : Has w K mg base 2 "read_bare" ["reading", "words", "line"] (sp_read_bare K) := by
  obtain ⟨fd, F⟩ := T.fn 54
  have H_read_end := ok_read_end (w := w) (base := base) T
  have H_read_or := ok_read_or (w := w) (base := base) T
  have H_read_block := ok_read_block (w := w) (base := base) T
  have gf_len := T.free "len" (by decide +kernel)
  have g_BLOCKS := T.glo "BLOCKS" (by decide +kernel)
  refine has_of (st := st_read_bare) T F (by decide +kernel) (F.ok sc_read_bare (fun vs H Q E h => ?_) (fun cdv A outer s H vs Q E hr h => ⟨_, PSs.nox (
    (pss_cons (ps_if (pt_cmpR op_ne (pe_callB call_len_seq rfl gf_len PySem.boot_len (pa_cons (pv 1) pa_nil)) pe_int (nomark _))
      (pss_one (ps_ret pe_bl))
      pss_nil)
    (pss_cons (ps_if (pt_cmpR op_eq (pe_ix ix_list (pv 1) pe_int (fun _ _ => rfl)) pe_str (nomark _))
      (pss_cons (ps_expr (pe_has H_read_end rfl (hr.mono (by decide)) rfl (pa_cons (pv 0) (pa_cons (pv 2) pa_nil))))
      (pss_one (ps_ret pe_bl)))
      pss_nil)
    (pss_cons (ps_if (pt_cmpR op_eq (pe_ix ix_list (pv 1) pe_int (fun _ _ => rfl)) pe_str (nomark _))
      (pss_one (ps_ret (pe_has H_read_or rfl (hr.mono (by decide)) rfl (pa_cons (pv 0) (pa_cons (pv 2) pa_nil)))))
      pss_nil)
    (pss_cons (ps_if (pt_cmpR op_eq (pe_ix ix_list (pv 1) pe_int (fun _ _ => rfl)) pe_str (nomark _))
      (pss_one (ps_ret pe_no))
      pss_nil)
    (pss_cons (ps_if (pt_cmpR op_in_seq (pe_ix ix_list (pv 1) pe_int (fun _ _ => rfl)) (pe_gr rfl g_BLOCKS) rfl)
      (pss_one (ps_ret (pe_has H_read_block rfl (hr.mono (by decide)) rfl (pa_cons (pv 0) (pa_cons (pe_ix ix_list (pv 1) pe_int (fun _ _ => rfl)) (pa_cons (pv 2) pa_nil))))))
      pss_nil)
    (pss_one (ps_ret (pe_cmpR op_in_seq (pe_ix ix_list (pv 1) pe_int (fun _ _ => rfl)) (pe_tup (pa_cons pe_str (pa_cons pe_str pa_nil))) rfl))))))))), ?_⟩)) fun _ _ _ _ _ _ us hl => match us, hl with | [_, _, _], _ => rfl
  · obtain ⟨a, n, r, r', wl, i, kw, rfl, _⟩ := h
    rfl
  · obtain ⟨a, n, r, r', wl, i, kw, rfl, hw, hs, hz, he, q⟩ := h
    clear F
    have i0 : atI [V.str kw] 0 = some (V.str kw) := atI_nat (j := 0) rfl
    refine ⟨_, rfl, wl, _, rfl, .inl (SqL.of hw), rfl, _, rfl, ifF rfl ?_⟩
    cases he with
    | end_ he =>
      refine ⟨_, rfl, wl, _, 0, _, rfl, rfl, SqL.of hw, i0, rfl, _, rfl, ifT rfl ?_⟩
      exact ⟨_, rfl, _, rfl, a, n, r, r', i, rfl, hs, hz, he, fun H' k h' => q H' k h'⟩
    | block hl hb =>
      have hk : kw = "room" ∨ kw = "loop" ∨ kw = "ever" ∨ kw = "either" := by
        cases hb with
        | room => exact .inl rfl
        | loop => exact .inr (.inl rfl)
        | ever => exact .inr (.inr (.inl rfl))
        | either _ => exact .inr (.inr (.inr rfl))
      have c1 : decide (V.str kw = V.str "end") = false := by rcases hk with rfl | rfl | rfl | rfl <;> decide
      have c2 : decide (V.str kw = V.str "or") = false := by rcases hk with rfl | rfl | rfl | rfl <;> decide
      have c3 : decide (V.str kw = V.str "leave") = false := by rcases hk with rfl | rfl | rfl | rfl <;> decide
      have c4 : inV (V.str kw) [V.str "room", V.str "either", V.str "loop", V.str "ever"] = true := by rcases hk with rfl | rfl | rfl | rfl <;> decide
      refine ⟨_, rfl, wl, _, 0, _, rfl, rfl, SqL.of hw, i0, rfl, _, rfl, ifF c1 ?_⟩
      refine ⟨_, rfl, wl, _, 0, _, rfl, rfl, SqL.of hw, i0, rfl, _, rfl, ifF c2 ?_⟩
      refine ⟨_, rfl, wl, _, 0, _, rfl, rfl, SqL.of hw, i0, rfl, _, rfl, ifF c3 ?_⟩
      refine ⟨_, rfl, wl, _, 0, _, rfl, rfl, SqL.of hw, i0, _, _, rfl, .inr (T.bl H), rfl, by decide, _, rfl, ifT c4 ?_⟩
      exact ⟨_, rfl, _, rfl, wl, _, 0, _, rfl, rfl, SqL.of hw, i0, _, rfl, a, n, r, r', i, kw, rfl, hs, hz, hl, hb, fun H' k h' => q H' k h'⟩
    | or_ e1 e2 e3 e4 e5 =>
      refine ⟨_, rfl, wl, _, 0, _, rfl, rfl, SqL.of hw, i0, rfl, _, rfl, ifF rfl ?_⟩
      refine ⟨_, rfl, wl, _, 0, _, rfl, rfl, SqL.of hw, i0, rfl, _, rfl, ifT rfl ?_⟩
      exact ⟨_, rfl, _, rfl, a, n, r, i, _, _, _, rfl, hs, hz, e1, e2, e3, e4, e5, q⟩
    | back =>
      refine ⟨_, rfl, wl, _, 0, _, rfl, rfl, SqL.of hw, i0, rfl, _, rfl, ifF rfl ?_⟩
      refine ⟨_, rfl, wl, _, 0, _, rfl, rfl, SqL.of hw, i0, rfl, _, rfl, ifF rfl ?_⟩
      refine ⟨_, rfl, wl, _, 0, _, rfl, rfl, SqL.of hw, i0, rfl, _, rfl, ifF rfl ?_⟩
      refine ⟨_, rfl, wl, _, 0, _, rfl, rfl, SqL.of hw, i0, _, _, rfl, .inr (T.bl H), rfl, by decide, _, rfl, ifF (by decide) ?_⟩
      exact ⟨_, rfl, wl, _, 0, _, rfl, rfl, SqL.of hw, i0, by decide, fun p np => ⟨p, _, rfl, .inr (SqT.of upd_same), rfl, by decide, qT (by decide) (q _ (ext_kq (extH_put np)) (hs.ext (extH_put np)))⟩⟩
    | stop =>
      refine ⟨_, rfl, wl, _, 0, _, rfl, rfl, SqL.of hw, i0, rfl, _, rfl, ifF rfl ?_⟩
      refine ⟨_, rfl, wl, _, 0, _, rfl, rfl, SqL.of hw, i0, rfl, _, rfl, ifF rfl ?_⟩
      refine ⟨_, rfl, wl, _, 0, _, rfl, rfl, SqL.of hw, i0, rfl, _, rfl, ifF rfl ?_⟩
      refine ⟨_, rfl, wl, _, 0, _, rfl, rfl, SqL.of hw, i0, _, _, rfl, .inr (T.bl H), rfl, by decide, _, rfl, ifF (by decide) ?_⟩
      exact ⟨_, rfl, wl, _, 0, _, rfl, rfl, SqL.of hw, i0, by decide, fun p np => ⟨p, _, rfl, .inr (SqT.of upd_same), rfl, by decide, qT (by decide) (q _ (ext_kq (extH_put np)) (hs.ext (extH_put np)))⟩⟩
theorem val_kw {r r' : RS} {kw : Str} {ws : List Str} (h : Val r kw ws r') : kw = "use" ∨ kw = "none" ∨ kw = "let" ∨ kw = "some" := by
  cases h with
  | use _ => exact .inl rfl
  | non _ _ => exact .inr (.inl rfl)
  | let_ _ _ => exact .inr (.inr (.inl rfl))
  | some_ _ _ _ => exact .inr (.inr (.inr rfl))
theorem bare_kw {r r' : RS} {i : Int} {kw : Str} (h : BareS r i kw r') : kw = "end" ∨ kw = "room" ∨ kw = "loop" ∨ kw = "ever" ∨ kw = "either" ∨ kw = "back" ∨ kw = "stop" ∨ kw = "or" := by
  cases h with
  | end_ _ => exact .inl rfl
  | block _ hb =>
    cases hb with
    | room => exact .inr (.inl rfl)
    | loop => exact .inr (.inr (.inl rfl))
    | ever => exact .inr (.inr (.inr (.inl rfl)))
    | either _ => exact .inr (.inr (.inr (.inr (.inl rfl))))
  | or_ _ _ _ _ _ => exact .inr (.inr (.inr (.inr (.inr (.inr (.inr rfl))))))
  | back => exact .inr (.inr (.inr (.inr (.inr (.inl rfl)))))
  | stop => exact .inr (.inr (.inr (.inr (.inr (.inr (.inl rfl))))))
theorem call_kw {r r' : RS} {i : Int} {kw : Str} {ws : List Str} (h : CallS r i kw ws r') : kw = "call" ∨ kw = "do" := by
  cases h with
  | call _ _ _ _ _ _ => exact .inl rfl
  | do_ _ _ _ _ => exact .inr rfl
abbrev st_read_inside : Stmt := top 77
theorem sc_read_inside : FnScope ["reading", "words", "line"] ["reading", "words", "line"] (defScope st_read_inside) := ⟨rfl, rfl, rfl, by decide +kernel, rfl, by decide +kernel, by decide +kernel⟩
theorem ok_read_inside (T : T6 K mg) : Has w K mg base 4 "read_inside" ["reading", "words", "line"] (sp_read_inside K) := by
  obtain ⟨fd, F⟩ := T.fn 55
  have H_read_new := HF.ok_read_newF (w := w) (base := base) T
  have H_read_with := ok_read_with (w := w) (base := base) T
  have H_read_value := ok_read_value (w := w) (base := base) T
  have H_read_call := ok_read_call (w := w) (base := base) T
  have H_read_give := ok_read_give (w := w) (base := base) T
  have H_read_bare := ok_read_bare (w := w) (base := base) T
  refine has_of (st := st_read_inside) T F (by decide +kernel) (F.ok sc_read_inside (fun vs H Q E h => ?_) (fun cdv A outer s H vs Q E hr h => ⟨_, PSs.nox (
    (pss_cons (ps_if (pt_cmpR op_eq (pe_ix ix_list (pv 1) pe_int (fun _ _ => rfl)) pe_str (nomark _))
      (pss_one (ps_ret (pe_has H_read_new rfl (hr.mono (by decide)) rfl (pa_cons (pv 0) (pa_cons (pv 1) (pa_cons (pv 2) pa_nil))))))
      pss_nil)
    (pss_cons (ps_if (pt_cmpR op_eq (pe_ix ix_list (pv 1) pe_int (fun _ _ => rfl)) pe_str (nomark _))
      (pss_one (ps_ret (pe_has H_read_with rfl (hr.mono (by decide)) rfl (pa_cons (pv 0) (pa_cons (pv 1) (pa_cons (pv 2) pa_nil))))))
      pss_nil)
    (pss_cons (ps_if (pt_cmpR op_in_seq (pe_ix ix_list (pv 1) pe_int (fun _ _ => rfl)) (pe_tup (pa_cons pe_str (pa_cons pe_str (pa_cons pe_str (pa_cons pe_str (pa_cons pe_str pa_nil)))))) rfl)
      (pss_one (ps_ret (pe_has H_read_value rfl (hr.mono (by decide)) rfl (pa_cons (pv 0) (pa_cons (pv 1) pa_nil)))))
      pss_nil)
    (pss_cons (ps_if (pt_cmpR op_in_seq (pe_ix ix_list (pv 1) pe_int (fun _ _ => rfl)) (pe_tup (pa_cons pe_str (pa_cons pe_str pa_nil))) rfl)
      (pss_one (ps_ret (pe_has H_read_call rfl (hr.mono (by decide)) rfl (pa_cons (pv 0) (pa_cons (pv 1) (pa_cons (pv 2) pa_nil))))))
      pss_nil)
    (pss_cons (ps_if (pt_cmpR op_eq (pe_ix ix_list (pv 1) pe_int (fun _ _ => rfl)) pe_str (nomark _))
      (pss_one (ps_ret (pe_has H_read_give rfl (hr.mono (by decide)) rfl (pa_cons (pv 0) (pa_cons (pv 1) pa_nil)))))
      pss_nil)
    (pss_one (ps_ret (pe_has H_read_bare rfl (hr.mono (by decide)) rfl (pa_cons (pv 0) (pa_cons (pv 1) (pa_cons (pv 2) pa_nil)))))))))))), ?_⟩)) fun _ _ _ _ _ _ us hl => match us, hl with | [_, _, _], _ => rfl
  · obtain ⟨a, n, r, r', wl, i, kw, ws, rfl, _⟩ := h
    rfl
  · obtain ⟨a, n, r, r', wl, i, kw, ws, rfl, hw, hs, ho, hz, he, q⟩ := h
    clear F
    have i0 : atI ((kw :: ws).map V.str) 0 = some (V.str kw) := atI_nat (j := 0) rfl
    cases he with
    | new e1 e2 e2' e2'' e3 e4 =>
      refine ⟨_, rfl, wl, _, 0, _, rfl, rfl, SqL.of hw, i0, rfl, _, rfl, ifT rfl ?_⟩
      exact ⟨_, rfl, _, rfl, _, rfl, a, n, r, _, wl, i, _, _, _, _, _, rfl, hw, hs, ho, e1, e2, e2', e2'', e3, e4, q⟩
    | with_ e1 e2 e3 e4 e5 =>
      refine ⟨_, rfl, wl, _, 0, _, rfl, rfl, SqL.of hw, i0, rfl, _, rfl, ifF rfl ?_⟩
      refine ⟨_, rfl, wl, _, 0, _, rfl, rfl, SqL.of hw, i0, rfl, _, rfl, ifT rfl ?_⟩
      exact ⟨_, rfl, _, rfl, _, rfl, a, n, r, _, wl, i, _, _, _, _, _, rfl, hw, hs, ho, e1, e2, e3, e4, e5, q⟩
    | val hv =>
      have hk := val_kw hv
      have c1 : decide (V.str kw = V.str "new") = false := by rcases hk with rfl | rfl | rfl | rfl <;> decide
      have c2 : decide (V.str kw = V.str "with") = false := by rcases hk with rfl | rfl | rfl | rfl <;> decide
      have c3 : inV (V.str kw) [V.str "none", V.str "get", V.str "some", V.str "let", V.str "use"] = true := by rcases hk with rfl | rfl | rfl | rfl <;> decide
      refine ⟨_, rfl, wl, _, 0, _, rfl, rfl, SqL.of hw, i0, rfl, _, rfl, ifF c1 ?_⟩
      refine ⟨_, rfl, wl, _, 0, _, rfl, rfl, SqL.of hw, i0, rfl, _, rfl, ifF c2 ?_⟩
      refine ⟨_, rfl, wl, _, 0, _, rfl, rfl, SqL.of hw, i0, by decide, fun p np => ⟨p, _, rfl, .inr (SqT.of upd_same), rfl, by decide, _, rfl, ifT c3 ?_⟩⟩
      have e1 := extH_put (o := .tup [.str "none", .str "get", .str "some", .str "let", .str "use"]) np
      exact ⟨_, rfl, _, rfl, a, n, r, r', wl, kw, ws, rfl, e1 _ _ hw, hs.ext e1, ho, hv, fun H' k h' => q H' ((ext_kq e1).trans k) h'⟩
    | bare hb =>
      have hk := bare_kw hb
      have c1 : decide (V.str kw = V.str "new") = false := by rcases hk with rfl | rfl | rfl | rfl | rfl | rfl | rfl | rfl <;> decide
      have c2 : decide (V.str kw = V.str "with") = false := by rcases hk with rfl | rfl | rfl | rfl | rfl | rfl | rfl | rfl <;> decide
      have c3 : inV (V.str kw) [V.str "none", V.str "get", V.str "some", V.str "let", V.str "use"] = false := by rcases hk with rfl | rfl | rfl | rfl | rfl | rfl | rfl | rfl <;> decide
      have c4 : inV (V.str kw) [V.str "call", V.str "do"] = false := by rcases hk with rfl | rfl | rfl | rfl | rfl | rfl | rfl | rfl <;> decide
      have c5 : decide (V.str kw = V.str "give") = false := by rcases hk with rfl | rfl | rfl | rfl | rfl | rfl | rfl | rfl <;> decide
      refine ⟨_, rfl, wl, _, 0, _, rfl, rfl, SqL.of hw, i0, rfl, _, rfl, ifF c1 ?_⟩
      refine ⟨_, rfl, wl, _, 0, _, rfl, rfl, SqL.of hw, i0, rfl, _, rfl, ifF c2 ?_⟩
      refine ⟨_, rfl, wl, _, 0, _, rfl, rfl, SqL.of hw, i0, by decide, fun p np => ⟨p, _, rfl, .inr (SqT.of upd_same), rfl, by decide, _, rfl, ifF c3 ?_⟩⟩
      have e1 := extH_put (o := .tup [.str "none", .str "get", .str "some", .str "let", .str "use"]) np
      refine ⟨_, rfl, wl, _, 0, _, rfl, rfl, SqL.of (e1 _ _ hw), i0, by decide, fun p2 np2 => ⟨p2, _, rfl, .inr (SqT.of upd_same), rfl, by decide, _, rfl, ifF c4 ?_⟩⟩
      have e2 := e1.trans (extH_put (o := .tup [.str "call", .str "do"]) np2)
      refine ⟨_, rfl, wl, _, 0, _, rfl, rfl, SqL.of (e2 _ _ hw), i0, rfl, _, rfl, ifF c5 ?_⟩
      exact ⟨_, rfl, _, rfl, _, rfl, a, n, r, r', wl, i, kw, rfl, e2 _ _ hw, hs.ext e2, hz, hb, fun H' k h' => q H' ((ext_kq e2).trans k) h'⟩
    | call hc =>
      have hk := call_kw hc
      have c1 : decide (V.str kw = V.str "new") = false := by rcases hk with rfl | rfl <;> decide
      have c2 : decide (V.str kw = V.str "with") = false := by rcases hk with rfl | rfl <;> decide
      have c3 : inV (V.str kw) [V.str "none", V.str "get", V.str "some", V.str "let", V.str "use"] = false := by rcases hk with rfl | rfl <;> decide
      have c4 : inV (V.str kw) [V.str "call", V.str "do"] = true := by rcases hk with rfl | rfl <;> decide
      refine ⟨_, rfl, wl, _, 0, _, rfl, rfl, SqL.of hw, i0, rfl, _, rfl, ifF c1 ?_⟩
      refine ⟨_, rfl, wl, _, 0, _, rfl, rfl, SqL.of hw, i0, rfl, _, rfl, ifF c2 ?_⟩
      refine ⟨_, rfl, wl, _, 0, _, rfl, rfl, SqL.of hw, i0, by decide, fun p np => ⟨p, _, rfl, .inr (SqT.of upd_same), rfl, by decide, _, rfl, ifF c3 ?_⟩⟩
      have e1 := extH_put (o := .tup [.str "none", .str "get", .str "some", .str "let", .str "use"]) np
      refine ⟨_, rfl, wl, _, 0, _, rfl, rfl, SqL.of (e1 _ _ hw), i0, by decide, fun p2 np2 => ⟨p2, _, rfl, .inr (SqT.of upd_same), rfl, by decide, _, rfl, ifT c4 ?_⟩⟩
      have e2 := e1.trans (extH_put (o := .tup [.str "call", .str "do"]) np2)
      exact ⟨_, rfl, _, rfl, _, rfl, a, n, r, r', wl, i, kw, ws, rfl, e2 _ _ hw, hs.ext e2, ho, hc, fun H' k h' => q H' ((ext_kq e2).trans k) h'⟩
    | @give x sp hg hx =>
      refine ⟨_, rfl, wl, _, 0, _, rfl, rfl, SqL.of hw, i0, rfl, _, rfl, ifF rfl ?_⟩
      refine ⟨_, rfl, wl, _, 0, _, rfl, rfl, SqL.of hw, i0, rfl, _, rfl, ifF rfl ?_⟩
      refine ⟨_, rfl, wl, _, 0, _, rfl, rfl, SqL.of hw, i0, by decide, fun p np => ⟨p, _, rfl, .inr (SqT.of upd_same), rfl, by decide, _, rfl, ifF (by decide) ?_⟩⟩
      have e1 := extH_put (o := .tup [.str "none", .str "get", .str "some", .str "let", .str "use"]) np
      refine ⟨_, rfl, wl, _, 0, _, rfl, rfl, SqL.of (e1 _ _ hw), i0, by decide, fun p2 np2 => ⟨p2, _, rfl, .inr (SqT.of upd_same), rfl, by decide, _, rfl, ifF (by decide) ?_⟩⟩
      have e2 := e1.trans (extH_put (o := .tup [.str "call", .str "do"]) np2)
      refine ⟨_, rfl, wl, _, 0, _, rfl, rfl, SqL.of (e2 _ _ hw), i0, rfl, _, rfl, ifT rfl ?_⟩
      exact ⟨_, rfl, _, rfl, a, n, r, wl, x, sp, rfl, e2 _ _ hw, hs.ext e2, ho, hg, hx, fun H' k => q H' (ext_kq (e2.trans k)) ((hs.ext e2).ext k)⟩
def pRoom (r : RS) : V → Bool
  | .int b => isRoom r b
  | _ => false
theorem filt_ints (r : RS) (bs : List Int) : (((bs.map V.int).filter (pRoom r)).map id).reverse = ((bs.filter (isRoom r)).reverse).map V.int := by
  rw [List.map_id, List.filter_map, ← List.map_reverse] <;> rfl
abbrev st_rooms_around : Stmt := top 78
theorem sc_rooms_around : FnScope ["reading", "inside", "first"] ["reading"] (defScope st_rooms_around) := ⟨rfl, rfl, rfl, by decide +kernel, rfl, by decide +kernel, by decide +kernel⟩
theorem ok_rooms_around (T : T6 K mg) : Has w K mg base 1 "rooms_around" ["reading"] (sp_rooms_around K) := by
  obtain ⟨fd, F⟩ := T.fn 56
  refine has_of (st := st_rooms_around) T F (by decide +kernel) (F.ok sc_rooms_around (fun vs H Q E h => ?_) (fun cdv A outer s H vs Q E hr h => ⟨_, PSs.nox (
    (pss_cons (ps_setLc (i := 1) (own := [("first", 2)]) (g := gName 2) rfl sc_rooms_around.nd rfl rfl (sw_true rfl rfl rfl (by decide +kernel)) (pi_list (pe_fld (pv 0) rfl)) (blkOk_by (own := [("first", 2)]) (N := ["reading", "inside", "first"]) (sc := defScope st_rooms_around) (by decide +kernel))
        (fun _ _ _ _ _ => (pg_name (i := 2) sc_rooms_around.nd rfl (Or.inl rfl))) (fun _ _ _ _ _ => (pts_one (pt_cmpR op_eq (pe_dget hr.u1 (pe_fldB (K := K) (pv 0)) (pv 2) (fun _ _ => rfl)) pe_str (nomark _)))) (fun _ _ _ _ _ => (pv 2)))
    (pss_one (ps_ret (pe_tup (StX.pa_star (pe_revL (pv 1)) (pa_cons (pe_dget hr.u1 (pe_fld (pv 0) rfl) (pe_fld (pv 0) rfl) (fun _ _ => rfl)) pa_nil))))))), ?_⟩)) fun _ _ _ _ _ _ us hl => match us, hl with | [_], _ => rfl
  · obtain ⟨a, nm, r, f, rfl, _⟩ := h
    rfl
  · obtain ⟨a, nm, r, f, rfl, ⟨d, kn, hs⟩, ho, hf, hl, hk, q⟩ := h
    clear F
    have hC := T.cls "Reading" (by decide +kernel)
    have hA1 := T.noat "Reading" "blocks" (by decide +kernel)
    have hA2 := T.noat "Reading" "heads" (by decide +kernel)
    have hA3 := T.noat "Reading" "owner" (by decide +kernel)
    have hA4 := T.noat "Reading" "kinds" (by decide +kernel)
    have hb := SqL.of (K := K) (blocks_at hs)
    obtain ⟨u, hu, ru⟩ := hs.rel.heads.get kS_inj hf
    cases ru
    refine ⟨_, rfl, _, _, _, _, .ref a.blocks, rfl, hs.at_ 0, hC, hA1, rfl, a.blocks, rfl, ⟨_, hb⟩, fun D hD => ?_⟩
    refine lc_pure (xs := r.blocks.map V.int) (pRoom r) id hb hD (by rw [List.length_map]; omega) (fun _ => rfl) ?_ (fun x _ _ G4 Q' _ h => ⟨_, rfl, h⟩) ?_
    · intro x hx G Q' e q'
      obtain ⟨b, hbm, rfl⟩ := List.mem_map.mp hx
      obtain ⟨k, hkb⟩ := hk b hbm
      obtain ⟨v, hv, rv⟩ := hs.rel.kinds.get kI_inj hkb
      cases rv
      have s1 := hs.ext e
      refine ⟨_, rfl, _, _, _, _, _, rfl, s1.at_ 0, hC, hA4, rfl, _, rfl, _, _, rfl, by rw [← show valV d.kinds (.inl b) = _ from hv]; exact DGet.k (k := .inl b) (s1.at_ 10), rfl, _, rfl, ?_⟩
      have ep : pRoom r (.int b) = decide (V.str k = V.str "room") := by
        show (r.kinds.lookup b == some ("room" : Str)) = _
        rw [hkb]
        by_cases e : k = "room"
        · subst e; decide
        · have : ¬ V.str k = V.str "room" := fun z => e (by injection z)
          rw [decide_eq_false this]
          simpa using e
      rw [← ep]
      exact q'
    intro G x1 hG
    refine ⟨_, rfl, D, _, rfl, SqL.of hG, fun p np => ⟨p, _, rfl, .inr (SqL.of upd_same), ?_⟩⟩
    rw [filt_ints]
    have x2 := x1.trans (extH_put (o := .lst (((r.blocks.filter (isRoom r)).reverse).map V.int)) np)
    generalize upd G p (.lst (((r.blocks.filter (isRoom r)).reverse).map V.int)) = G2 at x2 ⊢
    have s2 := hs.ext x2
    refine ⟨_, rfl, _, _, _, _, _, rfl, s2.at_ 0, hC, hA2, rfl, _, rfl, _, _, _, _, _, rfl, s2.at_ 0, hC, hA3, rfl, _, _, rfl, by rw [own_main s2.rel ho, ← show valV d.heads (.inr r.fnm) = _ from hu]; exact DGet.k (k := .inr r.fnm) (s2.at_ 7), ?_, fun q0 nq0 => ?_⟩
    · rw [sizeLine_eq]
      have := List.length_filter_le (isRoom r) r.blocks
      simp only [List.length_append, List.length_map, List.length_reverse, List.length_cons, List.length_nil]
      omega
    · exact q _ q0 (x2.trans (extH_put nq0)) (SqT.of (by rw [upd_same]; unfold aroundS; rw [List.map_append] <;> rfl))
end
end R9H
set_option Elab.async false
set_option linter.all false
set_option maxRecDepth 100000
set_option maxHeartbeats 4000000
/-! k24, part U: read_head -/
namespace R9H
open PySem PySem.Spec PyProof.Rows L2
theorem inV_str {z : Str} {ws : List Str} : inV (V.str z) (ws.map V.str) = decide (z ∈ ws) := by
  by_cases h : z ∈ ws
  · rw [decide_eq_true h]
    unfold inV
    rw [List.any_eq_true]
    exact ⟨.str z, List.mem_map.mpr ⟨z, h, rfl⟩, by show (z == z) = true; simp⟩
  · rw [decide_eq_false h]
    exact inV_strs h
theorem cut_m2 (ws : List V) (x y : V) : cutV (ws ++ [x, y]) none (some (-2)) = ws := by
  unfold cutV
  have e : HT.sIx (ws ++ [x, y]).length (ws ++ [x, y]).length (some (-2)) = ws.length := by
    unfold HT.sIx
    dsimp only
    rw [if_pos (by decide), List.length_append]
    show (-2 + ((ws.length + 2 : Nat) : Int)).toNat = _
    omega
  rw [e, HT.sIx_none]
  simp
theorem at_m1 (ws : List V) (x y : V) : atI (ws ++ [x, y]) (-1) = some y := by
  rw [show ws ++ [x, y] = (ws ++ [x]) ++ [y] by simp]
  exact at_last
def sp_read_head (K : PySem.W.Frag) : Sp := fun vs H Q _ => ∃ (a : RA) (nm : Option Addr) (r : RS) (wl : Addr) (g s : Str) (ps : List Str), vs = [.ref a.rd, .ref wl] ∧ H wl = some (.lst ((("head" : Str) :: g :: (ps ++ [("gives" : Str), s])).map V.str)) ∧ RsAt K a nm r H ∧ wl ∉ ads a ∧ goodName g ∧ g ≠ "main" ∧ r.due.lookup g = none ∧ r.gives.lookup g = none ∧ ("gives" : Str) ∉ ps ∧ ps.length ≤ 4 ∧ (∀ x ∈ ps ++ [s], ∃ wy, r.tab.lookup x = some wy) ∧ r.due.length < 6 ∧ r.sz ≤ 1000 ∧
  ∀ H', Kq a nm H H' → RsAt K a nm {r with due := r.due ++ [(g, ps)], gives := r.gives ++ [(g, some s)]} H' → Q (.bl true) H'
section
variable {w : World} {K : PySem.W.Frag} {mg : Str → Option Value} {base : Heap}
abbrev st_read_head : Stmt := top 62
theorem sc_read_head : FnScope ["reading", "words", "rest", "gives", "told", "shape"] ["reading", "words"] (defScope st_read_head) := ⟨rfl, rfl, rfl, by decide +kernel, rfl, by decide +kernel, by decide +kernel⟩
theorem ok_read_head (T : T6 K mg) : Has w K mg base 2 "read_head" ["reading", "words"] (sp_read_head K) := by
  obtain ⟨fd, F⟩ := T.fn 40
  have H_is_name := ok_is_name (w := w) (base := base) T
  have gf_len := T.free "len" (by decide +kernel)
  have gf_tuple := T.free "tuple" (by decide +kernel)
  obtain ⟨t_MOST_PARAMETERS, g_MOST_PARAMETERS⟩ := T.int "MOST_PARAMETERS" (4) (by decide +kernel)
  obtain ⟨t_MOST_HEADS, g_MOST_HEADS⟩ := T.int "MOST_HEADS" (6) (by decide +kernel)
  refine has_of (st := st_read_head) T F (by decide +kernel) (F.ok sc_read_head (fun vs H Q E h => ?_) (fun cdv A outer s H vs Q E hr h => ⟨_, PSs.nox (
    (pss_cons (ps_if (PW.pt (pw_or (pt_cmpR op_lt (pe_callB call_len_seq rfl gf_len PySem.boot_len (pa_cons (pv 1) pa_nil)) pe_int (nomark _)) (pw_or (pt_not (pt_val (pe_has H_is_name rfl (hr.mono (by decide)) rfl (pa_cons (pe_ix ix_list (pv 1) pe_int (fun _ _ => rfl)) pa_nil)))) (pw_or (pt_cmpR op_eq (pe_ix ix_list (pv 1) pe_int (fun _ _ => rfl)) pe_str (nomark _)) (pw_or1 (pt_cmp (pc_din hr.u1 (pe_ix ix_list (pv 1) pe_int (fun _ _ => rfl)) (pe_fld (pv 0) rfl))))))))
      (pss_one (ps_ret pe_bl))
      pss_nil)
    (pss_cons (ps_par (i := 2) (j := 3) (by rfl) sc_read_head.nd rfl rfl (by decide) rfl rfl (pa_cons (pe_slice sl_list (pv 1) (po_some pe_int) po_none) (pa_cons pe_non pa_nil)) (by rfl))
    (pss_cons (ps_if (pt_cmpR op_in_seq pe_str (pv 2) rfl)
      (pss_cons (ps_if (pt_cmpR op_ne (pe_bm PySem.F.plainAttrs_list PySem.F.slot_list_index PySem.F.type_list_index mt_index (pv 2) (pa_cons pe_str pa_nil)) (pe_op op_sub (pe_callB call_len_seq rfl gf_len PySem.boot_len (pa_cons (pv 2) pa_nil)) pe_int) (nomark _))
        (pss_one (ps_ret pe_bl))
        pss_nil)
      (pss_one (ps_par (i := 2) (j := 3) (by rfl) sc_read_head.nd rfl rfl (by decide) rfl rfl (pa_cons (pe_slice sl_list (pv 2) po_none (po_some (pe_un un_neg pe_int))) (pa_cons (pe_ix ix_list (pv 2) (pe_un un_neg pe_int) (fun _ _ => rfl)) pa_nil)) (by rfl))))
      pss_nil)
    (pss_cons (ps_set (i := 4) sc_read_head.nd rfl (Or.inl rfl) (pe_ifExp (pt_cmpR op_isN (pv 3) pe_non rfl) (pv 2) (pe_lst (StX.pa_star (pv 2) (pa_cons (pv 3) pa_nil)))))
    (pss_cons (ps_if (PW.pt (pw_or (pt_cmpR op_gt (pe_callB call_len_seq rfl gf_len PySem.boot_len (pa_cons (pv 2) pa_nil)) (pe_gi rfl g_MOST_PARAMETERS) (nomark _)) (pw_or1 (pt_cmpR (op_neD hr.units) (pe_lc (own := [("shape", 5)]) (g := gName 5) (by rfl) sc_read_head.nd (pi_list (pv 4)) (blkOk_by (own := [("shape", 5)]) (N := ["reading", "words", "rest", "gives", "told", "shape"]) (sc := defScope st_read_head) (by decide +kernel))
        (fun _ _ _ _ _ => (pg_name (i := 5) sc_read_head.nd rfl (Or.inl rfl))) (fun _ _ _ _ _ => (pts_one (pt_cmp (pc_dnotin hr.u1 (pv 5) (pe_fldB (K := K) (pe_fldB (K := K) (pv 0))))))) (fun _ _ _ _ _ => (pv 5))) (pe_lst pa_nil) (nomark _)))))
      (pss_one (ps_ret pe_bl))
      pss_nil)
    (pss_cons (ps_if (pt_cmpR op_eq (pe_callB call_lenD rfl gf_len PySem.boot_len (pa_cons (pe_fld (pv 0) rfl) pa_nil)) (pe_gi rfl g_MOST_HEADS) (nomark _))
      (pss_one (ps_ret pe_bl))
      pss_nil)
    (pss_cons (ps_dput hr.u1 (pe_fld (pv 0) rfl) (pe_ix ix_list (pv 1) pe_int (fun _ _ => rfl)) (pe_callTy call_tuple_of rfl gf_tuple PyProof.Rows.boot_tuple (pa_cons (pv 2) pa_nil)) rfl)
    (pss_cons (ps_dput hr.u1 (pe_fld (pv 0) rfl) (pe_ix ix_list (pv 1) pe_int (fun _ _ => rfl)) (pv 3) rfl)
    (pss_one (ps_ret pe_bl))))))))))), ?_⟩)) fun _ _ _ _ _ _ us hl => match us, hl with | [_, _], _ => rfl
  · obtain ⟨a, nm, r, wl, g, s, ps, rfl, _⟩ := h
    rfl
  · obtain ⟨a, nm, r, wl, g, sp, ps, rfl, hw, ⟨d, kn, hs⟩, nwl, hg, hgm, hd, hgv, hng, hpl, htab, hdl, hz, q⟩ := h
    clear F
    have hC := T.cls "Reading" (by decide +kernel)
    have hA1 := T.noat "Reading" "due" (by decide +kernel)
    have hA2 := T.noat "Reading" "gives" (by decide +kernel)
    have hA3 := T.noat "Reading" "shapes" (by decide +kernel)
    have hS := T.cls "Shapes" (by decide +kernel)
    have hA4 := T.noat "Shapes" "routes" (by decide +kernel)
    have i1 : atI ((("head" : Str) :: g :: (ps ++ [("gives" : Str), sp])).map V.str) 1 = some (V.str g) := atI_nat (j := 1) rfl
    have hu : valV d.due (.inr g) = none := hs.rel.due.non kS_inj hd
    refine ⟨_, rfl, wl, _, rfl, .inl (SqL.of hw), _, _, rfl, rfl, _, rfl, ifF (decide_eq_false (by rw [List.length_map]; simp only [List.length_cons, List.length_append, List.length_nil]; omega)) ?_⟩
    refine ⟨_, rfl, wl, _, 1, _, rfl, rfl, SqL.of hw, i1, g, rfl, hg, true, rfl, ifF rfl ?_⟩
    refine ⟨_, rfl, wl, _, 1, _, rfl, rfl, SqL.of hw, i1, rfl, _, rfl, ifF (decide_eq_false (fun z => hgm (by injection z))) ?_⟩
    refine ⟨_, rfl, wl, _, 1, _, rfl, rfl, SqL.of hw, i1, _, rfl, _, _, _, _, _, rfl, hs.at_ 0, hC, hA1, rfl, a.due, _, rfl, DGet.k (k := .inr g) (hs.at_ 5), false, by rw [hu] <;> rfl, ifF rfl ?_⟩
    refine ⟨_, rfl, 2, rfl, wl, _, rfl, SqL.of hw, fun p np => ?_⟩
    have ec : cutV ((("head" : Str) :: g :: (ps ++ [("gives" : Str), sp])).map V.str) (some 2) none = (ps ++ [("gives" : Str), sp]).map V.str := cut_from _ 2 (by simp)
    rw [ec]
    have x1 := extH_put (o := .lst ((ps ++ [("gives" : Str), sp]).map V.str)) np
    have p1 : upd H p (.lst ((ps ++ [("gives" : Str), sp]).map V.str)) p = some (.lst ((ps ++ [("gives" : Str), sp]).map V.str)) := upd_same
    generalize upd H p (.lst ((ps ++ [("gives" : Str), sp]).map V.str)) = G1 at x1 p1 ⊢
    refine ⟨_, _, rfl, ?_⟩
    have fl : ((ps ++ [("gives" : Str), sp]).map V.str).all flatV = true := flat_strs _
    refine ⟨_, rfl, p, _, rfl, .inl (SqL.of p1), rfl, fl, _, rfl, ifT (inV_str.trans (decide_eq_true (by simp))) ?_⟩
    refine ⟨_, rfl, .inl ⟨rfl, _, SqL.of p1⟩, p, (ps ++ [("gives" : Str), sp]).map V.str, .str "gives", ps.length, .str "gives", rfl, rfl, SqL.of p1, rfl, fl, ?_, ?_, ?_, ?_⟩
    · rw [List.getElem?_map, List.getElem?_append_right (Nat.le_refl _), Nat.sub_self]
      rfl
    · rfl
    · intro m z' hm hz'
      rw [List.getElem?_map, List.getElem?_append_left hm] at hz'
      obtain ⟨b, hb, rfl⟩ := Option.map_eq_some_iff.mp hz'
      show (b == ("gives" : Str)) = false
      have : b ≠ ("gives" : Str) := fun z => hng (z ▸ List.mem_of_getElem? hb)
      simpa using this
    refine ⟨_, rfl, p, _, rfl, .inl (SqL.of p1), _, _, rfl, rfl, rfl, _, rfl, ifF ?_ ?_⟩
    · rw [Bool.not_eq_false', decide_eq_true_iff]
      refine congrArg V.int ?_
      rw [List.length_map, List.length_append]
      show (ps.length : Int) = ((ps.length + 2 : Nat) : Int) - 2
      omega
    refine ⟨_, rfl, _, rfl, -2, rfl, p, _, rfl, SqL.of p1, fun p2 np2 => ?_⟩
    have em : (ps ++ [("gives" : Str), sp]).map V.str = ps.map V.str ++ [V.str "gives", V.str sp] := by rw [List.map_append] <;> rfl
    rw [em] at p1
    rw [em, cut_m2]
    have x2 := extH_put (o := .lst (ps.map V.str)) np2
    have p2' : upd G1 p2 (.lst (ps.map V.str)) p2 = some (.lst (ps.map V.str)) := upd_same
    generalize upd G1 p2 (.lst (ps.map V.str)) = G2 at x2 p2' ⊢
    refine ⟨_, rfl, _, rfl, p, _, -1, .str sp, rfl, rfl, SqL.of (x2 _ _ p1), at_m1 _ _ _, _, _, rfl, ?_⟩
    refine ⟨_, rfl, rfl, _, rfl, ifF rfl ?_⟩
    refine ⟨_, rfl, p2, _, rfl, .inr (SqL.of p2'), _, rfl, by rw [sizeLine_eq]; simp; omega, fun p3 np3 => ?_⟩
    have x3 := extH_put (o := .lst (ps.map V.str ++ [.str sp])) np3
    have p3' : upd G2 p3 (.lst (ps.map V.str ++ [.str sp])) p3 = some (.lst ((ps ++ [sp]).map V.str)) := by rw [upd_same, List.map_append] <;> rfl
    generalize upd G2 p3 (.lst (ps.map V.str ++ [.str sp])) = G3 at x3 p3' ⊢
    refine ⟨_, rfl, p2, _, rfl, .inl (SqL.of (x3 _ _ p2')), _, _, rfl, rfl, _, rfl, ifF (decide_eq_false (by rw [List.length_map]; omega)) ?_⟩
    refine ⟨_, rfl, p3, rfl, ⟨_, SqL.of p3'⟩, fun D hD => ?_⟩
    have x13 := (x1.trans x2).trans x3
    refine lc_pure (xs := (ps ++ [sp]).map V.str) (fun _ => false) id (SqL.of p3') hD (by simp; omega) (fun _ => rfl) ?_ (fun _ _ hh => by cases hh) ?_
    · intro y hy F8 Q' e8 q'
      obtain ⟨y0, hy0, rfl⟩ := List.mem_map.mp hy
      obtain ⟨wy, hwy⟩ := htab y0 hy0
      obtain ⟨u, hu, _⟩ := hs.rel.tab.get kS_inj hwy
      have h8 := hs.ext (x13.trans e8)
      exact ⟨_, rfl, _, rfl, _, _, _, _, _, rfl, h8.at_ 0, hC, hA3, rfl, _, _, _, _, _, rfl, h8.at_ 1, hS, hA4, lookR, a.r, _, rfl, DGet.k (k := .inr y0) (h8.at_ 4), false, by rw [show valV d.r (.inr y0) = _ from hu] <;> rfl, q'⟩
    intro F8 e8 hF8
    rw [List.filter_eq_nil_iff.mpr (fun _ _ => Bool.false_ne_true)] at hF8
    refine ⟨Nat.zero_le _, fun p4 np4 => ⟨.list [], .list [], .lst (xs := []) (SqL.of (extH_put np4 _ _ hF8)) .nil, .lst (xs := []) (SqL.of upd_same) .nil, rfl, rfl, _, rfl, ifF rfl ?_⟩⟩
    have x4 := (x13.trans e8).trans (extH_put (o := .lst []) np4)
    have p24 := extH_put (o := .lst []) np4 _ _ (e8 _ _ (x3 _ _ p2'))
    generalize upd F8 p4 (.lst []) = G4 at x4 p24 ⊢
    have s4 := hs.ext x4
    have ld := s4.rel.due.len
    have lg := s4.rel.gives.len
    have hzd : r.due.length + r.gives.length ≤ 1000 := by unfold RS.sz at hz; omega
    refine ⟨_, rfl, _, _, _, _, .ref a.due, rfl, s4.at_ 0, hC, hA1, rfl, a.due, _, rfl, s4.at_ 5, rfl, _, rfl, ifF (decide_eq_false (by simp only [V.int.injEq]; omega)) ?_⟩
    refine ⟨_, rfl, p2, _, rfl, .inl ⟨SqL.of p24, fun t nt => ?_⟩⟩
    have x5 := extH_put (o := .tup (ps.map V.str)) nt
    have ht : upd G4 t (.tup (ps.map V.str)) t = some (.tup (ps.map V.str)) := upd_same
    generalize upd G4 t (.tup (ps.map V.str)) = G5 at x5 ht ⊢
    have s5 := s4.ext x5
    have x15 := x4.trans x5
    refine ⟨_, rfl, _, _, _, _, _, rfl, s5.at_ 0, hC, hA1, rfl, _, rfl, wl, _, 1, _, rfl, rfl, SqL.of (x15 _ _ hw), i1, _, _, rfl, DPut.k (k := .inr g) (s5.at_ 5) (by rw [sizeLine_eq]; omega), ?_⟩
    obtain ⟨s6, k6, t6⟩ := s5.up 5 (.dK (putK d.due (.inr g) (.ref t))) {d with due := putK d.due (.inr g) (.ref t)} {r with due := r.due ++ [(g, ps)]} (fun G tx h => { h with due := h.due.put kS_inj (k := g) (u := .ref t) (v := ps) hd ⟨t, rfl, tx.sqT (SqT.of ht)⟩ }) rfl
    have nnm : nm ≠ some wl := fun z => by
      have := (hs.kn.at_ wl z).1
      rw [hw] at this
      cases this
    have hw6 := k6 _ _ nwl nnm (x15 _ _ hw)
    refine ⟨_, rfl, _, rfl, _, _, _, _, _, rfl, s6.at_ 0, hC, hA2, rfl, _, rfl, wl, _, 1, _, rfl, rfl, SqL.of hw6, i1, _, _, rfl, DPut.k (k := .inr g) (s6.at_ 6) (by rw [sizeLine_eq]; show d.gives.length < _; omega), ?_⟩
    obtain ⟨s7, k7, _⟩ := s6.up 6 (.dK (putK d.gives (.inr g) (.str sp))) {d with due := putK d.due (.inr g) (.ref t), gives := putK d.gives (.inr g) (.str sp)} {r with due := r.due ++ [(g, ps)], gives := r.gives ++ [(g, some sp)]} (fun G tx h => { h with gives := h.gives.put kS_inj (k := g) (u := .str sp) (v := some sp) hgv rfl }) rfl
    exact q _ ((ext_kq x15).trans (k6.trans k7)) ⟨_, _, s7⟩
end
end R9H
set_option Elab.async false
set_option linter.all false
set_option maxRecDepth 100000
set_option maxHeartbeats 4000000
/-! k24, part VA: read_func -/
namespace R9H
open PySem PySem.Spec PyProof.Rows L2
/-- the shapes that are due -/
def dueS (r : RS) (g : Str) : List Str := (r.due.lookup g).getD []
/-- a function begins -/
structure FunS (b : Bool) (r : RS) (g : Str) (ps : List Str) (nms : List (Str × List (Str × Str))) : Prop where
  own : r.own = none
  hd : r.hd.lookup g = none
  pm : r.pm.lookup g = none
  ok : g = mainS ∨ ∃ ss, r.due.lookup g = some ss
  good : ∀ p ∈ ps, goodName p
  nd : ps.Nodup
  len : ps.length = (dueS r g).length
  few : ps.length ≤ 100
  old : (b = false ∧ nms = r.nms) ∨ (b = true ∧ ∃ f, r.cur = some f ∧ nms = r.nms ++ [(f, r.kn)])
  new : nms.lookup g = none
def beg (r : RS) (i : Int) (g : Str) (ps : List Str) (nms : List (Str × List (Str × Str))) : RS := {r with own := some g, owners := r.owners ++ [(i, g)], hd := r.hd ++ [(g, i)], pm := r.pm ++ [(g, ps)], nms := nms, cur := some g, kn := ps.zip (dueS r g)}
def sp_read_func (K : PySem.W.Frag) : Sp := fun vs H Q _ => ∃ (a : RA) (nm : Option Addr) (r : RS) (wl : Addr) (i : Int) (g : Str) (ps : List Str) (nms : List (Str × List (Str × Str))), vs = [.ref a.rd, .ref wl, .int i] ∧ H wl = some (.lst ((("func" : Str) :: g :: ps).map V.str)) ∧ wl ∉ ads a ∧ RsAt K a nm r H ∧ FunS nm.isSome r g ps nms ∧ r.owners.lookup i = none ∧ r.sz ≤ 1000 ∧
  ∀ H' n, Kq a nm H H' → H n = none → RsAt K a (some n) (beg r i g ps nms) H' → Q (.bl true) H'
theorem zip_snd {xs ss : List Str} (h : xs.length = ss.length) : (xs.zip ss).map (·.1) = xs := by
  induction xs generalizing ss with
  | nil => rfl
  | cons x xs ih =>
    cases ss with
    | nil => cases h
    | cons s ss =>
      rw [List.zip_cons_cons, List.map_cons, ih (by simpa using h)]
theorem zip_take_no {xs ss : List Str} (h : xs.length = ss.length) (hn : xs.Nodup) {i : Nat} (hi : i < xs.length) : ((xs.zip ss).take i).lookup xs[i] = none := by
  rw [List.lookup_eq_none_iff]
  intro q hq
  have : q.1 ≠ xs[i] := fun e => by
    obtain ⟨j, hj, e2⟩ := List.mem_iff_getElem.mp hq
    rw [List.length_take] at hj
    rw [List.getElem_take, List.getElem_zip] at e2
    have hji : j < i := by omega
    rw [← e2] at e
    have e : xs[j] = xs[i] := e
    have := nodup_get hn (List.getElem?_eq_getElem (show j < xs.length by omega)) (by rw [List.getElem?_eq_getElem hi, e])
    omega
  simp [Ne.symm this]
theorem ite_two {c : Bool} {A B : Prop} (h : c = true → B → A) (hB : B) : if c = true then A else B := by
  cases c
  · exact hB
  · exact h rfl hB
section
variable {w : World} {K : PySem.W.Frag} {mg : Str → Option Value} {base : Heap}
theorem ok_are_names (T : T6 K mg) : Has w K mg base 2 "are_names" ["words"] (spNames K) := ok_names T
abbrev st_read_func : Stmt := top 63
theorem sc_read_func : FnScope ["reading", "words", "line", "shapes", "name", "shape"] ["reading", "words", "line"] (defScope st_read_func) := ⟨rfl, rfl, rfl, by decide +kernel, rfl, by decide +kernel, by decide +kernel⟩
theorem ok_read_func (T : T6 K mg) : Has w K mg base 3 "read_func" ["reading", "words", "line"] (sp_read_func K) := by
  obtain ⟨fd, F⟩ := T.fn 41
  have H_are_names := ok_are_names (w := w) (base := base) T
  have gf_len := T.free "len" (by decide +kernel)
  have gf_tuple := T.free "tuple" (by decide +kernel); have gf_zip := T.free "zip" (by decide +kernel)
  refine has_of (st := st_read_func) T F (by decide +kernel) (F.ok sc_read_func (fun vs H Q E h => ?_) (fun cdv A outer s H vs Q E hr h => ⟨_, PSs.nox (
    (pss_cons (ps_if (PW.pt (pw_or (pt_cmpR op_lt (pe_callB call_len_seq rfl gf_len PySem.boot_len (pa_cons (pv 1) pa_nil)) pe_int (nomark _)) (pw_or (pt_cmpR op_notN (pe_fld (pv 0) rfl) pe_non rfl) (pw_or (pt_cmp (pc_din hr.u1 (pe_ix ix_list (pv 1) pe_int (fun _ _ => rfl)) (pe_fld (pv 0) rfl))) (pw_or1 (pt_not (pt_val (pe_has H_are_names rfl (hr.mono (by decide)) rfl (pa_cons (pe_slice sl_list (pv 1) (po_some pe_int) po_none) pa_nil)))))))))
      (pss_one (ps_ret pe_bl))
      pss_nil)
    (pss_cons (ps_if (PW.pt (pw_and (pt_cmpR op_ne (pe_ix ix_list (pv 1) pe_int (fun _ _ => rfl)) pe_str (nomark _)) (pw_and1 (pt_cmp (pc_dnotin hr.u1 (pe_ix ix_list (pv 1) pe_int (fun _ _ => rfl)) (pe_fld (pv 0) rfl))))))
      (pss_one (ps_ret pe_bl))
      pss_nil)
    (pss_cons (ps_set (i := 3) sc_read_func.nd rfl (Or.inl rfl) (pe_dget2 hr.u1 (pe_fld (pv 0) rfl) (pe_ix ix_list (pv 1) pe_int (fun _ _ => rfl)) (pe_tup pa_nil) ⟨rfl, rfl, rfl, rfl⟩))
    (pss_cons (ps_if (pt_cmpR op_ne (pe_op op_sub (pe_callB call_len_seq rfl gf_len PySem.boot_len (pa_cons (pv 1) pa_nil)) pe_int) (pe_callB call_len_seq rfl gf_len PySem.boot_len (pa_cons (pv 3) pa_nil)) (nomark _))
      (pss_one (ps_ret pe_bl))
      pss_nil)
    (pss_cons (ps_fld (pv 0) (pe_ix ix_list (pv 1) pe_int (fun _ _ => rfl)) rfl)
    (pss_cons (ps_dput hr.u1 (pe_fld (pv 0) rfl) (pv 2) (pe_ix ix_list (pv 1) pe_int (fun _ _ => rfl)) rfl)
    (pss_cons (ps_dput hr.u1 (pe_fld (pv 0) rfl) (pe_ix ix_list (pv 1) pe_int (fun _ _ => rfl)) (pv 2) rfl)
    (pss_cons (ps_dput hr.u1 (pe_fld (pv 0) rfl) (pe_ix ix_list (pv 1) pe_int (fun _ _ => rfl)) (pe_callTy call_tuple_of rfl gf_tuple PyProof.Rows.boot_tuple (pa_cons (pe_slice sl_list (pv 1) (po_some pe_int) po_none) pa_nil)) rfl)
    (pss_cons (ps_dput hr.u1 (pe_fld (pv 0) rfl) (pe_ix ix_list (pv 1) pe_int (fun _ _ => rfl)) (pe_dc (own := [("name", 4), ("shape", 5)]) (g := gTup K 2 (gCons (gName 4) (gCons (gName 5) gNil))) rfl sc_read_func.nd (pi_zipM rfl gf_zip (pa_cons (pe_slice sl_list (pv 1) (po_some pe_int) po_none) (pa_cons (pv 3) pa_nil))) (blkOk_by (own := [("name", 4), ("shape", 5)]) (N := ["reading", "words", "line", "shapes", "name", "shape"]) (sc := defScope st_read_func) (by decide +kernel)) (fun _ _ _ _ _ => pg_tup rfl (pgs_cons (pg_name (i := 4) sc_read_func.nd rfl (Or.inl rfl)) (pgs_cons (pg_name (i := 5) sc_read_func.nd rfl (Or.inl rfl)) pgs_nil))) (fun _ _ _ _ _ => pts_nil) (fun _ _ _ _ _ => pv 4) (fun _ _ _ _ _ => pv 5)) rfl)
    (pss_one (ps_ret pe_bl)))))))))))), ?_⟩)) fun _ _ _ _ _ _ us hl => match us, hl with | [_, _, _], _ => rfl
  · obtain ⟨a, nm, r, wl, i, g, ps, nms, rfl, _⟩ := h
    rfl
  · obtain ⟨a, nm, r, wl, line, g, ps, nms, rfl, hw, hn, ⟨d, kn, hs⟩, fs, hli, hz, q⟩ := h
    clear F
    have h1 := hs.rg
    have hC := T.cls "Reading" (by decide +kernel)
    have hA1 := T.noat "Reading" "owner" (by decide +kernel)
    have hA2 := T.noat "Reading" "heads" (by decide +kernel)
    have hA3 := T.noat "Reading" "due" (by decide +kernel)
    have hA4 := T.noat "Reading" "owners" (by decide +kernel)
    have hA5 := T.noat "Reading" "params" (by decide +kernel)
    have hA6 := T.noat "Reading" "names" (by decide +kernel)
    have i1 : atI ((("func" : Str) :: g :: ps).map V.str) 1 = some (V.str g) := atI_nat (j := 1) rfl
    have ec : cutV ((("func" : Str) :: g :: ps).map V.str) (some 2) none = ps.map V.str := cut_from _ 2 (by simp)
    have m0 : valV d.heads (.inr g) = none := hs.rel.heads.non kS_inj fs.hd
    have zo : d.owners.length ≤ 1000 := by have := hs.rel.owners.len; unfold RS.sz at hz; omega
    have zh : d.heads.length ≤ 1000 := by have := hs.rel.heads.len; unfold RS.sz at hz; omega
    have zp : d.params.length ≤ 1000 := by have := hs.rel.params.len; unfold RS.sz at hz; omega
    have zn : d.names.length ≤ 1001 := by
      obtain ⟨cls, e1, e2⟩ := hs.nms
      have := e2.len
      have h2 : (nmV nm r.cur).length ≤ 1 := by unfold nmV; split <;> simp
      rw [e1, List.length_append]
      unfold RS.sz at hz; omega
    have hown : d.own = .non := by rw [hs.rel.own, fs.own]; rfl
    refine ⟨_, rfl, wl, _, rfl, .inl (SqL.of hw), _, _, rfl, rfl, _, rfl, ifF (decide_eq_false (by rw [List.length_map]; simp only [List.length_cons]; omega)) ?_⟩
    refine ⟨_, rfl, _, _, _, _, _, rfl, h1.at_ 0, hC, hA1, rfl, rfl, _, rfl, ifF (by rw [hown]; rfl) ?_⟩
    refine ⟨_, rfl, wl, _, 1, _, rfl, rfl, SqL.of hw, i1, _, rfl, _, _, _, _, _, rfl, h1.at_ 0, hC, hA2, rfl, a.heads, _, rfl, DGet.k (k := .inr g) (h1.at_ 7), false, by rw [show valV d.heads (.inr g) = none from m0] <;> rfl, ifF rfl ?_⟩
    refine ⟨_, rfl, 2, rfl, wl, _, rfl, SqL.of hw, fun p np => ?_⟩
    rw [ec]
    have k1 : ExtH H (upd H p (.lst (ps.map V.str))) := extH_put np
    refine ⟨p, ps, rfl, SqL.of upd_same, fs.few, fs.good, fs.nd, fun G k => ⟨true, rfl, ?_⟩⟩
    have k2 := k1.trans k
    have s2 := hs.ext k2
    have r2 := s2.rg
    have w2 := k2 _ _ hw
    -- the second test
    have hdue : g = mainS ∨ (g ≠ mainS ∧ ∃ ss, r.due.lookup g = some ss) := by
      by_cases e : g = mainS
      · exact .inl e
      · rcases fs.ok with h | h
        · exact absurd h e
        · exact .inr ⟨e, h⟩
    have hdd : ∃ o, valV d.due (.inr g) = o ∧ ((o = none ∧ dueS r g = []) ∨ ∃ t, o = some (.ref t) ∧ SqT K H t ((dueS r g).map V.str)) := by
      cases hl : r.due.lookup g with
      | none => exact ⟨_, hs.rel.due.non kS_inj hl, .inl ⟨rfl, by unfold dueS; rw [hl]; rfl⟩⟩
      | some ss =>
        obtain ⟨u, hu, t, rfl, ht⟩ := hs.rel.due.get kS_inj hl
        exact ⟨_, hu, .inr ⟨t, rfl, by unfold dueS; rw [hl]; exact ht⟩⟩
    obtain ⟨o, ho, hot⟩ := hdd
    have shapesT : ∀ {G : Hp} {pt : Addr}, ExtH H G → G pt = some (.tup []) → ∃ t, o.getD (.ref pt) = V.ref t ∧ SqT K G t ((dueS r g).map V.str) := by
      intro G pt e hpt
      rcases hot with ⟨rfl, h⟩ | ⟨t, rfl, h⟩
      · exact ⟨pt, rfl, SqT.of (by rw [h]; exact hpt)⟩
      · exact ⟨t, rfl, sqT_extH e h⟩
    refine ⟨_, rfl, wl, _, 1, _, rfl, rfl, SqL.of w2, i1, rfl, _, rfl, ite_two (fun hc kB => ?_) ?_⟩
    · have hg : g ≠ mainS := fun z => by rw [z] at hc; cases hc
      obtain ⟨_, ss, hss⟩ := hdue.resolve_left hg
      obtain ⟨u, hu, _⟩ := hs.rel.due.get kS_inj hss
      exact ⟨_, rfl, wl, _, 1, _, rfl, rfl, SqL.of w2, i1, _, rfl, _, _, _, _, _, rfl, r2.at_ 0, hC, hA3, rfl, a.due, _, rfl, DGet.k (k := .inr g) (r2.at_ 5), false, by rw [show valV d.due (.inr g) = _ from hu] <;> rfl, ifF rfl kB⟩
    refine ⟨_, rfl, _, _, _, _, _, rfl, r2.at_ 0, hC, hA3, rfl, a.due, rfl, .inl ⟨_, .inl (r2.at_ 5)⟩, _, rfl, wl, _, 1, _, rfl, rfl, SqL.of w2, i1, Nat.zero_le _, fun pt npt => ⟨o, ?_, ?_⟩⟩
    · rw [← ho]
      exact DGet.k (k := .inr g) ((r2.ext (extH_put (o := .tup []) npt)).at_ 5)
    obtain ⟨sh, esh, t3⟩ := shapesT (k2.trans (extH_put (o := .tup []) npt)) upd_same
    rw [esh]
    have k3 := k2.trans (extH_put (o := .tup []) npt)
    have r3 := h1.ext k3
    have w3 := k3 _ _ hw
    generalize upd G pt (.tup []) = G3 at k3 r3 w3 t3 ⊢
    refine ⟨_, rfl, wl, _, rfl, .inl (SqL.of w3), _, _, rfl, rfl, _, rfl, sh, _, rfl, .inr t3, rfl, _, rfl, ifF ?_ ?_⟩
    · rw [Bool.not_eq_false', decide_eq_true_iff]
      refine congrArg V.int ?_
      rw [List.length_map, List.length_map, ← fs.len]
      show ((ps.length + 2 : Nat) : Int) - 2 = (ps.length : Int)
      omega
    refine ⟨_, rfl, wl, _, 1, _, rfl, rfl, SqL.of w3, i1, _, rfl, a.rd, _, _, _, rfl, r3.at_ 0, hC, hA1, own_len, ?_⟩
    rw [put_owner]
    have r4 := r3.up 0 (d' := {d with own := .str g}) (.ins (ga K "Reading") a.dR (rdF a (.str g)))
    have k34 : Kp a G3 (upd G3 a.rd (.ins (ga K "Reading") a.dR (rdF a (.str g)))) := kp_upd rd_mem
    have k4 := (ext_kp (a := a) k3).trans k34
    have t4 := (r3.tx k34).sqT t3
    generalize upd G3 a.rd (.ins (ga K "Reading") a.dR (rdF a (.str g))) = G4 at r4 k4 t4 ⊢
    refine ⟨_, rfl, wl, _, 1, _, rfl, rfl, SqL.of (k4 _ _ hn hw), i1, _, rfl, _, _, _, _, _, rfl, r4.at_ 0, hC, hA4, rfl, _, rfl, _, _, rfl, DPut.k (k := .inl line) (r4.at_ 12) (by rw [sizeLine_eq]; show d.owners.length < _; omega), ?_⟩
    have r5 := r4.up 12 (d' := {d with own := .str g, owners := putK d.owners (.inl line) (.str g)}) (.dK (putK d.owners (.inl line) (.str g)))
    have k45 : Kp a G4 (upd G4 a.owners (.dK (putK d.owners (.inl line) (.str g)))) := kp_upd (List.mem_of_getElem? (i := 12) rfl)
    have k5 := k4.trans k45
    have t5 := (r4.tx k45).sqT t4
    generalize upd G4 a.owners (.dK (putK d.owners (.inl line) (.str g))) = G5 at r5 k5 t5 ⊢
    refine ⟨_, rfl, _, rfl, _, _, _, _, _, rfl, r5.at_ 0, hC, hA2, rfl, _, rfl, wl, _, 1, _, rfl, rfl, SqL.of (k5 _ _ hn hw), i1, _, _, rfl, DPut.k (k := .inr g) (r5.at_ 7) (by rw [sizeLine_eq]; show d.heads.length < _; omega), ?_⟩
    have r6 := r5.up 7 (d' := {d with own := .str g, owners := putK d.owners (.inl line) (.str g), heads := putK d.heads (.inr g) (.int line)}) (.dK (putK d.heads (.inr g) (.int line)))
    have k56 : Kp a G5 (upd G5 a.heads (.dK (putK d.heads (.inr g) (.int line)))) := kp_upd (List.mem_of_getElem? (i := 7) rfl)
    have k6 := k5.trans k56
    have t6 := (r5.tx k56).sqT t5
    generalize upd G5 a.heads (.dK (putK d.heads (.inr g) (.int line))) = G6 at r6 k6 t6 ⊢
    refine ⟨_, rfl, 2, rfl, wl, _, rfl, SqL.of (k6 _ _ hn hw), fun p6 np6 => ⟨p6, _, rfl, .inl ⟨SqL.of upd_same, fun l nl => ?_⟩⟩⟩
    rw [ec] at nl ⊢
    have e7 : ExtH G6 (upd (upd G6 p6 (.lst (ps.map V.str))) l (.tup (ps.map V.str))) := (extH_put np6).trans (extH_put nl)
    have r7 := r6.ext e7
    have k7 := k6.trans (ext_kp e7)
    have t7 := sqT_extH e7 t6
    have tl7 : SqT K (upd (upd G6 p6 (.lst (ps.map V.str))) l (.tup (ps.map V.str))) l (ps.map V.str) := SqT.of upd_same
    generalize upd (upd G6 p6 (.lst (ps.map V.str))) l (.tup (ps.map V.str)) = G7 at r7 k7 t7 tl7 ⊢
    refine ⟨_, rfl, _, _, _, _, _, rfl, r7.at_ 0, hC, hA5, rfl, _, rfl, wl, _, 1, _, rfl, rfl, SqL.of (k7 _ _ hn hw), i1, _, _, rfl, DPut.k (k := .inr g) (r7.at_ 8) (by rw [sizeLine_eq]; show d.params.length < _; omega), ?_⟩
    have r8 := r7.up 8 (d' := {d with own := .str g, owners := putK d.owners (.inl line) (.str g), heads := putK d.heads (.inr g) (.int line), params := putK d.params (.inr g) (.ref l)}) (.dK (putK d.params (.inr g) (.ref l)))
    have k78 : Kp a G7 (upd G7 a.params (.dK (putK d.params (.inr g) (.ref l)))) := kp_upd (List.mem_of_getElem? (i := 8) rfl)
    have k8 := k7.trans k78
    have t8 := (r7.tx k78).sqT t7
    have tl8 := (r7.tx k78).sqT tl7
    generalize upd G7 a.params (.dK (putK d.params (.inr g) (.ref l))) = G8 at r8 k8 t8 tl8 ⊢
    refine ⟨_, rfl, 2, rfl, wl, _, rfl, SqL.of (k8 _ _ hn hw), fun p9 np9 => ?_⟩
    rw [ec]
    have e9 := extH_put (o := .lst (ps.map V.str)) np9
    have l9 : upd G8 p9 (.lst (ps.map V.str)) p9 = some (.lst (ps.map V.str)) := upd_same
    have r9 := r8.ext e9
    have k9 := k8.trans (ext_kp e9)
    have t9 := sqT_extH e9 t8
    have tl9 := sqT_extH e9 tl8
    generalize upd G8 p9 (.lst (ps.map V.str)) = G9 at e9 l9 r9 k9 t9 tl9 ⊢
    refine ⟨_, rfl, p9, sh, _, _, rfl, SqL.of l9, t9, fun D hD => ?_⟩
    have hlen := fs.len
    have hzl : (ps.zip (dueS r g)).length = ps.length := by rw [List.length_zip]; omega
    have hDa : D ∉ ads a := r9.none hD
    have hD0 : H D = none := by
      cases z : H D with
      | none => rfl
      | some o =>
        have z9 := k9 _ _ hDa z
        rw [hD] at z9; cases z9
    refine dc_it (walk_zipM (n := ps.length) (by simp only [List.length_map, hlen, Nat.min_self])) (fun i G => ExtH G9 G ∧ ∃ kvs, G D = some (.dK kvs) ∧ AtK kS isS kvs ((ps.zip (dueS r g)).take i)) ⟨extH_put hD, [], upd_same, .nil⟩ (fun i G _ e => ⟨SqL.of (e.1 _ _ l9), sqT_extH e.1 t9⟩) ?_ ?_
    · rintro i x G G' hi ⟨e, kvs, hd, ht⟩ ⟨t, x, y, rfl, nt, rfl, hx, hy⟩
      have hi2 : i < (dueS r g).length := by omega
      dsimp only at hx hy
      rw [List.getElem?_map, List.getElem?_eq_getElem hi] at hx
      rw [List.getElem?_map, List.getElem?_eq_getElem hi2] at hy
      cases hx
      cases hy
      have e1 : ExtH G9 (upd G t (.tup [.str ps[i], .str (dueS r g)[i]])) := e.trans (extH_put nt)
      have hd1 := extH_put (o := .tup [.str ps[i], .str (dueS r g)[i]]) nt _ _ hd
      refine ⟨t, _, rfl, SqT.of upd_same, rfl, _, _, rfl, _, _, rfl, rfl, rfl, ?_⟩
      have hl : kvs.length < sizeLine := by
        have := ht.len
        rw [List.length_take] at this
        have := fs.few
        rw [sizeLine_eq]
        omega
      refine tyes (ifT rfl ⟨_, rfl, _, rfl, kvs, .inr ps[i], rfl, hd1, hl, extH_upd e1 hD, _, upd_same, ?_⟩)
      rw [take_succ' (x := (ps[i], (dueS r g)[i])) (by rw [List.getElem?_eq_getElem (by omega), List.getElem_zip])]
      exact ht.put kS_inj (zip_take_no hlen fs.nd hi) rfl
    · rintro G10 ⟨e10, kvs, hd, ht⟩
      rw [List.take_of_length_le (by omega)] at ht
      have r10 := r9.ext e10
      have k10 := k9.trans (ext_kp e10)
      have tl10 := sqT_extH e10 tl9
      refine ⟨_, rfl, _, _, _, _, _, rfl, r10.at_ 0, hC, hA6, rfl, _, rfl, wl, _, 1, _, rfl, rfl, SqL.of (k10 _ _ hn hw), i1, _, _, rfl, DPut.k (k := .inr g) (r10.at_ 9) (by rw [sizeLine_eq]; show d.names.length < _; omega), ?_⟩
      have kA : Kp a G10 (upd G10 a.names (.dK (putK d.names (.inr g) (.ref D)))) := kp_upd (List.mem_of_getElem? (i := 9) rfl)
      have k11 := k10.trans kA
      have r11 := r10.up 9 (d' := {d with own := .str g, owners := putK d.owners (.inl line) (.str g), heads := putK d.heads (.inr g) (.int line), params := putK d.params (.inr g) (.ref l), names := putK d.names (.inr g) (.ref D)}) (.dK (putK d.names (.inr g) (.ref D)))
      have tl11 := (r10.tx kA).sqT tl10
      have d11 := kA _ _ hDa hd
      generalize upd G10 a.names (.dK (putK d.names (.inr g) (.ref D))) = G11 at k11 r11 tl11 d11 ⊢
      have tx := h1.tx k11
      have rel := hs.rel.tx tx
      refine q G11 D (kp_kq k11) hD0 ⟨_, kvs, r11, ?_, ⟨ht, fun m hm => by cases hm; exact ⟨d11, hDa⟩⟩, ?_, fun f hf => ?_⟩
      · exact { rel with own := rfl, heads := rel.heads.put kS_inj (k := g) (u := .int line) (v := line) fs.hd rfl, params := rel.params.put kS_inj (k := g) (u := .ref l) (v := ps) fs.pm ⟨l, rfl, tl11⟩, owners := rel.owners.put kI_inj (k := line) (u := .str g) (v := g) hli rfl }
      · have olds : AtK kS (clD a (some D) G11) d.names nms := by
          obtain ⟨cls, e1, e2⟩ := hs.nms
          have up : ∀ v l, clD a nm H v l → clD a (some D) G11 v l := fun v l ⟨m, kv, c1, c2, c3, c4, c5⟩ => ⟨m, kv, c1, k11 _ _ c4 c2, c3, c4, fun z => by
            cases z
            rw [hD0] at c2; cases c2⟩
          have e3 := e2.imp up
          rcases fs.old with ⟨hb, rfl⟩ | ⟨hb, f, hf, rfl⟩
          · cases nm with
            | some _ => cases hb
            | none =>
            rw [e1]
            show AtK _ _ (cls ++ nmV none r.cur) _
            unfold nmV
            rw [List.append_nil]
            exact e3
          · cases nm with
            | none => cases hb
            | some n =>
            obtain ⟨n1, n2⟩ := hs.kn.at_ n rfl
            rw [e1, hf]
            exact Paired.snoc e3 ⟨rfl, n, kn, rfl, k11 _ _ n2 n1, hs.kn.knd, n2, fun z => by
              cases z
              rw [hD0] at n1; cases n1⟩
        refine ⟨d.names, ?_, olds⟩
        show putK d.names (.inr g) (.ref D) = _
        rw [show putK d.names (.inr g) (.ref D) = d.names ++ [((.inr g : Key), V.ref D)] from putK_new (olds.non kS_inj fs.new)]
        rfl
      · cases hf
        exact ⟨rfl, fs.new⟩
end
end R9H
set_option Elab.async false
set_option linter.all false
set_option maxRecDepth 100000
set_option maxHeartbeats 4000000
/-! k24, part V: read_line -/
namespace R9H
open PySem PySem.Spec PyProof.Rows L2
theorem dpAll_strs {K : PySem.W.Frag} {H : Hp} : ∀ ws : List Str, DpAll K H (ws.map V.str) (ws.map PyData.str)
  | [] => .nil
  | w :: ws => .cons (.str w) (dpAll_strs ws)
theorem depth_strs : ∀ ws : List Str, PyData.depthAll (ws.map PyData.str) = 0
  | [] => by simp [PyData.depthAll]
  | w :: ws => by simp [PyData.depthAll, PyData.depth, depth_strs ws]
theorem lay_strs : ∀ ws : List Str, (∀ w ∈ ws, PyData.strOk w = true) → PyData.canLayAll0 (ws.map PyData.str) = true
  | [], _ => by simp [PyData.canLayAll0]
  | w :: ws, h => by
    simp only [List.map_cons, PyData.canLayAll0, PyData.canLay0, Bool.and_eq_true]
    exact ⟨h w List.mem_cons_self, lay_strs ws fun v hv => h v (List.mem_cons_of_mem _ hv)⟩
theorem shaped_strs {ws : List Str} (h : ∀ w ∈ ws, PyData.strOk w = true) : SeqAt.shaped (.list (ws.map PyData.str)) = true := by
  unfold SeqAt.shaped
  rw [Bool.and_eq_true]
  refine ⟨by simp only [PyData.canLay0]; exact lay_strs ws h, decide_eq_true ?_⟩
  simp only [PyData.depth, depth_strs]
  decide
theorem eqv_end : ∀ ws : List Str, PyData.eqv (.list (ws.map PyData.str)) (.list [.str "end"]) = decide (ws = ([("end" : Str)]))
  | [] => by simp [PyData.eqv, PyData.eqvAll]
  | [w] => by
    by_cases e : w = "end"
    · simp [PyData.eqv, PyData.eqvAll, e]
    · have : (w == ("end" : Str)) = false := by simpa using e
      simp [PyData.eqv, PyData.eqvAll, e, this]
  | w :: v :: ws => by simp [PyData.eqv, PyData.eqvAll]
def lin (r : RS) (i : Int) (kw : Str) (ws : List Str) : RS := {r with kinds := r.kinds ++ [(i, kw)], rows := r.rows ++ [(i, kw :: ws)]}
def lin2 (r : RS) (i : Int) (kw : Str) (ws : List Str) : RS := {lin r i kw ws with owners := r.owners ++ [(i, r.fnm)]}
structure Fresh (r : RS) (i : Int) : Prop where
  kinds : r.kinds.lookup i = none
  rows : r.rows.lookup i = none
  owners : r.owners.lookup i = none
  rooms_of : r.rooms_of.lookup i = none
/-- a line within main -/
inductive InnS (r : RS) (i : Int) (kw : Str) (ws : List Str) : RS → Prop
  | last {r1} : InsS (lin2 r i kw ws) i kw ws r1 → kw :: ws = [("end" : Str)] → r.blocks = [] → InnS r i kw ws r1
  | room {r1 f} : InsS (lin2 r i kw ws) i kw ws r1 → r.hd.lookup r.fnm = some f → kw = "room" → InnS r i kw ws {r1 with rooms_of := r.rooms_of ++ [(i, i :: aroundS (lin2 r i kw ws) f)]}
  | other {r1 f} : InsS (lin2 r i kw ws) i kw ws r1 → r.hd.lookup r.fnm = some f → (kw :: ws ≠ [("end" : Str)] ∨ r.blocks ≠ []) → kw ≠ "room" → InnS r i kw ws {r1 with rooms_of := r.rooms_of ++ [(i, aroundS (lin2 r i kw ws) f)]}
def sp_read_line (K : PySem.W.Frag) : Sp := fun vs H Q _ => ∃ (a : RA) (nm : Option Addr) (r : RS) (wl : Addr) (i : Int) (kw : Str) (ws : List Str), vs = [.ref a.rd, .ref wl, .int i] ∧ H wl = some (.lst ((kw :: ws).map V.str)) ∧ wl ∉ ads a ∧ nm ≠ some wl ∧ RsAt K a nm r H ∧ r.sz ≤ 900 ∧ Fresh r i ∧
  (∀ w ∈ kw :: ws, PyData.strOk w = true) ∧
  ((nm = none ∧ kw = "shape" ∧ ∃ (x : Str) (ps : List (Str × Str)) (prs : Tab), ws = x :: flat2 ps ∧ r.hd = [] ∧ goodName x ∧ r.tab.lookup x = none ∧ r.f.lookup x = none ∧ r.f.length ≤ 100 ∧ r.tab.length < 8 ∧ ps.length ≤ 4 ∧ (∀ p ∈ ps, goodName p.1) ∧ (ps.map (·.1)).Nodup ∧ Parts r.tab ps prs ∧ (∀ p ∈ prs, p.2.length ≤ 1000 ∧ ∀ y ∈ p.2, y.length ≤ 1000) ∧
      (∀ steps, steps.Perm (prs.map (·.1)) → (thr prs steps).length ≤ 16) ∧ ∀ H' steps, Kq a none H H' → steps.Perm (prs.map (·.1)) → sortedS steps = true → RsAt K a none {lin r i kw ws with tab := r.tab ++ [(x, thr prs steps)], f := r.f ++ [(x, ps)]} H' → Q (.bl true) H') ∨
   (nm = none ∧ kw = "bag" ∧ ∃ (x y : Str) (wys : List (List Str)), ws = [x, y] ∧ r.hd = [] ∧ goodName x ∧ r.tab.lookup x = none ∧ r.c.lookup x = none ∧ r.c.length ≤ 100 ∧ r.tab.length < 8 ∧ r.tab.lookup y = some wys ∧ (wys.length ≤ 15 ∧ ∀ y ∈ wys, y.length ≤ 1000) ∧
      ∀ H', Kq a none H H' → RsAt K a none {lin r i kw ws with tab := r.tab ++ [(x, thr [("*", wys)] ["*"])], c := r.c ++ [(x, y)]} H' → Q (.bl true) H') ∨
   (nm = none ∧ kw = "head" ∧ ∃ (g s : Str) (ps : List Str), ws = g :: (ps ++ [("gives" : Str), s]) ∧ r.hd = [] ∧ goodName g ∧ g ≠ "main" ∧ r.due.lookup g = none ∧ r.gives.lookup g = none ∧ ("gives" : Str) ∉ ps ∧ ps.length ≤ 4 ∧ (∀ x ∈ ps ++ [s], ∃ wy, r.tab.lookup x = some wy) ∧ r.due.length < 6 ∧
      ∀ H', Kq a none H H' → RsAt K a none {lin r i kw ws with due := r.due ++ [(g, ps)], gives := r.gives ++ [(g, some s)]} H' → Q (.bl true) H') ∨
   (kw = "func" ∧ ∃ (g : Str) (ps : List Str) (nms : List (Str × List (Str × Str))), ws = g :: ps ∧ FunS nm.isSome r g ps nms ∧ ∀ H' n, Kq a nm H H' → H n = none → RsAt K a (some n) (beg (lin r i kw ws) i g ps nms) H' → Q (.bl true) H') ∨
   (∃ n r', nm = some n ∧ r.own = some r.fnm ∧ (∀ b ∈ r.blocks, ∃ k, r.kinds.lookup b = some k) ∧ (∃ f, r.hd.lookup r.fnm = some f) ∧ InnS r i kw ws r' ∧ ∀ H', Kq a (some n) H H' → RsAt K a (some n) r' H' → Q (.bl true) H'))
theorem val_ro {r r' : RS} {kw : Str} {ws : List Str} (h : Val r kw ws r') : r'.rooms_of = r.rooms_of := by
  have g : ∀ {x s r1}, Give r x s r1 → r1.rooms_of = r.rooms_of := fun h => by rcases h.2 with ⟨_, rfl⟩ | ⟨_, _, rfl⟩ <;> rfl
  cases h with
  | use _ => rfl
  | non _ h => exact g h
  | let_ _ h => exact g h
  | some_ _ _ h => exact g h
theorem ins_ro {r r' : RS} {i : Int} {kw : Str} {ws : List Str} (h : InsS r i kw ws r') : r'.rooms_of = r.rooms_of := by
  have g : ∀ {x s r1}, Give r x s r1 → r1.rooms_of = r.rooms_of := fun h => by rcases h.2 with ⟨_, rfl⟩ | ⟨_, _, rfl⟩ <;> rfl
  cases h with
  | @new _ _ _ _ _ r1 _ _ _ _ h _ => show r1.rooms_of = _; exact g h
  | @with_ _ _ _ _ _ r1 _ _ _ h _ => show r1.rooms_of = _; exact g h
  | val h => exact val_ro h
  | bare h =>
    cases h with
    | end_ h => cases h <;> rfl
    | block _ h => cases h <;> rfl
    | or_ _ _ _ _ _ => rfl
    | back => rfl
    | stop => rfl
  | call h =>
    cases h with
    | @call _ _ _ _ _ r1 _ _ _ h _ _ => show r1.rooms_of = _; exact g h
    | do_ _ _ _ _ => rfl
  | give _ _ => rfl
theorem ins_kw {r r' : RS} {i : Int} {kw : Str} {ws : List Str} (h : InsS r i kw ws r') : kw ∈ ([("new" : Str), "with", "use", "none", "let", "some", "end", "room", "loop", "ever", "either", "back", "stop", "or", "call", "do", "give"]) := by
  cases h with
  | new _ _ _ _ _ _ => decide
  | with_ _ _ _ _ _ => decide
  | val h => rcases val_kw h with rfl | rfl | rfl | rfl <;> decide
  | bare h =>
    cases h with
    | end_ h => decide
    | block _ h => cases h <;> decide
    | or_ _ _ _ _ _ => decide
    | back => decide
    | stop => decide
  | call h =>
    cases h with
    | call _ _ _ _ _ _ => decide
    | do_ _ _ _ _ => decide
  | give _ _ => decide
section
variable {w : World} {K : PySem.W.Frag} {mg : Str → Option Value} {base : Heap}
theorem Rs.txq {a : RA} {nm : Option Addr} {d : RD} {kn : List (Key × V)} {r : RS} {H G : Hp} (h : Rs K a nm d kn r H) (k : Kq a nm H G) : Tx H G := by
  have nl : ∀ l o, H l = some o → soft o = false → H l = G l := fun l o e hs => by
    rw [e]
    refine (k l o (fun hm => ?_) (fun z => ?_) e).symm
    · obtain ⟨o', e', hs2⟩ := ads_soft h hm
      rw [e] at e'
      cases e'
      rw [hs] at hs2; cases hs2
    · have := (h.kn.at_ l z).1
      rw [e] at this
      cases this
      cases hs
  intro l xs rd
  rcases rd with rd | ⟨u, rd⟩
  · exact .inl ((nl _ _ rd rfl) ▸ rd)
  · exact .inr ⟨u, (nl _ _ rd rfl) ▸ rd⟩
theorem RsAt.txq {a : RA} {nm : Option Addr} {r : RS} {H G : Hp} (h : RsAt K a nm r H) (k : Kq a nm H G) : Tx H G := let ⟨_, _, h⟩ := h; h.txq k
theorem ok_declare_shape (T : T6 K mg) : Has w K mg base 3 "declare_shape" ["shapes", "words"] (spShape K) := ok_shape T
theorem ok_declare_bag (T : T6 K mg) : Has w K mg base 3 "declare_bag" ["shapes", "words"] (spBag K) := ok_bag T
abbrev st_read_line : Stmt := top 79
theorem sc_read_line : FnScope ["reading", "words", "line", "around", "last", "right"] ["reading", "words", "line"] (defScope st_read_line) := ⟨rfl, rfl, rfl, by decide +kernel, rfl, by decide +kernel, by decide +kernel⟩
theorem ok_read_line (T : T6 K mg) : Has w K mg base 5 "read_line" ["reading", "words", "line"] (sp_read_line K) := by
  obtain ⟨fd, F⟩ := T.fn 57
  have H_read_func := ok_read_func (w := w) (base := base) T
  have H_read_head := ok_read_head (w := w) (base := base) T
  have H_declare_shape := ok_declare_shape (w := w) (base := base) T
  have H_declare_bag := ok_declare_bag (w := w) (base := base) T
  have H_rooms_around := ok_rooms_around (w := w) (base := base) T
  have H_read_inside := ok_read_inside (w := w) (base := base) T
  have gf_tuple := T.free "tuple" (by decide +kernel)
  refine has_of (st := st_read_line) T F (by decide +kernel) (F.ok sc_read_line (fun vs H Q E h => ?_) (fun cdv A outer s H vs Q E hr h => ⟨_, PSs.nox (
    (pss_cons (ps_dput hr.u1 (pe_fld (pv 0) rfl) (pv 2) (pe_ix ix_list (pv 1) pe_int (fun _ _ => rfl)) rfl)
    (pss_cons (ps_dput hr.u1 (pe_fld (pv 0) rfl) (pv 2) (pe_callTy call_tuple_of rfl gf_tuple PyProof.Rows.boot_tuple (pa_cons (pv 1) pa_nil)) rfl)
    (pss_cons (ps_if (pt_cmpR op_eq (pe_ix ix_list (pv 1) pe_int (fun _ _ => rfl)) pe_str (nomark _))
      (pss_one (ps_ret (pe_has H_read_func rfl (hr.mono (by decide)) rfl (pa_cons (pv 0) (pa_cons (pv 1) (pa_cons (pv 2) pa_nil))))))
      pss_nil)
    (pss_cons (ps_if (pt_cmpR op_in_seq (pe_ix ix_list (pv 1) pe_int (fun _ _ => rfl)) (pe_tup (pa_cons pe_str (pa_cons pe_str (pa_cons pe_str pa_nil)))) rfl)
      (pss_cons (ps_if (pt_cmpR (op_ne_dictA hr.units0) (pe_fld (pv 0) rfl) pe_dnewK (nomark _))
        (pss_one (ps_ret pe_bl))
        pss_nil)
      (pss_cons (ps_if (pt_cmpR op_eq (pe_ix ix_list (pv 1) pe_int (fun _ _ => rfl)) pe_str (nomark _))
        (pss_one (ps_ret (pe_has H_read_head rfl (hr.mono (by decide)) rfl (pa_cons (pv 0) (pa_cons (pv 1) pa_nil)))))
        pss_nil)
      (pss_one (ps_ret (pe_ifExp (pt_cmpR op_eq (pe_ix ix_list (pv 1) pe_int (fun _ _ => rfl)) pe_str (nomark _)) (pe_has H_declare_shape rfl (hr.mono (by decide)) rfl (pa_cons (pe_fld (pv 0) rfl) (pa_cons (pv 1) pa_nil))) (pe_has H_declare_bag rfl (hr.mono (by decide)) rfl (pa_cons (pe_fld (pv 0) rfl) (pa_cons (pv 1) pa_nil))))))))
      pss_nil)
    (pss_cons (ps_if (pt_cmpR op_isN (pe_fld (pv 0) rfl) pe_non rfl)
      (pss_one (ps_ret pe_bl))
      pss_nil)
    (pss_cons (ps_dput hr.u1 (pe_fld (pv 0) rfl) (pv 2) (pe_fld (pv 0) rfl) rfl)
    (pss_cons (ps_set (i := 3) sc_read_line.nd rfl (Or.inl rfl) (pe_has H_rooms_around rfl (hr.mono (by decide)) rfl (pa_cons (pv 0) pa_nil)))
    (pss_cons (ps_set (i := 4) sc_read_line.nd rfl (Or.inl rfl) (pe_and (pe_cmpR (op_eqD hr.units) (pv 1) (pe_lst (pa_cons pe_str pa_nil)) (nomark _)) (pe_one (pe_cmpR (op_eqD hr.units) (pe_fld (pv 0) rfl) (pe_lst pa_nil) (nomark _)))))
    (pss_cons (ps_set (i := 5) sc_read_line.nd rfl (Or.inl rfl) (pe_has H_read_inside rfl (hr.mono (by decide)) rfl (pa_cons (pv 0) (pa_cons (pv 1) (pa_cons (pv 2) pa_nil)))))
    (pss_cons (ps_if (PW.pt (pw_and (pt_val (pv 5)) (pw_and1 (pt_not (pt_val (pv 4))))))
      (pss_one (ps_dput hr.u1 (pe_fld (pv 0) rfl) (pv 2) (pe_ifExp (pt_cmpR op_eq (pe_ix ix_list (pv 1) pe_int (fun _ _ => rfl)) pe_str (nomark _)) (pe_tup (pa_cons (pv 2) (StX.pa_star (pv 3) pa_nil))) (pv 3)) rfl))
      pss_nil)
    (pss_one (ps_ret (pv 5)))))))))))))), ?_⟩)) fun _ _ _ _ _ _ us hl => match us, hl with | [_, _, _], _ => rfl
  · obtain ⟨a, nm, r, wl, i, kw, ws, rfl, _⟩ := h
    rfl
  · obtain ⟨a, nm, r, wl, i, kw, ws, rfl, hw, hn, hnm, ⟨d, kn, hs⟩, hz, hfr, hok, h⟩ := h
    clear F
    have hC := T.cls "Reading" (by decide +kernel)
    have hA1 := T.noat "Reading" "kinds" (by decide +kernel)
    have hA2 := T.noat "Reading" "rows" (by decide +kernel)
    have hA3 := T.noat "Reading" "heads" (by decide +kernel)
    have hA4 := T.noat "Reading" "shapes" (by decide +kernel)
    have hA5 := T.noat "Reading" "owner" (by decide +kernel)
    have hA6 := T.noat "Reading" "owners" (by decide +kernel)
    have hA7 := T.noat "Reading" "blocks" (by decide +kernel)
    have hA8 := T.noat "Reading" "rooms_of" (by decide +kernel)
    have zk : r.kinds.length ≤ 900 := by unfold RS.sz at hz; omega
    have zr : r.rows.length ≤ 900 := by unfold RS.sz at hz; omega
    have zo : r.owners.length ≤ 900 := by unfold RS.sz at hz; omega
    have zm : r.rooms_of.length ≤ 900 := by unfold RS.sz at hz; omega
    have lk := hs.rel.kinds.len
    have lr := hs.rel.rows.len
    have i0 : atI ((kw :: ws).map V.str) 0 = some (V.str kw) := atI_nat (j := 0) rfl
    refine ⟨_, rfl, wl, _, 0, _, rfl, rfl, SqL.of hw, i0, _, rfl, _, _, _, _, _, rfl, hs.at_ 0, hC, hA1, rfl, _, rfl, _, _, rfl, DPut.k (k := .inl i) (hs.at_ 10) (by rw [sizeLine_eq]; omega), ?_⟩
    obtain ⟨s1, k1, _⟩ := hs.up 10 (.dK (putK d.kinds (.inl i) (.str kw))) {d with kinds := putK d.kinds (.inl i) (.str kw)} {r with kinds := r.kinds ++ [(i, kw)]} (fun G _ h => { h with kinds := h.kinds.put kI_inj (k := i) (u := .str kw) (v := kw) hfr.kinds rfl }) rfl
    have w1 := k1 _ _ hn hnm hw
    generalize upd H a.kinds (.dK (putK d.kinds (.inl i) (.str kw))) = G1 at s1 k1 w1 ⊢
    refine ⟨_, rfl, wl, _, rfl, .inl ⟨SqL.of w1, fun l nl => ?_⟩⟩
    have e2 := extH_put (o := .tup ((kw :: ws).map V.str)) nl
    have l2 : upd G1 l (.tup ((kw :: ws).map V.str)) l = some (.tup ((kw :: ws).map V.str)) := upd_same
    generalize upd G1 l (.tup ((kw :: ws).map V.str)) = G2 at e2 l2 ⊢
    have s2 := s1.ext e2
    refine ⟨_, rfl, _, _, _, _, _, rfl, s2.at_ 0, hC, hA2, rfl, _, rfl, _, _, rfl, DPut.k (k := .inl i) (s2.at_ 11) (by rw [sizeLine_eq]; show d.rows.length < _; omega), ?_⟩
    obtain ⟨s3, k3, _⟩ := s2.up 11 (.dK (putK d.rows (.inl i) (.ref l))) {d with kinds := putK d.kinds (.inl i) (.str kw), rows := putK d.rows (.inl i) (.ref l)} (lin r i kw ws) (fun G tx h => { h with rows := h.rows.put kI_inj (k := i) (u := .ref l) (v := kw :: ws) hfr.rows ⟨l, rfl, tx.sqT (SqT.of l2)⟩ }) rfl
    have kk : Kq a nm H (upd G2 a.rows (.dK (putK d.rows (.inl i) (.ref l)))) := k1.trans ((ext_kq e2).trans k3)
    generalize upd G2 a.rows (.dK (putK d.rows (.inl i) (.ref l))) = G3 at s3 kk ⊢
    have w3 := kk _ _ hn hnm hw
    rcases h with ⟨rfl, rfl, x, ps, prs, rfl, c0, c1, c2, c2f, cl, c3, c4, c5, c6, c7, c8, c9, q⟩ | ⟨rfl, rfl, x, y, wys, rfl, c0, c1, c2, c2f, cl, c3, c4, c5, q⟩ | ⟨rfl, rfl, g, sp, ps, rfl, c0, c1, c2, c3, c4, c5, c6, c7, c8, q⟩ | ⟨rfl, g, ps, nms, rfl, fs, q⟩ | ⟨n, r', rfl, ho, hbk, ⟨f, hf⟩, hi, q⟩
    · have hh : d.heads = [] := by have := s3.rel.heads.len; rw [show (lin r i "shape" (x :: flat2 ps)).hd = [] from c0] at this; exact List.length_eq_zero_iff.mp this
      refine ⟨_, rfl, wl, _, 0, _, rfl, rfl, SqL.of w3, i0, rfl, _, rfl, ifF rfl ?_⟩
      refine ⟨_, rfl, wl, _, 0, _, rfl, rfl, SqL.of w3, i0, by decide, fun p np => ⟨p, _, rfl, .inr (SqT.of upd_same), rfl, by decide, _, rfl, ifT (by decide) ?_⟩⟩
      have e4 := extH_put (o := .tup [.str "shape", .str "bag", .str "head"]) np
      have s4 := s3.ext e4
      have k4 := kk.trans (ext_kq e4)
      have w4 := e4 _ _ w3
      generalize upd G3 p (.tup [.str "shape", .str "bag", .str "head"]) = G4 at s4 w4 k4 ⊢
      refine ⟨_, rfl, _, _, _, _, _, rfl, s4.at_ 0, hC, hA3, rfl, fun b nb => ?_⟩
      have e5 := extH_put (o := .dK []) nb
      have s5 := s4.ext e5
      have w5 := e5 _ _ w4
      have k5 := k4.trans (ext_kq e5)
      have b5 : upd G4 b (.dK []) b = some (.dK []) := upd_same
      have h5 : upd G4 b (.dK []) a.heads = some (.dK []) := by have := s5.at_ 7; rw [show (RD.heads _) = [] from hh] at this; exact this
      generalize upd G4 b (.dK []) = G5 at s5 w5 k5 b5 h5 ⊢
      refine ⟨a.heads, b, [], [], rfl, rfl, h5, b5, rfl, (fun _ h => by cases h), _, rfl, ifF rfl ?_⟩
      refine ⟨_, rfl, wl, _, 0, _, rfl, rfl, SqL.of w5, i0, rfl, _, rfl, ifF rfl ?_⟩
      refine ⟨_, rfl, wl, _, 0, _, rfl, rfl, SqL.of w5, i0, rfl, _, rfl, ifT rfl ?_⟩
      have hfr2 : a.f ≠ a.r := fun e => by have := nodup_get s5.rg.nd (i := 2) (j := 4) (a := a.f) rfl (by rw [e]; rfl); cases this
      refine ⟨_, rfl, _, _, _, _, _, rfl, s5.at_ 0, hC, hA4, rfl, _, rfl, a.sh, wl, a.dS, a.f, a.c, a.r, _, _, r.tab, prs, x, ps, rfl, s5.at_ 1, s5.at_ 2, s5.at_ 4, hfr2, s5.rel.tab, w5, c1, c2, c3, ?_, c4, c5, c6, c7, c8, c9, ?_⟩
      · have := s5.rel.f.len
        have this : d.f.length = r.f.length := this
        show d.f.length ≤ 100
        omega
      rintro H' ⟨G6, fv, v, steps, e6, hfv, rfl, hperm, hsort, hwy⟩
      have s6 := s5.ext e6
      obtain ⟨s7, k7, t7⟩ := s6.up 2 (.dK (putK d.f (.inr x) fv)) {d with kinds := putK d.kinds (.inl i) (.str "shape"), rows := putK d.rows (.inl i) (.ref l), f := putK d.f (.inr x) fv} {lin r i "shape" (x :: flat2 ps) with f := r.f ++ [(x, ps)]} (fun G tx h => { h with f := h.f.put kS_inj (k := x) (u := fv) (v := ps) c2f (hfv.tx tx) }) rfl
      obtain ⟨s8, k8, _⟩ := s7.up 4 (.dK (putK d.r (.inr x) v)) {d with kinds := putK d.kinds (.inl i) (.str "shape"), rows := putK d.rows (.inl i) (.ref l), f := putK d.f (.inr x) fv, r := putK d.r (.inr x) v} {lin r i "shape" (x :: flat2 ps) with f := r.f ++ [(x, ps)], tab := r.tab ++ [(x, thr prs steps)]} (fun G tx h => { h with tab := h.tab.put kS_inj (k := x) (u := v) (v := thr prs steps) c2 ((hwy.tx t7).tx tx) }) rfl
      exact q _ steps (k5.trans ((ext_kq e6).trans (k7.trans k8))) hperm hsort ⟨_, _, s8⟩
    · have hh : d.heads = [] := by have := s3.rel.heads.len; rw [show (lin r i "bag" [x, y]).hd = [] from c0] at this; exact List.length_eq_zero_iff.mp this
      refine ⟨_, rfl, wl, _, 0, _, rfl, rfl, SqL.of w3, i0, rfl, _, rfl, ifF rfl ?_⟩
      refine ⟨_, rfl, wl, _, 0, _, rfl, rfl, SqL.of w3, i0, by decide, fun p np => ⟨p, _, rfl, .inr (SqT.of upd_same), rfl, by decide, _, rfl, ifT (by decide) ?_⟩⟩
      have e4 := extH_put (o := .tup [.str "shape", .str "bag", .str "head"]) np
      have s4 := s3.ext e4
      have k4 := kk.trans (ext_kq e4)
      have w4 := e4 _ _ w3
      generalize upd G3 p (.tup [.str "shape", .str "bag", .str "head"]) = G4 at s4 w4 k4 ⊢
      refine ⟨_, rfl, _, _, _, _, _, rfl, s4.at_ 0, hC, hA3, rfl, fun b nb => ?_⟩
      have e5 := extH_put (o := .dK []) nb
      have s5 := s4.ext e5
      have w5 := e5 _ _ w4
      have k5 := k4.trans (ext_kq e5)
      have b5 : upd G4 b (.dK []) b = some (.dK []) := upd_same
      have h5 : upd G4 b (.dK []) a.heads = some (.dK []) := by have := s5.at_ 7; rw [show (RD.heads _) = [] from hh] at this; exact this
      generalize upd G4 b (.dK []) = G5 at s5 w5 k5 b5 h5 ⊢
      refine ⟨a.heads, b, [], [], rfl, rfl, h5, b5, rfl, (fun _ h => by cases h), _, rfl, ifF rfl ?_⟩
      refine ⟨_, rfl, wl, _, 0, _, rfl, rfl, SqL.of w5, i0, rfl, _, rfl, ifF rfl ?_⟩
      refine ⟨_, rfl, wl, _, 0, _, rfl, rfl, SqL.of w5, i0, rfl, _, rfl, ifF rfl ?_⟩
      have hcr : a.c ≠ a.r := fun e => by have := nodup_get s5.rg.nd (i := 3) (j := 4) (a := a.c) rfl (by rw [e]; rfl); cases this
      refine ⟨_, rfl, _, _, _, _, _, rfl, s5.at_ 0, hC, hA4, rfl, _, rfl, a.sh, wl, a.dS, a.f, a.c, a.r, _, _, r.tab, x, y, wys, rfl, s5.at_ 1, s5.at_ 3, s5.at_ 4, hcr, s5.rel.tab, w5, c1, c2, c3, ?_, c4, c5, ?_⟩
      · have := s5.rel.c.len
        have this : d.c.length = r.c.length := this
        show d.c.length ≤ 100
        omega
      rintro H' ⟨G6, fv, v, steps, e6, rfl, rfl, hperm, hsort, hwy⟩
      have hst : steps = [("*" : Str)] := List.perm_singleton.mp hperm
      subst hst
      have s6 := s5.ext e6
      obtain ⟨s7, k7, t7⟩ := s6.up 3 (.dK (putK d.c (.inr x) (.str y))) {d with kinds := putK d.kinds (.inl i) (.str "bag"), rows := putK d.rows (.inl i) (.ref l), c := putK d.c (.inr x) (.str y)} {lin r i "bag" [x, y] with c := r.c ++ [(x, y)]} (fun G tx h => { h with c := h.c.put kS_inj (k := x) (u := .str y) (v := y) c2f rfl }) rfl
      obtain ⟨s8, k8, _⟩ := s7.up 4 (.dK (putK d.r (.inr x) v)) {d with kinds := putK d.kinds (.inl i) (.str "bag"), rows := putK d.rows (.inl i) (.ref l), c := putK d.c (.inr x) (.str y), r := putK d.r (.inr x) v} {lin r i "bag" [x, y] with c := r.c ++ [(x, y)], tab := r.tab ++ [(x, thr [("*", wys)] ["*"])]} (fun G tx h => { h with tab := h.tab.put kS_inj (k := x) (u := v) (v := thr [("*", wys)] ["*"]) c2 ((hwy.tx t7).tx tx) }) rfl
      exact q _ (k5.trans ((ext_kq e6).trans (k7.trans k8))) ⟨_, _, s8⟩
    · have hh : d.heads = [] := by have := s3.rel.heads.len; rw [show (lin r i "head" (g :: (ps ++ [("gives" : Str), sp]))).hd = [] from c0] at this; exact List.length_eq_zero_iff.mp this
      refine ⟨_, rfl, wl, _, 0, _, rfl, rfl, SqL.of w3, i0, rfl, _, rfl, ifF rfl ?_⟩
      refine ⟨_, rfl, wl, _, 0, _, rfl, rfl, SqL.of w3, i0, by decide, fun p np => ⟨p, _, rfl, .inr (SqT.of upd_same), rfl, by decide, _, rfl, ifT (by decide) ?_⟩⟩
      have e4 := extH_put (o := .tup [.str "shape", .str "bag", .str "head"]) np
      have s4 := s3.ext e4
      have k4 := kk.trans (ext_kq e4)
      have w4 := e4 _ _ w3
      generalize upd G3 p (.tup [.str "shape", .str "bag", .str "head"]) = G4 at s4 w4 k4 ⊢
      refine ⟨_, rfl, _, _, _, _, _, rfl, s4.at_ 0, hC, hA3, rfl, fun b nb => ?_⟩
      have e5 := extH_put (o := .dK []) nb
      have s5 := s4.ext e5
      have w5 := e5 _ _ w4
      have k5 := k4.trans (ext_kq e5)
      have b5 : upd G4 b (.dK []) b = some (.dK []) := upd_same
      have h5 : upd G4 b (.dK []) a.heads = some (.dK []) := by have := s5.at_ 7; rw [show (RD.heads _) = [] from hh] at this; exact this
      generalize upd G4 b (.dK []) = G5 at s5 w5 k5 b5 h5 ⊢
      refine ⟨a.heads, b, [], [], rfl, rfl, h5, b5, rfl, (fun _ h => by cases h), _, rfl, ifF rfl ?_⟩
      refine ⟨_, rfl, wl, _, 0, _, rfl, rfl, SqL.of w5, i0, rfl, _, rfl, ifT rfl ?_⟩
      refine ⟨_, rfl, _, rfl, a, none, lin r i "head" (g :: (ps ++ [("gives" : Str), sp])), wl, g, sp, ps, rfl, w5, ⟨_, _, s5⟩, hn, c1, c2, c3, c4, c5, c6, c7, c8, ?_, fun H' k h' => q H' (k5.trans k) h'⟩
      unfold RS.sz at hz ⊢
      simp only [lin, List.length_append, List.length_singleton]
      omega
    · refine ⟨_, rfl, wl, _, 0, _, rfl, rfl, SqL.of w3, i0, rfl, _, rfl, ifT rfl ?_⟩
      have s3' : RsAt K a nm (lin r i "func" (g :: ps)) G3 := ⟨_, _, s3⟩
      refine ⟨_, rfl, _, rfl, _, rfl, a, nm, lin r i "func" (g :: ps), wl, i, g, ps, nms, rfl, w3, hn, s3', ⟨fs.own, fs.hd, fs.pm, fs.ok, fs.good, fs.nd, fs.len, fs.few, fs.old, fs.new⟩, hfr.owners, ?_, fun H' n k hn0 h' => ?_⟩
      · unfold RS.sz at hz ⊢
        simp only [lin, List.length_append, List.length_singleton]
        omega
      · refine q H' n (kk.trans k) ?_ h'
        cases z : H n with
        | none => rfl
        | some o =>
          exfalso
          by_cases hx : n ∈ ads a
          · obtain ⟨o', h2, _⟩ := ads_soft s3 hx
            rw [hn0] at h2; cases h2
          · by_cases hx2 : nm = some n
            · have := (s3.kn.at_ n hx2).1
              rw [hn0] at this; cases this
            · have := kk n o hx hx2 z
              rw [hn0] at this; cases this
    · have hkw : kw ∈ ([("new" : Str), "with", "use", "none", "let", "some", "end", "room", "loop", "ever", "either", "back", "stop", "or", "call", "do", "give"]) := by
        cases hi with
        | last h _ _ => exact ins_kw h
        | room h _ _ => exact ins_kw h
        | other h _ _ _ => exact ins_kw h
      have c1 : decide (V.str kw = V.str "func") = false := decide_eq_false fun z => by injection z with z; rw [z] at hkw; exact absurd hkw (by decide)
      have c2 : inV (V.str kw) [V.str "shape", V.str "bag", V.str "head"] = false := by
        have h1 : kw ≠ "shape" := fun z => by rw [z] at hkw; exact absurd hkw (by decide)
        have h2 : kw ≠ "bag" := fun z => by rw [z] at hkw; exact absurd hkw (by decide)
        have h3 : kw ≠ "head" := fun z => by rw [z] at hkw; exact absurd hkw (by decide)
        exact inV_strs (ws := [("shape" : Str), "bag", "head"]) (by simp [h1, h2, h3])
      have ho3 : d.own = .str r.fnm := by have := own_main (r := lin r i kw ws) s3.rel ho; exact this
      refine ⟨_, rfl, wl, _, 0, _, rfl, rfl, SqL.of w3, i0, rfl, _, rfl, ifF c1 ?_⟩
      refine ⟨_, rfl, wl, _, 0, _, rfl, rfl, SqL.of w3, i0, by decide, fun p np => ⟨p, _, rfl, .inr (SqT.of upd_same), rfl, by decide, _, rfl, ifF c2 ?_⟩⟩
      have e4 := extH_put (o := .tup [.str "shape", .str "bag", .str "head"]) np
      have s4 := s3.ext e4
      have k4 := kk.trans (ext_kq e4)
      generalize upd G3 p (.tup [.str "shape", .str "bag", .str "head"]) = G4 at s4 k4 ⊢
      refine ⟨_, rfl, _, _, _, _, _, rfl, s4.at_ 0, hC, hA5, rfl, rfl, _, rfl, ifF (by show decide (d.own = V.non) = false; rw [ho3]; rfl) ?_⟩
      have lo := hs.rel.owners.len
      refine ⟨_, rfl, _, _, _, _, _, rfl, s4.at_ 0, hC, hA5, rfl, _, rfl, _, _, _, _, _, rfl, s4.at_ 0, hC, hA6, rfl, _, rfl, _, _, rfl, DPut.k (k := .inl i) (s4.at_ 12) (by rw [sizeLine_eq]; show d.owners.length < _; omega), ?_⟩
      obtain ⟨s5, k5', _⟩ := s4.up 12 (.dK (putK d.owners (.inl i) d.own)) {d with kinds := putK d.kinds (.inl i) (.str kw), rows := putK d.rows (.inl i) (.ref l), owners := putK d.owners (.inl i) d.own} (lin2 r i kw ws) (fun G tx h => { h with owners := h.owners.put kI_inj (k := i) (u := d.own) (v := r.fnm) hfr.owners ho3 }) rfl
      have k5 := k4.trans k5'
      generalize upd G4 a.owners _ = G5 at s5 k5 ⊢
      have zb : r.blocks.length ≤ 900 := by unfold RS.sz at hz; omega
      refine ⟨_, rfl, a, some n, lin2 r i kw ws, f, rfl, ⟨_, _, s5⟩, ho, hf, by show r.blocks.length ≤ 1000; omega, ?_, fun G6 p6 e6 h6 => ?_⟩
      · intro b hb
        obtain ⟨k, hk⟩ := hbk b hb
        refine ⟨k, ?_⟩
        show (r.kinds ++ [(i, kw)]).lookup b = some k
        rw [List.lookup_append, hk]
        rfl
      have s6 := s5.ext e6
      have k6 := k5.trans (ext_kq e6)
      have zs : (lin2 r i kw ws).sz ≤ 1000 := by
        unfold RS.sz at hz ⊢
        simp only [lin2, lin, List.length_append, List.length_singleton]
        omega
      have ho2 : (lin2 r i kw ws).own = some (lin2 r i kw ws).fnm := ho
      have hRb : (lin2 r i kw ws).blocks = r.blocks := rfl
      have hRo : (lin2 r i kw ws).rooms_of = r.rooms_of := rfl
      -- the end: a room line, or another one whose rooms are noted
      have put : ∀ (r1 : RS) (G8 : Hp) (v : V) (rs : List Int), RsAt K a (some n) r1 G8 → r1.rooms_of = r.rooms_of → tupN K G8 v rs → Kq a (some n) H G8 →
          (∀ H', Kq a (some n) H H' → RsAt K a (some n) {r1 with rooms_of := r.rooms_of ++ [(i, rs)]} H' → Q (.bl true) H') →
          ∃ d' : RD, G8 a.rd = some (.ins (ga K "Reading") a.dR (rdF a d'.own)) ∧ ∃ H', DPut G8 a.rooms_of (.int i) v H' ∧ Q (.bl true) H' := fun r1 G8 v rs ⟨d8, kn8, s8⟩ er hv k8 q' => by
        have l8 := s8.rel.rooms_of.len
        rw [er] at l8
        refine ⟨d8, s8.at_ 0, _, DPut.k (k := .inl i) (s8.at_ 18) (by rw [sizeLine_eq]; omega), ?_⟩
        obtain ⟨s9, k9, _⟩ := s8.up 18 (.dK (putK d8.rooms_of (.inl i) v)) {d8 with rooms_of := putK d8.rooms_of (.inl i) v} {r1 with rooms_of := r.rooms_of ++ [(i, rs)]} (fun G tx h => { h with rooms_of := by have := h.rooms_of.put kI_inj (k := i) (u := v) (v := rs) (by rw [er]; exact hfr.rooms_of) (tupN.tx tx v rs hv); rw [er] at this; exact this }) rfl
        exact q' _ (k8.trans k9) ⟨_, _, s9⟩
      refine ⟨_, rfl, by rw [sizeLine_eq]; decide, fun p7 np7 => ⟨.list ((kw :: ws).map PyData.str), .list [.str "end"], .lst (SqL.of (extH_put np7 _ _ (k6 _ _ hn hnm hw))) (dpAll_strs _), .lst (xs := [.str "end"]) (SqL.of upd_same) (.cons (.str _) .nil), shaped_strs hok, by decide +kernel, decide (kw :: ws = [("end" : Str)]), by rw [eqv_end], ?_⟩⟩
      have e7 := extH_put (o := .lst [.str "end"]) np7
      have s7 := s6.ext e7
      have h7 := sqT_extH e7 h6
      have k7 := k6.trans (ext_kq e7)
      have c0 : (if decide (kw :: ws = [("end" : Str)]) = true then True else True) := by split <;> trivial
      by_cases hend : kw :: ws = [("end" : Str)]
      · rw [decide_eq_true hend]
        refine iteT ?_
        generalize upd G6 p7 (.lst [.str "end"]) = G7 at s7 h7 k7 ⊢
        have b7 := blocks_at s7
        refine ⟨_, rfl, _, _, _, _, .ref a.blocks, rfl, s7.at_ 0, hC, hA7, rfl, Nat.zero_le _, fun p8 np8 => ⟨.list ((lin2 r i kw ws).blocks.map PyData.int), .list [], .lst (SqL.of (extH_put np8 _ _ b7)) (dpAll_ints _), .lst (xs := []) (SqL.of upd_same) .nil, shapedInts _, rfl, ?_⟩⟩
        rw [eqvNil]
        have e8 := extH_put (o := .lst []) np8
        have s8 := s7.ext e8
        have h8 := sqT_extH e8 h7
        have k8 := k7.trans (ext_kq e8)
        generalize upd G7 p8 (.lst []) = G8 at s8 h8 k8 ⊢
        cases hi with
        | last hi1 he hb =>
          rw [show ((lin2 r i kw ws).blocks.map PyData.int).isEmpty = true by rw [hRb, hb]; rfl]
          refine ⟨_, rfl, _, rfl, _, rfl, a, n, (lin2 r i kw ws), r', wl, i, kw, ws, rfl, k8 _ _ hn hnm hw, ⟨_, _, s8⟩, ho2, zs, hi1, fun G9 k9 h9 => ?_⟩
          exact ⟨_, rfl, true, rfl, _, rfl, true, rfl, _, rfl, q G9 (k8.trans k9) h9⟩
        | @room r1' f' hi1 hf' hk => exact absurd (hk.symm.trans (List.cons.inj hend).1) (by decide)
        | @other r1' f' hi1 hf' ho' hk =>
          have hb : (lin2 r i kw ws).blocks ≠ [] := by
            rw [hRb]
            rcases ho' with z | z
            · exact absurd hend z
            · exact z
          rw [show ((lin2 r i kw ws).blocks.map PyData.int).isEmpty = false by cases zz : (lin2 r i kw ws).blocks with | nil => exact absurd zz hb | cons _ _ => rfl]
          refine ⟨_, rfl, _, rfl, _, rfl, a, n, (lin2 r i kw ws), r1', wl, i, kw, ws, rfl, k8 _ _ hn hnm hw, ⟨_, _, s8⟩, ho2, zs, hi1, fun G9 k9 h9 => ?_⟩
          obtain ⟨d9, g9, H', dp, q'⟩ := put r1' G9 (.ref p6) _ h9 ((ins_ro hi1).trans hRo) ⟨p6, rfl, (s8.txq k9).sqT h8⟩ (k8.trans k9) (by rw [hf] at hf'; cases hf'; exact q)
          exact ⟨_, rfl, true, rfl, _, rfl, false, rfl, _, rfl, wl, _, 0, _, rfl, rfl, SqL.of ((k8.trans k9) _ _ hn hnm hw), i0, rfl, _, rfl, ifF (decide_eq_false fun z => hk (by injection z)) ⟨_, rfl, _, rfl, _, _, _, _, _, rfl, g9, hC, hA8, rfl, _, rfl, _, _, rfl, dp, _, rfl, q'⟩⟩
      · rw [decide_eq_false hend]
        refine iteF ?_
        generalize upd G6 p7 (.lst [.str "end"]) = G8 at s7 h7 k7 ⊢
        cases hi with
        | last hi1 he hb => exact absurd he hend
        | @room r1' f' hi1 hf' hk =>
          refine ⟨_, rfl, _, rfl, _, rfl, a, n, (lin2 r i kw ws), r1', wl, i, kw, ws, rfl, k7 _ _ hn hnm hw, ⟨_, _, s7⟩, ho2, zs, hi1, fun G9 k9 h9 => ?_⟩
          have h9t := (s7.txq k9).sqT h7
          refine ⟨_, rfl, true, rfl, _, rfl, false, rfl, _, rfl, wl, _, 0, _, rfl, rfl, SqL.of ((k7.trans k9) _ _ hn hnm hw), i0, rfl, _, rfl, ifT (by rw [hk]; rfl) ⟨_, rfl, _, rfl, p6, _, rfl, .inl h9t, ?_, fun t nt => ?_⟩⟩
          · rw [sizeLine_eq]
            have := List.length_filter_le (isRoom (lin2 r i kw ws)) (lin2 r i kw ws).blocks
            have hRl : (lin2 r i kw ws).blocks.length = r.blocks.length := rfl
            unfold aroundS
            simp only [List.length_cons, List.length_append, List.length_map, List.length_reverse, List.length_nil, List.map_append]
            omega
          have e10 := extH_put (o := .tup (.int i :: ((aroundS (lin2 r i kw ws) f).map V.int ++ []))) nt
          obtain ⟨d9, g9, H', dp, q'⟩ := put r1' _ (.ref t) (i :: aroundS (lin2 r i kw ws) f) (h9.ext e10) ((ins_ro hi1).trans hRo) ⟨t, rfl, SqT.of (by rw [upd_same, List.append_nil] <;> rfl)⟩ ((k7.trans k9).trans (ext_kq e10)) (by rw [hf] at hf'; cases hf'; exact q)
          exact ⟨_, rfl, _, _, _, _, _, rfl, g9, hC, hA8, rfl, _, rfl, _, _, rfl, dp, _, rfl, q'⟩
        | @other r1' f' hi1 hf' ho' hk =>
          refine ⟨_, rfl, _, rfl, _, rfl, a, n, (lin2 r i kw ws), r1', wl, i, kw, ws, rfl, k7 _ _ hn hnm hw, ⟨_, _, s7⟩, ho2, zs, hi1, fun G9 k9 h9 => ?_⟩
          obtain ⟨d9, g9, H', dp, q'⟩ := put r1' G9 (.ref p6) _ h9 ((ins_ro hi1).trans hRo) ⟨p6, rfl, (s7.txq k9).sqT h7⟩ (k7.trans k9) (by rw [hf] at hf'; cases hf'; exact q)
          exact ⟨_, rfl, true, rfl, _, rfl, false, rfl, _, rfl, wl, _, 0, _, rfl, rfl, SqL.of ((k7.trans k9) _ _ hn hnm hw), i0, rfl, _, rfl, ifF (decide_eq_false fun z => hk (by injection z)) ⟨_, rfl, _, rfl, _, _, _, _, _, rfl, g9, hC, hA8, rfl, _, rfl, _, _, rfl, dp, _, rfl, q'⟩⟩
end
end R9H
set_option Elab.async false
set_option linter.all false
set_option maxRecDepth 100000
set_option maxHeartbeats 4000000
/-! k06, part S: lines_of -/
namespace R9H
open PySem PySem.Spec PyProof.Rows L2
abbrev sLines : Stmt := top 80
theorem sc_lines : FnScope ["text", "lines"] ["text"] (defScope sLines) := ⟨rfl, rfl, rfl, by decide +kernel, rfl, by decide +kernel, by decide +kernel⟩
def spLines : Sp := fun vs H Q _ => ∃ z : Str, vs = [.str z] ∧ z.length ≤ 6000 ∧ (Txt.split z "\n").length ≤ 100 ∧ ∀ l, H l = none → Q (.ref l) (upd H l (.lst ((Txt.split z "\n").map V.str)))
section
variable {w : World} {K : PySem.W.Frag} {mg : Str → Option Value} {base : Heap}
theorem ok_lines (T : T6 K mg) : Has w K mg base 1 "lines_of" ["text"] spLines := by
  obtain ⟨fd, F⟩ := T.fn 58
  have gn := T.free "len" (by decide +kernel)
  obtain ⟨t1, g1⟩ := T.int "MOST_CHARACTERS" 6000 (by decide +kernel)
  obtain ⟨t2, g2⟩ := T.int "MOST_LINES" 100 (by decide +kernel)
  refine has_of (st := sLines) T F (by decide +kernel) (F.ok sc_lines (fun vs H Q E h => ?_) (fun cdv A outer s H vs Q E hr h => ⟨_, PSs.nox (
    (pss_cons (ps_if (pt_cmpR op_gt (pe_callB call_len_str rfl gn PySem.boot_len (pa_cons (pv 0) pa_nil)) (pe_gi rfl g1) (nomark _)) pss_no pss_nil)
      (pss_cons (ps_set (i := 1) sc_lines.nd rfl (Or.inl rfl) (pe_split (pv 0) pe_str))
      (pss_cons (ps_if (pt_cmpR op_gt (pe_callB call_len_seq rfl gn PySem.boot_len (pa_cons (pv 1) pa_nil)) (pe_gi rfl g2) (nomark _)) pss_no pss_nil)
      (pss_one (ps_ret (pv 1))))))), ?_⟩)) fun _ _ _ _ _ _ us hl => match us, hl with | [_], _ => rfl
  · obtain ⟨z, rfl, _⟩ := h
    rfl
  · obtain ⟨z, rfl, h1, h2, q⟩ := h
    clear F
    refine ⟨_, rfl, z, rfl, by rw [sizeLine_eq]; omega, _, _, rfl, rfl, _, rfl, ifF (decide_eq_false (by omega)) ?_⟩
    refine ⟨_, rfl, ⟨_, rfl⟩, z, "\n", rfl, rfl, rfl, by rw [sizeLine_eq]; omega, fun p np => ?_⟩
    refine ⟨_, rfl, p, _, rfl, .inl (SqL.of upd_same), _, _, rfl, rfl, _, rfl, ifF (decide_eq_false (by rw [List.length_map]; omega)) ?_⟩
    exact ⟨_, rfl, q p np⟩
end
end R9H
set_option Elab.async false
set_option linter.all false
set_option maxRecDepth 100000
set_option maxHeartbeats 4000000
/-! k24, part W: read_text -/
namespace R9H
open PySem PySem.Spec PyProof.Rows L2
/-- one line's step; the flag: a function has begun -/
inductive StepS : Bool → RS → Int → Str → List Str → Bool → RS → Prop
  | shape {r i x ps prs r'} : r.hd = [] → goodName x → r.tab.lookup x = none → r.f.lookup x = none → r.f.length ≤ 100 → r.tab.length < 8 → ps.length ≤ 4 → (∀ p ∈ ps, goodName p.1) → (ps.map (·.1)).Nodup → Parts r.tab ps prs → (∀ p ∈ prs, p.2.length ≤ 1000 ∧ ∀ y ∈ p.2, y.length ≤ 1000) →
      (∀ steps, steps.Perm (prs.map (·.1)) → (thr prs steps).length ≤ 16) → (∀ steps, steps.Perm (prs.map (·.1)) → sortedS steps = true → {lin r i "shape" (x :: flat2 ps) with tab := r.tab ++ [(x, thr prs steps)], f := r.f ++ [(x, ps)]} = r') → StepS false r i "shape" (x :: flat2 ps) false r'
  | bag {r i x y wys} : r.hd = [] → goodName x → r.tab.lookup x = none → r.c.lookup x = none → r.c.length ≤ 100 → r.tab.length < 8 → r.tab.lookup y = some wys → (wys.length ≤ 15 ∧ ∀ y ∈ wys, y.length ≤ 1000) →
      StepS false r i "bag" [x, y] false {lin r i "bag" [x, y] with tab := r.tab ++ [(x, thr [("*", wys)] ["*"])], c := r.c ++ [(x, y)]}
  | head {r i g s ps} : r.hd = [] → goodName g → g ≠ "main" → r.due.lookup g = none → r.gives.lookup g = none → ("gives" : Str) ∉ ps → ps.length ≤ 4 → (∀ x ∈ ps ++ [s], ∃ wy, r.tab.lookup x = some wy) → r.due.length < 6 →
      StepS false r i "head" (g :: (ps ++ [("gives" : Str), s])) false {lin r i "head" (g :: (ps ++ [("gives" : Str), s])) with due := r.due ++ [(g, ps)], gives := r.gives ++ [(g, some s)]}
  | func {b r i g ps nms} : FunS b r g ps nms → StepS b r i "func" (g :: ps) true (beg (lin r i "func" (g :: ps)) i g ps nms)
  | inn {r i kw ws f r'} : r.own = some r.fnm → (∀ b ∈ r.blocks, ∃ k, r.kinds.lookup b = some k) → r.hd.lookup r.fnm = some f → InnS r i kw ws r' → StepS true r i kw ws true r'
structure OkL (r : RS) (i : Int) (kw : Str) (ws : List Str) : Prop where
  sz : r.sz ≤ 900
  fresh : Fresh r i
  ok : ∀ w ∈ kw :: ws, PyData.strOk w = true
/-- a text's rows, read one by one -/
structure ReadS (rows : List (List Str)) (S : Nat → Bool × RS) : Prop where
  zero : S 0 = (false, {})
  step : ∀ (i : Nat) ws, rows[i]? = some ws → (ws = [] ∧ S (i + 1) = S i) ∨ ∃ kw wt, ws = kw :: wt ∧ OkL (S i).2 (1 + (i : Int)) kw wt ∧ StepS (S i).1 (S i).2 (1 + (i : Int)) kw wt (S (i + 1)).1 (S (i + 1)).2
def TextIs (z : Str) (rows : List (List Str)) : Prop := z.length ≤ 6000 ∧ rows.length ≤ 100 ∧ (Txt.split z "\n").map wordsOf = rows ∧ ∀ row ∈ Txt.split z "\n", row.length ≤ 1000 ∧ (Txt.split row " ").length ≤ 1000
theorem eqv_cons {w : Str} {ws : List Str} : PyData.eqv (.list ((w :: ws).map PyData.str)) (.list []) = false := by
  simp [PyData.eqv, PyData.eqvAll]
def sp_read_text (K : PySem.W.Frag) : Sp := fun vs H Q _ => ∃ (z : Str) (rows : List (List Str)) (S : Nat → Bool × RS) (r : RS), vs = [.str z] ∧ TextIs z rows ∧ ReadS rows S ∧ S rows.length = (true, r) ∧ r.own = none ∧ r.due.length ≤ 100 ∧ (∀ g ∈ mainS :: r.due.map (·.1), ∃ f, r.hd.lookup g = some f) ∧
  ∀ H' a n, ExtH H H' → (∀ x ∈ ads a, H x = none) → H n = none → RsAt K a (some n) r H' → Q (.ref a.rd) H'
theorem rs0 {K : PySem.W.Frag} {a : RA} {H : Hp} (h : Rg K a d0 H) : RsAt K a none {} H :=
  ⟨d0, [], h, ⟨rfl, .nil, .nil, .nil, .nil, .nil, .nil, .nil, .nil, .nil, .nil, .nil, .nil, .nil, .nil, .nil, .nil, rfl, rfl, rfl⟩, ⟨.nil, fun n hn => by cases hn⟩, ⟨[], rfl, .nil⟩, fun f hf => by cases hf⟩
theorem atk_keysS {α : Type} {R : V → α → Prop} {kvs : List (Key × V)} {l : List (Str × α)} (h : AtK kS R kvs l) : (kvs.map fun kv => kV kv.1) = (l.map (·.1)).map V.str := by
  unfold AtK at h
  induction h with
  | nil => rfl
  | @cons a b l₁ l₂ r t ih =>
    rw [List.map_cons, List.map_cons, List.map_cons, ih, r.1]
    rfl
section
variable {w : World} {K : PySem.W.Frag} {mg : Str → Option Value} {base : Heap}
theorem ok_lines_of (T : T6 K mg) : Has w K mg base 1 "lines_of" ["text"] spLines := ok_lines T
theorem ok_Reading (T : T6 K mg) : HasI w K mg base 3 "Reading" ["self"] (spRd K) := ok_rdI T
theorem ok_words_of (T : T6 K mg) : Has w K mg base 1 "words_of" ["line"] spWords := ok_words T
abbrev st_read_text : Stmt := top 81
theorem sc_read_text : FnScope ["text", "lines", "reading", "line", "row", "words", "missing", "name"] ["text"] (defScope st_read_text) := ⟨rfl, rfl, rfl, by decide +kernel, rfl, by decide +kernel, by decide +kernel⟩
theorem ok_read_text (T : T6 K mg) : Has w K mg base 6 "read_text" ["text"] (sp_read_text K) := by
  obtain ⟨fd, F⟩ := T.fn 59
  have H_lines_of := ok_lines_of (w := w) (base := base) T
  have H_words_of := ok_words_of (w := w) (base := base) T
  have H_read_line := ok_read_line (w := w) (base := base) T
  obtain ⟨fd_Reading, F_Reading, b_Reading⟩ := ok_Reading (w := w) (base := base) T
  have g_Reading := T.glo "Reading" (by decide +kernel)
  have M_Reading := T.mkr "Reading" (by decide +kernel)
  have gf_enumerate := T.free "enumerate" (by decide +kernel)
  refine has_of (st := st_read_text) T F (by decide +kernel) (F.ok sc_read_text (fun vs H Q E h => ?_) (fun cdv A outer s H vs Q E hr h => ⟨_, PSs.nox (
    (pss_cons (ps_set (i := 1) sc_read_text.nd rfl (Or.inl rfl) (pe_has H_lines_of rfl (hr.mono (by decide)) rfl (pa_cons (pv 0) pa_nil)))
    (pss_cons (ps_set (i := 2) sc_read_text.nd rfl (Or.inr rfl) (pe_make0 M_Reading F_Reading (hr.mono (by decide)) rfl g_Reading b_Reading .nil pass0))
    (pss_cons (ps_for PassesOwn.never rfl (pi_enumK rfl gf_enumerate (pa_cons (pv 1) pa_nil) (pk_cons pe_int pk_nil)) (pg_tup rfl (pgs_cons (pg_name (i := 3) sc_read_text.nd rfl (Or.inl rfl)) (pgs_cons (pg_name (i := 4) sc_read_text.nd rfl (Or.inl rfl)) pgs_nil)))
      (pss_cons (ps_set (i := 5) sc_read_text.nd rfl (Or.inl rfl) (pe_has H_words_of rfl (hr.mono (by decide)) rfl (pa_cons (pv 4) pa_nil)))
      (pss_one (ps_if (PW.pt (pw_and (pt_cmpR (op_neD hr.units) (pv 5) (pe_lst pa_nil) (nomark _)) (pw_and1 (pt_not (pt_val (pe_has H_read_line rfl (hr.mono (by decide)) rfl (pa_cons (pv 2) (pa_cons (pv 5) (pa_cons (pv 3) pa_nil)))))))))
        (pss_one ps_no)
        pss_nil))))
    (pss_cons (ps_setLc (i := 6) (own := [("name", 7)]) (g := gName 7) rfl sc_read_text.nd rfl rfl (sw_true rfl rfl rfl (by decide +kernel)) (pi_list (pe_lst (pa_cons pe_str (pa_starD rfl (pe_fld (pv 2) rfl) pa_nil)))) (blkOk_by (own := [("name", 7)]) (N := ["text", "lines", "reading", "line", "row", "words", "missing", "name"]) (sc := defScope st_read_text) (by decide +kernel))
        (fun _ _ _ _ _ => (pg_name (i := 7) sc_read_text.nd rfl (Or.inl rfl))) (fun _ _ _ _ _ => (pts_one (pt_cmp (pc_dnotin hr.u1 (pv 7) (pe_fldB (K := K) (pv 2)))))) (fun _ _ _ _ _ => (pv 7)))
    (pss_cons (ps_if (PW.pt (pw_or (pt_cmpR op_notN (pe_fld (pv 2) rfl) pe_non rfl) (pw_or1 (pt_cmpR (op_neD hr.units) (pv 6) (pe_lst pa_nil) (nomark _)))))
      (pss_one ps_no)
      pss_nil)
    (pss_one (ps_ret (pv 2))))))))), ?_⟩)) fun _ _ _ _ _ _ us hl => match us, hl with | [_], _ => rfl
  · obtain ⟨z, rows, S, r, rfl, _⟩ := h
    rfl
  · obtain ⟨z, rows, S, r, rfl, ⟨ht1, hrl, ht2, ht3⟩, ⟨hz0, hst⟩, hfin, hown, hdl, hhd, q⟩ := h
    clear F
    have hC := T.cls "Reading" (by decide +kernel)
    have hA1 := T.noat "Reading" "due" (by decide +kernel)
    have hA2 := T.noat "Reading" "heads" (by decide +kernel)
    have hA3 := T.noat "Reading" "owner" (by decide +kernel)
    have hlen : (Txt.split z "\n").length = rows.length := by rw [← ht2, List.length_map]
    refine ⟨_, rfl, z, rfl, ht1, by omega, fun ll nll => ?_⟩
    have e1 := extH_put (o := .lst ((Txt.split z "\n").map V.str)) nll
    have l1 : upd H ll (.lst ((Txt.split z "\n").map V.str)) ll = some (.lst ((Txt.split z "\n").map V.str)) := upd_same
    generalize upd H ll (.lst ((Txt.split z "\n").map V.str)) = H1 at e1 l1 ⊢
    intro x dx nx ndx hne
    refine ⟨x, dx, rfl, upd_same, fun H2 a ha s2 => ⟨rfl, ?_⟩⟩
    have r2 : Rg K a d0 H2 := ⟨s2.holds, s2.nd⟩
    have new1 : ∀ y ∈ ads a, H1 y = none := fun y hy => by
      by_cases e : y = x
      · rw [e]; exact nx
      · have z2 := s2.new y hy e
        rw [upd_ne e] at z2
        by_cases e2 : y = dx
        · rw [e2, upd_same] at z2; cases z2
        · rw [upd_ne e2] at z2; exact z2
    have e2 : ExtH H1 H2 := fun b o hb => by
      have n1 := ne_of_none hb nx
      have n2 := ne_of_none hb ndx
      exact s2.keep b o n1 (by rw [upd_ne n1, upd_ne n2]; exact hb)
    subst ha
    refine ⟨_, rfl, _, _, 1, rfl, rfl, by decide, by decide, SqL.of (e2 _ _ l1), ?_⟩
    refine for_enumK (xs := (Txt.split z "\n").map V.str) (fun i σ G => ∃ nm v3 v4 v5, σ = [some (.str z), some (.ref ll), some (.ref a.rd), v3, v4, v5, none, none] ∧ (S i).1 = nm.isSome ∧ ExtH H1 G ∧ RsAt K a nm (S i).2 G ∧ ∀ n, nm = some n → H1 n = none)
      ⟨none, _, _, _, rfl, by rw [hz0]; rfl, e2, by rw [hz0]; exact rs0 r2, fun n hn => by cases hn⟩ (fun i σ G ⟨nm, v3, v4, v5, _, _, k, _⟩ => SqL.of (k _ _ l1)) ?_ ?_
    · rintro i xv σ G Tt hi ⟨nm, v3, v4, v5, rfl, hnm, k, rs, hn1⟩ hT
      obtain ⟨row, hrow, rfl⟩ : ∃ row, (Txt.split z "\n")[i]? = some row ∧ xv = V.str row := by
        rw [List.getElem?_map] at hi
        cases zz : (Txt.split z "\n")[i]? with
        | none => rw [zz] at hi; cases hi
        | some row => rw [zz] at hi; exact ⟨row, rfl, (Option.some.inj hi).symm⟩
      obtain ⟨b1, b2⟩ := ht3 row (List.mem_of_getElem? hrow)
      have hwr : rows[i]? = some (wordsOf row) := by rw [← ht2, List.getElem?_map, hrow] <;> rfl
      have e3 : ExtH G (upd G Tt (.tup [.int (1 + (i : Int)), .str row])) := extH_put hT
      refine ⟨Tt, _, rfl, SqT.of upd_same, rfl, _, _, rfl, _, _, rfl, rfl, ?_⟩
      refine ⟨_, rfl, row, rfl, by omega, by omega, fun G4 wl e4 n4 h4 => ?_⟩
      have e34 := e3.trans e4
      rcases hst i _ hwr with ⟨hw, hs⟩ | ⟨kw, ws, hw, hok, hs⟩
      · rw [hw] at h4
        refine ⟨_, rfl, Nat.zero_le _, fun p np => ⟨.list [], .list [], .lst (xs := []) (SqL.of (extH_put np _ _ h4)) .nil, .lst (xs := []) (SqL.of upd_same) .nil, rfl, rfl, false, rfl, iteF ?_⟩⟩
        have e5 := e34.trans (extH_put (o := .lst []) np)
        exact ⟨nm, _, _, _, rfl, by rw [hs]; exact hnm, k.trans e5, by rw [hs]; exact rs.ext e5, hn1⟩
      · rw [hw] at h4
        refine ⟨_, rfl, Nat.zero_le _, fun p np => ⟨.list ((kw :: ws).map PyData.str), .list [], .lst (SqL.of (extH_put np _ _ h4)) (dpAll_strs _), .lst (xs := []) (SqL.of upd_same) .nil, shaped_strs hok.ok, rfl, true, by rw [eqv_cons] <;> rfl, iteT ?_⟩⟩
        have e5 := e34.trans (extH_put (o := .lst []) np)
        have rs5 := rs.ext e5
        have w5 := extH_put (o := .lst []) np _ _ h4
        have nwl : G wl = none := e3.none n4
        generalize upd G4 p (.lst []) = G5 at e5 rs5 w5 ⊢
        have wln : wl ∉ ads a := by
          obtain ⟨d, kn, hh⟩ := rs
          exact hh.rg.none nwl
        have wnm : nm ≠ some wl := by
          obtain ⟨d, kn, hh⟩ := rs
          intro z
          have := (hh.kn.at_ wl z).1
          rw [nwl] at this; cases this
        have up : ∀ {G'}, Kq a nm G5 G' → ExtH H1 G' := fun kq b o hb => kq b o (fun hm => by rw [new1 b hm] at hb; cases hb) (fun z => by rw [hn1 b z] at hb; cases hb) (e5 _ _ (k _ _ hb))
        refine ⟨_, rfl, _, rfl, _, rfl, a, nm, (S i).2, wl, 1 + (i : Int), kw, ws, rfl, w5, wln, wnm, rs5, hok.sz, hok.fresh, hok.ok, ?_⟩
        generalize hSi : S i = si at hs hnm rs rs5 hok ⊢
        generalize hSn : S (i + 1) = sn at hs ⊢
        obtain ⟨bi, ri⟩ := si
        obtain ⟨bn, rn⟩ := sn
        cases hs with
        | shape c0 c1 c2 c3 c4 c5 c6 c7 c8 c9 c10 c11 c12 =>
          cases nm with
          | some n => cases hnm
          | none => exact .inl ⟨rfl, rfl, _, _, _, rfl, c0, c1, c2, c3, c4, c5, c6, c7, c8, c9, c10, c11, fun H' steps kq hp hso rs' => ⟨true, rfl, none, _, _, _, rfl, rfl, up kq, by rw [c12 steps hp hso] at rs'; exact rs', fun n hn => by cases hn⟩⟩
        | bag c0 c1 c2 c3 c4 c5 c6 c7 =>
          cases nm with
          | some n => cases hnm
          | none => exact .inr (.inl ⟨rfl, rfl, _, _, _, rfl, c0, c1, c2, c3, c4, c5, c6, c7, fun H' kq rs' => ⟨true, rfl, none, _, _, _, rfl, rfl, up kq, rs', fun n hn => by cases hn⟩⟩)
        | head c0 c1 c2 c3 c4 c5 c6 c7 c8 =>
          cases nm with
          | some n => cases hnm
          | none => exact .inr (.inr (.inl ⟨rfl, rfl, _, _, _, rfl, c0, c1, c2, c3, c4, c5, c6, c7, c8, fun H' kq rs' => ⟨true, rfl, none, _, _, _, rfl, rfl, up kq, rs', fun n hn => by cases hn⟩⟩))
        | @func _ _ _ g ps nms fs =>
          have hnm : bi = nm.isSome := hnm
          exact .inr (.inr (.inr (.inl ⟨rfl, g, ps, nms, rfl, hnm ▸ fs, fun H' n kq hn rs' => ⟨true, rfl, some n, _, _, _, rfl, rfl, up kq, rs', fun n' hn' => by
              cases hn'
              exact (k.trans e5).none hn⟩⟩)))
        | inn c0 c1 c2 c3 =>
          cases nm with
          | none => cases hnm
          | some n => exact .inr (.inr (.inr (.inr ⟨n, _, rfl, c0, c1, ⟨_, c2⟩, c3, fun H' kq rs' => ⟨true, rfl, some n, _, _, _, rfl, rfl, up kq, rs', hn1⟩⟩)))
    · rintro σ G ⟨nm, v3, v4, v5, rfl, hnm, k, rs, hn1⟩
      rw [List.length_map, hlen, hfin] at hnm rs
      cases nm with
      | none => cases hnm
      | some n =>
        have rs' := rs
        obtain ⟨d, kn, hs⟩ := rs'
        have ek : (d.due.map fun kv => kV kv.1) = (r.due.map (·.1)).map V.str := atk_keysS hs.rel.due
        have ld : d.due.length = r.due.length := hs.rel.due.len
        refine ⟨_, rfl, _, _, _, _, _, rfl, hs.at_ 0, hC, hA1, rfl, a.due, _, rfl, .inl (hs.at_ 5), by rw [sizeLine_eq]; simp; omega, fun p np => ⟨p, rfl, ⟨_, SqL.of upd_same⟩, fun D hD => ?_⟩⟩
        have exs : (V.str "main" :: ((d.due.map fun kv => kV kv.1) ++ [])) = (mainS :: r.due.map (·.1)).map V.str := by rw [List.append_nil, ek] <;> rfl
        rw [exs] at hD ⊢
        refine lc_pure (xs := (mainS :: r.due.map (·.1)).map V.str) (fun _ => false) id (SqL.of upd_same) hD (by simp; omega) (fun _ => rfl) ?_ (fun _ _ hh => by cases hh) ?_
        · intro y hy G4 Q' x4 q'
          obtain ⟨g, hg, rfl⟩ := List.mem_map.mp hy
          obtain ⟨f, hf⟩ := hhd g hg
          obtain ⟨u, hu, _⟩ := hs.rel.heads.get kS_inj hf
          have r4 := (hs.ext (extH_put (o := .lst ((mainS :: r.due.map (·.1)).map V.str)) np)).ext x4
          exact ⟨_, rfl, _, rfl, _, _, _, _, _, rfl, r4.at_ 0, hC, hA2, rfl, _, _, rfl, DGet.k (k := .inr g) (r4.at_ 7), false, by rw [show valV d.heads (.inr g) = _ from hu] <;> rfl, q'⟩
        · intro G4 x4 hG4
          have e4 : ExtH G G4 := (extH_put (o := .lst ((mainS :: r.due.map (·.1)).map V.str)) np).trans x4
          rw [List.filter_eq_nil_iff.mpr (fun _ _ => Bool.false_ne_true)] at hG4
          have r4 := hs.ext e4
          have s1 : d.own = .non := by rw [hs.rel.own, hown]; rfl
          refine ⟨_, rfl, _, _, _, _, _, rfl, r4.at_ 0, hC, hA3, rfl, rfl, _, rfl, ifF (by rw [show d.own = _ from s1]; rfl) ?_⟩
          refine ⟨_, rfl, Nat.zero_le _, fun p0 np0 => ⟨.list [], .list [], .lst (xs := []) (SqL.of (extH_put np0 _ _ hG4)) .nil, .lst (xs := []) (SqL.of upd_same) .nil, rfl, rfl, _, rfl, ifF rfl ?_⟩⟩
          have e5 := e4.trans (extH_put (o := .lst []) np0)
          exact ⟨_, rfl, q _ a n (e1.trans (k.trans e5)) (fun y hy => e1.none (new1 y hy)) (e1.none (hn1 n rfl)) (rs.ext e5)⟩
end
end R9H
set_option Elab.async false
set_option linter.all false
set_option maxRecDepth 100000
set_option maxHeartbeats 4000000
/-! k06, part W: Program(text) -/
namespace R9H
open PySem PySem.Spec PyProof.Rows L2
theorem lookup_zip : ∀ {ns : List Str} {vs : List V} {k : Nat} {f : Str} {v : V}, ns.Nodup → ns[k]? = some f → vs[k]? = some v → (ns.zip vs).lookup f = some v
  | n :: ns, [], k, f, v, _, _, h => by simp at h
  | [], _, k, f, v, _, h, _ => by simp at h
  | n :: ns, y :: vs, 0, f, v, _, h1, h2 => by
    have e1 : n = f := Option.some.inj h1
    have e2 : y = v := Option.some.inj h2
    rw [List.zip_cons_cons, List.lookup_cons, e1, beq_self_eq_true, e2]
  | n :: ns, y :: vs, k + 1, f, v, hd, h1, h2 => by
    rw [List.nodup_cons] at hd
    have hm : f ∈ ns := List.mem_of_getElem? (i := k) h1
    have : (f == n) = false := by
      rw [beq_eq_false_iff_ne]
      intro e
      exact hd.1 (e ▸ hm)
    rw [List.zip_cons_cons, List.lookup_cons, this]
    exact lookup_zip hd.2 h1 h2
theorem lookup_zip_none : ∀ {ns : List Str} {vs : List V} {f : Str}, f ∉ ns → (ns.zip vs).lookup f = none
  | [], _, f, _ => rfl
  | _ :: _, [], f, _ => rfl
  | n :: ns, y :: vs, f, h => by
    rw [List.mem_cons, not_or] at h
    have : (f == n) = false := by rw [beq_eq_false_iff_ne]; exact h.1
    rw [List.zip_cons_cons, List.lookup_cons, this]
    exact lookup_zip_none h.2
theorem putF_zip : ∀ {ns : List Str} {vs : List V} {k : Nat} {f : Str} {v : V}, ns.Nodup → ns[k]? = some f → vs.length = k → putF f v (ns.zip vs) = ns.zip (vs ++ [v])
  | [], _, k, f, v, _, h, _ => by simp at h
  | n :: ns, [], k, f, v, hd, h1, h2 => by
    have h2 : 0 = k := h2
    subst h2
    have e1 : n = f := Option.some.inj h1
    rw [e1, List.nil_append, List.zip_cons_cons, List.zip_nil_right, List.zip_nil_right] <;> rfl
  | n :: ns, y :: vs, 0, f, v, _, h1, h2 => by cases h2
  | n :: ns, y :: vs, k + 1, f, v, hd, h1, h2 => by
    rw [List.nodup_cons] at hd
    have hm : f ∈ ns := List.mem_of_getElem? (i := k) h1
    have ne : n ≠ f := fun e => hd.1 (e ▸ hm)
    rw [List.zip_cons_cons, List.cons_append, List.zip_cons_cons, ← putF_zip hd.2 h1 (Nat.succ.inj h2)]
    show (if n = f then _ else _) = _
    rw [if_neg ne]
theorem cut1_len (xs : List V) : (cutV xs (some 1) none).length = xs.length - 1 := by
  unfold cutV
  rw [HT.sIx_none, show (1 : Int) = ((1 : Nat) : Int) from rfl, HT.sIx_nat, List.length_take, List.length_drop]
  omega
theorem valV_in {kvs : List (Key × V)} {k : Key} (h : k ∈ kvs.map (·.1)) : ∃ v, valV kvs k = some v := by
  induction kvs with
  | nil => cases h
  | cons p r ih =>
    by_cases e : p.1 = k
    · exact ⟨_, valV_pos e⟩
    · rw [valV_neg e]
      rw [List.map_cons, List.mem_cons] at h
      exact ih (h.resolve_left fun z => e z.symm)
def pNames : List Str := ["text", "functions", "makings", "calls", "rooms", "kinds", "rows", "owners", "partners", "ors", "eithers", "evers", "callees", "heads", "params", "gives", "names", "fields", "contents", "ways_by_shape", "rooms_of", "behinds", "firsts", "kept"]
theorem pNames_nd : pNames.Nodup := by decide +kernel
theorem lkp {vs : List V} {k : Nat} (j : Nat) {f : Str} {v : V} (hk : pNames[k]? = some f) (hj : vs[j]? = some v) (hl : vs.length = j + k + 1) : (pNames.zip vs.reverse).lookup f = some v := by
  refine lookup_zip (by decide +kernel) hk ?_
  rw [List.getElem?_reverse (by omega), ← hj]
  congr 1
  omega
structure Q1 (K : PySem.W.Frag) (a : RA) (d : RD) (p dx : Addr) (H G : Hp) (vs : List V) : Prop where
  gP : G p = some (.ins (ga K "Program") dx (pNames.zip vs.reverse))
  kp : ∀ b o, b ≠ p → H b = some o → G b = some o
  rg : Rg K a d G
  np : p ∉ ads a
section
variable {K : PySem.W.Frag} {mg : Str → Option Value} {a : RA} {d : RD} {p dx : Addr} {H G F : Hp} {vs : List V}
theorem Q1.ext (q : Q1 K a d p dx H G vs) (e : ExtH G F) : Q1 K a d p dx H F vs := ⟨e _ _ q.gP, fun b o hb h => e _ _ (q.kp b o hb h), q.rg.ext e, q.np⟩
theorem Q1.st (q : Q1 K a d p dx H G vs) (T : T6 K mg) (k : Nat) {f : Str} {y : V} {D : Ends} {σ : L2.St} (hk : pNames[k]? = some f) (hl : vs.length = k) (hno : inN "Program" f = true) (e : σ[0]? = some (some (.ref p)))
    (c : ∀ G', Q1 K a d p dx H G' (y :: vs) → (∀ b o, b ≠ p → G b = some o → G' b = some o) → Tx G G' → D.nx σ G') :
    tVar 0 σ G fun x H2 => ∃ a C dx fs, x = .ref a ∧ H2 a = some (.ins C dx fs) ∧ Cls K C ∧ NoAttr K C f ∧ fs.length < 1000 ∧ D.nx σ (upd H2 a (.ins C dx (putF f y fs))) := by
  refine ⟨_, e, p, _, _, _, rfl, q.gP, T.cls "Program" (by decide +kernel), T.noat "Program" f hno, ?_, ?_⟩
  · rw [List.length_zip]
    exact Nat.lt_of_le_of_lt (Nat.min_le_left _ _) (by decide)
  · rw [putF_zip pNames_nd hk (by rw [List.length_reverse]; exact hl), ← List.reverse_cons]
    refine c _ ⟨upd_same, fun b o hb h => by rw [upd_ne hb]; exact q.kp b o hb h, ⟨fun i b o hi => ?_, q.rg.nd⟩, q.np⟩ (fun b o hb h => by rw [upd_ne hb]; exact h) (tx_upd q.gP rfl)
    have hb : b ≠ p := fun z => q.np (by rw [← ads_eq K a d, ← z]; exact List.mem_of_getElem? (adr_get hi))
    rw [upd_ne hb]
    exact q.rg.holds i b o hi
end
abbrev sProg : Stmt := inClass (top 83) 0
abbrev sWaysOf : Stmt := inClass (top 83) 3
theorem sc_prog : FnScope ["self", "text", "reading", "lines", "name", "line", "other"] ["self", "text"] (defScope sProg) := ⟨rfl, rfl, rfl, by decide +kernel, rfl, by decide +kernel, by decide +kernel⟩
/-- the lines behind the lines -/
def RS.behinds (r : RS) : List (Int × Int) := (r.kinds.map (·.1)).zip ((r.kinds.map (·.1)).drop 1)
def RS.firsts (r : RS) : List (Str × Int) := r.hd.map fun p => (p.1, (r.behinds.lookup p.2).getD 0)
/-- the names of all functions -/
def RS.names (r : RS) : List (Str × List (Str × Str)) := r.nms ++ (match r.cur with | some f => [(f, r.kn)] | none => [])
def FdAt {α κ : Type} (ky : κ → Key) (R : V → α → Prop) (fs : List (Str × V)) (x : Str) (l : List (κ × α)) (H : Hp) : Prop := ∃ c kv, fs.lookup x = some (.ref c) ∧ H c = some (.dK kv) ∧ AtK ky R kv l
def knD (H : Hp) (v : V) (l : List (Str × Str)) : Prop := ∃ n kv, v = .ref n ∧ H n = some (.dK kv) ∧ AtK kS isS kv l
/-- a program's tables -/
structure Pg (K : PySem.W.Frag) (fs : List (Str × V)) (z : Str) (r : RS) (H : Hp) : Prop where
  text : fs.lookup ("text" : Str) = some (.str z)
  kinds : FdAt kI isS fs "kinds" r.kinds H
  rows : FdAt kI (tupS K H) fs "rows" r.rows H
  owners : FdAt kI isS fs "owners" r.owners H
  partners : FdAt kI isI fs "partners" r.partners H
  ors : FdAt kI (tupN K H) fs "ors" r.ors H
  eithers : FdAt kI isI fs "eithers" r.eithers H
  evers : FdAt kI isI fs "evers" r.evers H
  callees : FdAt kI isS fs "callees" r.callees H
  heads : FdAt kS isI fs "heads" r.hd H
  params : FdAt kS (tupS K H) fs "params" r.pm H
  names : FdAt kS (knD H) fs "names" r.names H
  fields : FdAt kS (fun v ps => FldAt K ps H v) fs "fields" r.f H
  contents : FdAt kS isS fs "contents" r.c H
  rooms_of : FdAt kI (tupN K H) fs "rooms_of" r.rooms_of H
  behinds : FdAt kI isI fs "behinds" r.behinds H
  firsts : FdAt kS isI fs "firsts" r.firsts H
def PgAt (K : PySem.W.Frag) (p : Addr) (z : Str) (r : RS) (H : Hp) : Prop := ∃ dx fs, H p = some (.ins (ga K "Program") dx fs) ∧ Pg K fs z r H
section
variable {α κ : Type} {ky : κ → Key} {R R' : V → α → Prop} {fs : List (Str × V)} {x : Str} {l : List (κ × α)} {H G : Hp} {K : PySem.W.Frag}
theorem FdAt.ext (h : FdAt ky R fs x l H) (e : ExtH H G) (f : ∀ v a, R v a → R' v a) : FdAt ky R' fs x l G := let ⟨c, kv, h1, h2, h3⟩ := h; ⟨c, kv, h1, e _ _ h2, Paired.mapP h3 fun _ _ h => ⟨h.1, f _ _ h.2⟩⟩
theorem Pg.ext {z : Str} {r : RS} (h : Pg K fs z r H) (e : ExtH H G) : Pg K fs z r G :=
  ⟨h.text, h.kinds.ext e fun _ _ x => x, h.rows.ext e (tupS.tx (ext_tx e)), h.owners.ext e fun _ _ x => x, h.partners.ext e fun _ _ x => x, h.ors.ext e (tupN.tx (ext_tx e)), h.eithers.ext e fun _ _ x => x, h.evers.ext e fun _ _ x => x, h.callees.ext e fun _ _ x => x, h.heads.ext e fun _ _ x => x,
    h.params.ext e (tupS.tx (ext_tx e)), h.names.ext e fun _ _ ⟨n, kv, a, b, c⟩ => ⟨n, kv, a, e _ _ b, c⟩, h.fields.ext e fun _ _ x => FldAt.tx x (ext_tx e), h.contents.ext e fun _ _ x => x, h.rooms_of.ext e (tupN.tx (ext_tx e)), h.behinds.ext e fun _ _ x => x, h.firsts.ext e fun _ _ x => x⟩
theorem PgAt.ext {p : Addr} {z : Str} {r : RS} (h : PgAt K p z r H) (e : ExtH H G) : PgAt K p z r G := let ⟨dx, fs, a, b⟩ := h; ⟨dx, fs, e _ _ a, b.ext e⟩
end
def spProg (K : PySem.W.Frag) : Sp := fun vs H Q _ => ∃ (p dx : Addr) (z : Str) (rows : List (List Str)) (S : Nat → Bool × RS) (r : RS), vs = [.ref p, .str z] ∧ H p = some (.ins (ga K "Program") dx []) ∧ TextIs z rows ∧ ReadS rows S ∧ S rows.length = (true, r) ∧ r.own = none ∧ r.due.length ≤ 100 ∧ (∀ g ∈ mainS :: r.due.map (·.1), ∃ f, r.hd.lookup g = some f) ∧ (r.hd.map (·.1)).Nodup ∧ r.hd.length ≤ 1000 ∧
  (r.kinds.map (·.1)).Nodup ∧ r.kinds.length ≤ 1000 ∧ (∀ p ∈ r.hd, ∃ g, r.behinds.lookup p.2 = some g) ∧ ∀ H', (∀ b o, b ≠ p → H b = some o → H' b = some o) → PgAt K p z r H' → Q .non H'
theorem up1 {kvs : List (Key × V)} {k : Key} {v : V} {i : Nat} (h : kvs.length ≤ i) : (putK kvs k v).length ≤ i + 1 := by
  have := putK_len (kvs := kvs) (k := k) (v := v)
  omega
theorem cut1_eq (xs : List V) : cutV xs (some 1) none = xs.drop 1 := by
  unfold cutV
  rw [HT.sIx_none, show (1 : Int) = ((1 : Nat) : Int) from rfl, HT.sIx_nat]
  rcases Nat.lt_or_ge xs.length 1 with h | h
  · have : xs = [] := List.length_eq_zero_iff.mp (by omega)
    subst this
    rfl
  · rw [Nat.min_eq_left h, List.take_of_length_le (by rw [List.length_drop]; exact Nat.le_refl _)]
theorem atk_keys {R : V → Str → Prop} {kvs : List (Key × V)} {l : List (Int × Str)} (h : AtK kI R kvs l) : (kvs.map fun kv => kV kv.1) = (l.map (·.1)).map V.int := by
  unfold AtK at h
  induction h with
  | nil => rfl
  | cons r t ih => rw [List.map_cons, List.map_cons, List.map_cons, ih, r.1] <;> rfl
theorem zip_take_succ {α β : Type} {xs : List α} {ys : List β} {i : Nat} {x : α} {y : β} (h1 : xs[i]? = some x) (h2 : ys[i]? = some y) : (xs.zip ys).take (i + 1) = (xs.zip ys).take i ++ [(x, y)] := by
  have e : (xs.zip ys)[i]? = some (x, y) := by rw [List.getElem?_zip_eq_some]; exact ⟨h1, h2⟩
  rw [List.take_add_one, e] <;> rfl
theorem lookup_notin {α : Type} : ∀ {l : List (Int × α)} {k : Int}, k ∉ l.map (·.1) → l.lookup k = none
  | [], _, _ => rfl
  | (a, b) :: l, k, h => by
    rw [List.map_cons, List.mem_cons, not_or] at h
    rw [List.lookup_cons]
    have : (k == a) = false := by simpa using h.1
    rw [this]
    exact lookup_notin h.2
theorem lookup_takeS {h : List (Str × Int)} {F : Str × Int → Int} (hn : (h.map (·.1)).Nodup) {i : Nat} {x : Str} {f : Int} (e : h[i]? = some (x, f)) : ((h.map fun p => (p.1, F p)).take i).lookup x = none := by
  rw [List.lookup_eq_none_iff]
  intro q hq
  have : q.1 ≠ x := fun z => by
    obtain ⟨j, hj⟩ := List.getElem?_of_mem hq
    have hji : j < i := by
      have := (List.getElem?_eq_some_iff.mp hj).1
      rw [List.length_take] at this
      omega
    rw [List.getElem?_take_of_lt hji, List.getElem?_map] at hj
    obtain ⟨p, hp, rfl⟩ := Option.map_eq_some_iff.mp hj
    have h1 : (h.map (·.1))[j]? = some p.1 := by rw [List.getElem?_map, hp] <;> rfl
    have h2 : (h.map (·.1))[i]? = some x := by rw [List.getElem?_map, e] <;> rfl
    have z : p.1 = x := z
    rw [z] at h1
    have := nodup_get hn h1 h2
    omega
  simp [Ne.symm this]
theorem zip_fresh {xs ys : List Int} {i : Nat} {x : Int} (nd : xs.Nodup) (h : xs[i]? = some x) : ((xs.zip ys).take i).lookup x = none := by
  refine lookup_notin fun hm => ?_
  obtain ⟨q, hq, rfl⟩ := List.mem_map.mp hm
  obtain ⟨j, hj⟩ := List.getElem?_of_mem hq
  have hji : j < i := by
    have := (List.getElem?_eq_some_iff.mp hj).1
    rw [List.length_take] at this
    omega
  rw [List.getElem?_take_of_lt hji] at hj
  have h2 := (List.getElem?_zip_eq_some.mp hj).1
  have := nodup_get nd h h2
  omega
section
variable {w : World} {K : PySem.W.Frag} {mg : Str → Option Value} {base : Heap}
theorem ok_prog (T : T6 K mg) : HasI w K mg base 7 "Program" ["self", "text"] (spProg K) := by
  obtain ⟨fd, F⟩ := T.fn 60
  have HT : Has w K mg base 6 "read_text" ["text"] (sp_read_text K) := ok_read_text T
  have gt := T.free "tuple" (by decide +kernel)
  have gl := T.free "list" (by decide +kernel)
  have gz := T.free "zip" (by decide +kernel)
  refine ⟨fd, F.ok sc_prog (fun vs H Q E h => ?_) (fun cdv A outer s H vs Q E hr h => ⟨_, PSs.nox (
    (pss_cons (ps_set (i := 2) sc_prog.nd rfl (Or.inr rfl) (pe_has HT rfl hr rfl (pa_cons (pv 1) pa_nil)))
      (pss_cons (ps_fld (pv 0) (pv 1) rfl)
      (pss_cons (ps_fld (pv 0) (pe_callTy call_tuple_of rfl gt PyProof.Rows.boot_tuple (pa_cons (pe_callTy (call_listD rfl) rfl gl (by decide +kernel) (pa_cons (pe_fld (pv 2) rfl) pa_nil)) pa_nil)) rfl)
      (pss_cons (ps_fld (pv 0) (pe_callTy call_tuple_of rfl gt PyProof.Rows.boot_tuple (pa_cons (pe_fld (pv 2) rfl) pa_nil)) rfl)
      (pss_cons (ps_fld (pv 0) (pe_callTy call_tuple_of rfl gt PyProof.Rows.boot_tuple (pa_cons (pe_callTy (call_listD rfl) rfl gl (by decide +kernel) (pa_cons (pe_fld (pv 2) rfl) pa_nil)) pa_nil)) rfl)
      (pss_cons (ps_fld (pv 0) (pe_callTy call_tuple_of rfl gt PyProof.Rows.boot_tuple (pa_cons (pe_fld (pv 2) rfl) pa_nil)) rfl)
      (pss_cons (ps_fld (pv 0) (pe_fld (pv 2) rfl) rfl)
      (pss_cons (ps_fld (pv 0) (pe_fld (pv 2) rfl) rfl)
      (pss_cons (ps_fld (pv 0) (pe_fld (pv 2) rfl) rfl)
      (pss_cons (ps_fld (pv 0) (pe_fld (pv 2) rfl) rfl)
      (pss_cons (ps_fld (pv 0) (pe_fld (pv 2) rfl) rfl)
      (pss_cons (ps_fld (pv 0) (pe_fld (pv 2) rfl) rfl)
      (pss_cons (ps_fld (pv 0) (pe_fld (pv 2) rfl) rfl)
      (pss_cons (ps_fld (pv 0) (pe_fld (pv 2) rfl) rfl)
      (pss_cons (ps_fld (pv 0) (pe_fld (pv 2) rfl) rfl)
      (pss_cons (ps_fld (pv 0) (pe_fld (pv 2) rfl) rfl)
      (pss_cons (ps_fld (pv 0) (pe_dc (own := [("name", 4)]) (g := gName 4) rfl sc_prog.nd (pi_tup (pe_fld (pv 0) rfl)) (blkOk_by (own := [("name", 4)]) (N := ["self", "text", "reading", "lines", "name", "line", "other"]) (sc := defScope sProg) (by decide +kernel))
        (fun _ _ _ _ _ => pg_name (i := 4) sc_prog.nd rfl (Or.inl rfl)) (fun _ _ _ _ _ => pts_nil) (fun _ _ _ _ _ => pv 4) (fun _ _ _ _ _ => pe_dget1 hr.u1 (pe_fldB (K := K) (pv 2)) (pv 4) ⟨rfl, rfl, rfl, rfl⟩)) rfl)
      (pss_cons (ps_fld (pv 0) (pe_fld (pv 2) rfl) rfl)
      (pss_cons (ps_fld (pv 0) (pe_fld (pe_fld (pv 2) rfl) rfl) rfl)
      (pss_cons (ps_fld (pv 0) (pe_fld (pe_fld (pv 2) rfl) rfl) rfl)
      (pss_cons (ps_fld (pv 0) (pe_fld (pe_fld (pv 2) rfl) rfl) rfl)
      (pss_cons (ps_fld (pv 0) (pe_fld (pv 2) rfl) rfl)
      (pss_cons (ps_set (i := 3) sc_prog.nd rfl (Or.inl rfl) (pe_callTy (call_listD rfl) rfl gl (by decide +kernel) (pa_cons (pe_fld (pv 0) rfl) pa_nil)))
      (pss_cons (ps_fld (pv 0) (pe_dc (own := [("line", 5), ("other", 6)]) (g := gTup K 2 (gCons (gName 5) (gCons (gName 6) gNil))) rfl sc_prog.nd (pi_zip rfl gz (pa_cons (pv 3) (pa_cons (pe_slice sl_list (pv 3) (po_some pe_int) po_none) pa_nil))) (blkOk_by (own := [("line", 5), ("other", 6)]) (N := ["self", "text", "reading", "lines", "name", "line", "other"]) (sc := defScope sProg) (by decide +kernel))
        (fun _ _ _ _ _ => pg_tup rfl (pgs_cons (pg_name (i := 5) sc_prog.nd rfl (Or.inl rfl)) (pgs_cons (pg_name (i := 6) sc_prog.nd rfl (Or.inl rfl)) pgs_nil))) (fun _ _ _ _ _ => pts_nil) (fun _ _ _ _ _ => pv 5) (fun _ _ _ _ _ => pv 6)) rfl)
      (pss_cons (ps_fld (pv 0) (pe_lock (pe_dc (own := [("name", 4), ("line", 5)]) (g := gTup K 2 (gCons (gName 4) (gCons (gName 5) gNil))) rfl sc_prog.nd (pi_items (pe_fld (pv 0) rfl)) (blkOk_by (own := [("name", 4), ("line", 5)]) (N := ["self", "text", "reading", "lines", "name", "line", "other"]) (sc := defScope sProg) (by decide +kernel))
        (fun _ _ _ _ _ => pg_tup rfl (pgs_cons (pg_name (i := 4) sc_prog.nd rfl (Or.inl rfl)) (pgs_cons (pg_name (i := 5) sc_prog.nd rfl (Or.inl rfl)) pgs_nil))) (fun _ _ _ _ _ => pts_nil) (fun _ _ _ _ _ => pv 4) (fun _ _ _ _ _ => pe_dget hr.u1 (pe_fldB (K := K) (pv 0)) (pv 5) (fun _ _ => rfl)))) rfl)
      (pss_one (ps_fld (pv 0) pe_dnewK rfl)))))))))))))))))))))))))))), ?_⟩), F.bindsN fun _ _ _ _ _ _ us hl => match us, hl with | [_, _], _ => rfl⟩
  · obtain ⟨p, dx, z, rows, S, r, rfl, _⟩ := h
    rfl
  · obtain ⟨p, dx, z, rows, S, r, rfl, hp, ht, hRS, hfin, hown, hdl, hhm, hdn, hhl, hnd, hkl, hbf, q⟩ := h
    clear F
    have hC := T.cls "Reading" (by decide +kernel)
    have hS := T.cls "Shapes" (by decide +kernel)
    have hP := T.cls "Program" (by decide +kernel)
    have hA_heads := T.noat "Reading" "heads" (by decide +kernel)
    have hA_makings := T.noat "Reading" "makings" (by decide +kernel)
    have hA_callees := T.noat "Reading" "callees" (by decide +kernel)
    have hA_rooms := T.noat "Reading" "rooms" (by decide +kernel)
    have hA_kinds := T.noat "Reading" "kinds" (by decide +kernel)
    have hA_rows := T.noat "Reading" "rows" (by decide +kernel)
    have hA_owners := T.noat "Reading" "owners" (by decide +kernel)
    have hA_partners := T.noat "Reading" "partners" (by decide +kernel)
    have hA_ors := T.noat "Reading" "ors" (by decide +kernel)
    have hA_eithers := T.noat "Reading" "eithers" (by decide +kernel)
    have hA_evers := T.noat "Reading" "evers" (by decide +kernel)
    have hA_params := T.noat "Reading" "params" (by decide +kernel)
    have hA_gives := T.noat "Reading" "gives" (by decide +kernel)
    have hA_names := T.noat "Reading" "names" (by decide +kernel)
    have hA_rooms_of := T.noat "Reading" "rooms_of" (by decide +kernel)
    have hA_shapes := T.noat "Reading" "shapes" (by decide +kernel)
    have hS_fields := T.noat "Shapes" "fields" (by decide +kernel)
    have hS_contents := T.noat "Shapes" "contents" (by decide +kernel)
    have hS_routes := T.noat "Shapes" "routes" (by decide +kernel)
    have hP_functions := T.noat "Program" "functions" (by decide +kernel)
    have hP_kinds := T.noat "Program" "kinds" (by decide +kernel)
    have hP_heads := T.noat "Program" "heads" (by decide +kernel)
    have hP_behinds := T.noat "Program" "behinds" (by decide +kernel)
    refine ⟨_, rfl, z, rows, S, r, rfl, ht, hRS, hfin, hown, hdl, hhm, fun H1 a n e1 new n0 ⟨d, kn, hs⟩ => ?_⟩
    have rg := hs.rg
    have lh := hs.rel.heads.len
    have q0 : Q1 K a d p dx H1 H1 [] := ⟨e1 _ _ hp, fun b o _ h => h, rg, fun hm => by rw [new p hm] at hp; cases hp⟩
    refine ⟨_, rfl, q0.st T 0 rfl rfl (by decide +kernel) rfl fun G1 q1 k1 t1 => ?_⟩
    refine ⟨_, rfl, _, _, _, _, _, rfl, q1.rg.at_ 0, hC, hA_heads, rfl, a.heads, _, rfl, .inl (q1.rg.at_ 7), fun p1 n1 => ⟨p1, _, rfl, .inl ⟨SqL.of upd_same, fun l2 n2 => ?_⟩⟩⟩
    have e1a := (extH_put (o := .lst (d.heads.map fun kv => kV kv.1)) n1).trans (extH_put (o := .tup (d.heads.map fun kv => kV kv.1)) n2)
    have f1 : upd (upd G1 p1 (.lst (d.heads.map fun kv => kV kv.1))) l2 (.tup (d.heads.map fun kv => kV kv.1)) l2 = some (.tup (d.heads.map fun kv => kV kv.1)) := upd_same
    refine (q1.ext e1a).st T 1 rfl rfl (by decide +kernel) rfl fun G2 q2 k2 t2 => ?_
    have f2 := t2.sqT (K := K) (SqT.of f1)
    refine ⟨_, rfl, _, _, _, _, _, rfl, q2.rg.at_ 0, hC, hA_makings, rfl, a.makings, _, rfl, .inl ⟨SqL.of (q2.rg.at_ 19), fun l2 n2 => ?_⟩⟩
    refine (q2.ext (extH_put (o := .tup d.makings) n2)).st T 2 rfl rfl (by decide +kernel) rfl fun G3 q3 k3 t3 => ?_
    have f3 := (t3.sqT ((ext_tx (extH_put (o := .tup d.makings) n2)).sqT f2))
    refine ⟨_, rfl, _, _, _, _, _, rfl, q3.rg.at_ 0, hC, hA_callees, rfl, a.callees, _, rfl, .inl (q3.rg.at_ 17), fun p1 n1 => ⟨p1, _, rfl, .inl ⟨SqL.of upd_same, fun l2 n2 => ?_⟩⟩⟩
    have e3a := (extH_put (o := .lst (d.callees.map fun kv => kV kv.1)) n1).trans (extH_put (o := .tup (d.callees.map fun kv => kV kv.1)) n2)
    refine (q3.ext e3a).st T 3 rfl rfl (by decide +kernel) rfl fun G4 q4 k4 t4 => ?_
    have f4 := (t4.sqT ((ext_tx e3a).sqT f3))
    refine ⟨_, rfl, _, _, _, _, _, rfl, q4.rg.at_ 0, hC, hA_rooms, rfl, a.rooms, _, rfl, .inl ⟨SqL.of (q4.rg.at_ 20), fun l2 n2 => ?_⟩⟩
    refine (q4.ext (extH_put (o := .tup d.rooms) n2)).st T 4 rfl rfl (by decide +kernel) rfl fun G5 q5 k5 t5 => ?_
    have f5 := (t5.sqT ((ext_tx (extH_put (o := .tup d.rooms) n2)).sqT f4))
    refine ⟨_, rfl, _, _, _, _, _, rfl, q5.rg.at_ 0, hC, hA_kinds, rfl, q5.st T 5 rfl rfl (by decide +kernel) rfl fun G6 q6 k6 t6 => ?_⟩
    have f6 := t6.sqT f5
    refine ⟨_, rfl, _, _, _, _, _, rfl, q6.rg.at_ 0, hC, hA_rows, rfl, q6.st T 6 rfl rfl (by decide +kernel) rfl fun G7 q7 k7 t7 => ?_⟩
    have f7 := t7.sqT f6
    refine ⟨_, rfl, _, _, _, _, _, rfl, q7.rg.at_ 0, hC, hA_owners, rfl, q7.st T 7 rfl rfl (by decide +kernel) rfl fun G8 q8 k8 t8 => ?_⟩
    have f8 := t8.sqT f7
    refine ⟨_, rfl, _, _, _, _, _, rfl, q8.rg.at_ 0, hC, hA_partners, rfl, q8.st T 8 rfl rfl (by decide +kernel) rfl fun G9 q9 k9 t9 => ?_⟩
    have f9 := t9.sqT f8
    refine ⟨_, rfl, _, _, _, _, _, rfl, q9.rg.at_ 0, hC, hA_ors, rfl, q9.st T 9 rfl rfl (by decide +kernel) rfl fun G10 q10 k10 t10 => ?_⟩
    have f10 := t10.sqT f9
    refine ⟨_, rfl, _, _, _, _, _, rfl, q10.rg.at_ 0, hC, hA_eithers, rfl, q10.st T 10 rfl rfl (by decide +kernel) rfl fun G11 q11 k11 t11 => ?_⟩
    have f11 := t11.sqT f10
    refine ⟨_, rfl, _, _, _, _, _, rfl, q11.rg.at_ 0, hC, hA_evers, rfl, q11.st T 11 rfl rfl (by decide +kernel) rfl fun G12 q12 k12 t12 => ?_⟩
    have f12 := t12.sqT f11
    refine ⟨_, rfl, _, _, _, _, _, rfl, q12.rg.at_ 0, hC, hA_callees, rfl, q12.st T 12 rfl rfl (by decide +kernel) rfl fun G13 q13 k13 t13 => ?_⟩
    have f13 := t13.sqT f12
    refine ⟨_, rfl, _, _, _, _, _, rfl, q13.rg.at_ 0, hC, hA_heads, rfl, q13.st T 13 rfl rfl (by decide +kernel) rfl fun G14 q14 k14 t14 => ?_⟩
    have f14 := t14.sqT f13
    refine ⟨_, rfl, _, _, _, _, _, rfl, q14.rg.at_ 0, hC, hA_params, rfl, q14.st T 14 rfl rfl (by decide +kernel) rfl fun G15 q15 k15 t15 => ?_⟩
    have f15 := t15.sqT f14
    refine ⟨_, rfl, p, _, _, _, _, rfl, q15.gP, hP, hP_functions, lkp (k := 1) 13 rfl rfl rfl, _, rfl, ⟨_, f15⟩, fun D hD => ?_⟩
    refine dc_it walk_tup (fun i G' => ExtH G15 G' ∧ ∃ kvs, G' D = some (.dK kvs) ∧ kvs.length ≤ i) ⟨extH_put hD, [], upd_same, Nat.zero_le _⟩ (fun i G' _ h => sqT_extH h.1 f15) ?_ ?_
    · rintro i x G' G'' hi ⟨e, kvs, hd, hl⟩ ⟨rfl, hx⟩
      have hi1 : i < 1000 := by rw [List.length_map] at hi; omega
      obtain ⟨kv, rfl⟩ : ∃ kv : Key × V, x = kV kv.1 := by
        obtain ⟨kv, _, rfl⟩ := List.mem_map.mp (List.mem_of_getElem? hx)
        exact ⟨kv, rfl⟩
      have rg' := q15.rg.ext e
      refine ⟨rfl, tyes (ifT rfl ⟨_, rfl, _, rfl, _, _, _, _, _, rfl, rg'.at_ 0, hC, hA_gives, rfl, a.gives, rfl, .inl ⟨_, .inl (rg'.at_ 6)⟩, _, rfl, _, DGet.k (k := kv.1) (rg'.at_ 6), kvs, kv.1, rfl, hd, by rw [sizeLine_eq]; omega, extH_upd e hD, _, upd_same, up1 hl⟩)⟩
    · rintro G' ⟨e, kvs, hd, hl⟩
      refine (q15.ext e).st T 15 rfl rfl (by decide +kernel) rfl fun G16 q16 k16 t16 => ?_
      refine ⟨_, rfl, _, _, _, _, _, rfl, q16.rg.at_ 0, hC, hA_names, rfl, q16.st T 16 rfl rfl (by decide +kernel) rfl fun G17 q17 k17 t17 => ?_⟩
      refine ⟨_, rfl, _, _, _, _, _, rfl, q17.rg.at_ 0, hC, hA_shapes, rfl, _, _, _, _, _, rfl, q17.rg.at_ 1, hS, hS_fields, lookF, q17.st T 17 rfl rfl (by decide +kernel) rfl fun G18 q18 k18 t18 => ?_⟩
      refine ⟨_, rfl, _, _, _, _, _, rfl, q18.rg.at_ 0, hC, hA_shapes, rfl, _, _, _, _, _, rfl, q18.rg.at_ 1, hS, hS_contents, lookC, q18.st T 18 rfl rfl (by decide +kernel) rfl fun G19 q19 k19 t19 => ?_⟩
      refine ⟨_, rfl, _, _, _, _, _, rfl, q19.rg.at_ 0, hC, hA_shapes, rfl, _, _, _, _, _, rfl, q19.rg.at_ 1, hS, hS_routes, lookR, q19.st T 19 rfl rfl (by decide +kernel) rfl fun G20 q20 k20 t20 => ?_⟩
      refine ⟨_, rfl, _, _, _, _, _, rfl, q20.rg.at_ 0, hC, hA_rooms_of, rfl, q20.st T 20 rfl rfl (by decide +kernel) rfl fun G21 q21 k21 t21 => ?_⟩
      refine ⟨_, rfl, p, _, _, _, _, rfl, q21.gP, hP, hP_kinds, lkp (k := 5) 15 rfl rfl rfl, a.kinds, _, rfl, .inl (q21.rg.at_ 10), fun LL nLL => ?_⟩
      have hLL : upd G21 LL (.lst (d.kinds.map fun kv => kV kv.1)) LL = some (.lst (d.kinds.map fun kv => kV kv.1)) := upd_same
      have q21b := q21.ext (extH_put (o := .lst (d.kinds.map fun kv => kV kv.1)) nLL)
      generalize upd G21 LL (.lst (d.kinds.map fun kv => kV kv.1)) = G at hLL q21b ⊢
      rw [atk_keys hs.rel.kinds] at hLL
      have hbe : r.behinds = (r.kinds.map (·.1)).zip ((r.kinds.map (·.1)).drop 1) := rfl
      have hkl' : (r.kinds.map (·.1)).length ≤ 1000 := by rw [List.length_map]; exact hkl
      generalize r.kinds.map (·.1) = ks at hLL hnd hbe hkl'
      refine ⟨_, rfl, _, rfl, 1, rfl, LL, _, rfl, SqL.of hLL, fun p2 np2 => ?_⟩
      rw [cut1_eq, ← List.map_drop]
      refine ⟨LL, p2, _, _, rfl, SqL.of (extH_put np2 _ _ hLL), SqL.of upd_same, fun D2 hD2 => ?_⟩
      have eG := extH_put (o := .lst ((ks.drop 1).map V.int)) np2
      have hc2 : upd G p2 (.lst ((ks.drop 1).map V.int)) p2 = some (.lst ((ks.drop 1).map V.int)) := upd_same
      have q21c := q21b.ext eG
      have hLL2 := eG _ _ hLL
      generalize upd G p2 (.lst ((ks.drop 1).map V.int)) = G2 at hc2 q21c hLL2 hD2 ⊢
      refine dc_it (walk_zip (n := ks.length - 1) (by simp only [List.length_map, List.length_drop]; omega)) (fun i G' => ExtH G2 G' ∧ ∃ kvs, G' D2 = some (.dK kvs) ∧ AtK kI isI kvs ((ks.zip (ks.drop 1)).take i)) ⟨extH_put hD2, [], upd_same, by rw [List.take_zero]; exact .nil⟩ (fun i G' _ h => ⟨SqL.of (h.1 _ _ hLL2), SqL.of (h.1 _ _ hc2)⟩) ?_ ?_
      · rintro i x G' G'' hi ⟨e, kvs, hd, hk⟩ ⟨T2, x2, y2, rfl, hT2, rfl, hx2, hy2⟩
        dsimp only at hx2 hy2
        rw [List.getElem?_map] at hx2 hy2
        obtain ⟨x3, hx3, rfl⟩ := Option.map_eq_some_iff.mp hx2
        obtain ⟨y3, hy3, rfl⟩ := Option.map_eq_some_iff.mp hy2
        have eT : ExtH G2 (upd G' T2 (.tup [.int x3, .int y3])) := e.trans (extH_put hT2)
        have hlen : kvs.length < sizeLine := by
          have := hk.len
          rw [List.length_take, List.length_zip] at this
          rw [sizeLine_eq]
          omega
        refine ⟨T2, _, rfl, SqT.of upd_same, rfl, _, _, rfl, _, _, rfl, rfl, rfl, tyes (ifT rfl ⟨_, rfl, _, rfl, kvs, .inl x3, rfl, extH_put hT2 _ _ hd, hlen, extH_upd eT hD2, _, upd_same, ?_⟩)⟩
        rw [zip_take_succ hx3 hy3]
        exact hk.put kI_inj (k := x3) (u := .int y3) (v := y3) (zip_fresh hnd hx3) rfl
      · rintro G' ⟨e, kvs2, hd2, hk2⟩
        rw [List.take_of_length_le (by rw [List.length_zip, List.length_drop]; omega), ← hbe] at hk2
        have q21d := q21c.ext e
        refine q21d.st T 21 rfl rfl (by decide +kernel) rfl fun G22 q22 k22 t22 => ?_
        have hDp : D2 ≠ p := fun z => by rw [z, q21c.gP] at hD2; cases hD2
        have hd22 := k22 _ _ hDp hd2
        have hph : p ≠ a.heads := fun z => q22.np (z ▸ List.mem_of_getElem? (i := 7) rfl)
        have hD2h : D2 ≠ a.heads := fun z => by
          have := q21c.rg.at_ 7
          rw [← z, hD2] at this; cases this
        have gP' : ∀ od, upd G22 a.heads (.frz od (.dK d.heads)) p = G22 p := fun od => upd_ne hph
        refine ⟨a.heads, .dK d.heads, q22.rg.at_ 7, trivial, fun od => ⟨_, rfl, p, _, _, _, _, rfl, (gP' od).trans q22.gP, hP, hP_heads, lkp (k := 13) 8 rfl rfl rfl, a.heads, od, _, rfl, upd_same, fun D3 hD3 => ?_⟩⟩
        have hD3h : a.heads ≠ D3 := ne_of_none upd_same hD3
        have hD3n : G22 D3 = none := by rw [upd_ne (Ne.symm hD3h)] at hD3; exact hD3
        have hD3p : D3 ≠ p := fun z => by rw [z, q22.gP] at hD3n; cases hD3n
        refine dc_it walk_items (fun i G' => (∀ b o, b ≠ a.heads → G22 b = some o → G' b = some o) ∧ G' a.heads = some (.frz od (.dK d.heads)) ∧ ∃ kvs3, G' D3 = some (.dK kvs3) ∧ AtK kS isI kvs3 (r.firsts.take i))
          ⟨fun b o hb h => by rw [upd_ne (ne_of_none h hD3n), upd_ne hb]; exact h, by rw [upd_ne hD3h]; exact upd_same, [], upd_same, by rw [List.take_zero]; exact .nil⟩ (fun i G' _ h => h.2.1) ?_ ?_
        · rintro i x F1 F2 hi ⟨g1, g2, kvs3, g3, g4⟩ ⟨T3, x3, y3, rfl, hT3, rfl, hx3, hy3⟩
          have hx3 : (d.heads[i]?).map (fun kv => kV kv.1) = some x3 := hx3
          have hy3 : (d.heads[i]?).map Prod.snd = some y3 := hy3
          obtain ⟨kv, hkv, rfl⟩ := Option.map_eq_some_iff.mp hx3
          rw [hkv] at hy3
          cases Option.some.inj hy3
          obtain ⟨⟨fn, fl⟩, hfl, rk, rv⟩ := L2.paired_get hs.rel.heads hkv
          obtain ⟨kk, kv2⟩ := kv
          have rk : kk = .inr fn := rk
          have rv : kv2 = .int fl := rv
          subst rk rv
          obtain ⟨g, hg⟩ := hbf _ (List.mem_of_getElem? hfl)
          have hg : r.behinds.lookup fl = some g := hg
          obtain ⟨nx, hnx, rnx⟩ := hk2.get kI_inj hg
          cases rnx
          have f1 := extH_put (o := .tup [kV (.inr fn), .int fl]) hT3
          have l3 : kvs3.length < sizeLine := by
            have := g4.len
            rw [List.length_take] at this
            unfold RS.firsts at this
            rw [List.length_map] at this
            rw [sizeLine_eq]
            omega
          refine ⟨T3, _, rfl, SqT.of upd_same, rfl, _, _, rfl, _, _, rfl, rfl, rfl, tyes (ifT rfl ⟨_, rfl, _, rfl, p, _, _, _, _, rfl, f1 _ _ (g1 _ _ hph q22.gP), hP, hP_behinds, lkp (k := 21) 0 rfl rfl rfl, _, rfl, D2, .int g, rfl, by rw [← show valV kvs2 (.inl fl) = _ from hnx]; exact DGet.k (k := .inl fl) (f1 _ _ (g1 _ _ hD2h hd22)), kvs3, .inr fn, rfl, f1 _ _ g3, l3, ?_⟩)⟩
          refine ⟨fun b o hb h => ?_, ?_, _, upd_same, ?_⟩
          · rw [upd_ne (ne_of_none h hD3n)]
            exact f1 _ _ (g1 b o hb h)
          · rw [upd_ne hD3h]
            exact f1 _ _ g2
          · have hfi : r.firsts[i]? = some (fn, g) := by
              unfold RS.firsts
              rw [List.getElem?_map, hfl]
              show some (fn, (r.behinds.lookup fl).getD 0) = _
              rw [hg] <;> rfl
            rw [take_succ' hfi]
            exact g4.put kS_inj (k := fn) (u := .int g) (v := g) (lookup_takeS hdn hfl) rfl
        · rintro F1 ⟨g1, g2, kvs3, g3, g4⟩
          rw [List.take_of_length_le (by unfold RS.firsts; rw [List.length_map, lh]; exact Nat.le_refl _)] at g4
          refine ⟨g2, ?_⟩
          have e23 : ExtH G22 (upd F1 a.heads (.dK d.heads)) := fun b o h => by
            by_cases hb : b = a.heads
            · rw [hb] at h ⊢
              rw [upd_same, ← h]
              exact (q22.rg.at_ 7).symm
            · rw [upd_ne hb]
              exact g1 b o hb h
          have d3 : upd F1 a.heads (.dK d.heads) D3 = some (.dK kvs3) := by rw [upd_ne (Ne.symm hD3h)]; exact g3
          refine (q22.ext e23).st T 22 rfl rfl (by decide +kernel) rfl fun G23 q23 k23 t23 => ?_
          intro b nb
          refine (q23.ext (extH_put nb)).st T 23 rfl rfl (by decide +kernel) rfl fun G24 q24 k24 t24 => ?_
          have txp : Tx H1 G24 := fun l xs r => by
            have hl : l ≠ p := fun z => by
              rcases r with r | ⟨u, r⟩
              · rw [z, q0.gP] at r; cases r
              · rw [z, q0.gP] at r; cases r
            exact r.imp (q24.kp _ _ hl) fun ⟨u, r⟩ => ⟨u, q24.kp _ _ hl r⟩
          have rel := hs.rel.tx txp
          have hnp : n ≠ p := fun z => by rw [← z, n0] at hp; cases hp
          have end24 : ∀ {x o}, x ≠ p → upd F1 a.heads (.dK d.heads) x = some o → G24 x = some o := fun hx h => k24 _ _ hx (extH_put nb _ _ (k23 _ _ hx h))
          refine q G24 (fun b o hb h => q24.kp b o hb (e1 b o h)) ⟨dx, _, q24.gP, ?_⟩
          exact {
            text := lkp (k := 0) 23 rfl rfl rfl
            kinds := ⟨_, _, lkp (k := 5) 18 rfl rfl rfl, q24.rg.at_ 10, rel.kinds⟩
            rows := ⟨_, _, lkp (k := 6) 17 rfl rfl rfl, q24.rg.at_ 11, rel.rows⟩
            owners := ⟨_, _, lkp (k := 7) 16 rfl rfl rfl, q24.rg.at_ 12, rel.owners⟩
            partners := ⟨_, _, lkp (k := 8) 15 rfl rfl rfl, q24.rg.at_ 13, rel.partners⟩
            ors := ⟨_, _, lkp (k := 9) 14 rfl rfl rfl, q24.rg.at_ 14, rel.ors⟩
            eithers := ⟨_, _, lkp (k := 10) 13 rfl rfl rfl, q24.rg.at_ 15, rel.eithers⟩
            evers := ⟨_, _, lkp (k := 11) 12 rfl rfl rfl, q24.rg.at_ 16, rel.evers⟩
            callees := ⟨_, _, lkp (k := 12) 11 rfl rfl rfl, q24.rg.at_ 17, rel.callees⟩
            heads := ⟨_, _, lkp (k := 13) 10 rfl rfl rfl, q24.rg.at_ 7, rel.heads⟩
            params := ⟨_, _, lkp (k := 14) 9 rfl rfl rfl, q24.rg.at_ 8, rel.params⟩
            names := ⟨_, _, lkp (k := 16) 7 rfl rfl rfl, q24.rg.at_ 9, by
              obtain ⟨cls, c1, c2⟩ := hs.nms
              have c3 : AtK kS (knD G24) cls r.nms := c2.imp fun v l ⟨m, kv, b1, b2, b3, _⟩ => ⟨m, kv, b1, q24.kp _ _ (fun z => by rw [z, q0.gP] at b2; cases b2) b2, b3⟩
              show AtK kS (knD G24) d.names _
              rw [c1]
              unfold RS.names
              cases r.cur with
              | none =>
                unfold nmV
                rw [List.append_nil, List.append_nil]
                exact c3
              | some f => exact Paired.snoc c3 ⟨rfl, n, kn, rfl, q24.kp _ _ hnp (hs.kn.at_ n rfl).1, hs.kn.knd⟩⟩
            fields := ⟨_, _, lkp (k := 17) 6 rfl rfl rfl, q24.rg.at_ 2, rel.f⟩
            contents := ⟨_, _, lkp (k := 18) 5 rfl rfl rfl, q24.rg.at_ 3, rel.c⟩
            rooms_of := ⟨_, _, lkp (k := 20) 3 rfl rfl rfl, q24.rg.at_ 18, rel.rooms_of⟩
            behinds := ⟨D2, kvs2, lkp (k := 21) 2 rfl rfl rfl, end24 hDp (e23 _ _ hd22), hk2⟩
            firsts := ⟨D3, _, lkp (k := 22) 1 rfl rfl rfl, end24 hD3p d3, g4⟩ }
end
end R9H
set_option Elab.async false
set_option linter.all false
set_option maxRecDepth 100000
set_option maxHeartbeats 4000000
/-! k19, part MF: texts of rows of clean words; the drawn words -/
namespace R9H
open PySem PySem.Spec PyProof.Rows L2
def Cln (x : Str) : Prop := x ≠ "" ∧ (∀ c ∈ x.cps.toList, c ≠ 32 ∧ c ≠ 10) ∧ x.length ≤ 12
instance (x : Str) : Decidable (Cln x) := by unfold Cln; infer_instance
theorem mem_joinL {s : List Nat} : ∀ {parts : List (List Nat)} {c : Nat}, c ∈ TL.joinL s parts → c ∈ s ∨ ∃ p ∈ parts, c ∈ p
  | [], c, h => by cases h
  | [p], c, h => .inr ⟨p, List.mem_cons_self, h⟩
  | p :: q :: r, c, h => by
    have h : c ∈ p ++ (s ++ TL.joinL s (q :: r)) := h
    rcases List.mem_append.mp h with h | h
    · exact .inr ⟨p, List.mem_cons_self, h⟩
    · rcases List.mem_append.mp h with h | h
      · exact .inl h
      · rcases mem_joinL h with h | ⟨z, hz, h⟩
        · exact .inl h
        · exact .inr ⟨z, List.mem_cons_of_mem _ hz, h⟩
theorem len_joinL {s : List Nat} {b : Nat} : ∀ {parts : List (List Nat)}, (∀ p ∈ parts, p.length ≤ b) → (TL.joinL s parts).length ≤ (b + s.length) * parts.length
  | [], _ => Nat.zero_le _
  | [p], h => by
    have := h p List.mem_cons_self
    show p.length ≤ (b + s.length) * 1
    omega
  | p :: q :: r, h => by
    have h1 := h p List.mem_cons_self
    have h2 := len_joinL (s := s) (parts := q :: r) fun z hz => h z (List.mem_cons_of_mem _ hz)
    show (p ++ (s ++ TL.joinL s (q :: r))).length ≤ (b + s.length) * ((q :: r).length + 1)
    rw [List.length_append, List.length_append, Nat.mul_add]
    omega
theorem tlj (y : Str) (ws : List Str) : (Txt.join y ws).cps.toList = TL.joinL y.cps.toList (ws.map fun w => w.cps.toList) := by
  rw [TL.join_eq]
  exact TL.tl_join y ws
theorem str_len (x : Str) : x.length = x.cps.toList.length := by simp [Str.length]
theorem row_split {ws : List Str} (hne : ws ≠ []) (h : ∀ w ∈ ws, Cln w) : Txt.split (Txt.join " " ws) " " = ws :=
  TL.split_join (y := " ") (s := 32) (S := []) (by decide +kernel) (by decide +kernel) hne fun p hp hm => ((h p hp).2.1 32 hm).1 rfl
theorem row_words {ws : List Str} (hne : ws ≠ []) (h : ∀ w ∈ ws, Cln w) : wordsOf (Txt.join " " ws) = ws := by
  unfold wordsOf
  rw [row_split hne h, List.filter_eq_self]
  intro w hw
  exact decide_eq_true (h w hw).1
theorem row_clean {ws : List Str} (h : ∀ w ∈ ws, Cln w) : 10 ∉ (Txt.join " " ws).cps.toList := by
  rw [tlj]
  intro hm
  rcases mem_joinL hm with h1 | ⟨p, hp, h1⟩
  · have e : (" " : Str).cps.toList = [32] := by decide +kernel
    rw [e] at h1
    cases List.mem_singleton.mp h1
  · obtain ⟨w, hw, rfl⟩ := List.mem_map.mp hp
    exact ((h w hw).2.1 10 h1).2 rfl
theorem row_len {ws : List Str} (h : ∀ w ∈ ws, Cln w) (hl : ws.length ≤ 10) : (Txt.join " " ws).length ≤ 130 := by
  rw [str_len, tlj]
  have := len_joinL (s := (" " : Str).cps.toList) (b := 12) (parts := ws.map fun w => w.cps.toList) fun p hp => by
    obtain ⟨w, hw, rfl⟩ := List.mem_map.mp hp
    rw [← str_len]
    exact (h w hw).2.2
  have e : (" " : Str).cps.toList.length = 1 := by decide +kernel
  rw [e, List.length_map] at this
  omega
/-- rows of clean words, as one text -/
theorem text_ofR {rows : List (List Str)} (h8 : rows.length ≤ 40) (hne : rows ≠ []) (hall : ∀ ws ∈ rows, (∀ w ∈ ws, Cln w) ∧ ws ≠ [] ∧ ws.length ≤ 10) : TextIs (Txt.join "\n" (rows.map fun ws => Txt.join " " ws)) rows := by
  have hsp : Txt.split (Txt.join "\n" (rows.map fun ws => Txt.join " " ws)) "\n" = rows.map fun ws => Txt.join " " ws :=
    TL.split_join (y := "\n") (s := 10) (S := []) (by decide +kernel) (by decide +kernel) (by simpa using hne) fun p hp => by
      obtain ⟨ws, hws, rfl⟩ := List.mem_map.mp hp
      exact row_clean (hall ws hws).1
  refine ⟨?_, by omega, ?_, ?_⟩
  · rw [str_len, tlj]
    have := len_joinL (s := ("\n" : Str).cps.toList) (b := 130) (parts := (rows.map fun ws => Txt.join " " ws).map fun w => w.cps.toList) fun p hp => by
      obtain ⟨w, hw, rfl⟩ := List.mem_map.mp hp
      obtain ⟨ws, hws, rfl⟩ := List.mem_map.mp hw
      rw [← str_len]
      exact row_len (hall ws hws).1 (hall ws hws).2.2
    have e : ("\n" : Str).cps.toList.length = 1 := by decide +kernel
    rw [e, List.length_map, List.length_map] at this
    omega
  · rw [hsp, List.map_map]
    conv => rhs; rw [← List.map_id rows]
    apply List.map_congr_left
    intro ws hws
    exact row_words (hall ws hws).2.1 (hall ws hws).1
  · rw [hsp]
    intro row hrow
    obtain ⟨ws, hws, rfl⟩ := List.mem_map.mp hrow
    have := row_len (hall ws hws).1 (hall ws hws).2.2
    rw [row_split (hall ws hws).2.1 (hall ws hws).1]
    have := (hall ws hws).2.2
    omega
/-! ### the drawn words -/
def barred : List Str := ["shape", "bag", "head", "gives", "func", "none", "new", "with", "get", "some", "let", "use", "call", "do", "give", "back", "stop", "room", "either", "or", "loop", "ever", "leave", "end", "in", "main"]
def W (z : Str) (a c : Nat) : Str := cutS z none (some (a : Int)) ++ ⟨#[c]⟩ ++ cutS z (some (a : Int)) none
theorem W_cps {z : Str} {a c : Nat} (h : a ≤ z.length) : (W z a c).cps.toList = z.cps.toList.take a ++ c :: z.cps.toList.drop a := by
  have e1 : (cutS z none (some (a : Int))).cps.toList = z.cps.toList.take a := by
    unfold cutS
    rw [HT.sIx_none, HT.sIx_nat, Nat.min_eq_left h, List.drop_zero, Nat.sub_zero]
  have e2 : (cutS z (some (a : Int)) none).cps.toList = z.cps.toList.drop a := by
    unfold cutS
    rw [HT.sIx_none, HT.sIx_nat, Nat.min_eq_left h, List.take_of_length_le]
    rw [List.length_drop, str_len]
    exact Nat.le_refl _
  have e3 : (W z a c).cps = (cutS z none (some (a : Int))).cps ++ #[c] ++ (cutS z (some (a : Int)) none).cps := rfl
  rw [e3, Array.toList_append, Array.toList_append, e1, e2]
  simp
theorem nodup_len {α : Type} [DecidableEq α] : ∀ {l m : List α}, l.Nodup → (∀ x ∈ l, x ∈ m) → l.length ≤ m.length
  | [], _, _, _ => Nat.zero_le _
  | a :: l, m, nd, h => by
    rw [List.nodup_cons] at nd
    have ha := h a List.mem_cons_self
    have ih := nodup_len (l := l) (m := m.erase a) nd.2 fun x hx => by
      have hne : x ≠ a := fun e => nd.1 (e ▸ hx)
      exact (List.mem_erase_of_ne hne).mpr (h x (List.mem_cons_of_mem _ hx))
    rw [List.length_erase_of_mem ha] at ih
    have : 0 < m.length := List.length_pos_of_mem ha
    rw [List.length_cons]
    omega
theorem len_split {α : Type} (p : α → Bool) : ∀ l : List α, l.length = (l.filter p).length + (l.filter fun x => !p x).length
  | [] => rfl
  | a :: l => by
    rw [List.length_cons, len_split p l, List.filter_cons, List.filter_cons]
    cases p a <;> simp <;> omega
def rm (k : Nat) (l : List Nat) : List Nat := l.take k ++ l.drop (k + 1)
theorem rm_ins {l : List Nat} {k c : Nat} (h : k ≤ l.length) : rm k (l.take k ++ c :: l.drop k) = l := by
  unfold rm
  have hl : (l.take k).length = k := by rw [List.length_take]; omega
  rw [List.take_append_of_le_length (by omega), List.take_of_length_le (by omega)]
  have : (l.take k ++ c :: l.drop k).drop (k + 1) = l.drop k := by
    rw [show l.take k ++ c :: l.drop k = (l.take k ++ [c]) ++ l.drop k by simp, List.drop_append_of_le_length (by simp; omega), List.drop_of_length_le (by simp; omega)]
    rfl
  rw [this, List.take_append_drop]
theorem barred_two : ∀ a < 9, ∀ b0 ∈ barred, (barred.filter fun b => decide (rm a b.cps.toList = rm a b0.cps.toList)).length ≤ 2 := by decide +kernel
theorem codes_nd : ∀ f < 26, ∀ st ∈ [1, 3, 5, 7, 9, 11], ((List.range 26).map fun k => 97 + (f + st * k) % 26).Nodup := by decide +kernel
theorem kws_barred : ∀ w ∈ kws, w ∈ barred := by decide +kernel
def lets : Str := "abcdefghijklmnopqrstuvwxyz"
theorem lets_get : ∀ j < 26, lets.cps.toList[j]? = some (97 + j) := by decide +kernel
theorem lets_range : ∀ c ∈ lets.cps.toList, 97 ≤ c ∧ c ≤ 122 := by decide +kernel
def Wd (w : Str) : Prop := goodName w ∧ w ≠ mainS
def codes (f st : Nat) : List Nat := (List.range 26).map fun k => 97 + (f + st * k) % 26
theorem words_plain {z : Str} {a f st m : Nat} (hz : ∀ c ∈ z.cps.toList, c ∈ lets.cps.toList) (hl : z.length ≤ 8) (ha : a ≤ z.length) (hf : f < 26) (hst : st ∈ [1, 3, 5, 7, 9, 11]) (hm : m ≤ 9) :
    ((((codes f st).map (W z a)).filter fun w => !barred.contains w).take m).length = m ∧ ((((codes f st).map (W z a)).filter fun w => !barred.contains w).take m).Nodup ∧ ∀ w ∈ (((codes f st).map (W z a)).filter fun w => !barred.contains w).take m, Wd w := by
  have hzl : z.cps.toList.length = z.length := (str_len z).symm
  have inj : ∀ c c', W z a c = W z a c' → c = c' := fun c c' e => by
    have := congrArg (fun w => w.cps.toList) e
    rw [W_cps ha, W_cps ha] at this
    have := List.append_cancel_left this
    exact (List.cons.inj this).1
  have nd : ((codes f st).map (W z a)).Nodup := by
    refine List.pairwise_map.mpr ((codes_nd f hf st hst).imp fun ne e => ne (inj _ _ e))
  have len26 : ((codes f st).map (W z a)).length = 26 := by unfold codes; simp
  generalize hfd : (codes f st).map (W z a) = found at nd len26
  have hmem : ∀ w ∈ found, ∃ c ∈ codes f st, w = W z a c := fun w hw => by
    rw [← hfd] at hw
    obtain ⟨c, hc, rfl⟩ := List.mem_map.mp hw
    exact ⟨c, hc, rfl⟩
  have cnt : (found.filter barred.contains).length ≤ 2 := by
    rcases hF : found.filter barred.contains with _ | ⟨w0, F⟩
    · exact Nat.zero_le _
    · rw [← hF]
      have hw0 : w0 ∈ found.filter barred.contains := by rw [hF]; exact List.mem_cons_self
      obtain ⟨h1, h2⟩ := List.mem_filter.mp hw0
      have hb0 : w0 ∈ barred := by simpa using h2
      have e0 : rm a w0.cps.toList = z.cps.toList := by
        obtain ⟨c, _, rfl⟩ := hmem w0 h1
        rw [W_cps ha]
        exact rm_ins (by omega)
      refine Nat.le_trans (nodup_len (nd.filter _) fun x hx => ?_) (barred_two a (by omega) w0 hb0)
      obtain ⟨g1, g2⟩ := List.mem_filter.mp hx
      refine List.mem_filter.mpr ⟨by simpa using g2, decide_eq_true ?_⟩
      obtain ⟨c, _, rfl⟩ := hmem x g1
      rw [W_cps ha, rm_ins (by omega), e0]
  have hlen := len_split barred.contains found
  refine ⟨by rw [List.length_take]; omega, (nd.filter _).take, fun w hw => ?_⟩
  have hw := List.mem_of_mem_take hw
  obtain ⟨h1, h2⟩ := List.mem_filter.mp hw
  have hnb : w ∉ barred := by simpa using h2
  obtain ⟨c, hc, rfl⟩ := hmem w h1
  have hcps := W_cps (c := c) ha
  have hlw : (W z a c).length = z.length + 1 := by
    rw [str_len, hcps, List.length_append, List.length_cons, List.length_take, List.length_drop]
    omega
  refine ⟨⟨fun e => ?_, by omega, fun e => hnb (kws_barred _ e), fun x hx => ?_⟩, fun e => hnb (by rw [e]; decide +kernel)⟩
  · rw [e] at hlw
    have : ("" : Str).length = 0 := by decide +kernel
    omega
  · rw [hcps] at hx
    rcases List.mem_append.mp hx with h | h
    · exact hz x (List.mem_of_mem_take h)
    · rcases List.mem_cons.mp h with rfl | h
      · unfold codes at hc
        obtain ⟨k, _, rfl⟩ := List.mem_map.mp hc
        exact List.mem_of_getElem? (lets_get _ (Nat.mod_lt _ (by decide)))
      · exact hz x (List.mem_of_mem_drop h)
theorem good_cln {w : Str} (h : goodName w) : Cln w ∧ PyData.strOk w = true := by
  obtain ⟨h1, h2, h3, h4⟩ := h
  have hr : ∀ c ∈ w.cps.toList, 97 ≤ c ∧ c ≤ 122 := fun c hc => lets_range c (h4 c hc)
  refine ⟨⟨h1, fun c hc => by have := hr c hc; omega, h2⟩, ?_⟩
  unfold PyData.strOk
  rw [Array.all_eq_true_iff_forall_mem]
  intro c hc
  have := hr c (by simpa using hc)
  exact decide_eq_true (by omega)
end R9H
set_option Elab.async false
set_option linter.all false
set_option maxRecDepth 100000
set_option maxHeartbeats 4000000
/-! k24, part YA: the steps of a program -/
namespace R9H
open PySem PySem.Spec PyProof.Rows L2
theorem op_notIn_seqK {X : Cx} {K : PySem.W.Frag} (hK : X.K = K := by rfl) : OpR X (compareOp .NotIn) (rIn K true) := by subst hK; exact op_notIn_seq
theorem op_in_seqK {X : Cx} {K : PySem.W.Frag} (hK : X.K = K := by rfl) : OpR X (compareOp .In) (rIn K false) := by subst hK; exact op_in_seq
/-- a comprehension over a tuple whose test and element make nothing -/
theorem lc_pureT {K : PySem.W.Frag} {a : Addr} {xs : List V} {slot : Nat} {tt : TT} {te : TE} {vs : List Nat} {σ : L2.St} {H1 : Hp} {D : Addr} {Qd : Hp → Prop} (p : V → Bool) (f : V → V) (hx : SqT K H1 a xs) (hD : H1 D = none) (hn : xs.length ≤ 16000000)
    (hw : ∀ x, wipe ((wipe σ vs).set slot (some x)) vs = wipe σ vs) (ht : ∀ x ∈ xs, ∀ H (Q : Bool → Hp → Prop), ExtH H1 H → Q (p x) H → tt ((wipe σ vs).set slot (some x)) H Q)
    (he : ∀ x ∈ xs, p x = true → ∀ H (Q : VK), ExtH H1 H → Q (f x) H → te ((wipe σ vs).set slot (some x)) H Q) (hq : ∀ H', ExtH H1 H' → H' D = some (.lst ((xs.filter p).map f)) → Qd H') :
    ∃ W : Nat → Nat → Hp → Prop, (∃ m, W 0 m (upd H1 D (.lst []))) ∧ ∀ i m H, W i m H →
      ((Itt K a).stop i H ∧ Qd H) ∨ ((Itt K a).go i H ∧ ∃ Nx : Hp → Prop, (∀ H', Nx H' → ∃ m', m' < m ∧ W (i + 1) m' H') ∧ ∀ x H', (Itt K a).yld i H x H' → gName slot x (wipe σ vs) H' fun σ2 H2 => wipe σ2 vs = wipe σ vs ∧ tt σ2 H2 fun b H3 =>
        if b = true then te σ2 H3 fun y H4 => ∃ acc, H4 D = some (.lst acc) ∧ acc.length < sizeLine ∧ Nx (upd H4 D (.lst (acc ++ [y]))) else Nx H3) := by
  refine lc_it (walk_tup (xs := xs)) (fun i G => ExtH H1 G ∧ G D = some (.lst (((xs.take i).filter p).map f))) ⟨extH_put hD, upd_same⟩ (fun i G _ ⟨e, _⟩ => sqT_extH e hx) ?_ ?_
  · rintro i x G G' _ ⟨e, hd⟩ ⟨rfl, hi⟩
    have hm := List.mem_of_getElem? hi
    refine ⟨hw x, ht x hm G' _ e ?_⟩
    cases hp : p x with
    | true =>
      refine ifT rfl (he x hm hp G' _ e ⟨_, hd, ?_, fun z o hz => ?_, ?_⟩)
      · rw [List.length_map, sizeLine_eq]
        have := List.length_filter_le p (xs.take i)
        have : (xs.take i).length ≤ xs.length := by rw [List.length_take]; exact Nat.min_le_right _ _
        omega
      · rw [upd_ne (ne_of_none hz hD)]
        exact e _ _ hz
      · rw [upd_same, take_succ' hi, List.filter_append, List.map_append, List.filter_cons_of_pos hp] <;> rfl
    | false =>
      refine ifF rfl ⟨e, ?_⟩
      rw [take_succ' hi, List.filter_append, List.filter_cons_of_neg (by rw [hp]; exact Bool.false_ne_true), List.filter_nil, List.append_nil]
      exact hd
  · rintro G ⟨e, hd⟩
    rw [List.take_length] at hd
    exact hq G e hd
def isLast (r : RS) (l : Int) : Option Bool := match r.kinds.lookup l with
  | none => none
  | some k => if k = "end" then (match r.partners.lookup l with
    | none => none
    | some q => match r.kinds.lookup q with
      | none => none
      | some k2 => some (decide (k2 = "func"))) else some false
def leaves (r : RS) (l : Int) : Option Bool := match r.kinds.lookup l with
  | none => none
  | some k => if k = "give" ∨ k = "back" then some true else isLast r l
def endLines (r : RS) (l : Int) : Option (List Int) := match r.partners.lookup l, r.behinds.lookup l with
  | some f, some b => (match r.kinds.lookup f, r.behinds.lookup f with
    | some k, some g => if k = "loop" then some [g, b] else if k = "ever" then some [g] else some [b]
    | _, _ => none)
  | _, _ => none
/-- the lines that can come behind a line -/
def stepLines (r : RS) (l : Int) : Option (List Int) := match r.kinds.lookup l, leaves r l with
  | some k, some b => if k ∈ [("call" : Str), "do", "stop"] then some [] else if b = true then some [] else if k = "leave" then none
      else if k = "either" then (match r.behinds.lookup l, r.ors.lookup l with
        | some g, some os => if os.length ≤ 1000 ∧ ∀ o ∈ os, (r.behinds.lookup o).isSome = true then some (g :: os.map fun o => (r.behinds.lookup o).getD 0) else none
        | _, _ => none)
      else if k = "or" then (match r.eithers.lookup l with
        | some e => (match r.partners.lookup e with
          | some q => (r.behinds.lookup q).map fun g => [g]
          | none => none)
        | none => none) else
      if k = "loop" then (match r.behinds.lookup l, r.partners.lookup l with
        | some g, some q => (match r.behinds.lookup q with
          | some h => some [g, h]
          | none => none)
        | _, _ => none)
      else if k = "end" then endLines r l else (r.behinds.lookup l).map fun g => [g]
  | _, _ => none
def allRooms (r : RS) (l : Int) : Option (List Int) := match r.owners.lookup l with
  | none => none
  | some o => match r.hd.lookup o with
    | none => none
    | some h => some ((r.rooms_of.lookup l).getD [h])
def endedRooms (r : RS) (l after : Int) : Option (List Int) := match r.kinds.lookup l with
  | none => none
  | some k => if k ∈ [("call" : Str), "do", "stop"] then some [] else match allRooms r l with
    | none => none
    | some rs => if after = 0 then some rs else match allRooms r after with
      | none => none
      | some ks => some (rs.filter fun b => !ks.contains b)
section
variable {α κ : Type} [BEq κ] [LawfulBEq κ] {ky : κ → Key} {R : V → α → Prop} {fs : List (Str × V)} {x : Str} {l : List (κ × α)} {H : Hp}
theorem FdAt.get (h : FdAt ky R fs x l H) (hi : ∀ {a b}, ky a = ky b → a = b) {k : κ} {v : α} (e : l.lookup k = some v) : ∃ c u, fs.lookup x = some (.ref c) ∧ IsD H c ∧ DGet H c (kV (ky k)) (some u) ∧ R u v := by
  obtain ⟨c, kv, h1, h2, h3⟩ := h
  obtain ⟨u, hu, hr⟩ := h3.get hi e
  exact ⟨c, u, h1, .inl ⟨_, .inl h2⟩, by rw [← hu]; exact DGet.k h2, hr⟩
theorem FdAt.non (h : FdAt ky R fs x l H) (hi : ∀ {a b}, ky a = ky b → a = b) {k : κ} (e : l.lookup k = none) : ∃ c, fs.lookup x = some (.ref c) ∧ IsD H c ∧ DGet H c (kV (ky k)) none := by
  obtain ⟨c, kv, h1, h2, h3⟩ := h
  have hu := h3.non hi e
  exact ⟨c, h1, .inl ⟨_, .inl h2⟩, by rw [← hu]; exact DGet.k h2⟩
end
def spL (K : PySem.W.Frag) (f : RS → Int → Option Bool) : Sp := fun vs H Q _ => ∃ (p : Addr) (z : Str) (r : RS) (l : Int) (b : Bool), vs = [.ref p, .int l] ∧ PgAt K p z r H ∧ f r l = some b ∧ Q (.bl b) H
def spN (K : PySem.W.Frag) (f : RS → Int → Option (List Int)) : Sp := fun vs H Q _ => ∃ (p : Addr) (z : Str) (r : RS) (l : Int) (ls : List Int), vs = [.ref p, .int l] ∧ PgAt K p z r H ∧ f r l = some ls ∧ ∀ H' t, ExtH H H' → SqT K H' t (ls.map V.int) → Q (.ref t) H'
abbrev sp_is_last (K : PySem.W.Frag) : Sp := spL K isLast
abbrev sp_leaves_call (K : PySem.W.Frag) : Sp := spL K leaves
abbrev sp_end_lines (K : PySem.W.Frag) : Sp := spN K endLines
abbrev sp_step_lines (K : PySem.W.Frag) : Sp := spN K stepLines
abbrev sp_all_rooms (K : PySem.W.Frag) : Sp := fun vs H Q E => spN K allRooms vs H Q E
def sp_ended_rooms (K : PySem.W.Frag) : Sp := fun vs H Q _ => ∃ (p : Addr) (z : Str) (r : RS) (l after : Int) (ls : List Int), vs = [.ref p, .int l, .int after] ∧ PgAt K p z r H ∧ endedRooms r l after = some ls ∧ (∀ x rs, allRooms r x = some rs → rs.length ≤ 1000) ∧ ∀ H' t, ExtH H H' → SqT K H' t (ls.map V.int) → Q (.ref t) H'
theorem dec_str {a b : Str} : decide (V.str a = V.str b) = decide (a = b) := by
  by_cases e : a = b
  · subst e; simp
  · have : ¬ V.str a = V.str b := fun z => e (by injection z)
    rw [decide_eq_false this, decide_eq_false e]
theorem dec_int {a b : Int} : decide (V.int a = V.int b) = decide (a = b) := by
  by_cases e : a = b
  · subst e; simp
  · have : ¬ V.int a = V.int b := fun z => e (by injection z)
    rw [decide_eq_false this, decide_eq_false e]
theorem inV_int {z : Int} {ws : List Int} : inV (V.int z) (ws.map V.int) = decide (z ∈ ws) := by
  unfold inV
  by_cases h : z ∈ ws
  · rw [decide_eq_true h, List.any_eq_true]
    exact ⟨.int z, List.mem_map.mpr ⟨z, h, rfl⟩, by show (z == z) = true; simp⟩
  · rw [decide_eq_false h, List.any_eq_false]
    intro y hy e
    obtain ⟨k, hk, rfl⟩ := List.mem_map.mp hy
    have e' : (k == z) = true := e
    rw [beq_iff_eq] at e'
    exact h (e' ▸ hk)
section
variable {w : World} {K : PySem.W.Frag} {mg : Str → Option Value} {base : Heap}
abbrev st_is_last : Stmt := top 9
theorem sc_is_last : FnScope ["program", "line"] ["program", "line"] (defScope st_is_last) := ⟨rfl, rfl, rfl, by decide +kernel, rfl, by decide +kernel, by decide +kernel⟩
theorem ok_is_last (T : T6 K mg) : Has w K mg base 1 "is_last" ["program", "line"] (sp_is_last K) := by
  obtain ⟨fd, F⟩ := T.fn 1
  refine has_of (st := st_is_last) T F (by decide +kernel) (F.ok sc_is_last (fun vs H Q E h => ?_) (fun cdv A outer s H vs Q E hr h => ⟨_, PSs.nox (
    (pss_one (ps_ret (pe_and (pe_cmpR op_eq (pe_dget hr.u1 (pe_fld (pv 0) rfl) (pv 1) (fun _ _ => rfl)) pe_str (nomark _)) (pe_one (pe_cmpR op_eq (pe_dget hr.u1 (pe_fld (pv 0) rfl) (pe_dget hr.u1 (pe_fld (pv 0) rfl) (pv 1) (fun _ _ => rfl)) (fun _ _ => rfl)) pe_str (nomark _))))))), ?_⟩)) fun _ _ _ _ _ _ us hl => match us, hl with | [_, _], _ => rfl
  · obtain ⟨p, z, r, l, b, rfl, _⟩ := h
    rfl
  · obtain ⟨p, z, r, l, b, rfl, ⟨dx, fs, hp, G⟩, hb, q⟩ := h
    clear F
    have hC := T.cls "Program" (by decide +kernel)
    have hA1 := T.noat "Program" "kinds" (by decide +kernel)
    have hA2 := T.noat "Program" "partners" (by decide +kernel)
    unfold isLast at hb
    cases hk : r.kinds.lookup l with
    | none => rw [hk] at hb; cases hb
    | some k =>
      rw [hk] at hb
      dsimp only at hb
      obtain ⟨c, _, lk, _, dg, rfl⟩ := G.kinds.get kI_inj hk
      refine ⟨_, rfl, _, _, _, _, _, rfl, hp, hC, hA1, lk, _, rfl, _, _, rfl, dg, rfl, decide (k = "end"), by rw [dec_str], ?_⟩
      by_cases he : k = "end"
      · rw [if_pos he] at hb
        rw [decide_eq_true he]
        cases hq : r.partners.lookup l with
        | none => rw [hq] at hb; cases hb
        | some f =>
          rw [hq] at hb
          dsimp only at hb
          cases hk2 : r.kinds.lookup f with
          | none => rw [hk2] at hb; cases hb
          | some k2 =>
            rw [hk2] at hb
            cases hb
            obtain ⟨c2, _, lk2, _, dg2, rfl⟩ := G.partners.get kI_inj hq
            obtain ⟨c3, _, lk3, _, dg3, rfl⟩ := G.kinds.get kI_inj hk2
            exact iteT ⟨_, rfl, _, _, _, _, _, rfl, hp, hC, hA1, lk3, _, rfl, _, _, _, _, _, rfl, hp, hC, hA2, lk2, _, rfl, _, _, rfl, dg2, _, _, rfl, dg3, rfl, by rw [dec_str]; exact q⟩
      · rw [if_neg he] at hb
        cases hb
        rw [decide_eq_false he]
        exact iteF q
abbrev st_leaves_call : Stmt := top 10
theorem sc_leaves_call : FnScope ["program", "line"] ["program", "line"] (defScope st_leaves_call) := ⟨rfl, rfl, rfl, by decide +kernel, rfl, by decide +kernel, by decide +kernel⟩
theorem ok_leaves_call (T : T6 K mg) : Has w K mg base 2 "leaves_call" ["program", "line"] (sp_leaves_call K) := by
  obtain ⟨fd, F⟩ := T.fn 2
  have H_is_last := ok_is_last (w := w) (base := base) T
  have g_LEAVING := T.glo "LEAVING" (by decide +kernel)
  refine has_of (st := st_leaves_call) T F (by decide +kernel) (F.ok sc_leaves_call (fun vs H Q E h => ?_) (fun cdv A outer s H vs Q E hr h => ⟨_, PSs.nox (
    (pss_one (ps_ret (pe_or (pe_cmpR op_in_seq (pe_dget hr.u1 (pe_fld (pv 0) rfl) (pv 1) (fun _ _ => rfl)) (pe_gr rfl g_LEAVING) rfl) (pe_one (pe_has H_is_last rfl (hr.mono (by decide)) rfl (pa_cons (pv 0) (pa_cons (pv 1) pa_nil)))))))), ?_⟩)) fun _ _ _ _ _ _ us hl => match us, hl with | [_, _], _ => rfl
  · obtain ⟨p, z, r, l, b, rfl, _⟩ := h
    rfl
  · obtain ⟨p, z, r, l, b, rfl, ⟨dx, fs, hp, G⟩, hb, q⟩ := h
    clear F
    have hC := T.cls "Program" (by decide +kernel)
    have hA1 := T.noat "Program" "kinds" (by decide +kernel)
    unfold leaves at hb
    cases hk : r.kinds.lookup l with
    | none => rw [hk] at hb; cases hb
    | some k =>
      rw [hk] at hb
      dsimp only at hb
      obtain ⟨c, _, lk, _, dg, rfl⟩ := G.kinds.get kI_inj hk
      refine ⟨_, rfl, _, _, _, _, _, rfl, hp, hC, hA1, lk, _, rfl, _, _, rfl, dg, _, _, rfl, .inr (T.lv H), rfl, by decide, decide (k = "give" ∨ k = "back"), congrArg V.bl ((inV_str (ws := [("give" : Str), "back"])).trans (by congr 1; simp)), ?_⟩
      by_cases he : k = "give" ∨ k = "back"
      · rw [if_pos he] at hb
        cases hb
        rw [decide_eq_true he]
        exact iteT q
      · rw [if_neg he] at hb
        rw [decide_eq_false he]
        exact iteF ⟨_, rfl, _, rfl, p, z, r, l, b, rfl, ⟨dx, fs, hp, G⟩, hb, q⟩
abbrev st_end_lines : Stmt := top 11
theorem sc_end_lines : FnScope ["program", "line", "first"] ["program", "line"] (defScope st_end_lines) := ⟨rfl, rfl, rfl, by decide +kernel, rfl, by decide +kernel, by decide +kernel⟩
theorem ok_end_lines (T : T6 K mg) : Has w K mg base 1 "end_lines" ["program", "line"] (sp_end_lines K) := by
  obtain ⟨fd, F⟩ := T.fn 3
  refine has_of (st := st_end_lines) T F (by decide +kernel) (F.ok sc_end_lines (fun vs H Q E h => ?_) (fun cdv A outer s H vs Q E hr h => ⟨_, PSs.nox (
    (pss_cons (ps_set (i := 2) sc_end_lines.nd rfl (Or.inl rfl) (pe_dget hr.u1 (pe_fld (pv 0) rfl) (pv 1) (fun _ _ => rfl)))
    (pss_cons (ps_if (pt_cmpR op_eq (pe_dget hr.u1 (pe_fld (pv 0) rfl) (pv 2) (fun _ _ => rfl)) pe_str (nomark _))
      (pss_one (ps_ret (pe_tup (pa_cons (pe_dget hr.u1 (pe_fld (pv 0) rfl) (pv 2) (fun _ _ => rfl)) (pa_cons (pe_dget hr.u1 (pe_fld (pv 0) rfl) (pv 1) (fun _ _ => rfl)) pa_nil)))))
      pss_nil)
    (pss_cons (ps_if (pt_cmpR op_eq (pe_dget hr.u1 (pe_fld (pv 0) rfl) (pv 2) (fun _ _ => rfl)) pe_str (nomark _))
      (pss_one (ps_ret (pe_tup (pa_cons (pe_dget hr.u1 (pe_fld (pv 0) rfl) (pv 2) (fun _ _ => rfl)) pa_nil))))
      pss_nil)
    (pss_one (ps_ret (pe_tup (pa_cons (pe_dget hr.u1 (pe_fld (pv 0) rfl) (pv 1) (fun _ _ => rfl)) pa_nil)))))))), ?_⟩)) fun _ _ _ _ _ _ us hl => match us, hl with | [_, _], _ => rfl
  · obtain ⟨p, z, r, l, b, rfl, _⟩ := h
    rfl
  · obtain ⟨p, z, r, l, ls, rfl, ⟨dx, fs, hp, G⟩, hb, q⟩ := h
    clear F
    have hC := T.cls "Program" (by decide +kernel)
    have hA1 := T.noat "Program" "kinds" (by decide +kernel)
    have hA2 := T.noat "Program" "partners" (by decide +kernel)
    have hA3 := T.noat "Program" "behinds" (by decide +kernel)
    unfold endLines at hb
    cases hq : r.partners.lookup l with
    | none => rw [hq] at hb; cases hb
    | some f =>
      cases hbl : r.behinds.lookup l with
      | none => rw [hq, hbl] at hb; cases hb
      | some bl =>
        cases hk : r.kinds.lookup f with
        | none => rw [hq, hbl] at hb; dsimp only at hb; rw [hk] at hb; cases hb
        | some k =>
          cases hg : r.behinds.lookup f with
          | none => rw [hq, hbl] at hb; dsimp only at hb; rw [hk, hg] at hb; cases hb
          | some g =>
            rw [hq, hbl] at hb
            dsimp only at hb
            rw [hk, hg] at hb
            dsimp only at hb
            obtain ⟨c1, _, lk1, _, dg1, rfl⟩ := G.partners.get kI_inj hq
            obtain ⟨c2, _, lk2, _, dg2, rfl⟩ := G.kinds.get kI_inj hk
            obtain ⟨c3, _, lk3, _, dg3, rfl⟩ := G.behinds.get kI_inj hbl
            obtain ⟨c4, _, lk4, _, dg4, rfl⟩ := G.behinds.get kI_inj hg
            refine ⟨_, rfl, _, _, _, _, _, rfl, hp, hC, hA2, lk1, _, rfl, _, _, rfl, dg1, ?_⟩
            refine ⟨_, rfl, _, _, _, _, _, rfl, hp, hC, hA1, lk2, _, rfl, _, _, rfl, dg2, rfl, _, rfl, ?_⟩
            rw [dec_str]
            by_cases h1 : k = "loop"
            · rw [if_pos h1] at hb
              cases hb
              refine ifT (decide_eq_true h1) ?_
              refine ⟨_, rfl, _, _, _, _, _, rfl, hp, hC, hA3, lk4, _, rfl, _, _, rfl, dg4, _, rfl, _, _, _, _, _, rfl, hp, hC, hA3, lk3, _, rfl, _, _, rfl, dg3, by rw [sizeLine_eq]; show 2 ≤ 16777216; decide, fun t nt => q _ t (extH_put nt) (SqT.of upd_same)⟩
            rw [if_neg h1] at hb
            refine ifF (decide_eq_false h1) ?_
            refine ⟨_, rfl, _, _, _, _, _, rfl, hp, hC, hA1, lk2, _, rfl, _, _, rfl, dg2, rfl, _, rfl, ?_⟩
            rw [dec_str]
            by_cases h2 : k = "ever"
            · rw [if_pos h2] at hb
              cases hb
              refine ifT (decide_eq_true h2) ?_
              refine ⟨_, rfl, _, _, _, _, _, rfl, hp, hC, hA3, lk4, _, rfl, _, _, rfl, dg4, by rw [sizeLine_eq]; show 1 ≤ 16777216; decide, fun t nt => q _ t (extH_put nt) (SqT.of upd_same)⟩
            rw [if_neg h2] at hb
            cases hb
            refine ifF (decide_eq_false h2) ?_
            refine ⟨_, rfl, _, _, _, _, _, rfl, hp, hC, hA3, lk3, _, rfl, _, _, rfl, dg3, by rw [sizeLine_eq]; show 1 ≤ 16777216; decide, fun t nt => q _ t (extH_put nt) (SqT.of upd_same)⟩
def bhV (r : RS) : V → V
  | .int o => .int ((r.behinds.lookup o).getD 0)
  | _ => .non
theorem ints_tup {ls : List Int} : ls.map V.int = ls.map V.int := rfl
abbrev st_step_lines : Stmt := top 12
theorem sc_step_lines : FnScope ["program", "line", "kind", "behinds", "other"] ["program", "line"] (defScope st_step_lines) := ⟨rfl, rfl, rfl, by decide +kernel, rfl, by decide +kernel, by decide +kernel⟩
theorem ok_step_lines (T : T6 K mg) : Has w K mg base 3 "step_lines" ["program", "line"] (sp_step_lines K) := by
  obtain ⟨fd, F⟩ := T.fn 4
  have H_leaves_call := ok_leaves_call (w := w) (base := base) T
  have H_end_lines := ok_end_lines (w := w) (base := base) T
  have gf_tuple := T.free "tuple" (by decide +kernel)
  refine has_of (st := st_step_lines) T F (by decide +kernel) (F.ok sc_step_lines (fun vs H Q E h => ?_) (fun cdv A outer s H vs Q E hr h => ⟨_, PSs.nox (
    (pss_cons (ps_asg (pe_tup (pa_cons (pe_dget hr.u1 (pe_fld (pv 0) rfl) (pv 1) (fun _ _ => rfl)) (pa_cons (pe_fld (pv 0) rfl) pa_nil))) (pg_tup rfl (pgs_cons (pg_name (i := 2) sc_step_lines.nd rfl (Or.inl rfl)) (pgs_cons (pg_name (i := 3) sc_step_lines.nd rfl (Or.inr rfl)) pgs_nil))) (by rfl))
    (pss_cons (ps_if (PW.pt (pw_or (pt_cmpR op_in_seq (pv 2) (pe_tup (pa_cons pe_str (pa_cons pe_str (pa_cons pe_str pa_nil)))) rfl) (pw_or1 (pt_val (pe_has H_leaves_call rfl (hr.mono (by decide)) rfl (pa_cons (pv 0) (pa_cons (pv 1) pa_nil)))))))
      (pss_one (ps_ret (pe_tup pa_nil)))
      pss_nil)
    (pss_cons (ps_if (pt_cmpR op_eq (pv 2) pe_str (nomark _))
      (pss_one (ps_ret (pe_callTy call_tuple_of rfl gf_tuple PyProof.Rows.boot_tuple (pa_cons (pe_lst (pa_cons (pe_dget hr.u1 (pv 3) (pv 1) (fun _ _ => rfl)) (StX.pa_star (pe_lc (own := [("other", 4)]) (g := gName 4) (by rfl) sc_step_lines.nd (pi_tup (pe_dget hr.u1 (pe_fld (pv 0) rfl) (pv 1) (fun _ _ => rfl))) (blkOk_by (own := [("other", 4)]) (N := ["program", "line", "kind", "behinds", "other"]) (sc := defScope st_step_lines) (by decide +kernel))
        (fun _ _ _ _ _ => (pg_name (i := 4) sc_step_lines.nd rfl (Or.inl rfl))) (fun _ _ _ _ _ => pts_nil) (fun _ _ _ _ _ => (pe_dget hr.u1 (pv 3) (pv 4) (fun _ _ => rfl)))) pa_nil))) pa_nil))))
      pss_nil)
    (pss_cons (ps_if (pt_cmpR op_eq (pv 2) pe_str (nomark _))
      (pss_one (ps_ret (pe_tup (pa_cons (pe_dget hr.u1 (pv 3) (pe_dget hr.u1 (pe_fld (pv 0) rfl) (pe_dget hr.u1 (pe_fld (pv 0) rfl) (pv 1) (fun _ _ => rfl)) (fun _ _ => rfl)) (fun _ _ => rfl)) pa_nil))))
      pss_nil)
    (pss_cons (ps_if (pt_cmpR op_eq (pv 2) pe_str (nomark _))
      (pss_one (ps_ret (pe_tup (pa_cons (pe_dget hr.u1 (pv 3) (pv 1) (fun _ _ => rfl)) (pa_cons (pe_dget hr.u1 (pv 3) (pe_dget hr.u1 (pe_fld (pv 0) rfl) (pv 1) (fun _ _ => rfl)) (fun _ _ => rfl)) pa_nil)))))
      pss_nil)
    (pss_cons (ps_if (pt_cmpR op_eq (pv 2) pe_str (nomark _))
      (pss_one (ps_ret (pe_tup (pa_cons (pe_dget hr.u1 (pv 3) (pe_dget hr.u1 (pe_fld (pv 0) rfl) (pe_dget hr.u1 (pe_fld (pv 0) rfl) (pv 1) (fun _ _ => rfl)) (fun _ _ => rfl)) (fun _ _ => rfl)) pa_nil))))
      pss_nil)
    (pss_cons (ps_if (pt_cmpR op_eq (pv 2) pe_str (nomark _))
      (pss_one (ps_ret (pe_has H_end_lines rfl (hr.mono (by decide)) rfl (pa_cons (pv 0) (pa_cons (pv 1) pa_nil)))))
      pss_nil)
    (pss_one (ps_ret (pe_tup (pa_cons (pe_dget hr.u1 (pv 3) (pv 1) (fun _ _ => rfl)) pa_nil)))))))))))), ?_⟩)) fun _ _ _ _ _ _ us hl => match us, hl with | [_, _], _ => rfl
  · obtain ⟨p, z, r, l, b, rfl, _⟩ := h
    rfl
  · obtain ⟨p, z, r, l, ls, rfl, ⟨dx, fs, hp, G⟩, hb, q⟩ := h
    clear F
    have hC := T.cls "Program" (by decide +kernel)
    have hA1 := T.noat "Program" "kinds" (by decide +kernel)
    have hA2 := T.noat "Program" "partners" (by decide +kernel)
    have hA3 := T.noat "Program" "behinds" (by decide +kernel)
    have hA4 := T.noat "Program" "ors" (by decide +kernel)
    have hA5 := T.noat "Program" "eithers" (by decide +kernel)
    unfold stepLines at hb
    cases hk : r.kinds.lookup l with
    | none => rw [hk] at hb; cases hb
    | some k =>
      cases hl : leaves r l with
      | none => rw [hk, hl] at hb; cases hb
      | some b =>
        rw [hk, hl] at hb
        dsimp only at hb
        obtain ⟨c1, _, lk1, _, dg1, rfl⟩ := G.kinds.get kI_inj hk
        obtain ⟨c3, kv3, lk3, hc3, at3⟩ := G.behinds
        have dgb : ∀ {x g H'}, ExtH H H' → r.behinds.lookup x = some g → DGet H' c3 (.int x) (some (.int g)) := fun e hg => by
          obtain ⟨u, hu, ru⟩ := at3.get kI_inj hg
          cases ru
          rw [← hu]
          exact DGet.k (k := .inl _) (e _ _ hc3)
        refine ⟨_, rfl, _, _, _, _, _, rfl, hp, hC, hA1, lk1, _, rfl, _, _, rfl, dg1, _, rfl, _, _, _, _, _, rfl, hp, hC, hA3, lk3, by rw [sizeLine_eq]; show 2 ≤ 16777216; decide, fun t0 nt0 => ?_⟩
        refine ⟨t0, _, rfl, SqT.of upd_same, rfl, _, _, rfl, _, _, rfl, rfl, ?_⟩
        have e0 := extH_put (o := .tup [.str k, .ref c3]) nt0
        generalize upd H t0 (.tup [.str k, .ref c3]) = H0 at e0 ⊢
        refine ⟨_, rfl, by decide, fun t nt => ⟨t, _, rfl, .inr (SqT.of upd_same), rfl, by decide, _, rfl, ?_⟩⟩
        rw [show [V.str "call", V.str "do", V.str "stop"] = ([("call" : Str), "do", "stop"]).map V.str from rfl]
        have e1 := e0.trans (extH_put (o := .tup (([("call" : Str), "do", "stop"]).map V.str)) nt)
        generalize upd H0 t (.tup (([("call" : Str), "do", "stop"]).map V.str)) = H1 at e1 ⊢
        rw [show (if false = true then !inV (V.str k) (([("call" : Str), "do", "stop"]).map V.str) else inV (V.str k) (([("call" : Str), "do", "stop"]).map V.str)) = decide (k ∈ [("call" : Str), "do", "stop"]) from inV_str]
        have G1 := G.ext e1
        have hp1 := e1 _ _ hp
        by_cases h1 : k ∈ [("call" : Str), "do", "stop"]
        · rw [if_pos h1] at hb
          cases hb
          rw [decide_eq_true h1]
          exact iteT ⟨Nat.zero_le _, fun t2 nt2 => q _ t2 (e1.trans (extH_put nt2)) (SqT.of upd_same)⟩
        rw [if_neg h1] at hb
        rw [decide_eq_false h1]
        refine iteF ⟨_, rfl, _, rfl, p, z, r, l, b, rfl, ⟨dx, fs, hp1, G1⟩, hl, _, rfl, ?_⟩
        by_cases h2 : b = true
        · rw [if_pos h2] at hb
          cases hb
          exact ifT h2 ⟨Nat.zero_le _, fun t2 nt2 => q _ t2 (e1.trans (extH_put nt2)) (SqT.of upd_same)⟩
        rw [if_neg h2] at hb
        refine ifF (by simpa using h2) ?_
        by_cases h3 : k = "leave"
        · rw [if_pos h3] at hb; cases hb
        rw [if_neg h3] at hb
        by_cases h6 : k = "either"
        · rw [if_pos h6] at hb
          refine ⟨_, rfl, rfl, _, rfl, ifT (by rw [dec_str]; exact decide_eq_true h6) ?_⟩
          cases hg : r.behinds.lookup l with
          | none => rw [hg] at hb; cases hb
          | some g =>
            cases ho : r.ors.lookup l with
            | none => rw [hg, ho] at hb; cases hb
            | some os =>
              rw [hg, ho] at hb
              dsimp only at hb
              split at hb
              · rename_i hos
                obtain ⟨hol, hob⟩ := hos
                cases hb
                obtain ⟨c5, _, lk5, _, dg5, ot, rfl, hot⟩ := G1.ors.get kI_inj ho
                refine ⟨_, rfl, _, rfl, _, _, rfl, dgb e1 hg, _, rfl, _, _, _, _, _, rfl, hp1, hC, hA4, lk5, _, rfl, _, _, rfl, dg5, ot, rfl, ⟨_, hot⟩, fun D hD => ?_⟩
                refine lc_pureT (xs := os.map V.int) (fun _ => true) (bhV r) hot hD (by rw [List.length_map]; omega) (fun _ => rfl) (fun x _ G4 Q' _ h => tyes h) ?_ ?_
                · intro x hx _ G4 Q' e4 q'
                  obtain ⟨o, hom, rfl⟩ := List.mem_map.mp hx
                  obtain ⟨g', hg'⟩ := Option.isSome_iff_exists.mp (hob o hom)
                  refine ⟨_, rfl, _, rfl, _, _, rfl, dgb (e1.trans e4) hg', ?_⟩
                  have : bhV r (V.int o) = V.int g' := by show V.int ((r.behinds.lookup o).getD 0) = _; rw [hg']; rfl
                  rw [← this]
                  exact q'
                · intro G5 e5 hG5
                  have eg : ((os.map V.int).filter fun _ => true).map (bhV r) = (os.map fun o => (r.behinds.lookup o).getD 0).map V.int := by
                    rw [List.filter_eq_self.mpr (fun _ _ => rfl), List.map_map, List.map_map] <;> rfl
                  rw [eg] at hG5
                  refine ⟨D, _, rfl, .inr (SqL.of hG5), by rw [sizeLine_eq]; simp only [List.length_cons, List.length_append, List.length_map, List.length_nil]; omega, fun p5 np5 => ?_⟩
                  refine ⟨p5, _, rfl, .inl ⟨SqL.of upd_same, fun t6 nt6 => q _ t6 (((e1.trans e5).trans (extH_put np5)).trans (extH_put nt6)) (SqT.of ?_)⟩⟩
                  rw [upd_same, List.append_nil] <;> rfl
              · cases hb
        rw [if_neg h6] at hb
        refine ⟨_, rfl, rfl, _, rfl, ifF (by rw [dec_str]; exact decide_eq_false h6) ?_⟩
        by_cases h7 : k = "or"
        · rw [if_pos h7] at hb
          refine ⟨_, rfl, rfl, _, rfl, ifT (by rw [dec_str]; exact decide_eq_true h7) ?_⟩
          cases he : r.eithers.lookup l with
          | none => rw [he] at hb; cases hb
          | some e =>
            cases hq : r.partners.lookup e with
            | none => rw [he] at hb; dsimp only at hb; rw [hq] at hb; cases hb
            | some q2 =>
              rw [he] at hb
              dsimp only at hb
              rw [hq] at hb
              obtain ⟨g, hg, rfl⟩ := Option.map_eq_some_iff.mp hb
              obtain ⟨c5, _, lk5, _, dg5, rfl⟩ := G1.partners.get kI_inj hq
              obtain ⟨c6, _, lk6, _, dg6, rfl⟩ := G1.eithers.get kI_inj he
              exact ⟨_, rfl, _, rfl, _, _, _, _, _, rfl, hp1, hC, hA2, lk5, _, rfl, _, _, _, _, _, rfl, hp1, hC, hA5, lk6, _, rfl, _, _, rfl, dg6, _, _, rfl, dg5, _, _, rfl, dgb e1 hg, by rw [sizeLine_eq]; show 1 ≤ 16777216; decide, fun t2 nt2 => q _ t2 (e1.trans (extH_put nt2)) (SqT.of upd_same)⟩
        rw [if_neg h7] at hb
        refine ⟨_, rfl, rfl, _, rfl, ifF (by rw [dec_str]; exact decide_eq_false h7) ?_⟩
        by_cases h4 : k = "loop"
        · rw [if_pos h4] at hb
          refine ⟨_, rfl, rfl, _, rfl, ifT (by rw [dec_str]; exact decide_eq_true h4) ?_⟩
          cases hg : r.behinds.lookup l with
          | none => rw [hg] at hb; cases hb
          | some g =>
            cases hq : r.partners.lookup l with
            | none => rw [hg, hq] at hb; cases hb
            | some q2 =>
              cases hh : r.behinds.lookup q2 with
              | none => rw [hg, hq] at hb; dsimp only at hb; rw [hh] at hb; cases hb
              | some h =>
                rw [hg, hq] at hb
                dsimp only at hb
                rw [hh] at hb
                cases hb
                obtain ⟨c5, _, lk5, _, dg5, rfl⟩ := G1.partners.get kI_inj hq
                exact ⟨_, rfl, _, rfl, _, _, rfl, dgb e1 hg, _, rfl, _, rfl, _, _, _, _, _, rfl, hp1, hC, hA2, lk5, _, rfl, _, _, rfl, dg5, _, _, rfl, dgb e1 hh, by rw [sizeLine_eq]; show 2 ≤ 16777216; decide, fun t2 nt2 => q _ t2 (e1.trans (extH_put nt2)) (SqT.of upd_same)⟩
        rw [if_neg h4] at hb
        refine ⟨_, rfl, rfl, _, rfl, ifF (by rw [dec_str]; exact decide_eq_false h4) ?_⟩
        refine ⟨_, rfl, rfl, _, rfl, ifF (by rw [dec_str]; exact decide_eq_false h3) ?_⟩
        by_cases h5 : k = "end"
        · rw [if_pos h5] at hb
          refine ⟨_, rfl, rfl, _, rfl, ifT (by rw [dec_str]; exact decide_eq_true h5) ?_⟩
          exact ⟨_, rfl, _, rfl, p, z, r, l, ls, rfl, ⟨dx, fs, hp1, G1⟩, hb, fun H' t e h => q H' t (e1.trans e) h⟩
        rw [if_neg h5] at hb
        refine ⟨_, rfl, rfl, _, rfl, ifF (by rw [dec_str]; exact decide_eq_false h5) ?_⟩
        obtain ⟨g, hg, rfl⟩ := Option.map_eq_some_iff.mp hb
        exact ⟨_, rfl, _, rfl, _, _, rfl, dgb e1 hg, by rw [sizeLine_eq]; show 1 ≤ 16777216; decide, fun t2 nt2 => q _ t2 (e1.trans (extH_put nt2)) (SqT.of upd_same)⟩
abbrev st_all_rooms : Stmt := top 13
theorem sc_all_rooms : FnScope ["program", "line"] ["program", "line"] (defScope st_all_rooms) := ⟨rfl, rfl, rfl, by decide +kernel, rfl, by decide +kernel, by decide +kernel⟩
theorem ok_all_rooms (T : T6 K mg) : Has w K mg base 1 "all_rooms" ["program", "line"] (sp_all_rooms K) := by
  obtain ⟨fd, F⟩ := T.fn 5
  refine has_of (st := st_all_rooms) T F (by decide +kernel) (F.ok sc_all_rooms (fun vs H Q E h => ?_) (fun cdv A outer s H vs Q E hr h => ⟨_, PSs.nox (
    (pss_one (ps_ret (pe_dget2 hr.u1 (pe_fld (pv 0) rfl) (pv 1) (pe_tup (pa_cons (pe_dget hr.u1 (pe_fld (pv 0) rfl) (pe_dget hr.u1 (pe_fld (pv 0) rfl) (pv 1) (fun _ _ => rfl)) (fun _ _ => rfl)) pa_nil)) ⟨rfl, rfl, rfl, rfl⟩)))), ?_⟩)) fun _ _ _ _ _ _ us hl => match us, hl with | [_, _], _ => rfl
  · obtain ⟨p, z, r, l, b, rfl, _⟩ := h
    rfl
  · obtain ⟨p, z, r, l, ls, rfl, ⟨dx, fs, hp, G⟩, hb, q⟩ := h
    clear F
    have hC := T.cls "Program" (by decide +kernel)
    have hA1 := T.noat "Program" "rooms_of" (by decide +kernel)
    have hA2 := T.noat "Program" "heads" (by decide +kernel)
    have hA3 := T.noat "Program" "owners" (by decide +kernel)
    unfold allRooms at hb
    cases ho : r.owners.lookup l with
    | none => rw [ho] at hb; cases hb
    | some o =>
      rw [ho] at hb
      dsimp only at hb
      cases hh : r.hd.lookup o with
      | none => rw [hh] at hb; cases hb
      | some f =>
        rw [hh] at hb
        cases hb
        obtain ⟨c1, _, lk1, _, dg1, rfl⟩ := G.owners.get kI_inj ho
        obtain ⟨c2, _, lk2, _, dg2, rfl⟩ := G.heads.get kS_inj hh
        obtain ⟨c3, kv3, lk3, hc3, at3⟩ := G.rooms_of
        refine ⟨_, rfl, _, _, _, _, _, rfl, hp, hC, hA1, lk3, c3, rfl, .inl ⟨_, .inl hc3⟩, _, rfl, _, rfl, _, _, _, _, _, rfl, hp, hC, hA2, lk2, _, rfl, _, _, _, _, _, rfl, hp, hC, hA3, lk1, _, rfl, _, _, rfl, dg1, _, _, rfl, dg2, by rw [sizeLine_eq]; show 1 ≤ 16777216; decide, fun t nt => ?_⟩
        have e1 := extH_put (o := .tup [.int f]) nt
        cases hr' : r.rooms_of.lookup l with
        | none =>
          have hu := at3.non kI_inj hr'
          exact ⟨none, by rw [← hu]; exact DGet.k (k := .inl l) (e1 _ _ hc3), q _ t e1 (by rw [hr']; exact SqT.of upd_same)⟩
        | some rs =>
          obtain ⟨u, hu, t2, rfl, ht2⟩ := at3.get kI_inj hr'
          exact ⟨some (.ref t2), by rw [← hu]; exact DGet.k (k := .inl l) (e1 _ _ hc3), q _ t2 e1 (by rw [hr']; exact sqT_extH e1 ht2)⟩
def keptV (ks : List Int) : V → Bool
  | .int b => !ks.contains b
  | _ => false
theorem filt_kept (ks rs : List Int) : ((rs.map V.int).filter (keptV ks)).map id = (rs.filter fun b => !ks.contains b).map V.int := by
  rw [List.map_id, List.filter_map] <;> rfl
abbrev st_ended_rooms : Stmt := top 14
theorem sc_ended_rooms : FnScope ["program", "line", "after", "around", "kept", "room"] ["program", "line", "after"] (defScope st_ended_rooms) := ⟨rfl, rfl, rfl, by decide +kernel, rfl, by decide +kernel, by decide +kernel⟩
theorem ok_ended_rooms (T : T6 K mg) : Has w K mg base 2 "ended_rooms" ["program", "line", "after"] (sp_ended_rooms K) := by
  obtain ⟨fd, F⟩ := T.fn 6
  have H_all_rooms := ok_all_rooms (w := w) (base := base) T
  have gf_tuple := T.free "tuple" (by decide +kernel)
  refine has_of (st := st_ended_rooms) T F (by decide +kernel) (F.ok sc_ended_rooms (fun vs H Q E h => ?_) (fun cdv A outer s H vs Q E hr h => ⟨_, PSs.nox (
    (pss_cons (ps_if (pt_cmpR op_in_seq (pe_dget hr.u1 (pe_fld (pv 0) rfl) (pv 1) (fun _ _ => rfl)) (pe_tup (pa_cons pe_str (pa_cons pe_str (pa_cons pe_str pa_nil)))) rfl)
      (pss_one (ps_ret (pe_tup pa_nil)))
      pss_nil)
    (pss_cons (ps_set (i := 3) sc_ended_rooms.nd rfl (Or.inl rfl) (pe_has H_all_rooms rfl (hr.mono (by decide)) rfl (pa_cons (pv 0) (pa_cons (pv 1) pa_nil))))
    (pss_cons (ps_if (pt_cmpR op_in_seq (pv 2) (pe_tup (pa_cons pe_int (pa_cons pe_non pa_nil))) rfl)
      (pss_one (ps_ret (pv 3)))
      pss_nil)
    (pss_cons (ps_set (i := 4) sc_ended_rooms.nd rfl (Or.inr rfl) (pe_has H_all_rooms rfl (hr.mono (by decide)) rfl (pa_cons (pv 0) (pa_cons (pv 2) pa_nil))))
    (pss_one (ps_ret (pe_callTy call_tuple_of rfl gf_tuple PyProof.Rows.boot_tuple (pa_cons (pe_lc (own := [("room", 5)]) (g := gName 5) (by rfl) sc_ended_rooms.nd (pi_tup (pv 3)) (blkOk_by (own := [("room", 5)]) (N := ["program", "line", "after", "around", "kept", "room"]) (sc := defScope st_ended_rooms) (by decide +kernel))
        (fun _ _ _ _ _ => (pg_name (i := 5) sc_ended_rooms.nd rfl (Or.inl rfl))) (fun _ _ _ _ _ => (pts_one (pt_cmpR (op_notIn_seqK (K := K)) (pv 5) (pv 4) rfl))) (fun _ _ _ _ _ => (pv 5))) pa_nil))))))))), ?_⟩)) fun _ _ _ _ _ _ us hl => match us, hl with | [_, _, _], _ => rfl
  · obtain ⟨p, z, r, l, after, b, rfl, _⟩ := h
    rfl
  · obtain ⟨p, z, r, l, after, ls, rfl, ⟨dx, fs, hp, G⟩, hb, hsz, q⟩ := h
    clear F
    have hC := T.cls "Program" (by decide +kernel)
    have hA1 := T.noat "Program" "kinds" (by decide +kernel)
    unfold endedRooms at hb
    cases hk : r.kinds.lookup l with
    | none => rw [hk] at hb; cases hb
    | some k =>
      rw [hk] at hb
      dsimp only at hb
      obtain ⟨c1, _, lk1, _, dg1, rfl⟩ := G.kinds.get kI_inj hk
      refine ⟨_, rfl, _, _, _, _, _, rfl, hp, hC, hA1, lk1, _, rfl, _, _, rfl, dg1, by decide, fun t nt => ⟨t, _, rfl, .inr (SqT.of upd_same), rfl, by decide, _, rfl, ?_⟩⟩
      rw [show [V.str "call", V.str "do", V.str "stop"] = ([("call" : Str), "do", "stop"]).map V.str from rfl]
      have e1 := extH_put (o := .tup (([("call" : Str), "do", "stop"]).map V.str)) nt
      generalize upd H t (.tup (([("call" : Str), "do", "stop"]).map V.str)) = H1 at e1 ⊢
      by_cases h1 : k ∈ [("call" : Str), "do", "stop"]
      · rw [if_pos h1] at hb
        cases hb
        refine ifT (inV_str.trans (decide_eq_true h1)) ⟨Nat.zero_le _, fun t2 nt2 => q _ t2 (e1.trans (extH_put nt2)) (SqT.of upd_same)⟩
      rw [if_neg h1] at hb
      refine ifF (inV_str.trans (decide_eq_false h1)) ?_
      cases ha : allRooms r l with
      | none => rw [ha] at hb; cases hb
      | some rs =>
        rw [ha] at hb
        dsimp only at hb
        refine ⟨_, rfl, _, rfl, p, z, r, l, rs, rfl, ⟨dx, fs, e1 _ _ hp, G.ext e1⟩, ha, fun H2 t2 e2 h2 => ?_⟩
        have e12 := e1.trans e2
        refine ⟨_, rfl, by decide, fun t3 nt3 => ⟨t3, _, rfl, .inr (SqT.of upd_same), rfl, by decide, _, rfl, ?_⟩⟩
        have e3 := extH_put (o := .tup [.int 0, .non]) nt3
        have e13 := e12.trans e3
        have h3 := sqT_extH e3 h2
        generalize upd H2 t3 (.tup [.int 0, .non]) = H3 at e3 e13 h3 ⊢
        by_cases h0 : after = 0
        · rw [if_pos h0] at hb
          cases hb
          subst h0
          exact ifT (by decide) ⟨_, rfl, q _ t2 e13 h3⟩
        rw [if_neg h0] at hb
        refine ifF ?_ ?_
        · show inV (V.int after) [.int 0, .non] = false
          unfold inV
          simp only [List.any_cons, List.any_nil, Bool.or_false, Bool.or_eq_false_iff]
          exact ⟨by show ((0 : Int) == after) = false; simpa using fun z => h0 z.symm, rfl⟩
        cases hk2 : allRooms r after with
        | none => rw [hk2] at hb; cases hb
        | some ks =>
          rw [hk2] at hb
          cases hb
          refine ⟨_, rfl, _, rfl, p, z, r, after, ks, rfl, ⟨dx, fs, e13 _ _ hp, G.ext e13⟩, hk2, fun H4 t4 e4 h4 => ?_⟩
          have e14 := e13.trans e4
          have h3' := sqT_extH e4 h3
          refine ⟨_, rfl, t2, rfl, ⟨_, h3'⟩, fun D hD => ?_⟩
          refine lc_pureT (xs := rs.map V.int) (keptV ks) id h3' hD (by rw [List.length_map]; have := hsz l rs ha; omega) (fun _ => rfl) ?_ (fun x _ _ G4 Q' _ h => ⟨_, rfl, h⟩) ?_
          · intro x hx G5 Q' e q'
            obtain ⟨b, hbm, rfl⟩ := List.mem_map.mp hx
            refine ⟨_, rfl, _, rfl, t4, _, rfl, .inr (sqT_extH e h4), rfl, ?_, _, rfl, ?_⟩
            · exact List.all_eq_true.mpr fun v hv => by obtain ⟨i, _, rfl⟩ := List.mem_map.mp hv; rfl
            · show Q' (!inV (V.int b) (ks.map V.int)) _
              rw [inV_int]
              have : keptV ks (V.int b) = !decide (b ∈ ks) := by
                show (!ks.contains b) = _
                rw [List.contains_eq_mem]
              rw [← this]
              exact q'
          · intro G5 e5 hG5
            rw [filt_kept] at hG5
            refine ⟨D, _, rfl, .inl ⟨SqL.of hG5, fun t6 nt6 => q _ t6 ((e14.trans e5).trans (extH_put nt6)) (SqT.of upd_same)⟩⟩
end
end R9H
set_option Elab.async false
set_option linter.all false
set_option maxRecDepth 100000
set_option maxHeartbeats 4000000
/-! k19, part PC: _law_words -/
namespace R9H
open PySem PySem.Spec PyProof.Rows L2
def lit1 : Str := "shape bag head gives func none new with get some let use call do give back stop"
def lit2 : Str := "room either or loop ever leave end in main"
theorem lits : Txt.words lit1 ++ Txt.words lit2 = barred := by decide +kernel
def sgl (c : Nat) : Str := ⟨#[c]⟩
theorem joinL_nil : ∀ parts : List (List Nat), TL.joinL [] parts = parts.flatten
  | [] => rfl
  | [p] => by simp [TL.joinL]
  | p :: q :: r => by
    show p ++ ([] ++ TL.joinL [] (q :: r)) = _
    rw [joinL_nil (q :: r)]
    simp
theorem join_sgl (cs : List Nat) : (Txt.join "" (cs.map sgl)).cps.toList = cs := by
  rw [tlj, show ("" : Str).cps.toList = [] by decide +kernel, joinL_nil, List.map_map]
  induction cs with
  | nil => rfl
  | cons c cs ih =>
    rw [List.map_cons, List.flatten_cons, ih]
    rfl
/-- drawn words -/
def GW (ws : List Str) (m : Nat) : Prop := ws.length = m ∧ ws.Nodup ∧ ∀ w ∈ ws, Wd w
def sp_law_words (K : PySem.W.Frag) : Sp := fun vs H Q _ => ∃ (p c : Addr) (n m : Nat), vs = [.ref p, .int (m : Int)] ∧ PenAt H p c n ∧ n + 20 < 1000000 ∧ m ≤ 9 ∧ ∀ H' l ws, Fr p H H' → PenAt H' p c (n + 12) → H l = none → H' l = some (.lst (ws.map V.str)) → GW ws m → Q (.ref l) H'
def fW (z : Str) (a : Nat) : V → V
  | .str s => .str (cutS z none (some (a : Int)) ++ s ++ cutS z (some (a : Int)) none)
  | v => v
def pB : V → Bool
  | .str s => !barred.contains s
  | _ => false
theorem pen_ne {H : Hp} {p c x : Addr} {n : Nat} (h : PenAt H p c n) (hx : H x = none) : x ≠ p := fun z => by
  obtain ⟨cells, a, l, h1, _⟩ := h
  rw [z, h1] at hx; cases hx
theorem pen_neL {H : Hp} {p c x : Addr} {n : Nat} {xs : List V} (h : PenAt H p c n) (hx : H x = some (.lst xs)) : x ≠ p := fun z => by
  obtain ⟨cells, a, l, h1, _⟩ := h
  rw [z, h1] at hx; cases hx
section
variable {w : World} {K : PySem.W.Frag} {mg : Str → Option Value} {base : Heap}
theorem ok__law_draw (T : T6 K mg) : Has w K mg base 1 "_law_draw" ["_law_pen_here", "_law_many"] spDraw := ok_draw T
theorem ok__law_pick (T : T6 K mg) : Has w K mg base 2 "_law_pick" ["_law_pen_here", "_law_items"] spPickS := ok_pickS T
abbrev st_law_words : Stmt := top 88
theorem sc_law_words : FnScope ["_law_pen_here", "_law_many", "_law_letters", "_law_barred", "_law_stem", "_law_k", "_law_at", "_law_first", "_law_step", "_law_drawn", "_law_found", "_law_letter", "_law_word"] ["_law_pen_here", "_law_many"] (defScope st_law_words) := ⟨rfl, rfl, rfl, by decide +kernel, rfl, by decide +kernel, by decide +kernel⟩
theorem ok_law_words (T : T6 K mg) : Has w K mg base 3 "_law_words" ["_law_pen_here", "_law_many"] (sp_law_words K) := by
  obtain ⟨fd, F⟩ := T.fn 70
  have H__law_draw := ok__law_draw (w := w) (base := base) T
  have H__law_pick := ok__law_pick (w := w) (base := base) T
  have H_pickL := ok_pickL (w := w) (base := base) T
  have gf_range := T.free "range" (by decide +kernel)
  have gf_len := T.free "len" (by decide +kernel)
  have gf_int := T.free "int" (by decide +kernel)
  refine has_of (st := st_law_words) T F (by decide +kernel) (F.ok sc_law_words (fun vs H Q E h => ?_) (fun cdv A outer s H vs Q E hr h => ⟨_, PSs.nox (
    (pss_cons (ps_set (i := 2) sc_law_words.nd rfl (Or.inr rfl) pe_str)
    (pss_cons (ps_set (i := 3) sc_law_words.nd rfl (Or.inr rfl) (pe_words pe_str))
    (pss_cons (ps_set (i := 3) sc_law_words.nd rfl (Or.inr rfl) (pe_op op_cat (pv 3) (pe_words pe_str)))
    (pss_cons (ps_set (i := 4) sc_law_words.nd rfl (Or.inr rfl) (pe_join pe_str (pe_lc (own := [("_law_k", 5)]) (g := gName 5) (by rfl) sc_law_words.nd (pi_range1 rfl gf_range (pa_cons (pe_has H__law_draw rfl (hr.mono (by decide)) rfl (pa_cons (pv 0) (pa_cons pe_int pa_nil))) pa_nil)) (blkOk_by (own := [("_law_k", 5)]) (N := ["_law_pen_here", "_law_many", "_law_letters", "_law_barred", "_law_stem", "_law_k", "_law_at", "_law_first", "_law_step", "_law_drawn", "_law_found", "_law_letter", "_law_word"]) (sc := defScope st_law_words) (by decide +kernel))
        (fun _ _ _ _ _ => (pg_name (i := 5) sc_law_words.nd rfl (Or.inl rfl))) (fun _ _ _ _ _ => pts_nil) (fun _ _ _ _ _ => (pe_has H__law_pick rfl (hr.mono (by decide)) rfl (pa_cons (pv 0) (pa_cons (pv 2) pa_nil)))))))
    (pss_cons (ps_asg (pe_tup (pa_cons (pe_has H__law_draw rfl (hr.mono (by decide)) rfl (pa_cons (pv 0) (pa_cons (pe_op op_add (pe_callB call_len_str rfl gf_len PySem.boot_len (pa_cons (pv 4) pa_nil)) pe_int) pa_nil))) (pa_cons (pe_has H__law_draw rfl (hr.mono (by decide)) rfl (pa_cons (pv 0) (pa_cons pe_int pa_nil))) pa_nil))) (pg_tup rfl (pgs_cons (pg_name (i := 6) sc_law_words.nd rfl (Or.inr rfl)) (pgs_cons (pg_name (i := 7) sc_law_words.nd rfl (Or.inr rfl)) pgs_nil))) (by rfl))
    (pss_cons (ps_set (i := 8) sc_law_words.nd rfl (Or.inr rfl) (pe_has H_pickL rfl (hr.mono (by decide)) rfl (pa_cons (pv 0) (pa_cons (pe_lst (pa_cons pe_int (pa_cons pe_int (pa_cons pe_int (pa_cons pe_int (pa_cons pe_int (pa_cons pe_int pa_nil))))))) pa_nil))))
    (pss_cons (ps_setLc (i := 9) (own := [("_law_k", 5)]) (g := gName 5) rfl sc_law_words.nd rfl rfl (sw_true rfl rfl rfl (by decide +kernel)) (pi_range1 rfl gf_range (pa_cons pe_int pa_nil)) (blkOk_by (own := [("_law_k", 5)]) (N := ["_law_pen_here", "_law_many", "_law_letters", "_law_barred", "_law_stem", "_law_k", "_law_at", "_law_first", "_law_step", "_law_drawn", "_law_found", "_law_letter", "_law_word"]) (sc := defScope st_law_words) (by decide +kernel))
        (fun _ _ _ _ _ => (pg_name (i := 5) sc_law_words.nd rfl (Or.inl rfl))) (fun _ _ _ _ _ => pts_nil) (fun _ _ _ _ _ => (pe_ix ix_str (pv 2) (pe_op op_mod (pe_callTy call_int1 rfl gf_int boot_int (pa_cons (pe_op op_add (pv 7) (pe_op op_mul (pv 8) (pv 5))) pa_nil)) pe_int) (fun _ _ => rfl))))
    (pss_cons (ps_setLc (i := 10) (own := [("_law_letter", 11)]) (g := gName 11) rfl sc_law_words.nd rfl rfl (sw_true rfl rfl rfl (by decide +kernel)) (pi_list (pv 9)) (blkOk_by (own := [("_law_letter", 11)]) (N := ["_law_pen_here", "_law_many", "_law_letters", "_law_barred", "_law_stem", "_law_k", "_law_at", "_law_first", "_law_step", "_law_drawn", "_law_found", "_law_letter", "_law_word"]) (sc := defScope st_law_words) (by decide +kernel))
        (fun _ _ _ _ _ => (pg_name (i := 11) sc_law_words.nd rfl (Or.inl rfl))) (fun _ _ _ _ _ => pts_nil) (fun _ _ _ _ _ => (pe_op op_add_str (pe_op op_add_str (pe_slice sl_str (pv 4) po_none (po_some (pv 6))) (pv 11)) (pe_slice sl_str (pv 4) (po_some (pv 6)) po_none))))
    (pss_one (ps_ret (pe_slice sl_list (pe_lc (own := [("_law_word", 12)]) (g := gName 12) (by rfl) sc_law_words.nd (pi_list (pv 10)) (blkOk_by (own := [("_law_word", 12)]) (N := ["_law_pen_here", "_law_many", "_law_letters", "_law_barred", "_law_stem", "_law_k", "_law_at", "_law_first", "_law_step", "_law_drawn", "_law_found", "_law_letter", "_law_word"]) (sc := defScope st_law_words) (by decide +kernel))
        (fun _ _ _ _ _ => (pg_name (i := 12) sc_law_words.nd rfl (Or.inl rfl))) (fun _ _ _ _ _ => (pts_one (pt_cmpR (op_notIn_seqK (K := K)) (pv 12) (pv 3) rfl))) (fun _ _ _ _ _ => (pv 12))) po_none (po_some (pv 1)))))))))))))), ?_⟩)) fun _ _ _ _ _ _ us hl => match us, hl with | [_, _], _ => rfl
  · obtain ⟨p, c, n, m, rfl, _⟩ := h
    rfl
  · obtain ⟨p, c, n, m, rfl, hp, hn, hm, q⟩ := h
    clear F
    refine ⟨⟨_, rfl⟩, lit1, rfl, rfl, by rw [sizeLine_eq]; decide +kernel, fun b1 nb1 => ?_⟩
    have e1 := extH_put (o := .lst ((Txt.words lit1).map V.str)) nb1
    have h1 : upd H b1 (.lst ((Txt.words lit1).map V.str)) b1 = some (.lst ((Txt.words lit1).map V.str)) := upd_same
    generalize upd H b1 (.lst ((Txt.words lit1).map V.str)) = H1 at e1 h1 ⊢
    refine ⟨_, rfl, ⟨_, rfl⟩, lit2, rfl, rfl, by rw [sizeLine_eq]; decide +kernel, fun b2 nb2 => ?_⟩
    have e2 := extH_put (o := .lst ((Txt.words lit2).map V.str)) nb2
    have h2 : upd H1 b2 (.lst ((Txt.words lit2).map V.str)) b2 = some (.lst ((Txt.words lit2).map V.str)) := upd_same
    have h1 := e2 _ _ h1
    have e2 := e1.trans e2
    generalize upd H1 b2 (.lst ((Txt.words lit2).map V.str)) = H2 at e2 h1 h2 ⊢
    refine ⟨b1, b2, _, _, rfl, rfl, h1, h2, by rw [← List.length_append, ← List.map_append, lits, sizeLine_eq]; decide, fun b3 nb3 => ?_⟩
    rw [← List.map_append, lits]
    have e3 := e2.trans (extH_put (o := .lst (barred.map V.str)) nb3)
    have h3 : upd H2 b3 (.lst (barred.map V.str)) b3 = some (.lst (barred.map V.str)) := upd_same
    generalize upd H2 b3 (.lst (barred.map V.str)) = H3 at e3 h3 ⊢
    have hp3 := pen_ext hp e3
    -- the stem
    refine ⟨⟨_, rfl⟩, _, rfl, p, c, n, 9, rfl, hp3, by omega, by decide, by decide, fun H4 d fr4 pn4 d0 d1 => ?_⟩
    obtain ⟨j, rfl⟩ : ∃ j : Nat, d = (j : Int) := ⟨d.toNat, by omega⟩
    have hj : j < 9 := by omega
    have h34 := fr4 _ _ (pen_neL hp3 h3) h3
    refine ⟨_, rfl, by omega, by omega, fun D hD => ?_⟩
    rw [show ((j : Nat) : Int).toNat = j from Int.toNat_natCast _]
    have nDp := pen_ne pn4 hD
    refine lc_it (walk_range (lo := 0) (n := j)) (fun i G => Fr p H4 G ∧ PenAt G p c (n + 1 + i) ∧ ∃ cs : List Nat, cs.length = i ∧ (∀ x ∈ cs, x ∈ lets.cps.toList) ∧ G D = some (.lst (cs.map fun x => V.str (sgl x))))
      ⟨fr_ext (extH_put hD), pen_ext pn4 (extH_put hD), [], rfl, (fun x hx => by cases hx), upd_same⟩ (fun _ _ _ _ => trivial) ?_ ?_
    · rintro i x G G' hi ⟨f1, p1, cs, g1, g2, g3⟩ ⟨rfl, rfl⟩
      refine ⟨rfl, tyes (ifT rfl ?_)⟩
      refine ⟨_, rfl, _, rfl, p, c, n + 1 + i, lets, rfl, p1, by omega, by decide +kernel, by decide +kernel, fun G2 k b fr pn hb => ?_⟩
      have g3' := fr _ _ nDp g3
      have frD : Fr p G2 (upd G2 D (.lst (cs.map (fun x => V.str (sgl x)) ++ [.str (sgl b)]))) → True := fun _ => trivial
      refine ⟨_, g3', by rw [List.length_map, sizeLine_eq]; omega, fun y o hy h => ?_, ?_, cs ++ [b], by rw [List.length_append, g1] <;> rfl, fun y hy => ?_, ?_⟩
      · rw [upd_ne (ne_of_none h hD)]
        exact fr _ _ hy (f1 _ _ hy h)
      · obtain ⟨cells, a, l, q1, q2, q3⟩ := pn
        have ncD : c ≠ D := fun z => by
          obtain ⟨cells', a', l', _, q2', _⟩ := pn4
          rw [z, hD] at q2'; cases q2'
        exact ⟨cells, a, l, by rw [upd_ne (Ne.symm nDp)]; exact q1, by rw [upd_ne ncD]; exact q2, by omega⟩
      · rcases List.mem_append.mp hy with h | h
        · exact g2 y h
        · cases List.mem_singleton.mp h
          exact List.mem_of_getElem? hb
      · rw [upd_same, List.map_append] <;> rfl
    · rintro G ⟨f1, p1, cs, g1, g2, g3⟩
      have ey : (cs.map fun x => V.str (sgl x)) = (cs.map sgl).map V.str := by rw [List.map_map] <;> rfl
      rw [ey] at g3
      have hjz := join_sgl cs
      refine ⟨"", D, cs.map sgl, rfl, rfl, .inl (SqL.of g3), ?_, ?_⟩
      · have : ((cs.map sgl).map (·.length)).sum ≤ cs.length := by
          clear g1 g2 g3 hjz ey
          induction cs with
          | nil => exact Nat.le_refl _
          | cons x xs ih =>
            rw [List.map_cons, List.map_cons, List.sum_cons, List.length_cons]
            have : (sgl x).length = 1 := rfl
            omega
        have e0 : ("" : Str).length = 0 := by decide +kernel
        rw [e0, Nat.mul_zero]
        omega
      · generalize Txt.join "" (cs.map sgl) = z at hjz ⊢
        have hzl : z.length = j := by rw [str_len, hjz, g1]
        have hzc : ∀ x ∈ z.cps.toList, x ∈ lets.cps.toList := by rw [hjz]; exact g2
        have h3G := f1 _ _ (pen_neL hp3 h3) h34
        have frHG : Fr p H G := ((fr_ext e3).trans fr4).trans f1
        clear g1 g2 g3 hjz ey
        -- at, first
        refine ⟨_, rfl, _, rfl, z, rfl, by rw [sizeLine_eq]; omega, _, _, rfl, rfl, p, c, n + 1 + j, ((z.length : Int) + 1), rfl, p1, by omega, by omega, by omega, fun G1 a1 fr1 pn1 a10 a11 => ?_⟩
        obtain ⟨a, rfl⟩ : ∃ a : Nat, a1 = (a : Int) := ⟨a1.toNat, by omega⟩
        refine ⟨_, rfl, p, c, n + 1 + j + 1, 26, rfl, pn1, by omega, by decide, by decide, fun G2 b1' fr2 pn2 b10 b11 => ?_⟩
        obtain ⟨f, rfl⟩ : ∃ f : Nat, b1' = (f : Int) := ⟨b1'.toNat, by omega⟩
        refine ⟨by rw [sizeLine_eq]; show 2 ≤ 16777216; decide, fun t nt => ?_⟩
        have e4 := extH_put (o := .tup [.int (a : Int), .int (f : Int)]) nt
        refine ⟨t, _, rfl, SqT.of upd_same, rfl, _, _, rfl, _, _, rfl, rfl, ?_⟩
        have frHG2 : Fr p H (upd G2 t (.tup [.int (a : Int), .int (f : Int)])) := ((frHG.trans fr1).trans fr2).trans (fr_ext e4)
        have pn3 := pen_ext pn2 e4
        have h3G2 := e4 _ _ (fr2 _ _ (pen_neL hp3 h3) (fr1 _ _ (pen_neL hp3 h3) h3G))
        generalize upd G2 t (.tup [.int (a : Int), .int (f : Int)]) = G3 at frHG2 pn3 h3G2 ⊢
        -- step
        refine ⟨_, rfl, by rw [sizeLine_eq]; show 6 ≤ 16777216; decide, fun sl nsl => ?_⟩
        have e5 := extH_put (o := .lst [.int 1, .int 3, .int 5, .int 7, .int 9, .int 11]) nsl
        refine ⟨p, c, sl, n + 1 + j + 1 + 1, [.int 1, .int 3, .int 5, .int 7, .int 9, .int 11], rfl, pen_ext pn3 e5, by omega, upd_same, by decide, by decide, fun G5 k v fr5 pn5 hv => ?_⟩
        obtain ⟨st, rfl, hst⟩ : ∃ st : Nat, v = .int (st : Int) ∧ st ∈ [1, 3, 5, 7, 9, 11] := by
          match k, hv with
          | 0, h => exact ⟨1, (Option.some.inj h).symm, by decide⟩
          | 1, h => exact ⟨3, (Option.some.inj h).symm, by decide⟩
          | 2, h => exact ⟨5, (Option.some.inj h).symm, by decide⟩
          | 3, h => exact ⟨7, (Option.some.inj h).symm, by decide⟩
          | 4, h => exact ⟨9, (Option.some.inj h).symm, by decide⟩
          | 5, h => exact ⟨11, (Option.some.inj h).symm, by decide⟩
          | k + 6, h => simp at h
        have hst11 : st ≤ 11 := by
          simp only [List.mem_cons, List.not_mem_nil, or_false] at hst
          omega
        have h3G5 := fr5 _ _ (pen_neL hp3 h3) (e5 _ _ h3G2)
        have frHG5 : Fr p H G5 := (frHG2.trans (fr_ext e5)).trans fr5
        have hf26 : f < 26 := by omega
        -- drawn
        refine ⟨26, rfl, by decide, by decide, fun D2 hD2 => ?_⟩
        refine lc_it (walk_range (lo := 0) (n := 26)) (fun i G' => ExtH G5 G' ∧ G' D2 = some (.lst (((codes f st).take i).map fun x => V.str (sgl x)))) ⟨extH_put hD2, by rw [List.take_zero]; exact upd_same⟩ (fun _ _ _ _ => trivial) ?_ ?_
        · rintro i x G6 G7 hi ⟨e6, hd6⟩ ⟨rfl, rfl⟩
          have ei : (0 : Int) + ((i : Nat) : Int) = (i : Int) := by omega
          have hcg : (codes f st)[i]? = some (97 + (f + st * i) % 26) := by
            unfold codes
            rw [List.getElem?_map, List.getElem?_range hi] <;> rfl
          have em : ((f : Int) + (st : Int) * ((0 : Int) + ((i : Nat) : Int))) % 26 = (((f + st * i) % 26 : Nat) : Int) := by
            rw [ei]
            push_cast
            rfl
          have hat : atI lets.cps.toList (((f : Int) + (st : Int) * ((0 : Int) + ((i : Nat) : Int))) % 26) = some (97 + (f + st * i) % 26) := by
            rw [em]
            exact atI_nat (lets_get _ (Nat.mod_lt _ (by decide)))
          refine ⟨rfl, tyes (ifT rfl ⟨_, rfl, _, rfl, _, rfl, _, rfl, _, _, rfl, rfl, .inl ⟨by omega, by omega⟩, _, _, rfl, rfl, .inl ⟨_, rfl, _, _, rfl, rfl, (by show (0 : Int) < 26; decide), lets, _, _, rfl, rfl, by rw [sizeLine_eq]; decide +kernel, hat, _, hd6, ?_, extH_upd e6 hD2, ?_⟩⟩)⟩
          · rw [List.length_map, List.length_take, sizeLine_eq]; omega
          · rw [upd_same, take_succ' hcg, List.map_append] <;> rfl
        · rintro G6 ⟨e6, hd6⟩
          rw [List.take_of_length_le (by unfold codes; simp)] at hd6
          have lcd : (codes f st).length = 26 := by unfold codes; simp
          refine ⟨_, rfl, D2, rfl, ⟨_, SqL.of hd6⟩, fun D3 hD3 => ?_⟩
          refine lc_pure (xs := (codes f st).map fun x => V.str (sgl x)) (fun _ => true) (fW z a) (SqL.of hd6) hD3 (by rw [List.length_map, lcd]; decide) (fun _ => rfl) (fun x _ G' Q' _ h => tyes h) ?_ ?_
          · intro x hx _ G7 Q' e7 q'
            obtain ⟨cx, hcx, rfl⟩ := List.mem_map.mp hx
            have l1 : (cutS z none (some (a : Int))).length ≤ 100 := by
              rw [str_len]
              unfold cutS
              rw [List.toList_toArray, List.length_take, List.length_drop, ← str_len]
              omega
            have l2 : (cutS z (some (a : Int)) none).length ≤ 100 := by
              rw [str_len]
              unfold cutS
              rw [List.toList_toArray, List.length_take, List.length_drop, ← str_len]
              omega
            have l3 : (cutS z none (some (a : Int)) ++ sgl cx).length ≤ 101 := by
              rw [str_len]
              have : (cutS z none (some (a : Int)) ++ sgl cx).cps.toList = (cutS z none (some (a : Int))).cps.toList ++ [cx] := by
                show (_ ++ #[cx] : Array Nat).toList = _
                simp
              rw [this, List.length_append, ← str_len]
              show _ + 1 ≤ 101
              omega
            refine ⟨_, rfl, _, rfl, _, rfl, z, rfl, by rw [sizeLine_eq]; omega, _, rfl, _, _, rfl, rfl, by rw [sizeLine_eq]; show _ + 1 ≤ 16777216; omega, ?_⟩
            exact ⟨_, rfl, _, rfl, _, rfl, z, rfl, by rw [sizeLine_eq]; omega, _, _, rfl, rfl, by rw [sizeLine_eq]; omega, q'⟩
          · intro G7 e7 hG7
            have eW : (((codes f st).map fun x => V.str (sgl x)).filter fun _ => true).map (fW z a) = ((codes f st).map (W z a)).map V.str := by
              rw [List.filter_eq_self.mpr (fun _ _ => rfl), List.map_map, List.map_map]
              rfl
            rw [eW] at hG7
            have e57 := e6.trans e7
            refine ⟨_, rfl, D3, rfl, ⟨_, SqL.of hG7⟩, fun D4 hD4 => ?_⟩
            refine lc_pure (xs := ((codes f st).map (W z a)).map V.str) pB id (SqL.of hG7) hD4 (by rw [List.length_map, List.length_map, lcd]; decide) (fun _ => rfl) ?_ (fun x _ _ G' Q' _ h => ⟨_, rfl, h⟩) ?_
            · intro x hx G8 Q' e8 q'
              obtain ⟨y, hy, rfl⟩ := List.mem_map.mp hx
              have hb8 := e8 _ _ (e57 _ _ h3G5)
              refine ⟨_, rfl, _, rfl, b3, _, rfl, .inl (SqL.of hb8), rfl, List.all_eq_true.mpr fun v hv => by obtain ⟨_, _, rfl⟩ := List.mem_map.mp hv; rfl, _, rfl, ?_⟩
              show Q' (!inV (V.str y) (barred.map V.str)) _
              rw [inV_str]
              have : pB (.str y) = !decide (y ∈ barred) := by
                show (!barred.contains y) = _
                rw [List.contains_eq_mem]
              rw [← this]
              exact q'
            · intro G8 e8 hG8
              have eF : ((((codes f st).map (W z a)).map V.str).filter pB).map id = (((codes f st).map (W z a)).filter fun w => !barred.contains w).map V.str := by
                rw [List.map_id, List.filter_map] <;> rfl
              rw [eF] at hG8
              refine ⟨_, rfl, (m : Int), rfl, D4, _, rfl, SqL.of hG8, fun l nl => ?_⟩
              have ec := cutV_strs (((codes f st).map (W z a)).filter fun w => !barred.contains w) m
              rw [ec]
              have e58 := e57.trans e8
              refine q _ l _ ((frHG5.trans (fr_ext e58)).trans (fr_ext (extH_put nl))) (pen_le (pen_ext pn5 (e58.trans (extH_put nl))) (by omega)) ?_ upd_same (words_plain hzc (by omega) (by omega) hf26 hst hm)
              by_cases hlp : l = p
              · subst hlp
                obtain ⟨cells, a', l', q1, _⟩ := pen_ext pn5 e58
                rw [q1] at nl; cases nl
              · cases hz0 : H l with
                | none => rfl
                | some o =>
                  have := (frHG5.trans (fr_ext e58)) _ _ hlp hz0
                  rw [nl] at this; cases this
end
end R9H
set_option Elab.async false
set_option linter.all false
set_option maxRecDepth 100000
set_option maxHeartbeats 4000000
/-! k19, part PE: the scene's rows -/
namespace R9H
open PySem PySem.Spec PyProof.Rows L2
theorem str_ext {x y : Str} (h : x.cps.toList = y.cps.toList) : x = y := by
  cases x
  cases y
  congr
  exact Array.toList_inj.mp h
theorem app_cps (x y : Str) : (x ++ y).cps.toList = x.cps.toList ++ y.cps.toList := by
  show (x.cps ++ y.cps).toList = _
  simp
theorem app_len (x y : Str) : (x ++ y).length = x.length + y.length := by rw [str_len, str_len, str_len, app_cps, List.length_append]
theorem sp_cps : (" " : Str).cps.toList = [32] := by decide +kernel
theorem join1 (k : Str) : Txt.join " " [k] = k := str_ext (by rw [tlj]; rfl)
theorem join2 {k k' : Str} (h : k'.cps.toList = k.cps.toList ++ [32]) (x : Str) : k' ++ x = Txt.join " " [k, x] := str_ext (by
  rw [tlj, sp_cps, app_cps, h]
  show _ = k.cps.toList ++ ([32] ++ x.cps.toList)
  simp)
theorem join3 {k k' : Str} (h : k'.cps.toList = k.cps.toList ++ [32]) (x y : Str) : k' ++ x ++ " " ++ y = Txt.join " " [k, x, y] := str_ext (by
  rw [tlj, sp_cps, app_cps, app_cps, app_cps, h, sp_cps]
  show _ = k.cps.toList ++ ([32] ++ (x.cps.toList ++ ([32] ++ y.cps.toList)))
  simp)
theorem join4 {k k' : Str} (h : k'.cps.toList = k.cps.toList ++ [32]) (x y z : Str) : k' ++ x ++ " " ++ y ++ " " ++ z = Txt.join " " [k, x, y, z] := str_ext (by
  rw [tlj, sp_cps, app_cps, app_cps, app_cps, app_cps, app_cps, h, sp_cps]
  show _ = k.cps.toList ++ ([32] ++ (x.cps.toList ++ ([32] ++ (y.cps.toList ++ ([32] ++ z.cps.toList)))))
  simp)
/-- P point, B bag, X x, Q q, Y y -/
def sceneRows (P B X Q Y : Str) : List (List Str) := [["shape", P], ["bag", B, P], ["func", "main"], ["none", Q, B], ["either"], ["new", Q, B], ["or"], ["end"], ["loop"], ["either"], ["new", X, P], ["or"], ["none", X, P], ["end"], ["with", Q, Q, X], ["end"], ["loop"], ["some", Y, Q], ["use", Y], ["end"], ["end"]]
def sceneStr (P B X Q Y : Str) : List Str := ["shape " ++ P, "bag " ++ B ++ " " ++ P, "func main", "none " ++ Q ++ " " ++ B, "either", "new " ++ Q ++ " " ++ B, "or", "end", "loop", "either", "new " ++ X ++ " " ++ P, "or", "none " ++ X ++ " " ++ P, "end", "with " ++ Q ++ " " ++ Q ++ " " ++ X, "end", "loop", "some " ++ Y ++ " " ++ Q, "use " ++ Y, "end", "end"]
theorem scene_eq (P B X Q Y : Str) : sceneStr P B X Q Y = (sceneRows P B X Q Y).map fun ws => Txt.join " " ws := by
  unfold sceneStr sceneRows
  rw [join2 (k := "shape") (by decide +kernel), join3 (k := "bag") (by decide +kernel), join3 (k := "none") (by decide +kernel), join3 (k := "new") (by decide +kernel), join3 (k := "new") (by decide +kernel), join3 (k := "none") (by decide +kernel), join4 (k := "with") (by decide +kernel), join3 (k := "some") (by decide +kernel), join2 (k := "use") (by decide +kernel)]
  rw [show ("func main" : Str) = Txt.join " " ["func", "main"] by decide +kernel]
  simp only [List.map_cons, List.map_nil, join1]
end R9H
set_option Elab.async false
set_option linter.all false
set_option maxRecDepth 100000
set_option maxHeartbeats 4000000
/-! k19, part SA: the scene is read -/
namespace R9H
open PySem PySem.Spec PyProof.Rows L2
section
variable (P B X Q Y : Str)
def wP : List (List Str) := thr [] []
def wB : List (List Str) := thr [("*", wP)] ["*"]
def tabL : Tab := [(P, wP), (B, wB)]
def knL : List (Str × Str) := [(Q, B), (X, P), (Y, P)]
def kindsL : List (Int × Str) := [(1, "shape"), (2, "bag"), (3, "func"), (4, "none"), (5, "either"), (6, "new"), (7, "or"), (8, "end"), (9, "loop"), (10, "either"), (11, "new"), (12, "or"), (13, "none"), (14, "end"), (15, "with"), (16, "end"), (17, "loop"), (18, "some"), (19, "use"), (20, "end"), (21, "end")]
def rowsL : List (Int × List Str) := [(1, ["shape", P]), (2, ["bag", B, P]), (3, ["func", "main"]), (4, ["none", Q, B]), (5, ["either"]), (6, ["new", Q, B]), (7, ["or"]), (8, ["end"]), (9, ["loop"]), (10, ["either"]), (11, ["new", X, P]), (12, ["or"]), (13, ["none", X, P]), (14, ["end"]), (15, ["with", Q, Q, X]), (16, ["end"]), (17, ["loop"]), (18, ["some", Y, Q]), (19, ["use", Y]), (20, ["end"]), (21, ["end"])]
def ownL : List (Int × Str) := [(3, mainS), (4, mainS), (5, mainS), (6, mainS), (7, mainS), (8, mainS), (9, mainS), (10, mainS), (11, mainS), (12, mainS), (13, mainS), (14, mainS), (15, mainS), (16, mainS), (17, mainS), (18, mainS), (19, mainS), (20, mainS), (21, mainS)]
def partL : List (Int × Int) := [(5, 8), (8, 5), (10, 14), (14, 10), (9, 16), (16, 9), (17, 20), (20, 17), (3, 21), (21, 3)]
def roL : List (Int × List Int) := [(4, [3]), (5, [3]), (6, [3]), (7, [3]), (8, [3]), (9, [3]), (10, [3]), (11, [3]), (12, [3]), (13, [3]), (14, [3]), (15, [3]), (16, [3]), (17, [3]), (18, [3]), (19, [3]), (20, [3])]
def sc : Nat → Bool × RS
  | 0 => (false, {})
  | 1 => (false, { own := none, tab := (tabL P B).take 1, f := ([(P, [])] : List (Str × List (Str × Str))).take 1, c := ([(B, P)] : List (Str × Str)).take 0, hd := ([(mainS, 3)] : List (Str × Int)).take 0, pm := ([(mainS, [])] : List (Str × List Str)).take 0, cur := none, kn := (knL P B X Q Y).take 0, kinds := kindsL.take 1, rows := (rowsL P B X Q Y).take 1, owners := ownL.take 0, partners := partL.take 0, ors := [], eithers := [], rooms_of := roL.take 0, makings := ([6, 11, 15] : List Int).take 0, blocks := [] })
  | 2 => (false, { own := none, tab := (tabL P B).take 2, f := ([(P, [])] : List (Str × List (Str × Str))).take 1, c := ([(B, P)] : List (Str × Str)).take 1, hd := ([(mainS, 3)] : List (Str × Int)).take 0, pm := ([(mainS, [])] : List (Str × List Str)).take 0, cur := none, kn := (knL P B X Q Y).take 0, kinds := kindsL.take 2, rows := (rowsL P B X Q Y).take 2, owners := ownL.take 0, partners := partL.take 0, ors := [], eithers := [], rooms_of := roL.take 0, makings := ([6, 11, 15] : List Int).take 0, blocks := [] })
  | 3 => (true, { own := some mainS, tab := (tabL P B).take 2, f := ([(P, [])] : List (Str × List (Str × Str))).take 1, c := ([(B, P)] : List (Str × Str)).take 1, hd := ([(mainS, 3)] : List (Str × Int)).take 1, pm := ([(mainS, [])] : List (Str × List Str)).take 1, cur := some mainS, kn := (knL P B X Q Y).take 0, kinds := kindsL.take 3, rows := (rowsL P B X Q Y).take 3, owners := ownL.take 1, partners := partL.take 0, ors := [], eithers := [], rooms_of := roL.take 0, makings := ([6, 11, 15] : List Int).take 0, blocks := [] })
  | 4 => (true, { own := some mainS, tab := (tabL P B).take 2, f := ([(P, [])] : List (Str × List (Str × Str))).take 1, c := ([(B, P)] : List (Str × Str)).take 1, hd := ([(mainS, 3)] : List (Str × Int)).take 1, pm := ([(mainS, [])] : List (Str × List Str)).take 1, cur := some mainS, kn := (knL P B X Q Y).take 1, kinds := kindsL.take 4, rows := (rowsL P B X Q Y).take 4, owners := ownL.take 2, partners := partL.take 0, ors := [], eithers := [], rooms_of := roL.take 1, makings := ([6, 11, 15] : List Int).take 0, blocks := [] })
  | 5 => (true, { own := some mainS, tab := (tabL P B).take 2, f := ([(P, [])] : List (Str × List (Str × Str))).take 1, c := ([(B, P)] : List (Str × Str)).take 1, hd := ([(mainS, 3)] : List (Str × Int)).take 1, pm := ([(mainS, [])] : List (Str × List Str)).take 1, cur := some mainS, kn := (knL P B X Q Y).take 1, kinds := kindsL.take 5, rows := (rowsL P B X Q Y).take 5, owners := ownL.take 3, partners := partL.take 0, ors := [(5, [])], eithers := [], rooms_of := roL.take 2, makings := ([6, 11, 15] : List Int).take 0, blocks := [5] })
  | 6 => (true, { own := some mainS, tab := (tabL P B).take 2, f := ([(P, [])] : List (Str × List (Str × Str))).take 1, c := ([(B, P)] : List (Str × Str)).take 1, hd := ([(mainS, 3)] : List (Str × Int)).take 1, pm := ([(mainS, [])] : List (Str × List Str)).take 1, cur := some mainS, kn := (knL P B X Q Y).take 1, kinds := kindsL.take 6, rows := (rowsL P B X Q Y).take 6, owners := ownL.take 4, partners := partL.take 0, ors := [(5, [])], eithers := [], rooms_of := roL.take 3, makings := ([6, 11, 15] : List Int).take 1, blocks := [5] })
  | 7 => (true, { own := some mainS, tab := (tabL P B).take 2, f := ([(P, [])] : List (Str × List (Str × Str))).take 1, c := ([(B, P)] : List (Str × Str)).take 1, hd := ([(mainS, 3)] : List (Str × Int)).take 1, pm := ([(mainS, [])] : List (Str × List Str)).take 1, cur := some mainS, kn := (knL P B X Q Y).take 1, kinds := kindsL.take 7, rows := (rowsL P B X Q Y).take 7, owners := ownL.take 5, partners := partL.take 0, ors := [(5, [7])], eithers := [(7, 5)], rooms_of := roL.take 4, makings := ([6, 11, 15] : List Int).take 1, blocks := [5] })
  | 8 => (true, { own := some mainS, tab := (tabL P B).take 2, f := ([(P, [])] : List (Str × List (Str × Str))).take 1, c := ([(B, P)] : List (Str × Str)).take 1, hd := ([(mainS, 3)] : List (Str × Int)).take 1, pm := ([(mainS, [])] : List (Str × List Str)).take 1, cur := some mainS, kn := (knL P B X Q Y).take 1, kinds := kindsL.take 8, rows := (rowsL P B X Q Y).take 8, owners := ownL.take 6, partners := partL.take 2, ors := [(5, [7])], eithers := [(7, 5)], rooms_of := roL.take 5, makings := ([6, 11, 15] : List Int).take 1, blocks := [] })
  | 9 => (true, { own := some mainS, tab := (tabL P B).take 2, f := ([(P, [])] : List (Str × List (Str × Str))).take 1, c := ([(B, P)] : List (Str × Str)).take 1, hd := ([(mainS, 3)] : List (Str × Int)).take 1, pm := ([(mainS, [])] : List (Str × List Str)).take 1, cur := some mainS, kn := (knL P B X Q Y).take 1, kinds := kindsL.take 9, rows := (rowsL P B X Q Y).take 9, owners := ownL.take 7, partners := partL.take 2, ors := [(5, [7])], eithers := [(7, 5)], rooms_of := roL.take 6, makings := ([6, 11, 15] : List Int).take 1, blocks := [9] })
  | 10 => (true, { own := some mainS, tab := (tabL P B).take 2, f := ([(P, [])] : List (Str × List (Str × Str))).take 1, c := ([(B, P)] : List (Str × Str)).take 1, hd := ([(mainS, 3)] : List (Str × Int)).take 1, pm := ([(mainS, [])] : List (Str × List Str)).take 1, cur := some mainS, kn := (knL P B X Q Y).take 1, kinds := kindsL.take 10, rows := (rowsL P B X Q Y).take 10, owners := ownL.take 8, partners := partL.take 2, ors := [(5, [7]), (10, [])], eithers := [(7, 5)], rooms_of := roL.take 7, makings := ([6, 11, 15] : List Int).take 1, blocks := [9, 10] })
  | 11 => (true, { own := some mainS, tab := (tabL P B).take 2, f := ([(P, [])] : List (Str × List (Str × Str))).take 1, c := ([(B, P)] : List (Str × Str)).take 1, hd := ([(mainS, 3)] : List (Str × Int)).take 1, pm := ([(mainS, [])] : List (Str × List Str)).take 1, cur := some mainS, kn := (knL P B X Q Y).take 2, kinds := kindsL.take 11, rows := (rowsL P B X Q Y).take 11, owners := ownL.take 9, partners := partL.take 2, ors := [(5, [7]), (10, [])], eithers := [(7, 5)], rooms_of := roL.take 8, makings := ([6, 11, 15] : List Int).take 2, blocks := [9, 10] })
  | 12 => (true, { own := some mainS, tab := (tabL P B).take 2, f := ([(P, [])] : List (Str × List (Str × Str))).take 1, c := ([(B, P)] : List (Str × Str)).take 1, hd := ([(mainS, 3)] : List (Str × Int)).take 1, pm := ([(mainS, [])] : List (Str × List Str)).take 1, cur := some mainS, kn := (knL P B X Q Y).take 2, kinds := kindsL.take 12, rows := (rowsL P B X Q Y).take 12, owners := ownL.take 10, partners := partL.take 2, ors := [(5, [7]), (10, [12])], eithers := [(7, 5), (12, 10)], rooms_of := roL.take 9, makings := ([6, 11, 15] : List Int).take 2, blocks := [9, 10] })
  | 13 => (true, { own := some mainS, tab := (tabL P B).take 2, f := ([(P, [])] : List (Str × List (Str × Str))).take 1, c := ([(B, P)] : List (Str × Str)).take 1, hd := ([(mainS, 3)] : List (Str × Int)).take 1, pm := ([(mainS, [])] : List (Str × List Str)).take 1, cur := some mainS, kn := (knL P B X Q Y).take 2, kinds := kindsL.take 13, rows := (rowsL P B X Q Y).take 13, owners := ownL.take 11, partners := partL.take 2, ors := [(5, [7]), (10, [12])], eithers := [(7, 5), (12, 10)], rooms_of := roL.take 10, makings := ([6, 11, 15] : List Int).take 2, blocks := [9, 10] })
  | 14 => (true, { own := some mainS, tab := (tabL P B).take 2, f := ([(P, [])] : List (Str × List (Str × Str))).take 1, c := ([(B, P)] : List (Str × Str)).take 1, hd := ([(mainS, 3)] : List (Str × Int)).take 1, pm := ([(mainS, [])] : List (Str × List Str)).take 1, cur := some mainS, kn := (knL P B X Q Y).take 2, kinds := kindsL.take 14, rows := (rowsL P B X Q Y).take 14, owners := ownL.take 12, partners := partL.take 4, ors := [(5, [7]), (10, [12])], eithers := [(7, 5), (12, 10)], rooms_of := roL.take 11, makings := ([6, 11, 15] : List Int).take 2, blocks := [9] })
  | 15 => (true, { own := some mainS, tab := (tabL P B).take 2, f := ([(P, [])] : List (Str × List (Str × Str))).take 1, c := ([(B, P)] : List (Str × Str)).take 1, hd := ([(mainS, 3)] : List (Str × Int)).take 1, pm := ([(mainS, [])] : List (Str × List Str)).take 1, cur := some mainS, kn := (knL P B X Q Y).take 2, kinds := kindsL.take 15, rows := (rowsL P B X Q Y).take 15, owners := ownL.take 13, partners := partL.take 4, ors := [(5, [7]), (10, [12])], eithers := [(7, 5), (12, 10)], rooms_of := roL.take 12, makings := ([6, 11, 15] : List Int).take 3, blocks := [9] })
  | 16 => (true, { own := some mainS, tab := (tabL P B).take 2, f := ([(P, [])] : List (Str × List (Str × Str))).take 1, c := ([(B, P)] : List (Str × Str)).take 1, hd := ([(mainS, 3)] : List (Str × Int)).take 1, pm := ([(mainS, [])] : List (Str × List Str)).take 1, cur := some mainS, kn := (knL P B X Q Y).take 2, kinds := kindsL.take 16, rows := (rowsL P B X Q Y).take 16, owners := ownL.take 14, partners := partL.take 6, ors := [(5, [7]), (10, [12])], eithers := [(7, 5), (12, 10)], rooms_of := roL.take 13, makings := ([6, 11, 15] : List Int).take 3, blocks := [] })
  | 17 => (true, { own := some mainS, tab := (tabL P B).take 2, f := ([(P, [])] : List (Str × List (Str × Str))).take 1, c := ([(B, P)] : List (Str × Str)).take 1, hd := ([(mainS, 3)] : List (Str × Int)).take 1, pm := ([(mainS, [])] : List (Str × List Str)).take 1, cur := some mainS, kn := (knL P B X Q Y).take 2, kinds := kindsL.take 17, rows := (rowsL P B X Q Y).take 17, owners := ownL.take 15, partners := partL.take 6, ors := [(5, [7]), (10, [12])], eithers := [(7, 5), (12, 10)], rooms_of := roL.take 14, makings := ([6, 11, 15] : List Int).take 3, blocks := [17] })
  | 18 => (true, { own := some mainS, tab := (tabL P B).take 2, f := ([(P, [])] : List (Str × List (Str × Str))).take 1, c := ([(B, P)] : List (Str × Str)).take 1, hd := ([(mainS, 3)] : List (Str × Int)).take 1, pm := ([(mainS, [])] : List (Str × List Str)).take 1, cur := some mainS, kn := (knL P B X Q Y).take 3, kinds := kindsL.take 18, rows := (rowsL P B X Q Y).take 18, owners := ownL.take 16, partners := partL.take 6, ors := [(5, [7]), (10, [12])], eithers := [(7, 5), (12, 10)], rooms_of := roL.take 15, makings := ([6, 11, 15] : List Int).take 3, blocks := [17] })
  | 19 => (true, { own := some mainS, tab := (tabL P B).take 2, f := ([(P, [])] : List (Str × List (Str × Str))).take 1, c := ([(B, P)] : List (Str × Str)).take 1, hd := ([(mainS, 3)] : List (Str × Int)).take 1, pm := ([(mainS, [])] : List (Str × List Str)).take 1, cur := some mainS, kn := (knL P B X Q Y).take 3, kinds := kindsL.take 19, rows := (rowsL P B X Q Y).take 19, owners := ownL.take 17, partners := partL.take 6, ors := [(5, [7]), (10, [12])], eithers := [(7, 5), (12, 10)], rooms_of := roL.take 16, makings := ([6, 11, 15] : List Int).take 3, blocks := [17] })
  | 20 => (true, { own := some mainS, tab := (tabL P B).take 2, f := ([(P, [])] : List (Str × List (Str × Str))).take 1, c := ([(B, P)] : List (Str × Str)).take 1, hd := ([(mainS, 3)] : List (Str × Int)).take 1, pm := ([(mainS, [])] : List (Str × List Str)).take 1, cur := some mainS, kn := (knL P B X Q Y).take 3, kinds := kindsL.take 20, rows := (rowsL P B X Q Y).take 20, owners := ownL.take 18, partners := partL.take 8, ors := [(5, [7]), (10, [12])], eithers := [(7, 5), (12, 10)], rooms_of := roL.take 17, makings := ([6, 11, 15] : List Int).take 3, blocks := [] })
  | 21 => (true, { own := none, tab := (tabL P B).take 2, f := ([(P, [])] : List (Str × List (Str × Str))).take 1, c := ([(B, P)] : List (Str × Str)).take 1, hd := ([(mainS, 3)] : List (Str × Int)).take 1, pm := ([(mainS, [])] : List (Str × List Str)).take 1, cur := some mainS, kn := (knL P B X Q Y).take 3, kinds := kindsL.take 21, rows := (rowsL P B X Q Y).take 21, owners := ownL.take 19, partners := partL.take 10, ors := [(5, [7]), (10, [12])], eithers := [(7, 5), (12, 10)], rooms_of := roL.take 17, makings := ([6, 11, 15] : List Int).take 3, blocks := [] })
  | _ => (true, {})
end
theorem lk_hd {κ α : Type} [BEq κ] [LawfulBEq κ] {a : κ} {v : α} {l : List (κ × α)} : ((a, v) :: l).lookup a = some v := by rw [List.lookup_cons, beq_self_eq_true]
theorem lk_tl {κ α : Type} [BEq κ] [LawfulBEq κ] {a b : κ} {v : α} {l : List (κ × α)} (h : b ≠ a) : ((a, v) :: l).lookup b = l.lookup b := by
  rw [List.lookup_cons]
  have : (b == a) = false := by simpa using h
  rw [this]
theorem ar_of {r : RS} {bl : List Int} {kd : List (Int × Str)} {f : Int} {l : List Int} (h1 : r.blocks = bl) (h2 : r.kinds = kd) (h : (bl.filter fun b => kd.lookup b == some ("room" : Str)).reverse ++ [f] = l) : aroundS r f = l := by
  unfold aroundS isRoom
  rw [h1, h2]
  exact h
structure Nm (P B X Q Y : Str) : Prop where
  gP : goodName P
  gB : goodName B
  gX : goodName X
  gQ : goodName Q
  gY : goodName Y
  pb : P ≠ B
  xq : X ≠ Q
  xy : X ≠ Y
  qy : Q ≠ Y
section
variable {P B X Q Y : Str}
theorem okw (N : Nm P B X Q Y) : ∀ ws ∈ sceneRows P B X Q Y, (∀ w ∈ ws, Cln w) ∧ (∀ w ∈ ws, PyData.strOk w = true) ∧ ws ≠ [] ∧ ws.length ≤ 10 := by
  have cP := good_cln N.gP
  have cB := good_cln N.gB
  have cX := good_cln N.gX
  have cQ := good_cln N.gQ
  have cY := good_cln N.gY
  have k : ∀ w ∈ [("shape" : Str), "bag", "func", "main", "none", "either", "new", "or", "end", "loop", "with", "some", "use"], Cln w ∧ PyData.strOk w = true := by decide +kernel
  have k0 := k "shape" (by decide +kernel)
  have k1 := k "bag" (by decide +kernel)
  have k2 := k "func" (by decide +kernel)
  have k3 := k "main" (by decide +kernel)
  have k4 := k "none" (by decide +kernel)
  have k5 := k "either" (by decide +kernel)
  have k6 := k "new" (by decide +kernel)
  have k7 := k "or" (by decide +kernel)
  have k8 := k "end" (by decide +kernel)
  have k9 := k "loop" (by decide +kernel)
  have k10 := k "with" (by decide +kernel)
  have k11 := k "some" (by decide +kernel)
  have k12 := k "use" (by decide +kernel)
  unfold sceneRows
  simp only [List.forall_mem_cons, List.forall_mem_nil, and_true, List.length_cons, List.length_nil, ne_eq, reduceCtorEq, not_false_eq_true]
  simp only [cP, cB, cX, cQ, cY, k0, k1, k2, k3, k4, k5, k6, k7, k8, k9, k10, k11, k12, true_and, and_self, Nat.reduceAdd, Nat.reduceLeDiff, List.not_mem_nil, false_implies, implies_true]
theorem step1 (N : Nm P B X Q Y) : OkL (sc P B X Q Y 0).2 1 "shape" [P] ∧ StepS (sc P B X Q Y 0).1 (sc P B X Q Y 0).2 1 "shape" [P] (sc P B X Q Y 1).1 (sc P B X Q Y 1).2 := by
  refine ⟨⟨Nat.le_of_ble_eq_true rfl, ⟨rfl, rfl, rfl, rfl⟩, (okw N _ (List.mem_of_getElem? (i := 0) rfl)).2.1⟩, ?_⟩
  refine StepS.shape (x := P) (ps := []) (prs := []) rfl N.gP rfl rfl (Nat.zero_le _) (by show 0 < 8; decide) (Nat.zero_le _) (fun _ h => by cases h) .nil .nil (fun _ h => by cases h) (fun steps hp => ?_) (fun steps hp _ => ?_)
  · have : steps = [] := List.Perm.eq_nil hp
    subst this
    exact Nat.le_of_ble_eq_true rfl
  · have : steps = [] := List.Perm.eq_nil hp
    subst this
    rfl
theorem step2 (N : Nm P B X Q Y) : OkL (sc P B X Q Y 1).2 2 "bag" [B, P] ∧ StepS (sc P B X Q Y 1).1 (sc P B X Q Y 1).2 2 "bag" [B, P] (sc P B X Q Y 2).1 (sc P B X Q Y 2).2 := by
  refine ⟨⟨Nat.le_of_ble_eq_true rfl, ⟨rfl, rfl, rfl, rfl⟩, (okw N _ (List.mem_of_getElem? (i := 1) rfl)).2.1⟩, ?_⟩
  exact StepS.bag (wys := wP) rfl N.gB ((lk_tl (Ne.symm N.pb)).trans rfl) rfl (Nat.zero_le _) (by show 1 < 8; decide) lk_hd (by decide)
theorem step3 (N : Nm P B X Q Y) : OkL (sc P B X Q Y 2).2 3 "func" ["main"] ∧ StepS (sc P B X Q Y 2).1 (sc P B X Q Y 2).2 3 "func" ["main"] (sc P B X Q Y 3).1 (sc P B X Q Y 3).2 := by
  refine ⟨⟨Nat.le_of_ble_eq_true rfl, ⟨rfl, rfl, rfl, rfl⟩, (okw N _ (List.mem_of_getElem? (i := 2) rfl)).2.1⟩, ?_⟩
  have h := StepS.func (b := false) (r := (sc P B X Q Y 2).2) (i := 3) (g := "main") (ps := []) (nms := []) ⟨rfl, rfl, rfl, .inl rfl, (fun _ h => by cases h), .nil, rfl, Nat.zero_le _, .inl ⟨rfl, rfl⟩, rfl⟩
  exact h
theorem step4 (N : Nm P B X Q Y) : OkL (sc P B X Q Y 3).2 4 "none" [Q, B] ∧ StepS (sc P B X Q Y 3).1 (sc P B X Q Y 3).2 4 "none" [Q, B] (sc P B X Q Y 4).1 (sc P B X Q Y 4).2 := by
  refine ⟨⟨Nat.le_of_ble_eq_true rfl, ⟨rfl, rfl, rfl, rfl⟩, (okw N _ (List.mem_of_getElem? (i := 3) rfl)).2.1⟩, ?_⟩
  refine StepS.inn (f := 3) rfl (fun b hb => by have hb : b ∈ ([] : List Int) := hb; cases hb) rfl ?_
  have ar : aroundS (lin2 (sc P B X Q Y 3).2 4 "none" [Q, B]) 3 = [3] := ar_of (bl := []) (kd := kindsL.take 4) rfl rfl (by decide +kernel)
  have h : InnS (sc P B X Q Y 3).2 4 "none" [Q, B] _ := InnS.other (f := 3) (InsS.val (.non (s := B) (wy := wB) ((lk_tl (Ne.symm N.pb)).trans lk_hd) ⟨N.gQ, .inr ⟨rfl, by show 0 < 8; decide, rfl⟩⟩)) rfl (.inl (by intro z; have z := (List.cons.inj z).1; exact absurd z (by decide))) (by decide)
  rw [ar] at h
  exact h
theorem step5 (N : Nm P B X Q Y) : OkL (sc P B X Q Y 4).2 5 "either" [] ∧ StepS (sc P B X Q Y 4).1 (sc P B X Q Y 4).2 5 "either" [] (sc P B X Q Y 5).1 (sc P B X Q Y 5).2 := by
  refine ⟨⟨Nat.le_of_ble_eq_true rfl, ⟨rfl, rfl, rfl, rfl⟩, (okw N _ (List.mem_of_getElem? (i := 4) rfl)).2.1⟩, ?_⟩
  refine StepS.inn (f := 3) rfl (fun b hb => by have hb : b ∈ ([] : List Int) := hb; cases hb) rfl ?_
  have ar : aroundS (lin2 (sc P B X Q Y 4).2 5 "either" []) 3 = [3] := ar_of (bl := []) (kd := kindsL.take 5) rfl rfl (by decide +kernel)
  have h : InnS (sc P B X Q Y 4).2 5 "either" [] _ := InnS.other (f := 3) (InsS.bare (.block (by show 0 < 8; decide) (.either rfl))) rfl (.inl (by intro z; have z := (List.cons.inj z).1; exact absurd z (by decide))) (by decide)
  rw [ar] at h
  exact h
theorem step6 (N : Nm P B X Q Y) : OkL (sc P B X Q Y 5).2 6 "new" [Q, B] ∧ StepS (sc P B X Q Y 5).1 (sc P B X Q Y 5).2 6 "new" [Q, B] (sc P B X Q Y 6).1 (sc P B X Q Y 6).2 := by
  refine ⟨⟨Nat.le_of_ble_eq_true rfl, ⟨rfl, rfl, rfl, rfl⟩, (okw N _ (List.mem_of_getElem? (i := 5) rfl)).2.1⟩, ?_⟩
  refine StepS.inn (f := 3) rfl (fun b hb => by have hb : b ∈ ([5] : List Int) := hb; simp only [List.mem_cons, List.not_mem_nil, or_false] at hb; subst hb; exact ⟨_, rfl⟩) rfl ?_
  have ar : aroundS (lin2 (sc P B X Q Y 5).2 6 "new" [Q, B]) 3 = [3] := ar_of (bl := [5]) (kd := kindsL.take 6) rfl rfl (by decide +kernel)
  have h : InnS (sc P B X Q Y 5).2 6 "new" [Q, B] _ := InnS.other (f := 3) (InsS.new (s := B) (wy := wB) (ps := []) ((lk_tl (Ne.symm N.pb)).trans lk_hd) (by show ((List.lookup B [(P, [])]).getD []) = ([] : List (Str × Str)); rw [lk_tl (Ne.symm N.pb)]; rfl) (Nat.zero_le _) .nil ⟨N.gQ, .inl ⟨lk_hd, rfl⟩⟩ (by show 0 < 12; decide)) rfl (.inl (by intro z; have z := (List.cons.inj z).1; exact absurd z (by decide))) (by decide)
  rw [ar] at h
  exact h
theorem step7 (N : Nm P B X Q Y) : OkL (sc P B X Q Y 6).2 7 "or" [] ∧ StepS (sc P B X Q Y 6).1 (sc P B X Q Y 6).2 7 "or" [] (sc P B X Q Y 7).1 (sc P B X Q Y 7).2 := by
  refine ⟨⟨Nat.le_of_ble_eq_true rfl, ⟨rfl, rfl, rfl, rfl⟩, (okw N _ (List.mem_of_getElem? (i := 6) rfl)).2.1⟩, ?_⟩
  refine StepS.inn (f := 3) rfl (fun b hb => by have hb : b ∈ ([5] : List Int) := hb; simp only [List.mem_cons, List.not_mem_nil, or_false] at hb; subst hb; exact ⟨_, rfl⟩) rfl ?_
  have ar : aroundS (lin2 (sc P B X Q Y 6).2 7 "or" []) 3 = [3] := ar_of (bl := [5]) (kd := kindsL.take 7) rfl rfl (by decide +kernel)
  have h : InnS (sc P B X Q Y 6).2 7 "or" [] _ := InnS.other (f := 3) (InsS.bare (.or_ (bs := []) (b := 5) (l := []) rfl rfl rfl (Nat.zero_le _) rfl)) rfl (.inl (by intro z; have z := (List.cons.inj z).1; exact absurd z (by decide))) (by decide)
  rw [ar] at h
  exact h
theorem step8 (N : Nm P B X Q Y) : OkL (sc P B X Q Y 7).2 8 "end" [] ∧ StepS (sc P B X Q Y 7).1 (sc P B X Q Y 7).2 8 "end" [] (sc P B X Q Y 8).1 (sc P B X Q Y 8).2 := by
  refine ⟨⟨Nat.le_of_ble_eq_true rfl, ⟨rfl, rfl, rfl, rfl⟩, (okw N _ (List.mem_of_getElem? (i := 7) rfl)).2.1⟩, ?_⟩
  refine StepS.inn (f := 3) rfl (fun b hb => by have hb : b ∈ ([5] : List Int) := hb; simp only [List.mem_cons, List.not_mem_nil, or_false] at hb; subst hb; exact ⟨_, rfl⟩) rfl ?_
  have ar : aroundS (lin2 (sc P B X Q Y 7).2 8 "end" []) 3 = [3] := ar_of (bl := [5]) (kd := kindsL.take 8) rfl rfl (by decide +kernel)
  have h : InnS (sc P B X Q Y 7).2 8 "end" [] _ := InnS.other (f := 3) (InsS.bare (.end_ (.pop (bs := []) (b := 5) rfl rfl rfl (by decide)))) rfl (.inr (by intro z; cases z)) (by decide)
  rw [ar] at h
  exact h
theorem step9 (N : Nm P B X Q Y) : OkL (sc P B X Q Y 8).2 9 "loop" [] ∧ StepS (sc P B X Q Y 8).1 (sc P B X Q Y 8).2 9 "loop" [] (sc P B X Q Y 9).1 (sc P B X Q Y 9).2 := by
  refine ⟨⟨Nat.le_of_ble_eq_true rfl, ⟨rfl, rfl, rfl, rfl⟩, (okw N _ (List.mem_of_getElem? (i := 8) rfl)).2.1⟩, ?_⟩
  refine StepS.inn (f := 3) rfl (fun b hb => by have hb : b ∈ ([] : List Int) := hb; cases hb) rfl ?_
  have ar : aroundS (lin2 (sc P B X Q Y 8).2 9 "loop" []) 3 = [3] := ar_of (bl := []) (kd := kindsL.take 9) rfl rfl (by decide +kernel)
  have h : InnS (sc P B X Q Y 8).2 9 "loop" [] _ := InnS.other (f := 3) (InsS.bare (.block (by show 0 < 8; decide) .loop)) rfl (.inl (by intro z; have z := (List.cons.inj z).1; exact absurd z (by decide))) (by decide)
  rw [ar] at h
  exact h
theorem step10 (N : Nm P B X Q Y) : OkL (sc P B X Q Y 9).2 10 "either" [] ∧ StepS (sc P B X Q Y 9).1 (sc P B X Q Y 9).2 10 "either" [] (sc P B X Q Y 10).1 (sc P B X Q Y 10).2 := by
  refine ⟨⟨Nat.le_of_ble_eq_true rfl, ⟨rfl, rfl, rfl, rfl⟩, (okw N _ (List.mem_of_getElem? (i := 9) rfl)).2.1⟩, ?_⟩
  refine StepS.inn (f := 3) rfl (fun b hb => by have hb : b ∈ ([9] : List Int) := hb; simp only [List.mem_cons, List.not_mem_nil, or_false] at hb; subst hb; exact ⟨_, rfl⟩) rfl ?_
  have ar : aroundS (lin2 (sc P B X Q Y 9).2 10 "either" []) 3 = [3] := ar_of (bl := [9]) (kd := kindsL.take 10) rfl rfl (by decide +kernel)
  have h : InnS (sc P B X Q Y 9).2 10 "either" [] _ := InnS.other (f := 3) (InsS.bare (.block (by show 1 < 8; decide) (.either rfl))) rfl (.inl (by intro z; have z := (List.cons.inj z).1; exact absurd z (by decide))) (by decide)
  rw [ar] at h
  exact h
theorem step11 (N : Nm P B X Q Y) : OkL (sc P B X Q Y 10).2 11 "new" [X, P] ∧ StepS (sc P B X Q Y 10).1 (sc P B X Q Y 10).2 11 "new" [X, P] (sc P B X Q Y 11).1 (sc P B X Q Y 11).2 := by
  refine ⟨⟨Nat.le_of_ble_eq_true rfl, ⟨rfl, rfl, rfl, rfl⟩, (okw N _ (List.mem_of_getElem? (i := 10) rfl)).2.1⟩, ?_⟩
  refine StepS.inn (f := 3) rfl (fun b hb => by have hb : b ∈ ([9, 10] : List Int) := hb; simp only [List.mem_cons, List.not_mem_nil, or_false] at hb; rcases hb with rfl | rfl <;> exact ⟨_, rfl⟩) rfl ?_
  have ar : aroundS (lin2 (sc P B X Q Y 10).2 11 "new" [X, P]) 3 = [3] := ar_of (bl := [9, 10]) (kd := kindsL.take 11) rfl rfl (by decide +kernel)
  have h : InnS (sc P B X Q Y 10).2 11 "new" [X, P] _ := InnS.other (f := 3) (InsS.new (s := P) (wy := wP) (ps := []) lk_hd (by show ((List.lookup P [(P, [])]).getD []) = ([] : List (Str × Str)); rw [lk_hd]; rfl) (Nat.zero_le _) .nil ⟨N.gX, .inr ⟨(lk_tl N.xq).trans rfl, by show 1 < 8; decide, rfl⟩⟩ (by show 1 < 12; decide)) rfl (.inl (by intro z; have z := (List.cons.inj z).1; exact absurd z (by decide))) (by decide)
  rw [ar] at h
  exact h
theorem step12 (N : Nm P B X Q Y) : OkL (sc P B X Q Y 11).2 12 "or" [] ∧ StepS (sc P B X Q Y 11).1 (sc P B X Q Y 11).2 12 "or" [] (sc P B X Q Y 12).1 (sc P B X Q Y 12).2 := by
  refine ⟨⟨Nat.le_of_ble_eq_true rfl, ⟨rfl, rfl, rfl, rfl⟩, (okw N _ (List.mem_of_getElem? (i := 11) rfl)).2.1⟩, ?_⟩
  refine StepS.inn (f := 3) rfl (fun b hb => by have hb : b ∈ ([9, 10] : List Int) := hb; simp only [List.mem_cons, List.not_mem_nil, or_false] at hb; rcases hb with rfl | rfl <;> exact ⟨_, rfl⟩) rfl ?_
  have ar : aroundS (lin2 (sc P B X Q Y 11).2 12 "or" []) 3 = [3] := ar_of (bl := [9, 10]) (kd := kindsL.take 12) rfl rfl (by decide +kernel)
  have h : InnS (sc P B X Q Y 11).2 12 "or" [] _ := InnS.other (f := 3) (InsS.bare (.or_ (bs := [9]) (b := 10) (l := []) rfl rfl rfl (Nat.zero_le _) rfl)) rfl (.inl (by intro z; have z := (List.cons.inj z).1; exact absurd z (by decide))) (by decide)
  rw [ar] at h
  exact h
theorem step13 (N : Nm P B X Q Y) : OkL (sc P B X Q Y 12).2 13 "none" [X, P] ∧ StepS (sc P B X Q Y 12).1 (sc P B X Q Y 12).2 13 "none" [X, P] (sc P B X Q Y 13).1 (sc P B X Q Y 13).2 := by
  refine ⟨⟨Nat.le_of_ble_eq_true rfl, ⟨rfl, rfl, rfl, rfl⟩, (okw N _ (List.mem_of_getElem? (i := 12) rfl)).2.1⟩, ?_⟩
  refine StepS.inn (f := 3) rfl (fun b hb => by have hb : b ∈ ([9, 10] : List Int) := hb; simp only [List.mem_cons, List.not_mem_nil, or_false] at hb; rcases hb with rfl | rfl <;> exact ⟨_, rfl⟩) rfl ?_
  have ar : aroundS (lin2 (sc P B X Q Y 12).2 13 "none" [X, P]) 3 = [3] := ar_of (bl := [9, 10]) (kd := kindsL.take 13) rfl rfl (by decide +kernel)
  have h : InnS (sc P B X Q Y 12).2 13 "none" [X, P] _ := InnS.other (f := 3) (InsS.val (.non (s := P) (wy := wP) lk_hd ⟨N.gX, .inl ⟨((lk_tl N.xq).trans lk_hd), rfl⟩⟩)) rfl (.inl (by intro z; have z := (List.cons.inj z).1; exact absurd z (by decide))) (by decide)
  rw [ar] at h
  exact h
theorem step14 (N : Nm P B X Q Y) : OkL (sc P B X Q Y 13).2 14 "end" [] ∧ StepS (sc P B X Q Y 13).1 (sc P B X Q Y 13).2 14 "end" [] (sc P B X Q Y 14).1 (sc P B X Q Y 14).2 := by
  refine ⟨⟨Nat.le_of_ble_eq_true rfl, ⟨rfl, rfl, rfl, rfl⟩, (okw N _ (List.mem_of_getElem? (i := 13) rfl)).2.1⟩, ?_⟩
  refine StepS.inn (f := 3) rfl (fun b hb => by have hb : b ∈ ([9, 10] : List Int) := hb; simp only [List.mem_cons, List.not_mem_nil, or_false] at hb; rcases hb with rfl | rfl <;> exact ⟨_, rfl⟩) rfl ?_
  have ar : aroundS (lin2 (sc P B X Q Y 13).2 14 "end" []) 3 = [3] := ar_of (bl := [9, 10]) (kd := kindsL.take 14) rfl rfl (by decide +kernel)
  have h : InnS (sc P B X Q Y 13).2 14 "end" [] _ := InnS.other (f := 3) (InsS.bare (.end_ (.pop (bs := [9]) (b := 10) rfl rfl rfl (by decide)))) rfl (.inr (by intro z; cases z)) (by decide)
  rw [ar] at h
  exact h
theorem step15 (N : Nm P B X Q Y) : OkL (sc P B X Q Y 14).2 15 "with" [Q, Q, X] ∧ StepS (sc P B X Q Y 14).1 (sc P B X Q Y 14).2 15 "with" [Q, Q, X] (sc P B X Q Y 15).1 (sc P B X Q Y 15).2 := by
  refine ⟨⟨Nat.le_of_ble_eq_true rfl, ⟨rfl, rfl, rfl, rfl⟩, (okw N _ (List.mem_of_getElem? (i := 14) rfl)).2.1⟩, ?_⟩
  refine StepS.inn (f := 3) rfl (fun b hb => by have hb : b ∈ ([9] : List Int) := hb; simp only [List.mem_cons, List.not_mem_nil, or_false] at hb; subst hb; exact ⟨_, rfl⟩) rfl ?_
  have ar : aroundS (lin2 (sc P B X Q Y 14).2 15 "with" [Q, Q, X]) 3 = [3] := ar_of (bl := [9]) (kd := kindsL.take 15) rfl rfl (by decide +kernel)
  have h : InnS (sc P B X Q Y 14).2 15 "with" [Q, Q, X] _ := InnS.other (f := 3) (InsS.with_ (bs := B) (cs := P) lk_hd lk_hd ((lk_tl N.xq).trans lk_hd) ⟨N.gQ, .inl ⟨lk_hd, rfl⟩⟩ (by show 2 < 12; decide)) rfl (.inl (by intro z; have z := (List.cons.inj z).1; exact absurd z (by decide))) (by decide)
  rw [ar] at h
  exact h
theorem step16 (N : Nm P B X Q Y) : OkL (sc P B X Q Y 15).2 16 "end" [] ∧ StepS (sc P B X Q Y 15).1 (sc P B X Q Y 15).2 16 "end" [] (sc P B X Q Y 16).1 (sc P B X Q Y 16).2 := by
  refine ⟨⟨Nat.le_of_ble_eq_true rfl, ⟨rfl, rfl, rfl, rfl⟩, (okw N _ (List.mem_of_getElem? (i := 15) rfl)).2.1⟩, ?_⟩
  refine StepS.inn (f := 3) rfl (fun b hb => by have hb : b ∈ ([9] : List Int) := hb; simp only [List.mem_cons, List.not_mem_nil, or_false] at hb; subst hb; exact ⟨_, rfl⟩) rfl ?_
  have ar : aroundS (lin2 (sc P B X Q Y 15).2 16 "end" []) 3 = [3] := ar_of (bl := [9]) (kd := kindsL.take 16) rfl rfl (by decide +kernel)
  have h : InnS (sc P B X Q Y 15).2 16 "end" [] _ := InnS.other (f := 3) (InsS.bare (.end_ (.pop (bs := []) (b := 9) rfl rfl rfl (by decide)))) rfl (.inr (by intro z; cases z)) (by decide)
  rw [ar] at h
  exact h
theorem step17 (N : Nm P B X Q Y) : OkL (sc P B X Q Y 16).2 17 "loop" [] ∧ StepS (sc P B X Q Y 16).1 (sc P B X Q Y 16).2 17 "loop" [] (sc P B X Q Y 17).1 (sc P B X Q Y 17).2 := by
  refine ⟨⟨Nat.le_of_ble_eq_true rfl, ⟨rfl, rfl, rfl, rfl⟩, (okw N _ (List.mem_of_getElem? (i := 16) rfl)).2.1⟩, ?_⟩
  refine StepS.inn (f := 3) rfl (fun b hb => by have hb : b ∈ ([] : List Int) := hb; cases hb) rfl ?_
  have ar : aroundS (lin2 (sc P B X Q Y 16).2 17 "loop" []) 3 = [3] := ar_of (bl := []) (kd := kindsL.take 17) rfl rfl (by decide +kernel)
  have h : InnS (sc P B X Q Y 16).2 17 "loop" [] _ := InnS.other (f := 3) (InsS.bare (.block (by show 0 < 8; decide) .loop)) rfl (.inl (by intro z; have z := (List.cons.inj z).1; exact absurd z (by decide))) (by decide)
  rw [ar] at h
  exact h
theorem step18 (N : Nm P B X Q Y) : OkL (sc P B X Q Y 17).2 18 "some" [Y, Q] ∧ StepS (sc P B X Q Y 17).1 (sc P B X Q Y 17).2 18 "some" [Y, Q] (sc P B X Q Y 18).1 (sc P B X Q Y 18).2 := by
  refine ⟨⟨Nat.le_of_ble_eq_true rfl, ⟨rfl, rfl, rfl, rfl⟩, (okw N _ (List.mem_of_getElem? (i := 17) rfl)).2.1⟩, ?_⟩
  refine StepS.inn (f := 3) rfl (fun b hb => by have hb : b ∈ ([17] : List Int) := hb; simp only [List.mem_cons, List.not_mem_nil, or_false] at hb; subst hb; exact ⟨_, rfl⟩) rfl ?_
  have ar : aroundS (lin2 (sc P B X Q Y 17).2 18 "some" [Y, Q]) 3 = [3] := ar_of (bl := [17]) (kd := kindsL.take 18) rfl rfl (by decide +kernel)
  have h : InnS (sc P B X Q Y 17).2 18 "some" [Y, Q] _ := InnS.other (f := 3) (InsS.val (.some_ (bs := B) (cs := P) lk_hd lk_hd ⟨N.gY, .inr ⟨(lk_tl (Ne.symm N.qy)).trans ((lk_tl (Ne.symm N.xy)).trans rfl), by show 2 < 8; decide, rfl⟩⟩)) rfl (.inl (by intro z; have z := (List.cons.inj z).1; exact absurd z (by decide))) (by decide)
  rw [ar] at h
  exact h
theorem step19 (N : Nm P B X Q Y) : OkL (sc P B X Q Y 18).2 19 "use" [Y] ∧ StepS (sc P B X Q Y 18).1 (sc P B X Q Y 18).2 19 "use" [Y] (sc P B X Q Y 19).1 (sc P B X Q Y 19).2 := by
  refine ⟨⟨Nat.le_of_ble_eq_true rfl, ⟨rfl, rfl, rfl, rfl⟩, (okw N _ (List.mem_of_getElem? (i := 18) rfl)).2.1⟩, ?_⟩
  refine StepS.inn (f := 3) rfl (fun b hb => by have hb : b ∈ ([17] : List Int) := hb; simp only [List.mem_cons, List.not_mem_nil, or_false] at hb; subst hb; exact ⟨_, rfl⟩) rfl ?_
  have ar : aroundS (lin2 (sc P B X Q Y 18).2 19 "use" [Y]) 3 = [3] := ar_of (bl := [17]) (kd := kindsL.take 19) rfl rfl (by decide +kernel)
  have h : InnS (sc P B X Q Y 18).2 19 "use" [Y] _ := InnS.other (f := 3) (InsS.val (.use (s := P) ((lk_tl (Ne.symm N.qy)).trans ((lk_tl (Ne.symm N.xy)).trans lk_hd)))) rfl (.inl (by intro z; have z := (List.cons.inj z).1; exact absurd z (by decide))) (by decide)
  rw [ar] at h
  exact h
theorem step20 (N : Nm P B X Q Y) : OkL (sc P B X Q Y 19).2 20 "end" [] ∧ StepS (sc P B X Q Y 19).1 (sc P B X Q Y 19).2 20 "end" [] (sc P B X Q Y 20).1 (sc P B X Q Y 20).2 := by
  refine ⟨⟨Nat.le_of_ble_eq_true rfl, ⟨rfl, rfl, rfl, rfl⟩, (okw N _ (List.mem_of_getElem? (i := 19) rfl)).2.1⟩, ?_⟩
  refine StepS.inn (f := 3) rfl (fun b hb => by have hb : b ∈ ([17] : List Int) := hb; simp only [List.mem_cons, List.not_mem_nil, or_false] at hb; subst hb; exact ⟨_, rfl⟩) rfl ?_
  have ar : aroundS (lin2 (sc P B X Q Y 19).2 20 "end" []) 3 = [3] := ar_of (bl := [17]) (kd := kindsL.take 20) rfl rfl (by decide +kernel)
  have h : InnS (sc P B X Q Y 19).2 20 "end" [] _ := InnS.other (f := 3) (InsS.bare (.end_ (.pop (bs := []) (b := 17) rfl rfl rfl (by decide)))) rfl (.inr (by intro z; cases z)) (by decide)
  rw [ar] at h
  exact h
theorem step21 (N : Nm P B X Q Y) : OkL (sc P B X Q Y 20).2 21 "end" [] ∧ StepS (sc P B X Q Y 20).1 (sc P B X Q Y 20).2 21 "end" [] (sc P B X Q Y 21).1 (sc P B X Q Y 21).2 := by
  refine ⟨⟨Nat.le_of_ble_eq_true rfl, ⟨rfl, rfl, rfl, rfl⟩, (okw N _ (List.mem_of_getElem? (i := 20) rfl)).2.1⟩, ?_⟩
  refine StepS.inn (f := 3) rfl (fun b hb => by have hb : b ∈ ([] : List Int) := hb; cases hb) rfl ?_
  exact InnS.last (InsS.bare (.end_ (.last (f := 3) rfl rfl rfl rfl rfl (by decide)))) rfl rfl
theorem scene_read (N : Nm P B X Q Y) : ReadS (sceneRows P B X Q Y) (sc P B X Q Y) := by
  refine ⟨rfl, fun i ws h => .inr ?_⟩
  match i, h with
  | 0, h => cases h; exact ⟨_, _, rfl, step1 N⟩
  | 1, h => cases h; exact ⟨_, _, rfl, step2 N⟩
  | 2, h => cases h; exact ⟨_, _, rfl, step3 N⟩
  | 3, h => cases h; exact ⟨_, _, rfl, step4 N⟩
  | 4, h => cases h; exact ⟨_, _, rfl, step5 N⟩
  | 5, h => cases h; exact ⟨_, _, rfl, step6 N⟩
  | 6, h => cases h; exact ⟨_, _, rfl, step7 N⟩
  | 7, h => cases h; exact ⟨_, _, rfl, step8 N⟩
  | 8, h => cases h; exact ⟨_, _, rfl, step9 N⟩
  | 9, h => cases h; exact ⟨_, _, rfl, step10 N⟩
  | 10, h => cases h; exact ⟨_, _, rfl, step11 N⟩
  | 11, h => cases h; exact ⟨_, _, rfl, step12 N⟩
  | 12, h => cases h; exact ⟨_, _, rfl, step13 N⟩
  | 13, h => cases h; exact ⟨_, _, rfl, step14 N⟩
  | 14, h => cases h; exact ⟨_, _, rfl, step15 N⟩
  | 15, h => cases h; exact ⟨_, _, rfl, step16 N⟩
  | 16, h => cases h; exact ⟨_, _, rfl, step17 N⟩
  | 17, h => cases h; exact ⟨_, _, rfl, step18 N⟩
  | 18, h => cases h; exact ⟨_, _, rfl, step19 N⟩
  | 19, h => cases h; exact ⟨_, _, rfl, step20 N⟩
  | 20, h => cases h; exact ⟨_, _, rfl, step21 N⟩
  | i + 21, h => simp [sceneRows] at h
/-- the program's tables -/
abbrev scR (P B X Q Y : Str) : RS := (sc P B X Q Y 21).2
end
end R9H
set_option Elab.async false
set_option linter.all false
set_option maxRecDepth 100000
set_option maxHeartbeats 4000000
/-! k19, part X: the errors made; defs that may raise -/
namespace R9H
open PySem PySem.Spec PyProof.Rows L2
section
variable {w : World} {K : PySem.W.Frag} {mg : Str → Option Value} {base : Heap}
theorem top9 : (P6.main.scope.names.lookup ("super" : Str)).isSome = false := by decide +kernel
theorem ini_NotRun (T : T6 K mg) : K7.InitOk P6 w K (ga K "NotRun") (He.ma K (ga K "NotRun") "__init__") ["index"] := by
  have x := T.err 2 _ rfl
  exact K7.init1 (f := "index") x.xs x.xi ⟨rfl, rfl, rfl, by decide, rfl, by decide, rfl, rfl⟩ rfl top9 (x.no _ List.mem_cons_self) (by decide) (fun fd x u h1 h2 => by unfold bindArgs; rw [h1, h2]; rfl) (by decide)
theorem ini_BadPick (T : T6 K mg) : K7.InitOk P6 w K (ga K "BadPick") (He.ma K (ga K "BadPick") "__init__") ["index"] := by
  have x := T.err 3 _ rfl
  exact K7.init1 (f := "index") x.xs x.xi ⟨rfl, rfl, rfl, by decide, rfl, by decide, rfl, rfl⟩ rfl top9 (x.no _ List.mem_cons_self) (by decide) (fun fd x u h1 h2 => by unfold bindArgs; rw [h1, h2]; rfl) (by decide)
theorem mkX_of {X : Cx} {d : K7.XD} {fs : List Str} (hP : X.prog = P6) (hK : X.K = K) (x : K7.XAll K P6 d) (ini : K7.InitOk P6 X.w K (ga K d.cls) (He.ma K (ga K d.cls) "__init__") fs) (hl : fs.length ≤ 100) : MkX X (ga K d.cls) (He.ma K (ga K d.cls) "__init__") fs := by
  subst hK
  exact ⟨x.xs.toXC, x.xi.iC, x.xi.tI, x.kC, x.exC, x.tyC, by rw [hP]; exact ini, hl⟩
/-- a def that may raise -/
def HasX (w : World) (K : PySem.W.Frag) (mg : Str → Option Value) (base : Heap) (k : Nat) (x : Str) (ps : List Str) (sp : Sp) : Prop := ∃ fd : FuncData, FnOk P6 w K mg base (L2.CX P6 w) k (ga K x) fd ps sp ∧ Binds K fd ps [] ∧ mg x = some (.ref (ga K x)) ∧ PySem.W.keepIn K (.ref (ga K x)) = true
theorem pe_hasX {X : Cx} {W : WX} {k : Nat} {x : Str} {ps : List Str} {sp : Sp} {p pos : Pos} {e : Expr} {es : List Expr} {t : TA} (F : HasX X.w X.K X.mg X.base k x ps sp) (hP : X.prog = P6) (hr : Room k X.A) (hg : Gl X x) (tk : Takes X W) (ha : PA X (e :: es) t) (hdb : (x == ("__debug__" : Str)) = false := by decide)
    (he : starEach (e :: es) X.env = (false, eval e X.env) :: starEach es X.env := by rfl) (hpl : (backTo pos (starEach es X.env)).any (·.1) = false := by rfl) : PE X (.Call (.Name x p) (e :: es) [] pos) (tCallS sp (WE W) t) := by
  obtain ⟨fd, F1, b, m, kp⟩ := F
  rw [← hP] at F1
  exact pe_callS F1 hr hg m kp b (fun σ => passAt tk σ) ha hdb he hpl
theorem has_ofX {k : Nat} {x : Str} {ps : List Str} {sp : Sp} {st : Stmt} {fd : FuncData} (T : T6 K mg) (F : FnP K x st fd) (hx : inG x = true) (ok : FnOk P6 w K mg base (L2.CX P6 w) k (ga K x) fd ps sp)
    (h : ∀ (kV doc pm : Value) (an : Option Addr) (cdv ct : Value) (us : List Value), us.length = ps.length → bindArgs (PySem.W.fnOf x x (defArgs st) (defBody st) (defScope st) .none kV doc pm an cdv ct) ⟨us, []⟩ = pure (ps.zip us)) : HasX w K mg base k x ps sp :=
  ⟨fd, ok, F.bindsN h, T.glo x hx, F.kp⟩
end
end R9H
set_option Elab.async false
set_option linter.all false
set_option maxRecDepth 100000
set_option maxHeartbeats 4000000
/-! k19, part PK: pick_at, which may raise -/
namespace R9H
open PySem PySem.Spec PyProof.Rows L2
def pickV (picks : List Int) (many : Nat) : Int := (picks[many]?).getD 0
def pickAt (picks : List Int) (many size : Nat) : Option Int := if 0 ≤ pickV picks many ∧ pickV picks many < (size : Int) then some (pickV picks many) else none
/-- BadPick(step) in the air -/
def badE (K : PySem.W.Frag) (x : Str) (step : Int) (E : XK) (H : Hp) : Prop := ∀ H' d, ExtH H H' → H' d = some (.xd [(("index" : Str), .int step)]) → E (.ref (ga K x)) (some d) H'
def sp_pick_at (K : PySem.W.Frag) : Sp := fun vs H Q E => ∃ (pt : Addr) (picks : List Int) (many size : Nat) (step : Int), vs = [.ref pt, .int (many : Int), .int (size : Int), .int step] ∧ SqT K H pt (picks.map V.int) ∧
  (∀ pk, pickAt picks many size = some pk → Q (.int pk) H) ∧ (pickAt picks many size = none → badE K "BadPick" step E H)
section
variable {w : World} {K : PySem.W.Frag} {mg : Str → Option Value} {base : Heap}
abbrev st_pick_at : Stmt := top 25
theorem sc_pick_at : FnScope ["picks", "many", "size", "step", "pick"] ["picks", "many", "size", "step"] (defScope st_pick_at) := ⟨rfl, rfl, rfl, by decide +kernel, rfl, by decide +kernel, by decide +kernel⟩
theorem ok_pick_at (T : T6 K mg) : HasX w K mg base 3 "pick_at" ["picks", "many", "size", "step"] (sp_pick_at K) := by
  obtain ⟨fd, F⟩ := T.fn 13
  have gf_len := T.free "len" (by decide +kernel)
  refine has_ofX (st := st_pick_at) T F (by decide +kernel) (F.ok sc_pick_at (fun vs H Q E h => ?_) (fun cdv A outer s H vs Q E hr h => ⟨_, (
    (pss_cons (ps_set (i := 4) sc_pick_at.nd rfl (Or.inl rfl) (pe_ifExp (pt_cmpR op_lt (pv 1) (pe_callB call_len_seq rfl gf_len PySem.boot_len (pa_cons (pv 0) pa_nil)) (nomark _)) (pe_ix ix_tup (pv 0) (pv 1) (fun _ _ => rfl)) pe_int))
    (pss_cons (ps_if (pt_not (pt_chain op_le op_lt pe_int (pv 4) (pv 2)))
      (pss_one (ps_raise rfl (takes_of rfl rfl rfl rfl) (pmk_x (mkX_of (d := xs[3]'(by decide)) rfl rfl (T.err 3 _ rfl) (ini_BadPick T) (by decide)) hr (T.free "super" (by decide +kernel)) rfl (T.glo "BadPick" (by decide +kernel)) (pa_cons (pv 3) pa_nil))))
      pss_nil)
    (pss_one (ps_ret (pv 4)))))), ?_⟩)) fun _ _ _ _ _ _ us hl => match us, hl with | [_, _, _, _], _ => rfl
  · obtain ⟨pt, picks, many, size, step, rfl, _⟩ := h
    rfl
  · obtain ⟨pt, picks, many, size, step, rfl, hp, q1, q2⟩ := h
    clear F
    have fin : ∀ v : Int, v = pickV picks many → (0 ≤ v ∧ v < (size : Int) → Q (.int v) H) ∧ (¬ (0 ≤ v ∧ v < (size : Int)) → badE K "BadPick" step E H) := fun v hv => by
      subst hv
      unfold pickAt at q1 q2
      exact ⟨fun h => q1 _ (if_pos h), fun h => q2 (if_neg h)⟩
    refine ⟨_, rfl, _, rfl, pt, _, rfl, .inr hp, _, _, rfl, rfl, _, rfl, ?_⟩
    rw [List.length_map]
    by_cases c : many < picks.length
    · have hg : picks[many]? = some picks[many] := List.getElem?_eq_getElem c
      have hv : picks[many] = pickV picks many := by unfold pickV; rw [hg] <;> rfl
      refine ifT (decide_eq_true (by omega)) ⟨_, rfl, _, rfl, pt, _, (many : Int), _, rfl, rfl, hp, atI_nat (by rw [List.getElem?_map, hg] <;> rfl), ?_⟩
      by_cases k1 : (0 : Int) ≤ picks[many]
      · by_cases k2 : picks[many] < (size : Int)
        · exact ⟨_, rfl, _, _, rfl, rfl, _, rfl, ifT (decide_eq_true k1) ⟨_, rfl, _, _, rfl, rfl, _, rfl, ifF (by rw [show decide (picks[many] < (size : Int)) = true from decide_eq_true k2]; rfl) ⟨_, rfl, (fin _ hv).1 ⟨k1, k2⟩⟩⟩⟩
        · exact ⟨_, rfl, _, _, rfl, rfl, _, rfl, ifT (decide_eq_true k1) ⟨_, rfl, _, _, rfl, rfl, _, rfl, ifT (by rw [show decide (picks[many] < (size : Int)) = false from decide_eq_false k2]; rfl) ⟨_, rfl, rfl, fun z => absurd z (by simp [K7.finOf, K7.finA]), fun d _ hd => (fin _ hv).2 (fun h => k2 h.2) _ d (extH_put hd) upd_same⟩⟩⟩
      · exact ⟨_, rfl, _, _, rfl, rfl, _, rfl, ifF (decide_eq_false k1) ⟨_, rfl, ifT rfl ⟨_, rfl, rfl, fun z => absurd z (by simp [K7.finOf, K7.finA]), fun d _ hd => (fin _ hv).2 (fun h => k1 h.1) _ d (extH_put hd) upd_same⟩⟩⟩
    · have hg : picks[many]? = none := List.getElem?_eq_none (by omega)
      have hv : (0 : Int) = pickV picks many := by unfold pickV; rw [hg] <;> rfl
      refine ifF (decide_eq_false (by omega)) ?_
      by_cases k1 : (0 : Int) ≤ (0 : Int)
      · by_cases k2 : (0 : Int) < (size : Int)
        · exact ⟨_, rfl, _, _, rfl, rfl, _, rfl, ifT (decide_eq_true k1) ⟨_, rfl, _, _, rfl, rfl, _, rfl, ifF (by rw [show decide ((0 : Int) < (size : Int)) = true from decide_eq_true k2]; rfl) ⟨_, rfl, (fin _ hv).1 ⟨k1, k2⟩⟩⟩⟩
        · exact ⟨_, rfl, _, _, rfl, rfl, _, rfl, ifT (decide_eq_true k1) ⟨_, rfl, _, _, rfl, rfl, _, rfl, ifT (by rw [show decide ((0 : Int) < (size : Int)) = false from decide_eq_false k2]; rfl) ⟨_, rfl, rfl, fun z => absurd z (by simp [K7.finOf, K7.finA]), fun d _ hd => (fin _ hv).2 (fun h => k2 h.2) _ d (extH_put hd) upd_same⟩⟩⟩
      · exact ⟨_, rfl, _, _, rfl, rfl, _, rfl, ifF (decide_eq_false k1) ⟨_, rfl, ifT rfl ⟨_, rfl, rfl, fun z => absurd z (by simp [K7.finOf, K7.finA]), fun d _ hd => (fin _ hv).2 (fun h => k1 h.1) _ d (extH_put hd) upd_same⟩⟩⟩
end
end R9H
set_option Elab.async false
set_option linter.all false
set_option maxRecDepth 100000
set_option maxHeartbeats 4000000
/-! k19, part YB: next_lines, followed, rooms_left -/
namespace R9H
open PySem PySem.Spec PyProof.Rows L2
def nextLines (r : RS) (l back : Int) : Option (List Int) := match r.callees.lookup l with
  | some g => (r.firsts.lookup g).map fun f => [f]
  | none => match leaves r l with
    | none => none
    | some true => if back = 0 then some [] else (r.behinds.lookup back).map fun g => [g]
    | some false => stepLines r l
def roomsLeft (r : RS) (l : Int) : Option (List Int) := match leaves r l with
  | none => none
  | some true => endedRooms r l 0
  | some false => match stepLines r l with
    | none => none
    | some [] => some []
    | some (a :: _) => endedRooms r l a
/-- the calls that are open behind a line -/
def callsOf (r : RS) (l : Int) (cs cs' : List Int) : Prop := (∃ g, r.callees.lookup l = some g ∧ cs' = cs ++ [l]) ∨ (r.callees.lookup l = none ∧ ∃ b, leaves r l = some b ∧ cs' = if b = true then cs.dropLast else cs)
/-- the lines that can come behind each beginning of a run; m lines can come, and the next one, if there is one, cannot -/
structure Fol (r : RS) (ls : List Int) (C cs : Nat → List Int) (m : Nat) : Prop where
  zero : ∃ g, r.firsts.lookup mainS = some g ∧ C 0 = [g]
  zero2 : cs 0 = [0]
  le : m ≤ ls.length
  stop : ∀ l, ls[m]? = some l → l ∉ C m
  step : ∀ (i : Nat) l, i < m → ls[i]? = some l → l ∈ C i ∧ ∃ back, (cs i).getLast? = some back ∧ nextLines r l back = some (C (i + 1)) ∧ callsOf r l (cs i) (cs (i + 1))
  small : ∀ i, (cs i).length ≤ 1000000
def wrongV (ls : List Int) (m : Nat) : V := if m < ls.length then .int (m : Int) else .non
def Short (r : RS) : Prop := ∀ x rs, allRooms r x = some rs → rs.length ≤ 1000
def sp_next_lines (K : PySem.W.Frag) : Sp := fun vs H Q _ => ∃ (p : Addr) (z : Str) (r : RS) (l back : Int) (ls : List Int), vs = [.ref p, .int l, .int back] ∧ PgAt K p z r H ∧ nextLines r l back = some ls ∧ ∀ H' t, ExtH H H' → SqT K H' t (ls.map V.int) → Q (.ref t) H'
def sp_rooms_left (K : PySem.W.Frag) : Sp := fun vs H Q _ => ∃ (p : Addr) (z : Str) (r : RS) (l : Int) (ls : List Int), vs = [.ref p, .int l] ∧ PgAt K p z r H ∧ Short r ∧ roomsLeft r l = some ls ∧ ∀ H' t, ExtH H H' → SqT K H' t (ls.map V.int) → Q (.ref t) H'
def sp_followed (K : PySem.W.Frag) : Sp := fun vs H Q _ => ∃ (p tl : Addr) (z : Str) (r : RS) (ls : List Int) (C cs : Nat → List Int) (m : Nat), vs = [.ref p, .ref tl] ∧ PgAt K p z r H ∧ SqT K H tl (ls.map V.int) ∧ Fol r ls C cs m ∧
  ∀ H' t c, ExtH H H' → SqT K H' t [.ref c, wrongV ls m] → SqT K H' c ((C m).map V.int) → Q (.ref t) H'
theorem atI_getLast {xs : List V} {x : V} (h : xs.getLast? = some x) : atI xs (-1) = some x := by
  obtain ⟨ys, rfl⟩ := List.getLast?_eq_some_iff.mp h
  exact at_last
theorem last_ints {xs : List Int} {x : Int} (h : xs.getLast? = some x) : (xs.map V.int).getLast? = some (V.int x) := by
  rw [List.getLast?_map, h] <;> rfl
section
variable {w : World} {K : PySem.W.Frag} {mg : Str → Option Value} {base : Heap}
abbrev st_next_lines : Stmt := top 20
theorem sc_next_lines : FnScope ["program", "line", "back"] ["program", "line", "back"] (defScope st_next_lines) := ⟨rfl, rfl, rfl, by decide +kernel, rfl, by decide +kernel, by decide +kernel⟩
theorem ok_next_lines (T : T6 K mg) : Has w K mg base 4 "next_lines" ["program", "line", "back"] (sp_next_lines K) := by
  obtain ⟨fd, F⟩ := T.fn 8
  have H_leaves_call := ok_leaves_call (w := w) (base := base) T
  have H_step_lines := ok_step_lines (w := w) (base := base) T
  refine has_of (st := st_next_lines) T F (by decide +kernel) (F.ok sc_next_lines (fun vs H Q E h => ?_) (fun cdv A outer s H vs Q E hr h => ⟨_, PSs.nox (
    (pss_cons (ps_if (pt_cmp (pc_din hr.u1 (pv 1) (pe_fld (pv 0) rfl)))
      (pss_one (ps_ret (pe_tup (pa_cons (pe_dget hr.u1 (pe_fld (pv 0) rfl) (pe_dget hr.u1 (pe_fld (pv 0) rfl) (pv 1) (fun _ _ => rfl)) (fun _ _ => rfl)) pa_nil))))
      pss_nil)
    (pss_cons (ps_if (pt_val (pe_has H_leaves_call rfl (hr.mono (by decide)) rfl (pa_cons (pv 0) (pa_cons (pv 1) pa_nil))))
      (pss_one (ps_ret (pe_ifExp (pt_cmpR op_eq (pv 2) pe_int (nomark _)) (pe_tup pa_nil) (pe_tup (pa_cons (pe_dget hr.u1 (pe_fld (pv 0) rfl) (pv 2) (fun _ _ => rfl)) pa_nil)))))
      pss_nil)
    (pss_one (ps_ret (pe_has H_step_lines rfl (hr.mono (by decide)) rfl (pa_cons (pv 0) (pa_cons (pv 1) pa_nil)))))))), ?_⟩)) fun _ _ _ _ _ _ us hl => match us, hl with | [_, _, _], _ => rfl
  · obtain ⟨p, z, r, l, back, ls, rfl, _⟩ := h
    rfl
  · obtain ⟨p, z, r, l, back, ls, rfl, ⟨dx, fs, hp, G⟩, hb, q⟩ := h
    clear F
    have hC := T.cls "Program" (by decide +kernel)
    have hA1 := T.noat "Program" "callees" (by decide +kernel)
    have hA2 := T.noat "Program" "behinds" (by decide +kernel)
    have hA3 := T.noat "Program" "firsts" (by decide +kernel)
    unfold nextLines at hb
    cases hce : r.callees.lookup l with
    | some cg =>
      rw [hce] at hb
      obtain ⟨f, hf, rfl⟩ := Option.map_eq_some_iff.mp hb
      obtain ⟨c, _, lk, _, dg, rfl⟩ := G.callees.get kI_inj hce
      obtain ⟨c2, _, lk2, _, dg2, rfl⟩ := G.firsts.get kS_inj hf
      exact ⟨_, rfl, _, rfl, _, _, _, _, _, rfl, hp, hC, hA1, lk, c, _, rfl, dg, true, rfl, ifT rfl ⟨_, rfl, _, _, _, _, _, rfl, hp, hC, hA3, lk2, _, rfl, _, _, _, _, _, rfl, hp, hC, hA1, lk, _, rfl, _, _, rfl, dg, _, _, rfl, dg2, by rw [sizeLine_eq]; show 1 ≤ 16777216; decide, fun t nt => q _ t (extH_put nt) (SqT.of upd_same)⟩⟩
    | none =>
    rw [hce] at hb
    dsimp only at hb
    obtain ⟨c, lk, _, dg⟩ := G.callees.non kI_inj hce
    refine ⟨_, rfl, _, rfl, _, _, _, _, _, rfl, hp, hC, hA1, lk, c, _, rfl, dg, false, rfl, ifF rfl ?_⟩
    cases hl : leaves r l with
    | none => rw [hl] at hb; cases hb
    | some b =>
      rw [hl] at hb
      refine ⟨_, rfl, _, rfl, p, z, r, l, b, rfl, ⟨dx, fs, hp, G⟩, hl, b, rfl, ?_⟩
      cases b with
      | true =>
        dsimp only at hb
        refine ifT rfl ⟨_, rfl, rfl, _, rfl, ?_⟩
        rw [dec_int]
        by_cases h0 : back = 0
        · rw [if_pos h0] at hb
          cases hb
          exact ifT (decide_eq_true h0) ⟨Nat.zero_le _, fun t nt => q _ t (extH_put nt) (SqT.of upd_same)⟩
        · rw [if_neg h0] at hb
          obtain ⟨g, hg, rfl⟩ := Option.map_eq_some_iff.mp hb
          obtain ⟨c2, _, lk2, _, dg2, rfl⟩ := G.behinds.get kI_inj hg
          exact ifF (decide_eq_false h0) ⟨_, rfl, _, _, _, _, _, rfl, hp, hC, hA2, lk2, _, rfl, _, _, rfl, dg2, by rw [sizeLine_eq]; show 1 ≤ 16777216; decide, fun t nt => q _ t (extH_put nt) (SqT.of upd_same)⟩
      | false =>
        dsimp only at hb
        exact ifF rfl ⟨_, rfl, _, rfl, p, z, r, l, ls, rfl, ⟨dx, fs, hp, G⟩, hb, q⟩
theorem dp_ints_tup {H : Hp} {t : Addr} {ls : List Int} (h : SqT K H t (ls.map V.int)) : Dp K H (.ref t) (.tuple (ls.map PyData.int)) := .tup h (dpAll_ints ls)
theorem shapedIntsT (ns : List Int) : SeqAt.shaped (.tuple (ns.map PyData.int)) = true := by
  unfold SeqAt.shaped
  rw [PyData.canLay0, canLayInts, PyData.depth, depthInts] <;> rfl
theorem eqvNilT (ds : List PyData) : PyData.eqv (.tuple ds) (.tuple []) = ds.isEmpty := by
  cases ds <;> simp [PyData.eqv, PyData.eqvAll]
abbrev st_rooms_left : Stmt := top 22
theorem sc_rooms_left : FnScope ["program", "line", "after"] ["program", "line"] (defScope st_rooms_left) := ⟨rfl, rfl, rfl, by decide +kernel, rfl, by decide +kernel, by decide +kernel⟩
theorem ok_rooms_left (T : T6 K mg) : Has w K mg base 4 "rooms_left" ["program", "line"] (sp_rooms_left K) := by
  obtain ⟨fd, F⟩ := T.fn 10
  have H_leaves_call := ok_leaves_call (w := w) (base := base) T
  have H_ended_rooms := ok_ended_rooms (w := w) (base := base) T
  have H_step_lines := ok_step_lines (w := w) (base := base) T
  refine has_of (st := st_rooms_left) T F (by decide +kernel) (F.ok sc_rooms_left (fun vs H Q E h => ?_) (fun cdv A outer s H vs Q E hr h => ⟨_, PSs.nox (
    (pss_cons (ps_if (pt_val (pe_has H_leaves_call rfl (hr.mono (by decide)) rfl (pa_cons (pv 0) (pa_cons (pv 1) pa_nil))))
      (pss_one (ps_ret (pe_has H_ended_rooms rfl (hr.mono (by decide)) rfl (pa_cons (pv 0) (pa_cons (pv 1) (pa_cons pe_int pa_nil))))))
      pss_nil)
    (pss_cons (ps_set (i := 2) sc_rooms_left.nd rfl (Or.inl rfl) (pe_has H_step_lines rfl (hr.mono (by decide)) rfl (pa_cons (pv 0) (pa_cons (pv 1) pa_nil))))
    (pss_one (ps_ret (pe_ifExp (pt_cmpR (op_eqD hr.units) (pv 2) (pe_tup pa_nil) (nomark _)) (pe_tup pa_nil) (pe_has H_ended_rooms rfl (hr.mono (by decide)) rfl (pa_cons (pv 0) (pa_cons (pv 1) (pa_cons (pe_ix ix_tup (pv 2) pe_int (fun _ _ => rfl)) pa_nil)))))))))), ?_⟩)) fun _ _ _ _ _ _ us hl => match us, hl with | [_, _], _ => rfl
  · obtain ⟨p, z, r, l, ls, rfl, _⟩ := h
    rfl
  · obtain ⟨p, z, r, l, ls, rfl, hp, hsh, hb, q⟩ := h
    clear F
    unfold roomsLeft at hb
    cases hl : leaves r l with
    | none => rw [hl] at hb; cases hb
    | some b =>
      rw [hl] at hb
      refine ⟨_, rfl, _, rfl, p, z, r, l, b, rfl, hp, hl, b, rfl, ?_⟩
      cases b with
      | true => exact ifT rfl ⟨_, rfl, _, rfl, p, z, r, l, 0, ls, rfl, hp, hb, hsh, q⟩
      | false =>
        dsimp only at hb
        refine ifF rfl ?_
        cases hs : stepLines r l with
        | none => rw [hs] at hb; cases hb
        | some ss =>
          rw [hs] at hb
          refine ⟨_, rfl, _, rfl, p, z, r, l, ss, rfl, hp, hs, fun H2 t2 e2 h2 => ?_⟩
          refine ⟨_, rfl, Nat.zero_le _, fun t3 nt3 => ⟨.tuple (ss.map PyData.int), .tuple [], dp_ints_tup (sqT_extH (extH_put nt3) h2), .tup (xs := []) (SqT.of upd_same) .nil, shapedIntsT _, rfl, ?_⟩⟩
          have e3 := e2.trans (extH_put (o := .tup []) nt3)
          have h3 := sqT_extH (extH_put (o := .tup []) nt3) h2
          generalize upd H2 t3 (.tup []) = H3 at e3 h3 ⊢
          rw [eqvNilT]
          refine ⟨_, rfl, ?_⟩
          cases ss with
          | nil =>
            cases hb
            exact ifT rfl ⟨Nat.zero_le _, fun t nt => q _ t (e3.trans (extH_put nt)) (SqT.of upd_same)⟩
          | cons a rest =>
            refine ifF rfl ⟨_, rfl, _, rfl, _, rfl, t2, _, 0, .int a, rfl, rfl, h3, atI_nat (j := 0) rfl, p, z, r, l, a, ls, rfl, hp.ext e3, hb, hsh, fun H' t e h => q H' t (e3.trans e) h⟩
abbrev st_followed : Stmt := top 21
theorem sc_followed : FnScope ["program", "lines", "calls", "coming", "step", "line"] ["program", "lines"] (defScope st_followed) := ⟨rfl, rfl, rfl, by decide +kernel, rfl, by decide +kernel, by decide +kernel⟩
theorem ok_followed (T : T6 K mg) : Has w K mg base 5 "followed" ["program", "lines"] (sp_followed K) := by
  obtain ⟨fd, F⟩ := T.fn 9
  have H_next_lines := ok_next_lines (w := w) (base := base) T
  have H_leaves_call := ok_leaves_call (w := w) (base := base) T
  have gf_enumerate := T.free "enumerate" (by decide +kernel)
  refine has_of (st := st_followed) T F (by decide +kernel) (F.ok sc_followed (fun vs H Q E h => ?_) (fun cdv A outer s H vs Q E hr h => ⟨_, PSs.nox (
    (pss_cons (ps_set (i := 2) sc_followed.nd rfl (Or.inl rfl) (pe_lst (pa_cons pe_int pa_nil)))
    (pss_cons (ps_set (i := 3) sc_followed.nd rfl (Or.inl rfl) (pe_tup (pa_cons (pe_dget hr.u1 (pe_fld (pv 0) rfl) pe_str (fun _ _ => rfl)) pa_nil)))
    (pss_cons (ps_for PassesOwn.never rfl (pi_enumT rfl gf_enumerate (pa_cons (pv 1) pa_nil)) (pg_tup rfl (pgs_cons (pg_name (i := 4) sc_followed.nd rfl (Or.inl rfl)) (pgs_cons (pg_name (i := 5) sc_followed.nd rfl (Or.inl rfl)) pgs_nil)))
      (pss_cons (ps_if (pt_cmpR op_notIn_seq (pv 5) (pv 3) rfl)
        (pss_one (ps_ret (pe_tup (pa_cons (pv 3) (pa_cons (pv 4) pa_nil)))))
        pss_nil)
      (pss_cons (ps_set (i := 3) sc_followed.nd rfl (Or.inl rfl) (pe_has H_next_lines rfl (hr.mono (by decide)) rfl (pa_cons (pv 0) (pa_cons (pv 5) (pa_cons (pe_ix ix_list (pv 2) (pe_un un_neg pe_int) (fun _ _ => rfl)) pa_nil)))))
      (pss_one (ps_if (pt_cmp (pc_din hr.u1 (pv 5) (pe_fld (pv 0) rfl)))
        (pss_one (ps_expr (pe_bm PySem.F.plainAttrs_list PySem.F.slot_list_append PySem.F.type_list_append mt_append (pv 2) (pa_cons (pv 5) pa_nil))))
        (pss_one (ps_if (pt_val (pe_has H_leaves_call rfl (hr.mono (by decide)) rfl (pa_cons (pv 0) (pa_cons (pv 5) pa_nil))))
          (pss_one (ps_expr (pe_bm0 PySem.F.plainAttrs_list PySem.F.slot_list_pop PySem.F.type_list_pop mt_pop (pv 2))))
          pss_nil)))))))
    (pss_one (ps_ret (pe_tup (pa_cons (pv 3) (pa_cons pe_non pa_nil))))))))), ?_⟩)) fun _ _ _ _ _ _ us hl => match us, hl with | [_, _], _ => rfl
  · obtain ⟨p, tl, z, r, ls, C, cs, m, rfl, _⟩ := h
    rfl
  · obtain ⟨p, tl, z, r, ls, C, cs, m, rfl, hp, htl, ⟨⟨g, hg, hC0⟩, hcs0, hle, hstop, hst, hsm⟩, q⟩ := h
    clear F
    have hC := T.cls "Program" (by decide +kernel)
    have hA1 := T.noat "Program" "callees" (by decide +kernel)
    have hA2 := T.noat "Program" "firsts" (by decide +kernel)
    refine ⟨by rw [sizeLine_eq]; show 1 ≤ 16777216; decide, fun cl ncl => ?_⟩
    have e1 := extH_put (o := .lst [.int 0]) ncl
    have c1 : upd H cl (.lst [.int 0]) cl = some (.lst [.int 0]) := upd_same
    generalize upd H cl (.lst [.int 0]) = H1 at e1 c1 ⊢
    obtain ⟨dx, fs, hp1, G1⟩ := hp.ext e1
    obtain ⟨c2, _, lk2, _, dg2, rfl⟩ := G1.firsts.get kS_inj hg
    refine ⟨_, rfl, _, _, _, _, _, rfl, hp1, hC, hA2, lk2, _, _, rfl, dg2, by rw [sizeLine_eq]; show 1 ≤ 16777216; decide, fun t0 nt0 => ?_⟩
    have e2 := extH_put (o := .tup [.int g]) nt0
    have ncl2 : ∀ b o, H b = some o → b ≠ cl := fun b o hb => ne_of_none hb ncl
    refine ⟨_, rfl, tl, _, rfl, sqT_extH (e1.trans e2) htl, for_it walk_enumT (fun i σ G => ∃ c v4 v5, σ = [some (.ref p), some (.ref tl), some (.ref cl), some (.ref c), v4, v5] ∧ i ≤ m ∧ ExtH H G ∧ SqT K G c ((C i).map V.int) ∧ G cl = some (.lst ((cs i).map V.int)))
      ⟨t0, _, _, rfl, Nat.zero_le _, e1.trans e2, by rw [hC0]; exact SqT.of upd_same, by rw [hcs0]; exact e2 _ _ c1⟩ (fun i σ G _ ⟨_, _, _, _, _, e, _⟩ => sqT_extH e htl) ?_ ?_⟩
    · rintro i x σ G G' hi ⟨c, v4, v5, rfl, him, e, hc, hcl⟩ ⟨t, y, rfl, nt, rfl, hx⟩
      rw [List.getElem?_map] at hx
      obtain ⟨l, hl, rfl⟩ := Option.map_eq_some_iff.mp hx
      have hci := hsm i
      have e3 := extH_put (o := .tup [.int ((i : Nat) : Int), .int l]) nt
      have hcl3 := e3 _ _ hcl
      have hc3 := sqT_extH e3 hc
      have tt : SqT K (upd G t (.tup [.int ((i : Nat) : Int), .int l])) t [.int ((i : Nat) : Int), .int l] := SqT.of upd_same
      have e03 := e.trans e3
      generalize upd G t (.tup [.int ((i : Nat) : Int), .int l]) = G3 at e03 hcl3 hc3 tt ⊢
      refine ⟨t, _, rfl, tt, rfl, _, _, rfl, _, _, rfl, rfl, ?_⟩
      refine ⟨_, rfl, _, rfl, c, _, rfl, .inr hc3, rfl, List.all_eq_true.mpr fun v hv => by obtain ⟨_, _, rfl⟩ := List.mem_map.mp hv; rfl, _, rfl, ?_⟩
      by_cases hlt : i < m
      case neg =>
        have him : i = m := by omega
        subst him
        refine ifT ?_ ⟨_, rfl, _, rfl, by rw [sizeLine_eq]; show 2 ≤ 16777216; decide, fun t2 nt2 => q _ t2 c (e03.trans (extH_put nt2)) (SqT.of ?_) (sqT_extH (extH_put nt2) hc3)⟩
        · show (!inV (V.int l) ((C i).map V.int)) = true
          rw [inV_int, decide_eq_false (hstop l hl)]
          rfl
        · unfold wrongV
          rw [upd_same, if_pos (by rw [List.length_map] at hi; exact hi)]
      obtain ⟨hm, back, hback, hn, hco⟩ := hst i l hlt hl
      refine ifF ?_ ?_
      · show (!inV (V.int l) ((C i).map V.int)) = false
        rw [inV_int, decide_eq_true hm]
        rfl
      refine ⟨_, rfl, _, rfl, _, rfl, _, rfl, cl, _, -1, .int back, rfl, rfl, SqL.of hcl3, atI_getLast (last_ints hback), p, z, r, l, back, _, rfl, hp.ext e03, hn, fun G4 t4 e4 h4 => ?_⟩
      have e04 := e03.trans e4
      have hcl4 := e4 _ _ hcl3
      obtain ⟨dx4, fs4, hp4, G4'⟩ := hp.ext e04
      rcases hco with ⟨cg, hce, hcs'⟩ | ⟨hce, b, hlv, hcs'⟩
      · obtain ⟨cc, _, lkc, _, dgc, rfl⟩ := G4'.callees.get kI_inj hce
        refine ⟨_, rfl, _, rfl, _, _, _, _, _, rfl, hp4, hC, hA1, lkc, cc, _, rfl, dgc, true, rfl, ifT rfl ?_⟩
        refine ⟨_, rfl, .inl ⟨rfl, _, SqL.of hcl4⟩, _, rfl, cl, _, _, rfl, rfl, hcl4, by rw [sizeLine_eq, List.length_map]; omega, ?_⟩
        have tx : Tx G4 (upd G4 cl (.lst ((cs i).map V.int ++ [.int l]))) := tx_upd hcl4 rfl
        exact ⟨t4, _, _, rfl, hlt, fun b o hb => by rw [upd_ne (ncl2 b o hb)]; exact e04 b o hb, tx.sqT h4, by rw [upd_same, hcs', List.map_append] <;> rfl⟩
      obtain ⟨cc, lkc, _, dgc⟩ := G4'.callees.non kI_inj hce
      refine ⟨_, rfl, _, rfl, _, _, _, _, _, rfl, hp4, hC, hA1, lkc, cc, _, rfl, dgc, false, rfl, ifF rfl ?_⟩
      refine ⟨_, rfl, _, rfl, p, z, r, l, b, rfl, hp.ext e04, hlv, b, rfl, ?_⟩
      cases b with
      | true =>
        refine ifT rfl ⟨_, rfl, .inl ⟨rfl, _, SqL.of hcl4⟩, cl, _, .int back, rfl, rfl, hcl4, (by rw [← List.getLast?_eq_getElem?]; exact last_ints hback), ?_⟩
        refine ⟨t4, _, _, rfl, hlt, fun b o hb => by rw [upd_ne (ncl2 b o hb)]; exact e04 b o hb, ?_, by rw [upd_same, hcs', if_pos rfl, List.map_dropLast]⟩
        have tx : Tx G4 (upd G4 cl (.lst (((cs i).map V.int).dropLast))) := tx_upd hcl4 rfl
        exact tx.sqT h4
      | false =>
        exact ifF rfl ⟨t4, _, _, rfl, hlt, e04, h4, by rw [hcs', if_neg Bool.false_ne_true]; exact hcl4⟩
    · rintro σ G ⟨c, v4, v5, rfl, him, e, hc, hcl⟩
      rw [List.length_map] at hc him
      have him : ls.length = m := by omega
      rw [him] at hc
      have hwv : wrongV ls m = .non := by unfold wrongV; rw [if_neg (by omega)]
      exact ⟨_, rfl, by rw [sizeLine_eq]; show 2 ≤ 16777216; decide, fun t nt => q _ t c (e.trans (extH_put nt)) (by rw [hwv]; exact SqT.of upd_same) (sqT_extH (extH_put nt) hc)⟩
end
end R9H
set_option Elab.async false
set_option linter.all false
set_option maxRecDepth 100000
set_option maxHeartbeats 4000000
/-! k24, part YC: Span, stays_of -/
namespace R9H
open PySem PySem.Spec PyProof.Rows L2
theorem ix_tupB {X : Cx} {K : PySem.W.Frag} (hK : X.K = K := by rfl) : IxR X (rIxT K) := hK ▸ ix_tup
theorem ix_listB {X : Cx} {K : PySem.W.Frag} (hK : X.K = K := by rfl) : IxR X (rIxL K) := hK ▸ ix_list
/-- a reading cut at a statement -/
theorem seq_cut {t u : TS} {D : Ends} {σ : L2.St} {H : Hp} (C : L2.St → Hp → Prop) (h2 : ∀ σ' H', C σ' H' → u D σ' H') (h1 : ∀ r : L2.St → Hp → Prop, (∀ σ' H', C σ' H' → r σ' H') → t { D with nx := r } σ H) : tSeq t u D σ H := h1 (u D) h2
theorem ite2 {c : Bool} {A B : Prop} (h1 : c = true → A) (h2 : c = false → B) : if c = true then A else B := by
  cases c
  · exact iteF (h2 rfl)
  · exact iteT (h1 rfl)
structure SS where
  bg : List (Int × Int)
  st : List Int
  un : List (Int × Int)
  cl : List (Int × Int)
def pop1 (i : Int) (s : SS) : Option SS := match s.st.getLast? with
  | none => none
  | some k => if s.un.lookup k = none then some { s with st := s.st.dropLast, un := s.un ++ [(k, i)] } else none
def popN (i : Int) : Nat → SS → Option SS
  | 0, s => some s
  | n + 1, s => (popN i n s).bind (pop1 i)
def stayEnd (r : RS) (i l : Int) (k : Str) (s1 : SS) : Option SS := match r.callees.lookup l with
  | some g => (r.hd.lookup g).map fun h => { s1 with cl := s1.cl ++ [(l, i)], st := s1.st ++ [(s1.bg.length : Int)], bg := s1.bg ++ [(i, h)] }
  | none => if k = "room" then (if s1.cl = [] then none else some { s1 with st := s1.st ++ [(s1.bg.length : Int)], bg := s1.bg ++ [(i, l)] }) else match leaves r l with
    | some true => if s1.cl = [] then none else some { s1 with cl := s1.cl.dropLast }
    | some false => some s1
    | none => none
def stayStep (r : RS) (i l : Int) (s : SS) : Option SS := match roomsLeft r l, r.kinds.lookup l with
  | some rl, some k => (popN i rl.length s).bind (stayEnd r i l k)
  | _, _ => none
theorem stayEnd_un {r : RS} {i l : Int} {k : Str} {s s' : SS} (h : stayEnd r i l k s = some s') : s'.un = s.un := by
  unfold stayEnd at h
  split at h
  · obtain ⟨_, _, rfl⟩ := Option.map_eq_some_iff.mp h
    rfl
  · split at h
    · split at h
      · cases h
      · cases h; rfl
    · split at h
      · split at h
        · cases h
        · cases h; rfl
      · cases h; rfl
      · cases h
theorem popN_le {i : Int} {s s' : SS} : ∀ {n j : Nat}, j ≤ n → popN i n s = some s' → ∃ sj, popN i j s = some sj
  | 0, j, hj, h => by
    have : j = 0 := by omega
    subst this
    exact ⟨_, h⟩
  | n + 1, j, hj, h => by
    by_cases e : j = n + 1
    · subst e
      exact ⟨_, h⟩
    · unfold popN at h
      cases hn : popN i n s with
      | none => rw [hn] at h; cases h
      | some sn => exact popN_le (by omega) hn
theorem popN_un {i : Int} {s s' : SS} : ∀ {n : Nat}, popN i n s = some s' → s'.un.length = s.un.length + n
  | 0, h => by cases h; rfl
  | n + 1, h => by
    unfold popN at h
    cases hn : popN i n s with
    | none => rw [hn] at h; cases h
    | some sn =>
      rw [hn] at h
      have ih := popN_un hn
      have h : pop1 i sn = some s' := h
      unfold pop1 at h
      cases hg : sn.st.getLast? with
      | none => rw [hg] at h; cases h
      | some k =>
        rw [hg] at h
        dsimp only at h
        by_cases hu : sn.un.lookup k = none
        · rw [if_pos hu] at h
          cases h
          simp only [List.length_append, List.length_singleton]
          omega
        · rw [if_neg hu] at h; cases h
theorem popN_bg {i : Int} {s s' : SS} : ∀ {n : Nat}, popN i n s = some s' → s'.bg = s.bg
  | 0, h => by cases h; rfl
  | n + 1, h => by
    unfold popN at h
    cases hn : popN i n s with
    | none => rw [hn] at h; cases h
    | some sn =>
      rw [hn] at h
      have ih := popN_bg hn
      have h : pop1 i sn = some s' := h
      unfold pop1 at h
      cases hg : sn.st.getLast? with
      | none => rw [hg] at h; cases h
      | some k =>
        rw [hg] at h
        dsimp only at h
        by_cases hu : sn.un.lookup k = none
        · rw [if_pos hu] at h
          cases h
          exact ih
        · rw [if_neg hu] at h; cases h
theorem popN_cl {i : Int} {s s' : SS} : ∀ {n : Nat}, popN i n s = some s' → s'.cl = s.cl
  | 0, h => by cases h; rfl
  | n + 1, h => by
    unfold popN at h
    cases hn : popN i n s with
    | none => rw [hn] at h; cases h
    | some sn =>
      rw [hn] at h
      have ih := popN_cl hn
      have h : pop1 i sn = some s' := h
      unfold pop1 at h
      cases hg : sn.st.getLast? with
      | none => rw [hg] at h; cases h
      | some k =>
        rw [hg] at h
        dsimp only at h
        by_cases hu : sn.un.lookup k = none
        · rw [if_pos hu] at h
          cases h
          exact ih
        · rw [if_neg hu] at h; cases h
theorem popN_st {i : Int} {s s' : SS} : ∀ {n : Nat}, popN i n s = some s' → s'.st.length ≤ s.st.length
  | 0, h => by cases h; exact Nat.le_refl _
  | n + 1, h => by
    unfold popN at h
    cases hn : popN i n s with
    | none => rw [hn] at h; cases h
    | some sn =>
      rw [hn] at h
      have ih := popN_st hn
      have h : pop1 i sn = some s' := h
      unfold pop1 at h
      cases hg : sn.st.getLast? with
      | none => rw [hg] at h; cases h
      | some k =>
        rw [hg] at h
        dsimp only at h
        by_cases hu : sn.un.lookup k = none
        · rw [if_pos hu] at h
          cases h
          simp only [List.length_dropLast]
          omega
        · rw [if_neg hu] at h; cases h
def untilV (s : SS) (k : Int) : V := match s.un.lookup k with
  | none => .non
  | some j => .int j
/-- the spans: begun, room, until -/
def SS.spans (s : SS) : List (Int × Int × V) := (List.range s.bg.length).zipWith (fun (k : Nat) b => (b.1, b.2, untilV s (k : Int))) s.bg
def spanO (K : PySem.W.Frag) (dx : Addr × Int) (b : Int × Int × V) : HO := .ins (ga K "Span") dx.1 [("begun", .int b.1), ("room", .int b.2.1), ("call", .int dx.2), ("until", b.2.2)]
def SpanAt (K : PySem.W.Frag) (H : Hp) (v : V) (b : Int × Int × V) : Prop := ∃ a dx, v = .ref a ∧ H a = some (spanO K dx b)
/-- the run's lines with the stays -/
structure Sty (r : RS) (ls : List Int) (S : Nat → SS) : Prop where
  zero : ∃ h, r.hd.lookup mainS = some h ∧ S 0 = ⟨[(-1, h)], [0], [], [(0, -1)]⟩
  small : ∀ i ≤ ls.length, (S i).un.length ≤ 100000
  stl : ∀ i ≤ ls.length, (S i).st.length ≤ i + 1
  blen : ∀ i ≤ ls.length, (S i).bg.length ≤ i + 1
  clen : ∀ i ≤ ls.length, (S i).cl.length ≤ i + 1
  step : ∀ (i : Nat) l, ls[i]? = some l → stayStep r i l (S i) = some (S (i + 1))
def sp_stays_of (K : PySem.W.Frag) : Sp := fun vs H Q _ => ∃ (p tl : Addr) (z : Str) (r : RS) (ls : List Int) (S : Nat → SS), vs = [.ref p, .ref tl] ∧ PgAt K p z r H ∧ Short r ∧ SqT K H tl (ls.map V.int) ∧ ls.length ≤ 100000 ∧ Sty r ls S ∧
  ∀ H' t sp og kv sv, ExtH H H' → SqT K H' t [.ref sp, .ref og] → H' og = some (.dK kv) → SqT K H' sp sv → Paired (SpanAt K H') sv (S ls.length).spans → Q (.ref t) H'
def spSpan (K : PySem.W.Frag) : Sp := fun vs H Q _ => ∃ x dx b r c u, vs = [.ref x, b, r, c, u] ∧ H x = some (.ins (ga K "Span") dx []) ∧ ∀ H', (∀ y o, y ≠ x → H y = some o → H' y = some o) → H' x = some (.ins (ga K "Span") dx [("begun", b), ("room", r), ("call", c), ("until", u)]) → Q .non H'
def bgAt (K : PySem.W.Frag) (G : Hp) (v : V) (b : Int × Int) : Prop := ∃ t : Addr × Int, v = .ref t.1 ∧ SqT K G t.1 [.int b.1, .int b.2, .int t.2]
def pairAt (K : PySem.W.Frag) (G : Hp) (v : V) (b : Int × Int) : Prop := ∃ t, v = .ref t ∧ SqT K G t [.int b.1, .int b.2]
structure SInv (K : PySem.W.Frag) (H : Hp) (cl bl sl ul ol : Addr) (i : Nat) (s : SS) (G : Hp) : Prop where
  ext : ExtH H G
  calls : ∃ cs, G cl = some (.lst cs) ∧ Paired (pairAt K G) cs s.cl
  bg : ∃ vs, G bl = some (.lst vs) ∧ Paired (bgAt K G) vs s.bg
  st : G sl = some (.lst (s.st.map V.int))
  un : ∃ kv, G ul = some (.dK kv) ∧ AtK kI isI kv s.un
  og : ∃ kv, G ol = some (.dK kv) ∧ kv.length ≤ i
theorem SInv.next {K : PySem.W.Frag} {H G F : Hp} {cl bl sl ul ol : Addr} {i : Nat} {s : SS} (h : SInv K H cl bl sl ul ol i s G) (e : ExtH G F) : SInv K H cl bl sl ul ol i s F := by
  obtain ⟨h1, ⟨cs, h2, h2'⟩, ⟨vs, h3, h3'⟩, h4, ⟨kv, h5, h5'⟩, ⟨ko, h6, h6'⟩⟩ := h
  exact ⟨h1.trans e, ⟨cs, e _ _ h2, Paired.mapP h2' fun _ _ ⟨t, a, b⟩ => ⟨t, a, sqT_extH e b⟩⟩, ⟨vs, e _ _ h3, Paired.mapP h3' fun _ _ ⟨t, a, b⟩ => ⟨t, a, sqT_extH e b⟩⟩, e _ _ h4, ⟨kv, e _ _ h5, h5'⟩, ⟨ko, e _ _ h6, h6'⟩⟩
structure SOwn (H : Hp) (cl bl sl ul ol : Addr) : Prop where
  c : H cl = none
  b : H bl = none
  s : H sl = none
  u : H ul = none
  o : H ol = none
  cb : cl ≠ bl
  cs : cl ≠ sl
  cu : cl ≠ ul
  co : cl ≠ ol
  bs : bl ≠ sl
  bu : bl ≠ ul
  bo : bl ≠ ol
  su : sl ≠ ul
  so : sl ≠ ol
  uo : ul ≠ ol
section
variable {K : PySem.W.Frag} {H G : Hp} {cl bl sl ul ol : Addr} {i : Nat} {s : SS}
theorem ext_own {x : Addr} {o : HO} (e : ExtH H G) (n : H x = none) : ExtH H (upd G x o) := fun b u hb => by
  rw [upd_ne (ne_of_none hb n)]
  exact e _ _ hb
theorem bgs_tx {vs : List V} {bg : List (Int × Int)} {G' : Hp} (h : Paired (bgAt K G) vs bg) (e : Tx G G') : Paired (bgAt K G') vs bg := Paired.mapP h fun _ _ ⟨t, a, b⟩ => ⟨t, a, e.sqT b⟩
theorem prs_tx {vs : List V} {bg : List (Int × Int)} {G' : Hp} (h : Paired (pairAt K G) vs bg) (e : Tx G G') : Paired (pairAt K G') vs bg := Paired.mapP h fun _ _ ⟨t, a, b⟩ => ⟨t, a, e.sqT b⟩
theorem SInv.setO {kv : List (Key × V)} {j : Nat} (w : SOwn H cl bl sl ul ol) (h : SInv K H cl bl sl ul ol i s G) (l : kv.length ≤ j) : SInv K H cl bl sl ul ol j s (upd G ol (.dK kv)) := by
  obtain ⟨h1, ⟨cs, h2, h2'⟩, ⟨vs, h3, h3'⟩, h4, ⟨ku, h5, h5'⟩, ⟨ko, h6, h6'⟩⟩ := h
  have tx : Tx G (upd G ol (.dK kv)) := tx_upd h6 rfl
  exact ⟨ext_own h1 w.o, ⟨cs, by rw [upd_ne w.co]; exact h2, prs_tx h2' tx⟩, ⟨vs, by rw [upd_ne w.bo]; exact h3, bgs_tx h3' tx⟩, by rw [upd_ne w.so]; exact h4, ⟨ku, by rw [upd_ne w.uo]; exact h5, h5'⟩, ⟨kv, upd_same, l⟩⟩
theorem SInv.setU {kv : List (Key × V)} {un : List (Int × Int)} (w : SOwn H cl bl sl ul ol) (h : SInv K H cl bl sl ul ol i s G) (l : AtK kI isI kv un) : SInv K H cl bl sl ul ol i { s with un := un } (upd G ul (.dK kv)) := by
  obtain ⟨h1, ⟨cs, h2, h2'⟩, ⟨vs, h3, h3'⟩, h4, ⟨ku, h5, h5'⟩, ⟨ko, h6, h6'⟩⟩ := h
  have tx : Tx G (upd G ul (.dK kv)) := tx_upd h5 rfl
  exact ⟨ext_own h1 w.u, ⟨cs, by rw [upd_ne w.cu]; exact h2, prs_tx h2' tx⟩, ⟨vs, by rw [upd_ne w.bu]; exact h3, bgs_tx h3' tx⟩, by rw [upd_ne w.su]; exact h4, ⟨kv, upd_same, l⟩, ⟨ko, by rw [upd_ne (Ne.symm w.uo)]; exact h6, h6'⟩⟩
theorem SInv.setS (w : SOwn H cl bl sl ul ol) (h : SInv K H cl bl sl ul ol i s G) (st : List Int) : SInv K H cl bl sl ul ol i { s with st := st } (upd G sl (.lst (st.map V.int))) := by
  obtain ⟨h1, ⟨cs, h2, h2'⟩, ⟨vs, h3, h3'⟩, h4, ⟨ku, h5, h5'⟩, ⟨ko, h6, h6'⟩⟩ := h
  have tx : Tx G (upd G sl (.lst (st.map V.int))) := tx_upd h4 rfl
  exact ⟨ext_own h1 w.s, ⟨cs, by rw [upd_ne w.cs]; exact h2, prs_tx h2' tx⟩, ⟨vs, by rw [upd_ne w.bs]; exact h3, bgs_tx h3' tx⟩, upd_same, ⟨ku, by rw [upd_ne (Ne.symm w.su)]; exact h5, h5'⟩, ⟨ko, by rw [upd_ne (Ne.symm w.so)]; exact h6, h6'⟩⟩
theorem SInv.setB {vs : List V} {bg : List (Int × Int)} (w : SOwn H cl bl sl ul ol) (h : SInv K H cl bl sl ul ol i s G) (l : Paired (bgAt K G) vs bg) : SInv K H cl bl sl ul ol i { s with bg := bg } (upd G bl (.lst vs)) := by
  obtain ⟨h1, ⟨cs, h2, h2'⟩, ⟨vs', h3, h3'⟩, h4, ⟨ku, h5, h5'⟩, ⟨ko, h6, h6'⟩⟩ := h
  have tx : Tx G (upd G bl (.lst vs)) := tx_upd h3 rfl
  exact ⟨ext_own h1 w.b, ⟨cs, by rw [upd_ne w.cb]; exact h2, prs_tx h2' tx⟩, ⟨vs, upd_same, bgs_tx l tx⟩, by rw [upd_ne (Ne.symm w.bs)]; exact h4, ⟨ku, by rw [upd_ne (Ne.symm w.bu)]; exact h5, h5'⟩, ⟨ko, by rw [upd_ne (Ne.symm w.bo)]; exact h6, h6'⟩⟩
theorem SInv.setC {cs' : List V} {cl' : List (Int × Int)} (w : SOwn H cl bl sl ul ol) (h : SInv K H cl bl sl ul ol i s G) (l : Paired (pairAt K G) cs' cl') : SInv K H cl bl sl ul ol i { s with cl := cl' } (upd G cl (.lst cs')) := by
  obtain ⟨h1, ⟨cs, h2, h2'⟩, ⟨vs', h3, h3'⟩, h4, ⟨ku, h5, h5'⟩, ⟨ko, h6, h6'⟩⟩ := h
  have tx : Tx G (upd G cl (.lst cs')) := tx_upd h2 rfl
  exact ⟨ext_own h1 w.c, ⟨cs', upd_same, prs_tx l tx⟩, ⟨vs', by rw [upd_ne (Ne.symm w.cb)]; exact h3, bgs_tx h3' tx⟩, by rw [upd_ne (Ne.symm w.cs)]; exact h4, ⟨ku, by rw [upd_ne (Ne.symm w.cu)]; exact h5, h5'⟩, ⟨ko, by rw [upd_ne (Ne.symm w.co)]; exact h6, h6'⟩⟩
end
theorem paired_dropLast {α β : Type} {R : α → β → Prop} : ∀ {xs : List α} {ys : List β}, Paired R xs ys → Paired R xs.dropLast ys.dropLast
  | _, _, .nil => .nil
  | _, _, .cons r .nil => .nil
  | _, _, .cons r (.cons r2 t) => .cons r (paired_dropLast (.cons r2 t))
theorem last_get {K : PySem.W.Frag} {G : Hp} {cs : List V} {l : List (Int × Int)} (h : Paired (pairAt K G) cs l) (ne : l ≠ []) : ∃ (t : Addr) (b : Int × Int), SqT K G t [.int b.1, .int b.2] ∧ cs.getLast? = some (.ref t) := by
  have hl := Paired.length h
  have hp : 0 < l.length := List.length_pos_iff.mpr ne
  have hg : cs[cs.length - 1]? = some cs[cs.length - 1] := List.getElem?_eq_getElem (by omega)
  obtain ⟨b, hb, t, ht, hs⟩ := L2.paired_get h hg
  exact ⟨t, b, hs, by rw [List.getLast?_eq_getElem?, hg, ht]⟩
theorem last_pair {K : PySem.W.Frag} {G : Hp} {cs : List V} {l : List (Int × Int)} (h : Paired (pairAt K G) cs l) (ne : l ≠ []) : ∃ (t : Addr) (b : Int × Int), SqT K G t [.int b.1, .int b.2] ∧ atI cs (-1) = some (.ref t) := by
  obtain ⟨t, b, h1, h2⟩ := last_get h ne
  exact ⟨t, b, h1, atI_getLast h2⟩
section
variable {w : World} {K : PySem.W.Frag} {mg : Str → Option Value} {base : Heap}
abbrev sSpI : Stmt := inClass (top 19) 0
theorem sc_spI : FnScope ["self", "begun", "room", "call", "until"] ["self", "begun", "room", "call", "until"] (defScope sSpI) := ⟨rfl, rfl, rfl, by decide +kernel, rfl, by decide +kernel, by decide +kernel⟩
theorem ok_Span (T : T6 K mg) : HasI w K mg base 1 "Span" ["self", "begun", "room", "call", "until"] (spSpan K) := by
  obtain ⟨fd, F⟩ := T.fn 7
  refine ⟨fd, F.ok sc_spI (fun vs H Q E h => ?_) (fun cdv A outer s H vs Q E hr h => ⟨_, PSs.nox (pss_cons (ps_fld (pv 0) (pv 1) rfl) (pss_cons (ps_fld (pv 0) (pv 2) rfl) (pss_cons (ps_fld (pv 0) (pv 3) rfl) (pss_one (ps_fld (pv 0) (pv 4) rfl))))), ?_⟩), F.bindsN fun _ _ _ _ _ _ us hl => match us, hl with | [_, _, _, _, _], _ => rfl⟩
  · obtain ⟨x, dx, b, r, c, u, rfl, _⟩ := h
    rfl
  · obtain ⟨x, dx, b, r, c, u, rfl, hx, q⟩ := h
    have hC := T.cls "Span" (by decide +kernel)
    refine ⟨_, rfl, _, rfl, x, _, dx, _, rfl, hx, hC, T.noat "Span" "begun" (by decide +kernel), by decide, ?_⟩
    refine ⟨_, rfl, _, rfl, x, _, dx, _, rfl, upd_same, hC, T.noat "Span" "room" (by decide +kernel), by show 1 < 1000; decide, ?_⟩
    refine ⟨_, rfl, _, rfl, x, _, dx, _, rfl, upd_same, hC, T.noat "Span" "call" (by decide +kernel), by show 2 < 1000; decide, ?_⟩
    refine ⟨_, rfl, _, rfl, x, _, dx, _, rfl, upd_same, hC, T.noat "Span" "until" (by decide +kernel), by show 3 < 1000; decide, ?_⟩
    exact q _ (fun y o hy h => by rw [upd_ne hy, upd_ne hy, upd_ne hy, upd_ne hy]; exact h) upd_same
abbrev st_stays_of : Stmt := top 23
theorem sc_stays_of : FnScope ["program", "lines", "calls", "begins", "standing", "untils", "origins", "step", "line", "room", "ends", "k", "begin", "until"] ["program", "lines"] (defScope st_stays_of) := ⟨rfl, rfl, rfl, by decide +kernel, rfl, by decide +kernel, by decide +kernel⟩
theorem ok_stays_of (T : T6 K mg) : Has w K mg base 6 "stays_of" ["program", "lines"] (sp_stays_of K) := by
  obtain ⟨fd, F⟩ := T.fn 11
  have H_rooms_left := ok_rooms_left (w := w) (base := base) T
  have H_leaves_call := ok_leaves_call (w := w) (base := base) T
  obtain ⟨fd_Span, F_Span, b_Span⟩ := ok_Span (w := w) (base := base) T
  have g_Span := T.glo "Span" (by decide +kernel)
  have M_Span := T.mkr "Span" (by decide +kernel)
  have gf_enumerate := T.free "enumerate" (by decide +kernel)
  have gf_tuple := T.free "tuple" (by decide +kernel)
  have gf_len := T.free "len" (by decide +kernel)
  have gf_range := T.free "range" (by decide +kernel)
  have gf_zip := T.free "zip" (by decide +kernel)
  obtain ⟨t_BEGIN, g_BEGIN⟩ := T.int "BEGIN" (-1) (by decide +kernel)
  have g_MAKING := T.glo "MAKING" (by decide +kernel)
  refine has_of (st := st_stays_of) T F (by decide +kernel) (F.ok sc_stays_of (fun vs H Q E h => ?_) (fun cdv A outer s H vs Q E hr h => ⟨_, PSs.nox (
    (pss_cons (ps_set (i := 2) sc_stays_of.nd rfl (Or.inl rfl) (pe_lst (pa_cons (pe_tup (pa_cons pe_int (pa_cons (pe_gi rfl g_BEGIN) pa_nil))) pa_nil)))
    (pss_cons (ps_set (i := 3) sc_stays_of.nd rfl (Or.inl rfl) (pe_lst (pa_cons (pe_tup (pa_cons (pe_gi rfl g_BEGIN) (pa_cons (pe_dget hr.u1 (pe_fld (pv 0) rfl) pe_str (fun _ _ => rfl)) (pa_cons (pe_gi rfl g_BEGIN) pa_nil)))) pa_nil)))
    (pss_cons (ps_set (i := 4) sc_stays_of.nd rfl (Or.inl rfl) (pe_lst (pa_cons pe_int pa_nil)))
    (pss_cons (ps_set (i := 5) sc_stays_of.nd rfl (Or.inr rfl) pe_dnewK)
    (pss_cons (ps_set (i := 6) sc_stays_of.nd rfl (Or.inl rfl) pe_dnewK)
    (pss_cons (ps_for PassesOwn.never rfl (pi_enumT rfl gf_enumerate (pa_cons (pv 1) pa_nil)) (pg_tup rfl (pgs_cons (pg_name (i := 7) sc_stays_of.nd rfl (Or.inl rfl)) (pgs_cons (pg_name (i := 8) sc_stays_of.nd rfl (Or.inl rfl)) pgs_nil)))
      (pss_cons (ps_if (pt_cmpR op_in_seq (pe_dget hr.u1 (pe_fld (pv 0) rfl) (pv 8) (fun _ _ => rfl)) (pe_gr rfl g_MAKING) rfl)
        (pss_one (ps_dput hr.u1 (pv 6) (pv 7) (pe_callTy call_tuple_of rfl gf_tuple PyProof.Rows.boot_tuple (pa_cons (pv 2) pa_nil)) rfl))
        pss_nil)
      (pss_cons (ps_for PassesOwn.never rfl (pi_tup (pe_has H_rooms_left rfl (hr.mono (by decide)) rfl (pa_cons (pv 0) (pa_cons (pv 8) pa_nil)))) (pg_name (i := 9) sc_stays_of.nd rfl (Or.inl rfl))
        (pss_one (ps_dput hr.u1 (pv 5) (pe_bm0 PySem.F.plainAttrs_list PySem.F.slot_list_pop PySem.F.type_list_pop mt_pop (pv 4)) (pv 7) rfl)))
      (pss_one (ps_if (pt_cmp (pc_din hr.u1 (pv 8) (pe_fld (pv 0) rfl)))
        (pss_cons (ps_expr (pe_bm PySem.F.plainAttrs_list PySem.F.slot_list_append PySem.F.type_list_append mt_append (pv 2) (pa_cons (pe_tup (pa_cons (pv 8) (pa_cons (pv 7) pa_nil))) pa_nil)))
        (pss_cons (ps_expr (pe_bm PySem.F.plainAttrs_list PySem.F.slot_list_append PySem.F.type_list_append mt_append (pv 4) (pa_cons (pe_callB call_len_seq rfl gf_len PySem.boot_len (pa_cons (pv 3) pa_nil)) pa_nil)))
        (pss_one (ps_expr (pe_bm PySem.F.plainAttrs_list PySem.F.slot_list_append PySem.F.type_list_append mt_append (pv 3) (pa_cons (pe_tup (pa_cons (pv 7) (pa_cons (pe_dget hr.u1 (pe_fld (pv 0) rfl) (pe_dget hr.u1 (pe_fld (pv 0) rfl) (pv 8) (fun _ _ => rfl)) (fun _ _ => rfl)) (pa_cons (pv 7) pa_nil)))) pa_nil))))))
        (pss_one (ps_if (pt_cmpR op_eq (pe_dget hr.u1 (pe_fld (pv 0) rfl) (pv 8) (fun _ _ => rfl)) pe_str (nomark _))
          (pss_cons (ps_expr (pe_bm PySem.F.plainAttrs_list PySem.F.slot_list_append PySem.F.type_list_append mt_append (pv 4) (pa_cons (pe_callB call_len_seq rfl gf_len PySem.boot_len (pa_cons (pv 3) pa_nil)) pa_nil)))
          (pss_one (ps_expr (pe_bm PySem.F.plainAttrs_list PySem.F.slot_list_append PySem.F.type_list_append mt_append (pv 3) (pa_cons (pe_tup (pa_cons (pv 7) (pa_cons (pv 8) (pa_cons (pe_ix ix_tup (pe_ix ix_list (pv 2) (pe_un un_neg pe_int) (fun _ _ => rfl)) pe_int (fun _ _ => rfl)) pa_nil)))) pa_nil)))))
          (pss_one (ps_if (pt_val (pe_has H_leaves_call rfl (hr.mono (by decide)) rfl (pa_cons (pv 0) (pa_cons (pv 8) pa_nil))))
            (pss_one (ps_expr (pe_bm0 PySem.F.plainAttrs_list PySem.F.slot_list_pop PySem.F.type_list_pop mt_pop (pv 2))))
            pss_nil)))))))))
    (pss_cons (ps_setLc (i := 10) (own := [("k", 11)]) (g := gName 11) rfl sc_stays_of.nd rfl rfl (sw_true rfl rfl rfl (by decide +kernel)) (pi_range1 rfl gf_range (pa_cons (pe_callB call_len_seq rfl gf_len PySem.boot_len (pa_cons (pv 3) pa_nil)) pa_nil)) (blkOk_by (own := [("k", 11)]) (N := ["program", "lines", "calls", "begins", "standing", "untils", "origins", "step", "line", "room", "ends", "k", "begin", "until"]) (sc := defScope st_stays_of) (by decide +kernel))
        (fun _ _ _ _ _ => (pg_name (i := 11) sc_stays_of.nd rfl (Or.inl rfl))) (fun _ _ _ _ _ => pts_nil) (fun _ _ _ _ _ => (pe_dget1 hr.u1 (pv 5) (pv 11) ⟨rfl, rfl, rfl, rfl⟩)))
    (pss_one (ps_ret (pe_tup (pa_cons (pe_callTy call_tuple_of rfl gf_tuple PyProof.Rows.boot_tuple (pa_cons (pe_lc (own := [("begin", 12), ("until", 13)]) (g := gTup K 2 (gCons (gName 12) (gCons (gName 13) gNil))) (by rfl) sc_stays_of.nd (pi_zip (by rfl) gf_zip (pa_cons (pv 3) (pa_cons (pv 10) pa_nil))) (blkOk_by (own := [("begin", 12), ("until", 13)]) (N := ["program", "lines", "calls", "begins", "standing", "untils", "origins", "step", "line", "room", "ends", "k", "begin", "until"]) (sc := defScope st_stays_of) (by decide +kernel))
        (fun _ _ _ _ _ => (pg_tup rfl (pgs_cons (pg_name (i := 12) sc_stays_of.nd rfl (Or.inl rfl)) (pgs_cons (pg_name (i := 13) sc_stays_of.nd rfl (Or.inl rfl)) pgs_nil)))) (fun _ _ _ _ _ => pts_nil) (fun _ _ _ _ _ => (pe_make M_Span F_Span (hr.mono (by decide)) rfl g_Span b_Span .nil pass0 (pa_cons (pe_ix (ix_tupB (K := K)) (pv 12) pe_int (fun _ _ => rfl)) (pa_cons (pe_ix (ix_tupB (K := K)) (pv 12) pe_int (fun _ _ => rfl)) (pa_cons (pe_ix (ix_tupB (K := K)) (pv 12) pe_int (fun _ _ => rfl)) (pa_cons (pv 13) pa_nil))))))) pa_nil)) (pa_cons (pv 6) pa_nil))))))))))))), ?_⟩)) fun _ _ _ _ _ _ us hl => match us, hl with | [_, _], _ => rfl
  · obtain ⟨p, tl, z, r, ls, S, rfl, _⟩ := h
    rfl
  · obtain ⟨p, tl, z, r, ls, S, rfl, hp, hsh, htl, hll, ⟨⟨hh, hhd, hS0⟩, hsml, hstl, hbl, hcln, hst⟩, q⟩ := h
    clear F
    have hC := T.cls "Program" (by decide +kernel)
    have hA1 := T.noat "Program" "callees" (by decide +kernel)
    have hA2 := T.noat "Program" "heads" (by decide +kernel)
    have hA3 := T.noat "Program" "kinds" (by decide +kernel)
    refine ⟨by rw [sizeLine_eq]; show 2 ≤ 16777216; decide, fun t0 nt0 => ⟨by rw [sizeLine_eq]; show 1 ≤ 16777216; decide, fun cl ncl => ?_⟩⟩
    have e1 := (extH_put (o := .tup [.int 0, .int (-1)]) nt0).trans (extH_put (o := .lst [.ref t0]) ncl)
    have t01 : SqT K (upd (upd H t0 (.tup [.int 0, .int (-1)])) cl (.lst [.ref t0])) t0 [.int 0, .int (-1)] := sqT_extH (extH_put ncl) (SqT.of upd_same)
    have c1 : upd (upd H t0 (.tup [.int 0, .int (-1)])) cl (.lst [.ref t0]) cl = some (.lst [.ref t0]) := upd_same
    have ncl0 : H cl = none := (extH_put (o := .tup [.int 0, .int (-1)]) nt0).none ncl
    generalize upd (upd H t0 (.tup [.int 0, .int (-1)])) cl (.lst [.ref t0]) = H1 at e1 t01 c1 ⊢
    obtain ⟨dx, fs, hp1, G1⟩ := hp.ext e1
    obtain ⟨c2, _, lk2, _, dg2, rfl⟩ := G1.heads.get kS_inj hhd
    refine ⟨_, rfl, _, _, _, _, _, rfl, hp1, hC, hA2, lk2, _, _, rfl, dg2, by rw [sizeLine_eq]; show 3 ≤ 16777216; decide, fun t1 nt1 => ⟨by rw [sizeLine_eq]; show 1 ≤ 16777216; decide, fun bl nbl => ?_⟩⟩
    have e2 := e1.trans ((extH_put (o := .tup [.int (-1), .int hh, .int (-1)]) nt1).trans (extH_put (o := .lst [.ref t1]) nbl))
    have b2 : upd (upd H1 t1 (.tup [.int (-1), .int hh, .int (-1)])) bl (.lst [.ref t1]) bl = some (.lst [.ref t1]) := upd_same
    have t2 : SqT K (upd (upd H1 t1 (.tup [.int (-1), .int hh, .int (-1)])) bl (.lst [.ref t1])) t1 [.int (-1), .int hh, .int (-1)] := sqT_extH (extH_put nbl) (SqT.of upd_same)
    have e12 := (extH_put (o := .tup [.int (-1), .int hh, .int (-1)]) nt1).trans (extH_put (o := .lst [.ref t1]) nbl)
    have c2' := e12 _ _ c1
    have t02 := sqT_extH e12 t01
    have nbl0 : H bl = none := (e1.trans (extH_put (o := .tup [.int (-1), .int hh, .int (-1)]) nt1)).none nbl
    have ncb : cl ≠ bl := ne_of_none (extH_put (o := .tup [.int (-1), .int hh, .int (-1)]) nt1 _ _ c1) nbl
    generalize upd (upd H1 t1 (.tup [.int (-1), .int hh, .int (-1)])) bl (.lst [.ref t1]) = H2 at e2 b2 t2 c2' t02 ⊢
    refine ⟨by rw [sizeLine_eq]; show 1 ≤ 16777216; decide, fun sl nsl => ?_⟩
    intro ul nul ol nol
    have e25 := ((extH_put (o := .lst [.int 0]) nsl).trans (extH_put (o := .dK []) nul)).trans (extH_put (o := .dK []) nol)
    have ncs : cl ≠ sl := ne_of_none c2' nsl
    have nbs : bl ≠ sl := ne_of_none b2 nsl
    have s3 : upd H2 sl (.lst [.int 0]) sl = some (.lst [.int 0]) := upd_same
    have ncu : cl ≠ ul := ne_of_none (extH_put nsl _ _ c2') nul
    have nbu : bl ≠ ul := ne_of_none (extH_put nsl _ _ b2) nul
    have nsu : sl ≠ ul := ne_of_none s3 nul
    have nco : cl ≠ ol := ne_of_none (extH_put nul _ _ (extH_put nsl _ _ c2')) nol
    have nbo : bl ≠ ol := ne_of_none (extH_put nul _ _ (extH_put nsl _ _ b2)) nol
    have nso : sl ≠ ol := ne_of_none (extH_put nul _ _ s3) nol
    have u4 : upd (upd H2 sl (.lst [.int 0])) ul (.dK []) ul = some (.dK []) := upd_same
    have nuo : ul ≠ ol := ne_of_none u4 nol
    have nsl0 : H sl = none := e2.none nsl
    have nul0 : H ul = none := (e2.trans (extH_put nsl)).none nul
    have nol0 : H ol = none := (e2.trans ((extH_put nsl).trans (extH_put nul))).none nol
    have inv0 : SInv K H cl bl sl ul ol 0 (S 0) (upd (upd (upd H2 sl (.lst [.int 0])) ul (.dK [])) ol (.dK [])) := by
      rw [hS0]
      exact ⟨e2.trans e25, ⟨_, e25 _ _ c2', .cons ⟨t0, rfl, sqT_extH e25 t02⟩ .nil⟩, ⟨_, e25 _ _ b2, .cons ⟨(t1, -1), rfl, sqT_extH e25 t2⟩ .nil⟩, extH_put nol _ _ (extH_put nul _ _ s3), ⟨[], extH_put nol _ _ u4, .nil⟩, ⟨[], upd_same, Nat.le_refl _⟩⟩
    have own : SOwn H cl bl sl ul ol := ⟨ncl0, nbl0, nsl0, nul0, nol0, ncb, ncs, ncu, nco, nbs, nbu, nbo, nsu, nso, nuo⟩
    clear e25 s3 u4
    generalize upd (upd (upd H2 sl (.lst [.int 0])) ul (.dK [])) ol (.dK []) = G0 at inv0 ⊢
    refine ⟨_, rfl, tl, _, rfl, sqT_extH inv0.ext htl, for_it walk_enumT (fun i σ G => ∃ v7 v8 v9, σ = [some (.ref p), some (.ref tl), some (.ref cl), some (.ref bl), some (.ref sl), some (.ref ul), some (.ref ol), v7, v8, v9, none, none, none, none] ∧ SInv K H cl bl sl ul ol i (S i) G)
      ⟨_, _, _, rfl, inv0⟩ (fun i σ G _ ⟨_, _, _, _, e⟩ => sqT_extH e.ext htl) ?_ ?_⟩
    · rintro i x σ G G' hi ⟨v7, v8, v9, rfl, inv⟩ ⟨t, y, rfl, nt, rfl, hx⟩
      rw [List.getElem?_map] at hx
      obtain ⟨l, hl, rfl⟩ := Option.map_eq_some_iff.mp hx
      have hil : i < ls.length := (List.getElem?_eq_some_iff.mp hl).1
      have hss := hst i l hl
      obtain ⟨e3, tt⟩ : ExtH G (upd G t (.tup [.int ((i : Nat) : Int), .int l])) ∧ SqT K (upd G t (.tup [.int ((i : Nat) : Int), .int l])) t [.int ((i : Nat) : Int), .int l] := ⟨extH_put nt, SqT.of upd_same⟩
      have inv3 := inv.next e3
      generalize upd G t (.tup [.int ((i : Nat) : Int), .int l]) = G3 at inv3 tt ⊢
      unfold stayStep at hss
      cases hrl : roomsLeft r l with
      | none => rw [hrl] at hss; cases hss
      | some rl =>
        cases hk : r.kinds.lookup l with
        | none => rw [hrl, hk] at hss; cases hss
        | some k =>
          rw [hrl, hk] at hss
          dsimp only at hss
          obtain ⟨s1, hs1, hS1⟩ := Option.bind_eq_some_iff.mp hss
          obtain ⟨dx3, fs3, hp3, G3'⟩ := hp.ext inv3.ext
          obtain ⟨c3, _, lk3, _, dg3, rfl⟩ := G3'.kinds.get kI_inj hk
          refine ⟨t, _, rfl, tt, rfl, _, _, rfl, _, _, rfl, rfl, ?_⟩
          refine seq_cut (C := fun σ' G' => σ' = [some (.ref p), some (.ref tl), some (.ref cl), some (.ref bl), some (.ref sl), some (.ref ul), some (.ref ol), some (.int ((i : Nat) : Int)), some (.int l), v9, none, none, none, none] ∧ SInv K H cl bl sl ul ol (i + 1) (S i) G') ?_ ?_
          · rintro σ' G4 ⟨rfl, inv4⟩
            refine seq_cut (C := fun σ' G' => ∃ v9, σ' = [some (.ref p), some (.ref tl), some (.ref cl), some (.ref bl), some (.ref sl), some (.ref ul), some (.ref ol), some (.int ((i : Nat) : Int)), some (.int l), v9, none, none, none, none] ∧ SInv K H cl bl sl ul ol (i + 1) s1 G') ?_ ?_
            · rintro σ' G5 ⟨v9', rfl, inv5⟩
              obtain ⟨dx5, fs5, hp5, G5'⟩ := hp.ext inv5.ext
              have lbg := popN_bg hs1
              have lb := hbl i (Nat.le_of_lt hil)
              have lcl := hcln i (Nat.le_of_lt hil)
              rw [← popN_cl hs1] at lcl
              have lst5 : s1.st.length ≤ 100001 := by
                have a1 := popN_st hs1
                have a2 := hstl i (Nat.le_of_lt hil)
                omega
              have lbg1 : s1.bg.length ≤ 100001 := by rw [lbg]; omega
              unfold stayEnd at hS1
              cases hce : r.callees.lookup l with
              | some g =>
                rw [hce] at hS1
                dsimp only at hS1
                obtain ⟨hd2, hhd2, hS1⟩ := Option.map_eq_some_iff.mp hS1
                obtain ⟨cc, _, lkc, _, dgc, rfl⟩ := G5'.callees.get kI_inj hce
                refine ⟨_, rfl, _, rfl, _, _, _, _, _, rfl, hp5, hC, hA1, lkc, cc, _, rfl, dgc, true, rfl, ifT rfl ?_⟩
                obtain ⟨cs, hcs, pcs⟩ := inv5.calls
                refine ⟨_, rfl, .inl ⟨rfl, _, SqL.of hcs⟩, _, rfl, _, rfl, by rw [sizeLine_eq]; show 2 ≤ 16777216; decide, fun t7 nt7 => ?_⟩
                have inv6 := inv5.next (extH_put (o := .tup [.int l, .int ((i : Nat) : Int)]) nt7)
                obtain ht7 : SqT K (upd G5 t7 (.tup [.int l, .int ((i : Nat) : Int)])) t7 [.int l, .int ((i : Nat) : Int)] := SqT.of upd_same
                generalize upd G5 t7 (.tup [.int l, .int ((i : Nat) : Int)]) = G6 at inv6 ht7 ⊢
                obtain ⟨cs6, hcs6, pcs6⟩ := inv6.calls
                have lcs6 := Paired.length pcs6
                refine ⟨cl, _, _, rfl, rfl, hcs6, by rw [sizeLine_eq]; omega, ?_⟩
                have inv7 := inv6.setC own (cs' := cs6 ++ [.ref t7]) (cl' := s1.cl ++ [(l, ((i : Nat) : Int))]) (Paired.snoc pcs6 ⟨t7, rfl, ht7⟩)
                generalize upd G6 cl (.lst (cs6 ++ [.ref t7])) = G7 at inv7 ⊢
                obtain ⟨vs, hvs, pvs⟩ := inv7.bg
                have lvs : vs.length = s1.bg.length := Paired.length pvs
                have hst7 := inv7.st
                refine ⟨_, rfl, .inl ⟨rfl, _, SqL.of hst7⟩, _, rfl, bl, _, rfl, .inl (SqL.of hvs), sl, _, _, rfl, rfl, hst7, by rw [sizeLine_eq, List.length_map]; show s1.st.length < _; omega, ?_⟩
                have inv8 := inv7.setS own (s1.st ++ [(vs.length : Int)])
                rw [List.map_append] at inv8
                have inv8 : SInv K H cl bl sl ul ol (i + 1) { s1 with cl := s1.cl ++ [(l, ((i : Nat) : Int))], st := s1.st ++ [(vs.length : Int)] } (upd G7 sl (.lst (s1.st.map V.int ++ [.int (vs.length : Int)]))) := inv8
                generalize upd G7 sl (.lst (s1.st.map V.int ++ [.int (vs.length : Int)])) = G8 at inv8 ⊢
                obtain ⟨dx8, fs8, hp8, G8'⟩ := hp.ext inv8.ext
                obtain ⟨cc8, _, lkc8, _, dgc8, ec8⟩ := G8'.callees.get kI_inj hce
                cases ec8
                obtain ⟨ch8, _, lkh8, _, dgh8, eh8⟩ := G8'.heads.get kS_inj hhd2
                cases eh8
                obtain ⟨vs8, hvs8, pvs8⟩ := inv8.bg
                refine ⟨_, rfl, .inl ⟨rfl, _, SqL.of hvs8⟩, _, rfl, _, rfl, _, _, _, _, _, rfl, hp8, hC, hA2, lkh8, _, rfl, _, _, _, _, _, rfl, hp8, hC, hA1, lkc8, _, rfl, _, _, rfl, dgc8, _, _, rfl, dgh8, _, rfl, by rw [sizeLine_eq]; show 3 ≤ 16777216; decide, fun t9 nt9 => ?_⟩
                have inv9 := inv8.next (extH_put (o := .tup [.int ((i : Nat) : Int), .int hd2, .int ((i : Nat) : Int)]) nt9)
                obtain ht9 : SqT K (upd G8 t9 (.tup [.int ((i : Nat) : Int), .int hd2, .int ((i : Nat) : Int)])) t9 [.int ((i : Nat) : Int), .int hd2, .int ((i : Nat) : Int)] := SqT.of upd_same
                generalize upd G8 t9 (.tup [.int ((i : Nat) : Int), .int hd2, .int ((i : Nat) : Int)]) = G9 at inv9 ht9 ⊢
                obtain ⟨vs9, hvs9, pvs9⟩ := inv9.bg
                have lvs9 : vs9.length = s1.bg.length := Paired.length pvs9
                refine ⟨bl, _, _, rfl, rfl, hvs9, by rw [sizeLine_eq]; omega, ?_⟩
                refine ⟨_, _, _, rfl, ?_⟩
                have inv10 := inv9.setB own (vs := vs9 ++ [.ref t9]) (bg := s1.bg ++ [(((i : Nat) : Int), hd2)]) (Paired.snoc pvs9 ⟨(t9, ((i : Nat) : Int)), rfl, ht9⟩)
                rw [← hS1]
                rw [lvs] at inv10
                exact inv10
              | none =>
              rw [hce] at hS1
              dsimp only at hS1
              obtain ⟨cc, lkc, _, dgc⟩ := G5'.callees.non kI_inj hce
              obtain ⟨c6, _, lk6, _, dg6, rfl⟩ := G5'.kinds.get kI_inj hk
              refine ⟨_, rfl, _, rfl, _, _, _, _, _, rfl, hp5, hC, hA1, lkc, cc, _, rfl, dgc, false, rfl, ifF rfl ?_⟩
              refine ⟨_, rfl, _, _, _, _, _, rfl, hp5, hC, hA3, lk6, _, rfl, _, _, rfl, dg6, rfl, _, rfl, ite2 (fun hkr => ?_) (fun hkr => ?_)⟩
              · rw [dec_str] at hkr
                have hkr := of_decide_eq_true hkr
                rw [if_pos hkr] at hS1
                split at hS1
                · cases hS1
                rename_i hcne
                have hS1 := Option.some.inj hS1
                obtain ⟨vs, hvs, pvs⟩ := inv5.bg
                have lvs := Paired.length pvs
                have hst5 := inv5.st
                refine ⟨_, rfl, .inl ⟨rfl, _, SqL.of hst5⟩, _, rfl, bl, _, rfl, .inl (SqL.of hvs), sl, _, _, rfl, rfl, hst5, by rw [sizeLine_eq, List.length_map]; omega, ?_⟩
                have inv6 := inv5.setS own (s1.st ++ [(vs.length : Int)])
                rw [List.map_append] at inv6
                have inv6 : SInv K H cl bl sl ul ol (i + 1) { s1 with st := s1.st ++ [(vs.length : Int)] } (upd G5 sl (.lst (s1.st.map V.int ++ [.int (vs.length : Int)]))) := inv6
                generalize upd G5 sl (.lst (s1.st.map V.int ++ [.int (vs.length : Int)])) = G6 at inv6 ⊢
                obtain ⟨cs, hcs, pcs⟩ := inv6.calls
                obtain ⟨ct, lcv, hct, hge⟩ := last_pair pcs hcne
                obtain ⟨vs6, hvs6, pvs6⟩ := inv6.bg
                have lvs6 := Paired.length pvs6
                refine ⟨_, rfl, .inl ⟨rfl, _, SqL.of hvs6⟩, _, rfl, _, rfl, _, rfl, _, rfl, cl, _, -1, _, rfl, rfl, SqL.of hcs, hge, ct, _, 1, .int lcv.2, rfl, rfl, hct, rfl, by rw [sizeLine_eq]; show 3 ≤ 16777216; decide, fun t7 nt7 => ?_⟩
                have inv7 := inv6.next (extH_put (o := .tup [.int ((i : Nat) : Int), .int l, .int lcv.2]) nt7)
                obtain ht7 : SqT K (upd G6 t7 (.tup [.int ((i : Nat) : Int), .int l, .int lcv.2])) t7 [.int ((i : Nat) : Int), .int l, .int lcv.2] := SqT.of upd_same
                generalize upd G6 t7 (.tup [.int ((i : Nat) : Int), .int l, .int lcv.2]) = G7 at inv7 ht7 ⊢
                obtain ⟨vs7, hvs7, pvs7⟩ := inv7.bg
                have lvs7 : vs7.length = s1.bg.length := Paired.length pvs7
                refine ⟨bl, _, _, rfl, rfl, hvs7, by rw [sizeLine_eq]; omega, ?_⟩
                refine ⟨_, _, _, rfl, ?_⟩
                have inv8 := inv7.setB own (vs := vs7 ++ [.ref t7]) (bg := s1.bg ++ [(((i : Nat) : Int), l)]) (Paired.snoc pvs7 ⟨(t7, lcv.2), rfl, ht7⟩)
                rw [show vs.length = s1.bg.length from lvs] at inv8
                rw [← hS1]
                exact inv8
              · rw [dec_str] at hkr
                have hkr := of_decide_eq_false hkr
                rw [if_neg hkr] at hS1
                cases hlb : leaves r l with
                | none => rw [hlb] at hS1; cases hS1
                | some lb =>
                  rw [hlb] at hS1
                  refine ⟨_, rfl, _, rfl, p, z, r, l, lb, rfl, hp.ext inv5.ext, hlb, lb, rfl, ?_⟩
                  cases lb with
                  | true =>
                    dsimp only at hS1
                    split at hS1
                    · cases hS1
                    rename_i hcne
                    obtain ⟨cs, hcs, pcs⟩ := inv5.calls
                    obtain ⟨ct, lcv, hct, hge⟩ := last_get pcs hcne
                    refine ifT rfl ⟨_, rfl, .inl ⟨rfl, _, SqL.of hcs⟩, cl, _, .ref ct, rfl, rfl, hcs, (by rw [← List.getLast?_eq_getElem?]; exact hge), _, _, _, rfl, ?_⟩
                    rw [← Option.some.inj hS1]
                    exact inv5.setC own (paired_dropLast pcs)
                  | false =>
                    rw [← Option.some.inj hS1]
                    exact ifF rfl ⟨_, _, _, rfl, inv5⟩
            · intro rr hrr
              refine ⟨_, rfl, _, rfl, p, z, r, l, rl, rfl, hp.ext inv4.ext, hsh, hrl, fun H5 t5 e5 h5 => ⟨t5, rfl, ⟨_, h5⟩, ?_⟩⟩
              refine for_it (walk_tup (xs := rl.map V.int)) (fun j σ' G' => ∃ v9 sj, σ' = [some (.ref p), some (.ref tl), some (.ref cl), some (.ref bl), some (.ref sl), some (.ref ul), some (.ref ol), some (.int ((i : Nat) : Int)), some (.int l), v9, none, none, none, none] ∧ popN ((i : Nat) : Int) j (S i) = some sj ∧ SInv K H cl bl sl ul ol (i + 1) sj G' ∧ SqT K G' t5 (rl.map V.int))
                ⟨_, _, rfl, rfl, inv4.next e5, h5⟩ (fun j σ' G' _ ⟨_, _, _, _, _, h⟩ => h) ?_ ?_
              · rintro j x σ' G' G'' hj ⟨v9', sj, rfl, hsj, inv6, h6⟩ ⟨rfl, hx⟩
                rw [List.length_map] at hj
                obtain ⟨sj1, hsj1⟩ := popN_le (j := j + 1) hj hs1
                have hp1 : pop1 ((i : Nat) : Int) sj = some sj1 := by
                  have := hsj1
                  unfold popN at this
                  rw [hsj] at this
                  exact this
                unfold pop1 at hp1
                cases hgl : sj.st.getLast? with
                | none => rw [hgl] at hp1; cases hp1
                | some k =>
                  rw [hgl] at hp1
                  dsimp only at hp1
                  by_cases hun : sj.un.lookup k = none
                  · rw [if_pos hun] at hp1
                    cases hp1
                    have hsl := inv6.st
                    obtain ⟨ku, hku, aku⟩ := inv6.un
                    have hge : (sj.st.map V.int)[(sj.st.map V.int).length - 1]? = some (.int k) := by
                      rw [← List.getLast?_eq_getElem?, List.getLast?_map, hgl] <;> rfl
                    have ed : (sj.st.map V.int).dropLast = sj.st.dropLast.map V.int := by rw [List.map_dropLast]
                    refine ⟨_, rfl, _, rfl, _, rfl, .inl ⟨rfl, _, SqL.of hsl⟩, sl, _, .int k, rfl, rfl, hsl, hge, ?_⟩
                    rw [ed]
                    have inv7 := inv6.setS own sj.st.dropLast
                    have tx7 : Tx G'' (upd G'' sl (.lst (sj.st.dropLast.map V.int))) := tx_upd hsl rfl
                    generalize upd G'' sl (.lst (sj.st.dropLast.map V.int)) = G7 at inv7 tx7 ⊢
                    obtain ⟨ku7, hku7, aku7⟩ := inv7.un
                    have lku : ku7.length < sizeLine := by
                      have h7 := aku7.len
                      have h8 := popN_un hsj1
                      have h9 := popN_un hs1
                      have h10 : (S (i + 1)).un = s1.un := stayEnd_un hS1
                      have h11 := hsml (i + 1) hil
                      rw [h10] at h11
                      simp only [List.length_append, List.length_singleton] at h8
                      rw [sizeLine_eq, h7]
                      show sj.un.length < _
                      omega
                    refine ⟨_, _, rfl, DPut.k (k := .inl k) hku7 lku, ?_⟩
                    refine ⟨_, _, rfl, hsj1, inv7.setU own (aku7.put kI_inj (k := k) (u := .int ((i : Nat) : Int)) (v := ((i : Nat) : Int)) hun rfl), ?_⟩
                    have tx8 : Tx G7 (upd G7 ul (.dK (putK ku7 (.inl k) (.int ((i : Nat) : Int))))) := tx_upd hku7 rfl
                    exact tx8.sqT (tx7.sqT h6)
                  · rw [if_neg hun] at hp1
                    cases hp1
              · rintro σ' G' ⟨v9', sj, rfl, hsj, inv6, h6⟩
                rw [List.length_map] at hsj
                rw [hs1] at hsj
                cases hsj
                exact hrr _ _ ⟨_, rfl, inv6⟩
          · intro rr hrr
            refine ⟨_, rfl, _, _, _, _, _, rfl, hp3, hC, hA3, lk3, _, rfl, _, _, rfl, dg3, _, _, rfl, .inr (T.mk_ _), rfl, by decide, _, rfl, ite2 (fun _ => ?_) (fun _ => hrr _ _ ⟨rfl, ?_⟩)⟩
            · have inv4 := inv3
              obtain ⟨cs, hcl, _⟩ := inv4.calls
              refine ⟨_, rfl, cl, _, rfl, .inl ⟨SqL.of hcl, fun t4 nt4 => ?_⟩⟩
              have inv5 := inv4.next (extH_put (o := .tup cs) nt4)
              obtain ⟨ko, hko, lko⟩ := inv5.og
              have lko2 := putK_len (kvs := ko) (k := .inl ((i : Nat) : Int)) (v := .ref t4)
              exact ⟨_, rfl, _, rfl, _, _, rfl, DPut.k (k := .inl ((i : Nat) : Int)) hko (by rw [sizeLine_eq]; omega), hrr _ _ ⟨rfl, inv5.setO own (by omega)⟩⟩
            · exact { inv3 with og := let ⟨kv, a, b⟩ := inv3.og; ⟨kv, a, Nat.le_succ_of_le b⟩ }
    · rintro σ G ⟨v7, v8, v9, rfl, inv⟩
      rw [List.length_map] at inv
      obtain ⟨vs, hvs, pvs⟩ := inv.bg
      obtain ⟨ku, hku, aku⟩ := inv.un
      have lvs := Paired.length pvs
      have lbn := hbl ls.length (Nat.le_refl _)
      generalize hSn : S ls.length = sn at inv pvs aku lvs lbn
      refine ⟨_, rfl, bl, _, rfl, .inl (SqL.of hvs), _, rfl, by omega, by omega, fun D hD => ?_⟩
      rw [show ((vs.length : Nat) : Int).toNat = vs.length from Int.toNat_natCast _]
      refine lc_it (walk_range (lo := 0) (n := vs.length)) (fun k G' => ExtH G G' ∧ G' D = some (.lst ((List.range k).map fun (j : Nat) => untilV sn (j : Int)))) ⟨extH_put hD, upd_same⟩ (fun _ _ _ _ => trivial) ?_ ?_
      · rintro k x G' G'' hk ⟨e, hd⟩ ⟨rfl, rfl⟩
        have hu : ∃ o, valV ku (.inl ((0 : Int) + (k : Nat))) = o ∧ o.getD .non = untilV sn (k : Int) := by
          unfold untilV
          rw [show (0 : Int) + (k : Nat) = (k : Int) by omega]
          cases hl : sn.un.lookup (k : Int) with
          | none => exact ⟨none, aku.non kI_inj hl, rfl⟩
          | some j =>
            obtain ⟨u, hu, ru⟩ := aku.get kI_inj hl
            exact ⟨some u, hu, ru⟩
        obtain ⟨o, ho, hov⟩ := hu
        refine ⟨rfl, tyes (ifT rfl ⟨_, rfl, ul, rfl, .inl ⟨_, .inl (e _ _ hku)⟩, _, rfl, o, by rw [← ho]; exact DGet.k (k := .inl ((0 : Int) + (k : Nat))) (e _ _ hku), _, hd, ?_, extH_upd e hD, ?_⟩)⟩
        · rw [List.length_map, List.length_range, sizeLine_eq]; omega
        · rw [upd_same, hov, List.range_succ, List.map_append] <;> rfl
      · rintro G1 ⟨e1, hd1⟩
        have inv1 := inv.next e1
        obtain ⟨vs1, hvs1, pvs1⟩ := inv1.bg
        have lvs1 := Paired.length pvs1
        have lsp : sn.spans.length = sn.bg.length := by unfold SS.spans; rw [List.length_zipWith, List.length_range, Nat.min_self]
        refine ⟨_, rfl, _, rfl, bl, D, _, _, rfl, SqL.of hvs1, SqL.of hd1, fun D2 hD2 => ?_⟩
        refine lc_it (walk_zip (n := sn.bg.length) (by rw [List.length_map, List.length_range, lvs, lvs1, Nat.min_self])) (fun k G' => ExtH G1 G' ∧ ∃ sv, G' D2 = some (.lst sv) ∧ Paired (SpanAt K G') sv (sn.spans.take k)) ⟨extH_put hD2, [], upd_same, by rw [List.take_zero]; exact .nil⟩ (fun k G' _ h => ⟨SqL.of (h.1 _ _ hvs1), SqL.of (h.1 _ _ hd1)⟩) ?_ ?_
        · rintro k x G2 G2' hk ⟨e2, sv, hsv, psv⟩ ⟨T2, x2, y2, rfl, nT2, rfl, hx2, hy2⟩
          dsimp only at hx2 hy2
          obtain ⟨b, hb, tb, rfl, htb⟩ := L2.paired_get pvs1 hx2
          have hy2' : y2 = untilV sn (k : Int) := by
            rw [List.getElem?_map, List.getElem?_range (by rw [lvs]; exact hk)] at hy2
            exact (Option.some.inj hy2).symm
          subst hy2'
          have e3 := extH_put (o := .tup [.ref tb.1, untilV sn (k : Int)]) nT2
          have htb3 := sqT_extH (e2.trans e3) htb
          have tt : SqT K (upd G2 T2 (.tup [.ref tb.1, untilV sn (k : Int)])) T2 [.ref tb.1, untilV sn (k : Int)] := SqT.of upd_same
          have e03 := e2.trans e3
          have hsv3 := e3 _ _ hsv
          have psv3 : Paired (SpanAt K (upd G2 T2 (.tup [.ref tb.1, untilV sn (k : Int)]))) sv (sn.spans.take k) := Paired.mapP psv fun _ _ ⟨a, dx, h1, h2⟩ => ⟨a, dx, h1, e3 _ _ h2⟩
          generalize upd G2 T2 (.tup [.ref tb.1, untilV sn (k : Int)]) = G3 at htb3 tt e03 hsv3 psv3 ⊢
          refine ⟨T2, _, rfl, tt, rfl, _, _, rfl, _, _, rfl, rfl, rfl, tyes (ifT rfl ?_)⟩
          refine ⟨_, rfl, tb.1, _, 0, _, rfl, rfl, htb3, atI_nat (j := 0) rfl, _, rfl, tb.1, _, 1, _, rfl, rfl, htb3, atI_nat (j := 1) rfl, _, rfl, tb.1, _, 2, _, rfl, rfl, htb3, atI_nat (j := 2) rfl, _, rfl, ?_⟩
          intro xs dxs nx ndx hne
          refine ⟨xs, dxs, _, _, _, _, rfl, upd_same, fun H' keep hx => ⟨rfl, sv, ?_, ?_, ?_⟩⟩
          · have n1 := ne_of_none hsv3 nx
            have n2 := ne_of_none hsv3 ndx
            exact keep _ _ n1 (by rw [upd_ne n1, upd_ne n2]; exact hsv3)
          · have := Paired.length psv3
            rw [List.length_take] at this
            rw [sizeLine_eq]
            omega
          · have e4 : ExtH G3 H' := fun b o hb => by
              have n1 := ne_of_none hb nx
              have n2 := ne_of_none hb ndx
              exact keep _ _ n1 (by rw [upd_ne n1, upd_ne n2]; exact hb)
            have hD1 : G1 D2 = none := hD2
            have e5 : ExtH H' (upd H' D2 (.lst (sv ++ [.ref xs]))) → True := fun _ => trivial
            have e6 : ∀ a o, a ≠ D2 → H' a = some o → upd H' D2 (.lst (sv ++ [.ref xs])) a = some o := fun a o n h => by rw [upd_ne n]; exact h
            refine ⟨extH_upd (e03.trans e4) hD1, _, upd_same, ?_⟩
            have hget : sn.spans[k]? = some (b.1, b.2, untilV sn (k : Int)) := by
              unfold SS.spans
              rw [List.getElem?_zipWith, List.getElem?_range hk, hb]
            rw [take_succ' hget]
            refine Paired.snoc (Paired.mapP psv3 fun _ _ ⟨a, dx, h1, h2⟩ => ⟨a, dx, h1, e6 _ _ (fun z => ?_) (e4 _ _ h2)⟩) ⟨xs, (dxs, tb.2), rfl, e6 _ _ (fun z => ?_) hx⟩
            · rw [z, hsv3] at h2; cases h2
            · rw [z, hsv3] at nx; cases nx
        · rintro G2 ⟨e2, sv, hsv, psv⟩
          rw [List.take_of_length_le (by rw [lsp]; exact Nat.le_refl _)] at psv
          refine ⟨D2, _, rfl, .inl ⟨SqL.of hsv, fun sp nsp => ?_⟩⟩
          have e3 := extH_put (o := .tup sv) nsp
          have inv2 := (inv1.next e2).next e3
          obtain ⟨ko, hko, _⟩ := inv2.og
          refine ⟨_, rfl, by rw [sizeLine_eq]; show 2 ≤ 16777216; decide, fun t nt => ?_⟩
          have e4 := extH_put (o := .tup [.ref sp, .ref ol]) nt
          refine q _ t sp ol ko sv (inv2.next e4).ext (SqT.of upd_same) (e4 _ _ hko) (sqT_extH e4 (SqT.of upd_same)) ?_
          rw [hSn]
          exact Paired.mapP psv fun _ _ ⟨a, dx, h1, h2⟩ => ⟨a, dx, h1, e4 _ _ (e3 _ _ h2)⟩
end
end R9H
set_option Elab.async false
set_option linter.all false
set_option maxRecDepth 100000
set_option maxHeartbeats 4000000
/-! k19, part PF: _law_due -/
namespace R9H
open PySem PySem.Spec PyProof.Rows L2
/-- the picks that are taken, and the first step whose pick is no item -/
def dueF (size : Nat) (picks : List Int) : Nat → List Int → List Int → List Int × Option Nat
  | _, [], tk => (tk, none)
  | i, l :: ls, tk => if l = 18 ∧ 0 < size then (match pickAt picks tk.length size with
    | none => (tk, some i)
    | some v => dueF size picks (i + 1) ls (tk ++ [v])) else dueF size picks (i + 1) ls tk
def badV : Option Nat → V
  | none => .non
  | some i => .int (i : Int)
theorem eqvNilI (ds : List PyData) : PyData.eqv (.list ds) (.list []) = ds.isEmpty := by
  cases ds <;> simp [PyData.eqv, PyData.eqvAll]
theorem ix_first {α : Type} {x : α} (xs : List α) : seqIndex? 0 (x :: xs).length = some 0 := by
  unfold seqIndex?
  have h : (0 : Int) < ((xs.length + 1 : Nat) : Int) := by omega
  simp [h]
theorem drop_cons' {α : Type} {xs : List α} {i : Nat} {x : α} (h : xs[i]? = some x) : xs.drop i = x :: xs.drop (i + 1) := by
  obtain ⟨hi, e⟩ := List.getElem?_eq_some_iff.mp h
  rw [List.drop_eq_getElem_cons hi, e]
theorem at_intL {ns : List Int} {k : Nat} {v : Int} (h : ns[k]? = some v) : atI (ns.map V.int) (k : Int) = some (.int v) := atI_nat (by rw [List.getElem?_map, h]; rfl)
def sp_law_due (K : PySem.W.Frag) : Sp := fun vs H Q _ => ∃ (tl pl : Addr) (told picks : List Int) (size : Nat), vs = [.ref tl, .int (size : Int), .ref pl] ∧ SqL K H tl (told.map V.int) ∧ SqL K H pl (picks.map V.int) ∧ told.length ≤ 1000 ∧ picks.length ≤ 1000 ∧
  ∀ H' t ta, ExtH H H' → SqT K H' t [.ref ta, badV (dueF size picks 0 told []).2] → H' ta = some (.lst ((dueF size picks 0 told []).1.map V.int)) → Q (.ref t) H'
section
variable {w : World} {K : PySem.W.Frag} {mg : Str → Option Value} {base : Heap}
abbrev st_law_due : Stmt := top 91
theorem sc_law_due : FnScope ["_law_told", "_law_size", "_law_picks", "_law_taken", "_law_left", "_law_step", "_law_pick_here"] ["_law_told", "_law_size", "_law_picks"] (defScope st_law_due) := ⟨rfl, rfl, rfl, by decide +kernel, rfl, by decide +kernel, by decide +kernel⟩
theorem ok_law_due (T : T6 K mg) : Has w K mg base 3 "_law_due" ["_law_told", "_law_size", "_law_picks"] (sp_law_due K) := by
  obtain ⟨fd, F⟩ := T.fn 73
  have gf_list := T.free "list" (by decide +kernel)
  have gf_range := T.free "range" (by decide +kernel)
  have gf_len := T.free "len" (by decide +kernel)
  refine has_of (st := st_law_due) T F (by decide +kernel) (F.ok sc_law_due (fun vs H Q E h => ?_) (fun cdv A outer s H vs Q E hr h => ⟨_, PSs.nox (
    (pss_cons (ps_par (i := 3) (j := 4) (by rfl) sc_law_due.nd rfl rfl (by decide) rfl rfl (pa_cons (pe_lst pa_nil) (pa_cons (pe_callTy call_list_of rfl gf_list (by decide +kernel) (pa_cons (pv 2) pa_nil)) pa_nil)) (by rfl))
    (pss_cons (ps_for PassesOwn.never rfl (pi_range1 rfl gf_range (pa_cons (pe_callB call_len_seq rfl gf_len PySem.boot_len (pa_cons (pv 0) pa_nil)) pa_nil)) (pg_name (i := 5) sc_law_due.nd rfl (Or.inl rfl))
      (pss_one (ps_if (PW.pt (pw_and (pt_cmpR op_eq (pe_ix ix_list (pv 0) (pv 5) (fun _ _ => rfl)) pe_int (nomark _)) (pw_and1 (pt_cmpR op_gt (pv 1) pe_int (nomark _)))))
        (pss_cons (ps_set (i := 6) sc_law_due.nd rfl (Or.inl rfl) (pe_ifExp (pt_cmpR (op_neD hr.units) (pv 4) (pe_lst pa_nil) (nomark _)) (pe_bm PySem.F.plainAttrs_list PySem.F.slot_list_pop PySem.F.type_list_pop mt_popAt (pv 4) (pa_cons pe_int pa_nil)) pe_int))
        (pss_cons (ps_if (pt_not (pt_chain op_le op_lt pe_int (pv 6) (pv 1)))
          (pss_one (ps_ret (pe_tup (pa_cons (pv 3) (pa_cons (pv 5) pa_nil)))))
          pss_nil)
        (pss_one (ps_expr (pe_bm PySem.F.plainAttrs_list PySem.F.slot_list_append PySem.F.type_list_append mt_append (pv 3) (pa_cons (pv 6) pa_nil))))))
        pss_nil)))
    (pss_one (ps_ret (pe_tup (pa_cons (pv 3) (pa_cons pe_non pa_nil)))))))), ?_⟩)) fun _ _ _ _ _ _ us hl => match us, hl with | [_, _, _], _ => rfl
  · obtain ⟨tl, pl, told, picks, size, rfl, _⟩ := h
    rfl
  · obtain ⟨tl, pl, told, picks, size, rfl, ht, hp, hlt, hlp, q⟩ := h
    clear F
    refine ⟨Nat.zero_le _, fun ta nta => ?_⟩
    have x1 := extH_put (o := .lst []) nta
    have d1 : upd H ta (.lst []) ta = some (.lst []) := upd_same
    generalize upd H ta (.lst []) = G1 at x1 d1 ⊢
    refine ⟨_, rfl, pl, _, rfl, .inl (sqL_extH x1 hp), fun la nla => ?_⟩
    have x2 := extH_put (o := .lst (picks.map V.int)) nla
    have d2 : upd G1 la (.lst (picks.map V.int)) la = some (.lst (picks.map V.int)) := upd_same
    have d12 := x2 _ _ d1
    have nal := ne_of_none d1 nla
    have hla0 : H la = none := x1.none nla
    have hta0 : H ta = none := nta
    have x12 := x1.trans x2
    generalize upd G1 la (.lst (picks.map V.int)) = G2 at d2 d12 x12 ⊢
    refine ⟨_, _, rfl, _, rfl, tl, _, rfl, .inl (sqL_extH x12 ht), (told.length : Int), by rw [List.length_map], by omega, by omega, for_range (lo := 0) (n := told.length) (fun i σ G => ∃ (v5 v6 : Option V) (tk : List Int), σ = [some (.ref tl), some (.int (size : Int)), some (.ref pl), some (.ref ta), some (.ref la), v5, v6] ∧ ExtH H G ∧ G ta = some (.lst (tk.map V.int)) ∧ G la = some (.lst ((picks.drop tk.length).map V.int)) ∧ tk.length ≤ i ∧ dueF size picks i (told.drop i) tk = dueF size picks 0 told []) ⟨_, _, [], rfl, x12, d12, d2, Nat.zero_le _, rfl⟩ ?_ ?_⟩
    · rintro i σ G hi ⟨v5, v6, tk, rfl, ex, gta, gla, ltk, hd⟩
      have hl : told[i]? = some told[i] := List.getElem?_eq_getElem hi
      generalize told[i] = l at hl
      rw [drop_cons' hl, dueF] at hd
      rw [show (0 : Int) + (i : Int) = (i : Int) by omega]
      refine ⟨_, rfl, _, rfl, tl, _, _, _, rfl, rfl, sqL_extH ex ht, at_intL hl, rfl, _, rfl, ?_⟩
      rw [dec_int]
      by_cases h18 : l = 18
      · subst h18
        refine ifT (decide_eq_true rfl) ⟨_, rfl, _, _, rfl, rfl, _, rfl, ?_⟩
        by_cases hs : 0 < size
        · rw [if_pos ⟨rfl, hs⟩] at hd
          refine ifT (decide_eq_true (by omega)) ?_
          try dsimp only
          refine seq_cut (C := fun σ' G' => σ' = [some (.ref tl), some (.int (size : Int)), some (.ref pl), some (.ref ta), some (.ref la), some (.int (i : Int)), some (.int (pickV picks tk.length))] ∧ ExtH H G' ∧ G' ta = some (.lst (tk.map V.int)) ∧ G' la = some (.lst ((picks.drop (tk.length + 1)).map V.int))) ?_ ?_
          · rintro σ' G4 ⟨rfl, ex4, ta4, la4⟩
            have yes : ∀ v, pickAt picks tk.length size = some v → v = pickV picks tk.length := fun v hv => by
              unfold pickAt at hv
              split at hv
              · exact (Option.some.inj hv).symm
              · cases hv
            by_cases k1 : (0 : Int) ≤ pickV picks tk.length
            · by_cases k2 : pickV picks tk.length < (size : Int)
              · rw [show pickAt picks tk.length size = some (pickV picks tk.length) from if_pos ⟨k1, k2⟩] at hd
                refine ⟨_, rfl, _, _, rfl, rfl, _, rfl, ifT (decide_eq_true k1) ⟨_, rfl, _, _, rfl, rfl, _, rfl, ifF (by rw [show decide (pickV picks tk.length < (size : Int)) = true from decide_eq_true k2]; rfl) ⟨_, rfl, .inl ⟨rfl, _, SqL.of ta4⟩, _, rfl, ta, _, _, rfl, rfl, ta4, by rw [sizeLine_eq, List.length_map]; omega, ?_⟩⟩⟩
                refine ⟨_, _, tk ++ [pickV picks tk.length], rfl, ext_own ex4 hta0, by rw [List.map_append]; exact upd_same, ?_, by rw [List.length_append, List.length_singleton]; omega, hd⟩
                rw [upd_ne (Ne.symm nal), List.length_append]
                exact la4
              · rw [show pickAt picks tk.length size = none from if_neg (fun z => k2 z.2)] at hd
                refine ⟨_, rfl, _, _, rfl, rfl, _, rfl, ifT (decide_eq_true k1) ⟨_, rfl, _, _, rfl, rfl, _, rfl, ifT (by rw [show decide (pickV picks tk.length < (size : Int)) = false from decide_eq_false k2]; rfl) ⟨_, rfl, _, rfl, by rw [sizeLine_eq]; show 2 ≤ 16777216; decide, fun t nt => ?_⟩⟩⟩
                refine q _ t ta (ex4.trans (extH_put nt)) ?_ ?_
                · rw [← hd]; exact SqT.of upd_same
                · rw [← hd]; exact extH_put nt _ _ ta4
            · rw [show pickAt picks tk.length size = none from if_neg (fun z => k1 z.1)] at hd
              refine ⟨_, rfl, _, _, rfl, rfl, _, rfl, ifF (decide_eq_false k1) ⟨_, rfl, ifT rfl ⟨_, rfl, _, rfl, by rw [sizeLine_eq]; show 2 ≤ 16777216; decide, fun t nt => ?_⟩⟩⟩
              refine q _ t ta (ex4.trans (extH_put nt)) ?_ ?_
              · rw [← hd]; exact SqT.of upd_same
              · rw [← hd]; exact extH_put nt _ _ ta4
          · intro rr hrr
            refine ⟨_, rfl, Nat.zero_le _, fun te nte => ⟨.list ((picks.drop tk.length).map PyData.int), .list [], .lst (SqL.of (extH_put nte _ _ gla)) (dpAll_ints _), .lst (xs := []) (SqL.of upd_same) .nil, shapedInts _, rfl, _, rfl, ?_⟩⟩
            rw [eqvNilI]
            have ex' := ex.trans (extH_put (o := .lst []) nte)
            have gta' := extH_put (o := .lst []) nte _ _ gta
            have gla' := extH_put (o := .lst []) nte _ _ gla
            generalize upd G te (.lst []) = G3 at ex' gta' gla' ⊢
            cases hpk : picks[tk.length]? with
            | none =>
              have hle := List.getElem?_eq_none_iff.mp hpk
              have hdn : picks.drop tk.length = [] := List.drop_eq_nil_of_le hle
              have hdm : picks.drop (tk.length + 1) = [] := List.drop_eq_nil_of_le (by omega)
              rw [hdn]
              rw [hdn] at gla'
              refine ifF rfl (hrr _ _ ⟨?_, ex', gta', by rw [hdm]; exact gla'⟩)
              unfold pickV
              rw [hpk] <;> rfl
            | some v =>
              rw [drop_cons' hpk] at gla' ⊢
              refine ifT rfl ⟨_, rfl, .inl ⟨rfl, _, SqL.of gla'⟩, la, _, 0, 0, .int v, rfl, rfl, gla', by omega, by omega, ix_first _, rfl, hrr _ _ ⟨?_, ext_own ex' hla0, by rw [upd_ne nal]; exact gta', upd_same⟩⟩
              unfold pickV
              rw [hpk] <;> rfl
        · rw [if_neg (fun z => hs z.2)] at hd
          exact ifF (decide_eq_false (by omega)) ⟨_, _, tk, rfl, ex, gta, gla, by omega, hd⟩
      · rw [if_neg (fun z => h18 z.1)] at hd
        exact ifF (decide_eq_false h18) ⟨_, _, tk, rfl, ex, gta, gla, by omega, hd⟩
    · rintro σ G ⟨v5, v6, tk, rfl, ex, gta, gla, ltk, hd⟩
      rw [List.drop_length, dueF] at hd
      refine ⟨_, rfl, by rw [sizeLine_eq]; show 2 ≤ 16777216; decide, fun t nt => ?_⟩
      have e := extH_put (o := .tup [.ref ta, .non]) nt
      refine q _ t ta (ex.trans e) ?_ ?_
      · rw [← hd]; exact SqT.of upd_same
      · rw [← hd]; exact e _ _ gta
end
end R9H
set_option Elab.async false
set_option linter.all false
set_option maxRecDepth 100000
set_option maxHeartbeats 4000000
/-! G13: zip of two tuples walked -/
namespace L2
open PySem PySem.Spec PyProof.Rows
theorem walk_zipT {K : PySem.W.Frag} {a b : Addr} {xs ys : List V} {n : Nat} (hn : n = min xs.length ys.length) : Walk (RZ.ItzT K a b) n (fun H => SqT K H a xs ∧ SqT K H b ys) (YPair (fun i => xs[i]?) fun i => ys[i]?) :=
  ⟨fun i _ hi q => ⟨xs, ys, xs[i]'(by omega), ys[i]'(by omega), q.1, q.2, List.getElem?_eq_getElem _, List.getElem?_eq_getElem _⟩, fun _ q => ⟨xs, ys, q.1, q.2, by omega⟩, fun i H v H' _ q y => by
    obtain ⟨T, x, z, h1, h2, h3, h4, h5⟩ := y
    exact ⟨T, x, z, h1, h2, h3, h4 xs q.1, h5 ys q.2⟩⟩
end L2
set_option Elab.async false
set_option linter.all false
set_option maxRecDepth 100000
set_option maxHeartbeats 4000000
/-! k19, part YD: read_record, pick_at, made_parts, named_value -/
namespace R9H
open PySem PySem.Spec PyProof.Rows L2
def getN (kn : List (Key × V)) (x : Str) : V := (valV kn (.inr x)).getD .non
def readRec (kn : List (Key × V)) : List Str → Option V
  | [] => none
  | kw :: ws => if kw = "use" then ws[0]?.map (getN kn) else if kw ∈ [("with" : Str), "get", "some"] then ws[1]?.map (getN kn) else some .non
def namedV (kn : List (Key × V)) (parts : List V) (i : Int) (taken : List Int) : List Str → Option V
  | [] => none
  | kw :: ws => if kw ∈ [("new" : Str), "with"] then some (.int i) else if kw = "let" then ws[1]?.map (getN kn) else if kw = "none" ∨ parts = [] then some .non else if kw = "some" then (match taken.getLast? with
    | some t => if 0 ≤ t then parts[t.toNat]? else none
    | none => none) else none
def isRec : V → Bool
  | .non => true
  | .int _ => true
  | _ => false
def recD : V → PyData
  | .int i => .int i
  | _ => .none
theorem dpAll_rec {K : PySem.W.Frag} {H : Hp} : ∀ {vs : List V}, (∀ v ∈ vs, isRec v = true) → DpAll K H vs (vs.map recD)
  | [], _ => .nil
  | v :: vs, h => by
    have hv := h v List.mem_cons_self
    have ht := dpAll_rec (K := K) (H := H) fun u hu => h u (List.mem_cons_of_mem _ hu)
    cases v with
    | non => exact .cons .non ht
    | int i => exact .cons (.int i) ht
    | _ => cases hv
theorem canLayRec : ∀ vs : List V, PyData.canLayAll0 (vs.map recD) = true
  | [] => by simp [PyData.canLayAll0]
  | v :: vs => by
    rw [List.map_cons, PyData.canLayAll0, canLayRec vs]
    cases v <;> simp [recD, PyData.canLay0]
theorem depthRec : ∀ vs : List V, PyData.depthAll (vs.map recD) = 0
  | [] => by simp [PyData.depthAll]
  | v :: vs => by
    rw [List.map_cons, PyData.depthAll, depthRec vs]
    cases v <;> simp [recD, PyData.depth]
theorem shapedRec (vs : List V) : SeqAt.shaped (.tuple (vs.map recD)) = true := by
  unfold SeqAt.shaped
  rw [PyData.canLay0, canLayRec, PyData.depth, depthRec] <;> rfl
def sp_read_record (K : PySem.W.Frag) : Sp := fun vs H Q _ => ∃ (kd wt : Addr) (kn : List (Key × V)) (row : List Str) (u : V), vs = [.ref kd, .ref wt] ∧ H kd = some (.dK kn) ∧ SqT K H wt (row.map V.str) ∧ readRec kn row = some u ∧ ∀ H', ExtH H H' → Q u H'
def sp_made_parts (K : PySem.W.Frag) : Sp := fun vs H Q _ => ∃ (kd pt wt : Addr) (kn : List (Key × V)) (parts : List V) (row : List Str), vs = [.ref kd, .ref pt, .ref wt] ∧ H kd = some (.dK kn) ∧ SqT K H pt parts ∧ SqT K H wt (row.map V.str) ∧ 0 < row.length ∧ parts.length + row.length ≤ 1000000 ∧
  ∀ H' t, ExtH H H' → SqT K H' t (parts ++ (row.drop 3).map (getN kn)) → Q (.ref t) H'
def sp_named_value (K : PySem.W.Frag) : Sp := fun vs H Q _ => ∃ (p kd pt tl : Addr) (z : Str) (r : RS) (l i : Int) (kn : List (Key × V)) (parts : List V) (taken : List Int) (row : List Str) (u : V), vs = [.ref p, .int l, .ref kd, .ref pt, .int i, .ref tl] ∧ PgAt K p z r H ∧ r.rows.lookup l = some row ∧
  H kd = some (.dK kn) ∧ SqT K H pt parts ∧ (∀ v ∈ parts, isRec v = true) ∧ SqL K H tl (taken.map V.int) ∧ namedV kn parts i taken row = some u ∧ ∀ H', ExtH H H' → Q u H'
section
variable {w : World} {K : PySem.W.Frag} {mg : Str → Option Value} {base : Heap}
theorem row_at {kw : Str} {ws : List Str} {j : Nat} {x : Str} (h : ws[j]? = some x) : atI ((kw :: ws).map V.str) ((j + 1 : Nat) : Int) = some (.str x) := atI_nat (by rw [List.getElem?_map]; show (ws[j]?).map V.str = _; rw [h]; rfl)
theorem get_dg {H : Hp} {kd : Addr} {kn : List (Key × V)} (h : H kd = some (.dK kn)) (x : Str) : DGet H kd (.str x) (valV kn (.inr x)) := DGet.k (k := .inr x) h
abbrev st_read_record : Stmt := top 24
theorem sc_read_record : FnScope ["known", "words"] ["known", "words"] (defScope st_read_record) := ⟨rfl, rfl, rfl, by decide +kernel, rfl, by decide +kernel, by decide +kernel⟩
theorem ok_read_record (T : T6 K mg) : Has w K mg base 1 "read_record" ["known", "words"] (sp_read_record K) := by
  obtain ⟨fd, F⟩ := T.fn 12
  refine has_of (st := st_read_record) T F (by decide +kernel) (F.ok sc_read_record (fun vs H Q E h => ?_) (fun cdv A outer s H vs Q E hr h => ⟨_, PSs.nox (
    (pss_cons (ps_if (pt_cmpR op_eq (pe_ix ix_tup (pv 1) pe_int (fun _ _ => rfl)) pe_str (nomark _))
      (pss_one (ps_ret (pe_dget1 hr.u1 (pv 0) (pe_ix ix_tup (pv 1) pe_int (fun _ _ => rfl)) ⟨rfl, rfl, rfl, rfl⟩)))
      pss_nil)
    (pss_one (ps_ret (pe_ifExp (pt_cmpR op_in_seq (pe_ix ix_tup (pv 1) pe_int (fun _ _ => rfl)) (pe_tup (pa_cons pe_str (pa_cons pe_str (pa_cons pe_str pa_nil)))) rfl) (pe_dget1 hr.u1 (pv 0) (pe_ix ix_tup (pv 1) pe_int (fun _ _ => rfl)) ⟨rfl, rfl, rfl, rfl⟩) pe_non))))), ?_⟩)) fun _ _ _ _ _ _ us hl => match us, hl with | [_, _], _ => rfl
  · obtain ⟨kd, wt, kn, row, u, rfl, _⟩ := h
    rfl
  · obtain ⟨kd, wt, kn, row, u, rfl, hk, hw, hu, q⟩ := h
    clear F
    cases row with
    | nil => cases hu
    | cons kw ws =>
      unfold readRec at hu
      dsimp only at hu
      have i0 : atI ((kw :: ws).map V.str) 0 = some (V.str kw) := atI_nat (j := 0) rfl
      refine ⟨_, rfl, wt, _, 0, _, rfl, rfl, hw, i0, rfl, _, rfl, ?_⟩
      rw [dec_str]
      by_cases h1 : kw = "use"
      · rw [if_pos h1] at hu
        obtain ⟨x, hx, rfl⟩ := Option.map_eq_some_iff.mp hu
        refine ifT (decide_eq_true h1) ⟨_, rfl, kd, rfl, .inl ⟨_, .inl hk⟩, _, rfl, wt, _, 1, _, rfl, rfl, hw, row_at hx, _, get_dg hk x, q _ .refl⟩
      rw [if_neg h1] at hu
      refine ifF (decide_eq_false h1) ⟨_, rfl, wt, _, 0, _, rfl, rfl, hw, i0, by decide, fun t nt => ⟨t, _, rfl, .inr (SqT.of upd_same), rfl, by decide, _, rfl, ?_⟩⟩
      rw [show [V.str "with", V.str "get", V.str "some"] = ([("with" : Str), "get", "some"]).map V.str from rfl]
      have e1 := extH_put (o := .tup (([("with" : Str), "get", "some"]).map V.str)) nt
      generalize upd H t (.tup (([("with" : Str), "get", "some"]).map V.str)) = H1 at e1 ⊢
      by_cases h2 : kw ∈ [("with" : Str), "get", "some"]
      · rw [if_pos h2] at hu
        obtain ⟨x, hx, rfl⟩ := Option.map_eq_some_iff.mp hu
        exact ifT (inV_str.trans (decide_eq_true h2)) ⟨_, rfl, kd, rfl, .inl ⟨_, .inl (e1 _ _ hk)⟩, _, rfl, wt, _, 2, _, rfl, rfl, sqT_extH e1 hw, row_at hx, _, get_dg (e1 _ _ hk) x, q _ e1⟩
      · rw [if_neg h2] at hu
        cases hu
        exact ifF (inV_str.trans (decide_eq_false h2)) (q _ e1)
def gV (kn : List (Key × V)) : V → V
  | .str x => getN kn x
  | _ => .non
abbrev st_made_parts : Stmt := top 26
theorem sc_made_parts : FnScope ["known", "parts", "words", "given", "name"] ["known", "parts", "words"] (defScope st_made_parts) := ⟨rfl, rfl, rfl, by decide +kernel, rfl, by decide +kernel, by decide +kernel⟩
theorem ok_made_parts (T : T6 K mg) : Has w K mg base 1 "made_parts" ["known", "parts", "words"] (sp_made_parts K) := by
  obtain ⟨fd, F⟩ := T.fn 14
  refine has_of (st := st_made_parts) T F (by decide +kernel) (F.ok sc_made_parts (fun vs H Q E h => ?_) (fun cdv A outer s H vs Q E hr h => ⟨_, PSs.nox (
    (pss_cons (ps_setLc (i := 3) (own := [("name", 4)]) (g := gName 4) rfl sc_made_parts.nd rfl rfl (sw_true rfl rfl rfl (by decide +kernel)) (pi_tup (pe_slice sl_tup (pv 2) (po_some pe_int) po_none)) (blkOk_by (own := [("name", 4)]) (N := ["known", "parts", "words", "given", "name"]) (sc := defScope st_made_parts) (by decide +kernel))
        (fun _ _ _ _ _ => (pg_name (i := 4) sc_made_parts.nd rfl (Or.inl rfl))) (fun _ _ _ _ _ => pts_nil) (fun _ _ _ _ _ => (pe_dget1 hr.u1 (pv 0) (pv 4) ⟨rfl, rfl, rfl, rfl⟩)))
    (pss_one (ps_ret (pe_tup (StX.pa_star (pv 1) (StX.pa_star (pv 3) pa_nil))))))), ?_⟩)) fun _ _ _ _ _ _ us hl => match us, hl with | [_, _, _], _ => rfl
  · obtain ⟨kd, pt, wt, kn, parts, row, rfl, _⟩ := h
    rfl
  · obtain ⟨kd, pt, wt, kn, parts, row, rfl, hk, hp, hw, h0, hl, q⟩ := h
    clear F
    have ec : cutV (row.map V.str) (some 3) none = (row.drop 3).map V.str := by
      unfold cutV
      rw [HT.sIx_none, show (3 : Int) = ((3 : Nat) : Int) from rfl, HT.sIx_nat, List.length_map]
      rcases Nat.lt_or_ge row.length 3 with h | h
      · rw [Nat.min_eq_right (by omega), List.drop_of_length_le (by rw [List.length_map]; exact Nat.le_refl _), List.drop_of_length_le (by omega)]
        simp
      · rw [Nat.min_eq_left h, ← List.map_drop, List.take_of_length_le (by rw [List.length_map, List.length_drop]; exact Nat.le_refl _)]
    refine ⟨_, rfl, 3, rfl, wt, _, rfl, hw, ?_, fun t nt => ?_⟩
    · rintro ⟨a, _⟩
      rw [show (3 : Int) = ((3 : Nat) : Int) from rfl, HT.sIx_nat, List.length_map] at a
      omega
    rw [ec]
    have e1 := extH_put (o := .tup ((row.drop 3).map V.str)) nt
    have ht : SqT K (upd H t (.tup ((row.drop 3).map V.str))) t ((row.drop 3).map V.str) := SqT.of upd_same
    generalize upd H t (.tup ((row.drop 3).map V.str)) = H1 at e1 ht ⊢
    refine ⟨t, rfl, ⟨_, ht⟩, fun D hD => ?_⟩
    refine lc_pureT (xs := (row.drop 3).map V.str) (fun _ => true) (gV kn) ht hD (by rw [List.length_map, List.length_drop]; omega) (fun _ => rfl) (fun x _ G Q' _ h => tyes h) ?_ ?_
    · intro x hx _ G Q' e q'
      obtain ⟨y, hy, rfl⟩ := List.mem_map.mp hx
      have hk' := e _ _ (e1 _ _ hk)
      exact ⟨_, rfl, kd, rfl, .inl ⟨_, .inl hk'⟩, _, rfl, _, get_dg hk' y, q'⟩
    · intro G x1 hG
      have eg : (((row.drop 3).map V.str).filter fun _ => true).map (gV kn) = (row.drop 3).map (getN kn) := by
        rw [List.filter_eq_self.mpr (fun _ _ => rfl), List.map_map] <;> rfl
      rw [eg] at hG
      have e2 := e1.trans x1
      refine ⟨_, rfl, pt, _, rfl, .inl (sqT_extH e2 hp), _, rfl, D, _, rfl, .inr (SqL.of hG), ?_, fun t2 nt2 => ?_⟩
      · rw [sizeLine_eq]
        simp only [List.length_append, List.length_map, List.length_drop, List.length_nil]
        omega
      · exact q _ t2 (e2.trans (extH_put nt2)) (SqT.of (by rw [upd_same, List.append_nil]))
theorem dp_rec {K : PySem.W.Frag} {H : Hp} {t : Addr} {vs : List V} (h : SqT K H t vs) (hr : ∀ v ∈ vs, isRec v = true) : Dp K H (.ref t) (.tuple (vs.map recD)) := .tup h (dpAll_rec hr)
theorem empty_rec (vs : List V) : (vs.map recD).isEmpty = decide (vs = []) := by cases vs <;> simp
abbrev st_named_value : Stmt := top 28
theorem sc_named_value : FnScope ["program", "line", "known", "parts", "step", "taken", "words"] ["program", "line", "known", "parts", "step", "taken"] (defScope st_named_value) := ⟨rfl, rfl, rfl, by decide +kernel, rfl, by decide +kernel, by decide +kernel⟩
theorem ok_named_value (T : T6 K mg) : Has w K mg base 2 "named_value" ["program", "line", "known", "parts", "step", "taken"] (sp_named_value K) := by
  obtain ⟨fd, F⟩ := T.fn 16
  have g_MAKING := T.glo "MAKING" (by decide +kernel)
  refine has_of (st := st_named_value) T F (by decide +kernel) (F.ok sc_named_value (fun vs H Q E h => ?_) (fun cdv A outer s H vs Q E hr h => ⟨_, PSs.nox (
    (pss_cons (ps_set (i := 6) sc_named_value.nd rfl (Or.inl rfl) (pe_dget hr.u1 (pe_fld (pv 0) rfl) (pv 1) (fun _ _ => rfl)))
    (pss_cons (ps_if (pt_cmpR op_in_seq (pe_ix ix_tup (pv 6) pe_int (fun _ _ => rfl)) (pe_gr rfl g_MAKING) rfl)
      (pss_one (ps_ret (pv 4)))
      pss_nil)
    (pss_cons (ps_if (pt_cmpR op_eq (pe_ix ix_tup (pv 6) pe_int (fun _ _ => rfl)) pe_str (nomark _))
      (pss_one (ps_ret (pe_dget1 hr.u1 (pv 2) (pe_ix ix_tup (pv 6) pe_int (fun _ _ => rfl)) ⟨rfl, rfl, rfl, rfl⟩)))
      pss_nil)
    (pss_cons (ps_if (PW.pt (pw_or (pt_cmpR op_eq (pe_ix ix_tup (pv 6) pe_int (fun _ _ => rfl)) pe_str (nomark _)) (pw_or1 (pt_cmpR (op_eqD hr.units) (pv 3) (pe_tup pa_nil) (nomark _)))))
      (pss_one (ps_ret pe_non))
      pss_nil)
    (pss_one (ps_ret (pe_ifExp (pt_cmpR op_eq (pe_ix ix_tup (pv 6) pe_int (fun _ _ => rfl)) pe_str (nomark _)) (pe_ix ix_tup (pv 3) (pe_ix ix_list (pv 5) (pe_un un_neg pe_int) (fun _ _ => rfl)) (fun _ _ => rfl)) (pe_ix ix_tup (pv 3) pe_no (fun _ _ => rfl)))))))))), ?_⟩)) fun _ _ _ _ _ _ us hl => match us, hl with | [_, _, _, _, _, _], _ => rfl
  · obtain ⟨p, kd, pt, tl, z, r, l, i, kn, parts, taken, row, u, rfl, _⟩ := h
    rfl
  · obtain ⟨p, kd, pt, tl, z, r, l, i, kn, parts, taken, row, u, rfl, ⟨dx, fs, hp, G⟩, hrow, hk, hpt, hrec, htl, hu, q⟩ := h
    clear F
    have hC := T.cls "Program" (by decide +kernel)
    have hA1 := T.noat "Program" "rows" (by decide +kernel)
    obtain ⟨c1, _, lk1, _, dg1, wt, rfl, hw⟩ := G.rows.get kI_inj hrow
    cases row with
    | nil => cases hu
    | cons kw ws =>
      unfold namedV at hu
      dsimp only at hu
      have i0 : atI ((kw :: ws).map V.str) 0 = some (V.str kw) := atI_nat (j := 0) rfl
      refine ⟨_, rfl, _, _, _, _, _, rfl, hp, hC, hA1, lk1, _, rfl, _, _, rfl, dg1, ?_⟩
      refine ⟨_, rfl, wt, _, 0, _, rfl, rfl, hw, i0, _, _, rfl, .inr (T.mk_ H), rfl, by decide, _, rfl, ?_⟩
      rw [show [V.str "new", V.str "with"] = ([("new" : Str), "with"]).map V.str from rfl]
      by_cases h1 : kw ∈ [("new" : Str), "with"]
      · rw [if_pos h1] at hu
        cases hu
        exact ifT (inV_str.trans (decide_eq_true h1)) ⟨_, rfl, q _ .refl⟩
      rw [if_neg h1] at hu
      refine ifF (inV_str.trans (decide_eq_false h1)) ?_
      refine ⟨_, rfl, wt, _, 0, _, rfl, rfl, hw, i0, rfl, _, rfl, ?_⟩
      rw [dec_str]
      by_cases h2 : kw = "let"
      · rw [if_pos h2] at hu
        obtain ⟨x, hx, rfl⟩ := Option.map_eq_some_iff.mp hu
        exact ifT (decide_eq_true h2) ⟨_, rfl, kd, rfl, .inl ⟨_, .inl hk⟩, _, rfl, wt, _, 2, _, rfl, rfl, hw, row_at hx, _, get_dg hk x, q _ .refl⟩
      rw [if_neg h2] at hu
      refine ifF (decide_eq_false h2) ?_
      refine ⟨_, rfl, wt, _, 0, _, rfl, rfl, hw, i0, rfl, _, rfl, ?_⟩
      rw [dec_str]
      by_cases h3 : kw = "none"
      · rw [if_pos (.inl h3)] at hu
        cases hu
        rw [decide_eq_true h3]
        exact q _ .refl
      rw [decide_eq_false h3]
      refine ⟨_, rfl, Nat.zero_le _, fun t nt => ⟨.tuple (parts.map recD), .tuple [], dp_rec (sqT_extH (extH_put nt) hpt) hrec, .tup (xs := []) (SqT.of upd_same) .nil, shapedRec _, rfl, ?_⟩⟩
      have e1 := extH_put (o := .tup []) nt
      generalize upd H t (.tup []) = H1 at e1 ⊢
      rw [eqvNilT, empty_rec]
      refine ⟨_, rfl, ?_⟩
      by_cases h4 : parts = []
      · rw [if_pos (.inr h4)] at hu
        cases hu
        exact ifT (decide_eq_true h4) (q _ e1)
      rw [if_neg (fun z => z.elim h3 h4)] at hu
      refine ifF (decide_eq_false h4) ?_
      by_cases h5 : kw = "some"
      · rw [if_pos h5] at hu
        refine ⟨_, rfl, wt, _, 0, _, rfl, rfl, sqT_extH e1 hw, i0, rfl, _, rfl, ifT (by rw [dec_str]; exact decide_eq_true h5) ?_⟩
        cases hg : taken.getLast? with
        | none => rw [hg] at hu; cases hu
        | some t =>
          rw [hg] at hu
          dsimp only at hu
          by_cases h6 : 0 ≤ t
          · rw [if_pos h6] at hu
            have hge : atI (taken.map V.int) (-1) = some (.int t) := by
              have hne : taken ≠ [] := fun z => by rw [z] at hg; cases hg
              have hl : 0 < taken.length := List.length_pos_iff.mpr hne
              have h7 : (taken.map V.int)[taken.length - 1]? = some (.int t) := by
                rw [List.getElem?_map, ← List.getLast?_eq_getElem?, hg] <;> rfl
              have : ixN (taken.map V.int).length (-1) = some (taken.length - 1) := by
                unfold ixN
                rw [List.length_map, if_neg (by omega), if_pos (by omega)]
                congr 1
                omega
              unfold atI
              rw [this]
              exact h7
            obtain ⟨n, rfl⟩ : ∃ n : Nat, t = (n : Int) := ⟨t.toNat, by omega⟩
            rw [Int.toNat_natCast] at hu
            exact ⟨_, rfl, _, rfl, _, rfl, tl, _, -1, _, rfl, rfl, sqL_extH e1 htl, hge, pt, _, (n : Int), _, rfl, rfl, sqT_extH e1 hpt, atI_nat hu, q _ e1⟩
          · rw [if_neg h6] at hu; cases hu
      · rw [if_neg h5] at hu
        cases hu
/-- the values of parameters -/
def givenOf (kn : List (Key × V)) (ps as : List Str) : List (Key × V) := (ps.zip as).map fun q => (.inr q.1, getN kn q.2)
def argsOf (kw : Str) (ws : List Str) : List Str := if kw = "call" then ws.drop 2 else ws.drop 1
def sp_given_values (K : PySem.W.Frag) : Sp := fun vs H Q _ => ∃ (p kd : Addr) (z : Str) (r : RS) (l : Int) (kn : List (Key × V)) (kw : Str) (ws ps : List Str) (g : Str), vs = [.ref p, .int l, .ref kd] ∧ PgAt K p z r H ∧ r.rows.lookup l = some (kw :: ws) ∧ r.callees.lookup l = some g ∧ r.pm.lookup g = some ps ∧ ps.Nodup ∧
  H kd = some (.dK kn) ∧ (if kw = "call" then 2 else 1) ≤ ws.length ∧ ps.length = (argsOf kw ws).length ∧ ps.length ≤ 1000 ∧ ∀ H' D, ExtH H H' → H D = none → H' D = some (.dK (givenOf kn ps (argsOf kw ws))) → Q (.ref D) H'
theorem cutD (row : List Str) (j : Nat) : cutV (row.map V.str) (some (j : Int)) none = (row.drop j).map V.str := by
  unfold cutV
  rw [HT.sIx_none, HT.sIx_nat, List.length_map]
  rcases Nat.lt_or_ge row.length j with h | h
  · rw [Nat.min_eq_right (by omega), List.drop_of_length_le (by rw [List.length_map]; exact Nat.le_refl _), List.drop_of_length_le (by omega)]
    simp
  · rw [Nat.min_eq_left h, ← List.map_drop, List.take_of_length_le (by rw [List.length_map, List.length_drop]; exact Nat.le_refl _)]
theorem put_given {kn : List (Key × V)} {ps as : List Str} (h : ps.length = as.length) (hn : ps.Nodup) {i : Nat} (hi : i < ps.length) (hj : i < as.length) :
    putK (((ps.zip as).take i).map fun q => ((.inr q.1 : Key), getN kn q.2)) (.inr ps[i]) (getN kn as[i]) = ((ps.zip as).take (i + 1)).map fun q => ((.inr q.1 : Key), getN kn q.2) := by
  rw [take_succ' (x := (ps[i], as[i])) (by rw [List.getElem?_eq_getElem (by rw [List.length_zip]; omega), List.getElem_zip]), List.map_append]
  rw [putK_new]
  · rfl
  · have := zip_take_no h hn hi
    generalize (ps.zip as).take i = l at this
    induction l with
    | nil => rfl
    | cons q t ih =>
      rw [show q = (q.1, q.2) from rfl, List.lookup_cons] at this
      split at this
      · cases this
      · rename_i hq
        rw [List.map_cons, valV_neg]
        · exact ih this
        · intro e
          injection e with e
          simp [e] at hq
abbrev st_given_values : Stmt := top 29
theorem sc_given_values : FnScope ["program", "line", "known", "words", "given", "name", "other"] ["program", "line", "known"] (defScope st_given_values) := ⟨rfl, rfl, rfl, by decide +kernel, rfl, by decide +kernel, by decide +kernel⟩
theorem ok_given_values (T : T6 K mg) : Has w K mg base 1 "given_values" ["program", "line", "known"] (sp_given_values K) := by
  obtain ⟨fd, F⟩ := T.fn 17; have gf_zip := T.free "zip" (by decide +kernel)
  refine has_of (st := st_given_values) T F (by decide +kernel) (F.ok sc_given_values (fun vs H Q E h => ?_) (fun cdv A outer s H vs Q E hr h => ⟨_, PSs.nox (
    (pss_cons (ps_set (i := 3) sc_given_values.nd rfl (Or.inl rfl) (pe_dget hr.u1 (pe_fld (pv 0) rfl) (pv 1) (fun _ _ => rfl)))
    (pss_cons (ps_set (i := 4) sc_given_values.nd rfl (Or.inl rfl) (pe_ifExp (pt_cmpR op_eq (pe_ix ix_tup (pv 3) pe_int (fun _ _ => rfl)) pe_str (nomark _)) (pe_slice sl_tup (pv 3) (po_some pe_int) po_none) (pe_slice sl_tup (pv 3) (po_some pe_int) po_none)))
    (pss_one (ps_ret (pe_dc (own := [("name", 5), ("other", 6)]) (g := gTup K 2 (gCons (gName 5) (gCons (gName 6) gNil))) rfl sc_given_values.nd (RZ.pi_zipA rfl gf_zip (pa_cons (pe_dget hr.u1 (pe_fld (pv 0) rfl) (pe_dget hr.u1 (pe_fld (pv 0) rfl) (pv 1) (fun _ _ => rfl)) (fun _ _ => rfl)) (pa_cons (pv 4) pa_nil))) (blkOk_by (own := [("name", 5), ("other", 6)]) (N := ["program", "line", "known", "words", "given", "name", "other"]) (sc := defScope st_given_values) (by decide +kernel)) (fun _ _ _ _ _ => pg_tup rfl (pgs_cons (pg_name (i := 5) sc_given_values.nd rfl (Or.inl rfl)) (pgs_cons (pg_name (i := 6) sc_given_values.nd rfl (Or.inl rfl)) pgs_nil))) (fun _ _ _ _ _ => pts_nil) (fun _ _ _ _ _ => pv 5) (fun _ _ _ _ _ => pe_dget1 hr.u1 (pv 2) (pv 6) ⟨rfl, rfl, rfl, rfl⟩))))))), ?_⟩)) fun _ _ _ _ _ _ us hl => match us, hl with | [_, _, _], _ => rfl
  · obtain ⟨p, kd, z, r, l, kn, kw, ws, ps, g, rfl, _⟩ := h
    rfl
  · obtain ⟨p, kd, z, r, l, kn, kw, ws, ps, g, rfl, ⟨dx, fs, hp, G⟩, hrow, hce, hpm, hnd, hk, hwl, hpl, hps, q⟩ := h
    clear F
    have hC := T.cls "Program" (by decide +kernel)
    have hA1 := T.noat "Program" "rows" (by decide +kernel)
    have hA2 := T.noat "Program" "params" (by decide +kernel)
    have hA3 := T.noat "Program" "callees" (by decide +kernel)
    obtain ⟨c1, _, lk1, _, dg1, wt, rfl, hw⟩ := G.rows.get kI_inj hrow
    have i0 : atI ((kw :: ws).map V.str) 0 = some (V.str kw) := atI_nat (j := 0) rfl
    refine ⟨_, rfl, _, _, _, _, _, rfl, hp, hC, hA1, lk1, _, rfl, _, _, rfl, dg1, ?_⟩
    try dsimp only
    refine seq_cut (C := fun σ' G' => ∃ t, σ' = [some (.ref p), some (.int l), some (.ref kd), some (.ref wt), some (.ref t), none, none] ∧ ExtH H G' ∧ SqT K G' t ((argsOf kw ws).map V.str)) ?_ ?_
    · rintro σ' G1 ⟨gt, rfl, e1, hgt⟩
      obtain ⟨dx1, fs1, hp1, G1'⟩ := (show PgAt K p z r G1 from ⟨dx, fs, e1 _ _ hp, G.ext e1⟩)
      obtain ⟨c2, _, lk2, _, dg2, rfl⟩ := G1'.callees.get kI_inj hce
      obtain ⟨c3, _, lk3, _, dg3, pt, rfl, hpt⟩ := G1'.params.get kS_inj hpm
      refine ⟨_, rfl, _, _, _, _, _, rfl, hp1, hC, hA2, lk3, _, rfl, _, _, _, _, _, rfl, hp1, hC, hA3, lk2, _, rfl, _, _, rfl, dg2, _, _, rfl, dg3, _, rfl, pt, gt, _, _, rfl, .inr ⟨hpt, hgt, fun D hD => ?_⟩⟩
      have hD0 : H D = none := e1.none hD
      refine dc_it (walk_zipT (n := ps.length) (by simp only [List.length_map, hpl, Nat.min_self])) (fun i G => ExtH G1 G ∧ G D = some (.dK (((ps.zip (argsOf kw ws)).take i).map fun q => ((.inr q.1 : Key), getN kn q.2)))) ⟨extH_put hD, upd_same⟩ (fun i G _ e => ⟨sqT_extH e.1 hpt, sqT_extH e.1 hgt⟩) ?_ ?_
      · rintro i x G G' hi ⟨e, hd⟩ ⟨t, x, y, rfl, nt, rfl, hx, hy⟩
        have hi2 : i < (argsOf kw ws).length := by omega
        dsimp only at hx hy
        rw [List.getElem?_map, List.getElem?_eq_getElem hi] at hx
        rw [List.getElem?_map, List.getElem?_eq_getElem hi2] at hy
        cases hx
        cases hy
        have e2 : ExtH G1 (upd G t (.tup [.str ps[i], .str (argsOf kw ws)[i]])) := e.trans (extH_put nt)
        have hd2 := extH_put (o := .tup [.str ps[i], .str (argsOf kw ws)[i]]) nt _ _ hd
        have hk2 := e2 _ _ (e1 _ _ hk)
        refine ⟨t, _, rfl, SqT.of upd_same, rfl, _, _, rfl, _, _, rfl, rfl, rfl, ?_⟩
        refine tyes (ifT rfl ⟨_, rfl, _, rfl, kd, rfl, .inl ⟨_, .inl hk2⟩, _, rfl, _, get_dg hk2 (argsOf kw ws)[i], _, .inr ps[i], rfl, hd2, ?_, extH_upd e2 hD, ?_⟩)
        · rw [List.length_map, List.length_take, List.length_zip, sizeLine_eq]; omega
        · rw [upd_same]
          exact congrArg (fun z => some (HO.dK z)) (put_given hpl hnd hi hi2)
      · rintro G2 ⟨e2, hd2⟩
        rw [List.take_of_length_le (by rw [List.length_zip]; omega)] at hd2
        exact q G2 D (e1.trans e2) hD0 hd2
    · intro rr hrr
      refine ⟨_, rfl, wt, _, 0, _, rfl, rfl, hw, i0, rfl, _, rfl, ?_⟩
      rw [dec_str]
      by_cases h1 : kw = "call"
      · rw [if_pos h1] at hwl
        refine ifT (decide_eq_true h1) ⟨_, rfl, 3, rfl, wt, _, rfl, hw, ?_, fun t nt => ?_⟩
        · rintro ⟨a, _⟩
          rw [show (3 : Int) = ((3 : Nat) : Int) from rfl, HT.sIx_nat, List.length_map, List.length_cons] at a
          omega
        · rw [show (3 : Int) = ((3 : Nat) : Int) from rfl, cutD]
          refine hrr _ _ ⟨t, rfl, extH_put nt, SqT.of ?_⟩
          unfold argsOf
          rw [upd_same, if_pos h1] <;> rfl
      · rw [if_neg h1] at hwl
        refine ifF (decide_eq_false h1) ⟨_, rfl, 2, rfl, wt, _, rfl, hw, ?_, fun t nt => ?_⟩
        · rintro ⟨a, _⟩
          rw [show (2 : Int) = ((2 : Nat) : Int) from rfl, HT.sIx_nat, List.length_map, List.length_cons] at a
          omega
        · rw [show (2 : Int) = ((2 : Nat) : Int) from rfl, cutD]
          refine hrr _ _ ⟨t, rfl, extH_put nt, SqT.of ?_⟩
          unfold argsOf
          rw [upd_same, if_neg h1] <;> rfl
end
end R9H
set_option Elab.async false
set_option linter.all false
set_option maxRecDepth 100000
set_option maxHeartbeats 4000000
/-! k19, part YE: values_of -/
namespace R9H
open PySem PySem.Spec PyProof.Rows L2
structure VS where
  kn : List (Key × V)
  held : List (Int × List V)
  seen : List V
  taken : List Int
  below : List (List (Key × V)) := []
  tgs : List (Option Str) := []
def partsOf (held : List (Int × List V)) : V → Option (List V)
  | .non => some []
  | .int k => held.lookup k
  | _ => none
def naming : List Str := ["none", "new", "with", "get", "some", "let"]
def takenOf (picks : List Int) (kw : Str) (parts : List V) (taken : List Int) : Option (List Int) := if kw = "some" ∧ parts ≠ [] then (pickAt picks taken.length parts.length).map fun pk => taken ++ [pk] else some taken
def heldOf (kn : List (Key × V)) (i : Int) (row : List Str) (parts : List V) (held : List (Int × List V)) : List (Int × List V) := if row.headD "" ∈ [("new" : Str), "with"] then held ++ [(i, parts ++ (row.drop 3).map (getN kn))] else held
/-- the calls: values, values below, targets -/
inductive VEnd (r : RS) (l : Int) (kw : Str) (ws : List Str) (s : VS) : List (Key × V) → List (List (Key × V)) → List (Option Str) → Prop
  | call {g ps x} : kw = "call" → ws[0]? = some x → PyData.strOk x = true → 2 ≤ ws.length → r.callees.lookup l = some g → r.pm.lookup g = some ps → ps.Nodup → ps.length = (argsOf kw ws).length → ps.length ≤ 1000 → VEnd r l kw ws s (givenOf s.kn ps (argsOf kw ws)) (s.below ++ [s.kn]) (s.tgs ++ [some x])
  | do_ {g ps} : kw ≠ "call" → 1 ≤ ws.length → r.callees.lookup l = some g → r.pm.lookup g = some ps → ps.Nodup → ps.length = (argsOf kw ws).length → ps.length ≤ 1000 → VEnd r l kw ws s (givenOf s.kn ps (argsOf kw ws)) (s.below ++ [s.kn]) (s.tgs ++ [none])
  | stay {b} : r.callees.lookup l = none → leaves r l = some b → (b = false ∨ s.tgs = []) → VEnd r l kw ws s s.kn s.below s.tgs
  | give {bl k0 ts x y} : kw = "give" → ws[0]? = some y → r.callees.lookup l = none → leaves r l = some true → s.below = bl ++ [k0] → s.tgs = ts ++ [some x] → k0.length ≤ 1000 → VEnd r l kw ws s (putK k0 (.inr x) (getN s.kn y)) bl ts
  | back {bl k0 ts x} : kw ≠ "give" → r.callees.lookup l = none → leaves r l = some true → s.below = bl ++ [k0] → s.tgs = ts ++ [some x] → k0.length ≤ 1000 → VEnd r l kw ws s (putK k0 (.inr x) .non) bl ts
  | drop {bl k0 ts} : r.callees.lookup l = none → leaves r l = some true → s.below = bl ++ [k0] → s.tgs = ts ++ [none] → VEnd r l kw ws s k0 bl ts
/-- one step's row, record, parts, picks -/
structure VStep (r : RS) (picks : List Int) (i l : Int) (s s' : VS) : Prop where
  ex : ∃ (kw : Str) (ws : List Str) (rec : V) (parts : List V) (taken : List Int), r.rows.lookup l = some (kw :: ws) ∧ ws.length ≤ 1000 ∧ readRec s.kn (kw :: ws) = some rec ∧ isRec rec = true ∧ partsOf s.held rec = some parts ∧ (∀ v ∈ parts, isRec v = true) ∧ parts.length ≤ 100000 ∧
    takenOf picks kw parts s.taken = some taken ∧ s.held.lookup i = none ∧
    ((kw ∈ naming ∧ ∃ x v, ws[0]? = some x ∧ namedV s.kn parts i taken (kw :: ws) = some v ∧ s' = ⟨putK s.kn (.inr x) v, heldOf s.kn i (kw :: ws) parts s.held, s.seen ++ [rec], taken, s.below, s.tgs⟩) ∨
     (kw ∉ naming ∧ ∃ kn bw ts, VEnd r l kw ws s kn bw ts ∧ s' = ⟨kn, heldOf s.kn i (kw :: ws) parts s.held, s.seen ++ [rec], taken, bw, ts⟩))
/-- a step whose pick is no item -/
structure VBad (r : RS) (picks : List Int) (l : Int) (s : VS) : Prop where
  ex : ∃ (ws : List Str) (rec : V) (parts : List V), r.rows.lookup l = some (("some" : Str) :: ws) ∧ readRec s.kn (("some" : Str) :: ws) = some rec ∧ isRec rec = true ∧ partsOf s.held rec = some parts ∧ (∀ v ∈ parts, isRec v = true) ∧ parts ≠ [] ∧ pickAt picks s.taken.length parts.length = none
structure Vls (r : RS) (picks : List Int) (ls : List Int) (S : Nat → VS) (m : Nat) : Prop where
  le : m ≤ ls.length
  stop : ∀ l, ls[m]? = some l → VBad r picks l (S m)
  zero : S 0 = ⟨[], [], [], [], [], []⟩
  step : ∀ (i : Nat) l, i < m → ls[i]? = some l → VStep r picks (i : Int) l (S i) (S (i + 1))
  small : ∀ i ≤ m, (S i).kn.length ≤ 1000 ∧ (S i).held.length ≤ i ∧ (S i).seen.length ≤ i ∧ (S i).taken.length ≤ i ∧ (S i).below.length ≤ i ∧ (S i).tgs.length ≤ i ∧ ∀ x, some x ∈ (S i).tgs → PyData.strOk x = true
def partsAt (K : PySem.W.Frag) (G : Hp) (v : V) (ps : List V) : Prop := ∃ t, v = .ref t ∧ SqT K G t ps
structure VOwn (H : Hp) (nl tg hl sl kl : Addr) : Prop where
  n : H nl = none
  t : H tg = none
  h : H hl = none
  s : H sl = none
  k : H kl = none
  nt : nl ≠ tg
  nh : nl ≠ hl
  ns : nl ≠ sl
  nk : nl ≠ kl
  th : tg ≠ hl
  ts : tg ≠ sl
  tk : tg ≠ kl
  hs : hl ≠ sl
  hk : hl ≠ kl
  sk : sl ≠ kl
def knAt (hl : Addr) (G : Hp) (v : V) (k : List (Key × V)) : Prop := ∃ m, v = .ref m ∧ G m = some (.dK k) ∧ m ≠ hl
structure VInv (K : PySem.W.Frag) (H : Hp) (nl tg hl sl kl : Addr) (bw : List (List (Key × V))) (ts : List (Option Str)) (kn : List (Key × V)) (held : List (Int × List V)) (seen : List V) (taken : List Int) (G : Hp) : Prop where
  ext : ExtH H G
  names : ∃ kd bs, G nl = some (.lst (bs ++ [.ref kd])) ∧ G kd = some (.dK kn) ∧ kd ≠ hl ∧ Paired (knAt hl G) bs bw
  tg : G tg = some (.lst (ts.map ownV))
  held : ∃ kv, G hl = some (.dK kv) ∧ AtK kI (partsAt K G) kv held
  seen : G sl = some (.lst seen)
  taken : G kl = some (.lst (taken.map V.int))
section
variable {K : PySem.W.Frag} {H G F : Hp} {nl tg hl sl kl : Addr} {bw bw' : List (List (Key × V))} {ts ts' : List (Option Str)} {kn kn' : List (Key × V)} {held held' : List (Int × List V)} {seen seen' : List V} {taken taken' : List Int}
theorem parts_tx {v : V} {ps : List V} (e : Tx G F) (h : partsAt K G v ps) : partsAt K F v ps := let ⟨t, a, b⟩ := h; ⟨t, a, e.sqT b⟩
theorem kns_ext {bs : List V} (e : ExtH G F) (h : Paired (knAt hl G) bs bw) : Paired (knAt hl F) bs bw := Paired.mapP h fun _ _ ⟨m, a, b, c⟩ => ⟨m, a, e _ _ b, c⟩
theorem kns_upd {bs : List V} {x : Addr} {xs ys : List V} (hx : G x = some (.lst xs)) (h : Paired (knAt hl G) bs bw) : Paired (knAt hl (upd G x (.lst ys))) bs bw := Paired.mapP h fun _ _ ⟨m, a, b, c⟩ => ⟨m, a, by rw [upd_ne (fun z => by rw [z, hx] at b; cases b)]; exact b, c⟩
theorem VInv.next (h : VInv K H nl tg hl sl kl bw ts kn held seen taken G) (e : ExtH G F) : VInv K H nl tg hl sl kl bw ts kn held seen taken F := by
  obtain ⟨h1, ⟨kd, bs, h2, h3, h4, hb⟩, h5, ⟨kv, h6, h7⟩, h8, h9⟩ := h
  exact ⟨h1.trans e, ⟨kd, bs, e _ _ h2, e _ _ h3, h4, kns_ext e hb⟩, e _ _ h5, ⟨kv, e _ _ h6, h7.imp fun _ _ => parts_tx (ext_tx e)⟩, e _ _ h8, e _ _ h9⟩
theorem VInv.setH {kv : List (Key × V)} (w : VOwn H nl tg hl sl kl) (h : VInv K H nl tg hl sl kl bw ts kn held seen taken G) (l : AtK kI (partsAt K G) kv held') : VInv K H nl tg hl sl kl bw ts kn held' seen taken (upd G hl (.dK kv)) := by
  obtain ⟨h1, ⟨kd, bs, h2, h3, h4, hb⟩, h5, ⟨kv', h6, h7⟩, h8, h9⟩ := h
  have tx : Tx G (upd G hl (.dK kv)) := tx_upd h6 rfl
  exact ⟨ext_own h1 w.h, ⟨kd, bs, by rw [upd_ne w.nh]; exact h2, by rw [upd_ne h4]; exact h3, h4, Paired.mapP hb fun _ _ ⟨m, a, b, c⟩ => ⟨m, a, by rw [upd_ne c]; exact b, c⟩⟩, by rw [upd_ne w.th]; exact h5, ⟨kv, upd_same, l.imp fun _ _ => parts_tx tx⟩, by rw [upd_ne (Ne.symm w.hs)]; exact h8, by rw [upd_ne (Ne.symm w.hk)]; exact h9⟩
theorem VInv.setS (w : VOwn H nl tg hl sl kl) (h : VInv K H nl tg hl sl kl bw ts kn held seen taken G) : VInv K H nl tg hl sl kl bw ts kn held seen' taken (upd G sl (.lst seen')) := by
  obtain ⟨h1, ⟨kd, bs, h2, h3, h4, hb⟩, h5, ⟨kv', h6, h7⟩, h8, h9⟩ := h
  have tx : Tx G (upd G sl (.lst seen')) := tx_upd h8 rfl
  have nd : kd ≠ sl := fun z => by rw [z, h8] at h3; cases h3
  exact ⟨ext_own h1 w.s, ⟨kd, bs, by rw [upd_ne w.ns]; exact h2, by rw [upd_ne nd]; exact h3, h4, kns_upd h8 hb⟩, by rw [upd_ne w.ts]; exact h5, ⟨kv', by rw [upd_ne w.hs]; exact h6, h7.imp fun _ _ => parts_tx tx⟩, upd_same, by rw [upd_ne (Ne.symm w.sk)]; exact h9⟩
theorem VInv.setK (w : VOwn H nl tg hl sl kl) (h : VInv K H nl tg hl sl kl bw ts kn held seen taken G) : VInv K H nl tg hl sl kl bw ts kn held seen taken' (upd G kl (.lst (taken'.map V.int))) := by
  obtain ⟨h1, ⟨kd, bs, h2, h3, h4, hb⟩, h5, ⟨kv', h6, h7⟩, h8, h9⟩ := h
  have tx : Tx G (upd G kl (.lst (taken'.map V.int))) := tx_upd h9 rfl
  have nd : kd ≠ kl := fun z => by rw [z, h9] at h3; cases h3
  exact ⟨ext_own h1 w.k, ⟨kd, bs, by rw [upd_ne w.nk]; exact h2, by rw [upd_ne nd]; exact h3, h4, kns_upd h9 hb⟩, by rw [upd_ne w.tk]; exact h5, ⟨kv', by rw [upd_ne w.hk]; exact h6, h7.imp fun _ _ => parts_tx tx⟩, by rw [upd_ne w.sk]; exact h8, upd_same⟩
theorem VInv.setT (w : VOwn H nl tg hl sl kl) (h : VInv K H nl tg hl sl kl bw ts kn held seen taken G) : VInv K H nl tg hl sl kl bw ts' kn held seen taken (upd G tg (.lst (ts'.map ownV))) := by
  obtain ⟨h1, ⟨kd, bs, h2, h3, h4, hb⟩, h5, ⟨kv', h6, h7⟩, h8, h9⟩ := h
  have tx : Tx G (upd G tg (.lst (ts'.map ownV))) := tx_upd h5 rfl
  have nd : kd ≠ tg := fun z => by rw [z, h5] at h3; cases h3
  exact ⟨ext_own h1 w.t, ⟨kd, bs, by rw [upd_ne w.nt]; exact h2, by rw [upd_ne nd]; exact h3, h4, kns_upd h5 hb⟩, upd_same, ⟨kv', by rw [upd_ne (Ne.symm w.th)]; exact h6, h7.imp fun _ _ => parts_tx tx⟩, by rw [upd_ne (Ne.symm w.ts)]; exact h8, by rw [upd_ne (Ne.symm w.tk)]; exact h9⟩
theorem VInv.setN {kd : Addr} {bs : List V} (w : VOwn H nl tg hl sl kl) (h : VInv K H nl tg hl sl kl bw ts kn held seen taken G) (hk : G kd = some (.dK kn')) (n : kd ≠ hl) (hb : Paired (knAt hl G) bs bw') : VInv K H nl tg hl sl kl bw' ts kn' held seen taken (upd G nl (.lst (bs ++ [.ref kd]))) := by
  obtain ⟨h1, ⟨kd', bs', h2, h3, h4, _⟩, h5, ⟨kv', h6, h7⟩, h8, h9⟩ := h
  have tx : Tx G (upd G nl (.lst (bs ++ [.ref kd]))) := tx_upd h2 rfl
  have nd : kd ≠ nl := fun z => by rw [z, h2] at hk; cases hk
  exact ⟨ext_own h1 w.n, ⟨kd, bs, upd_same, by rw [upd_ne nd]; exact hk, n, kns_upd h2 hb⟩, by rw [upd_ne (Ne.symm w.nt)]; exact h5, ⟨kv', by rw [upd_ne (Ne.symm w.nh)]; exact h6, h7.imp fun _ _ => parts_tx tx⟩, by rw [upd_ne (Ne.symm w.ns)]; exact h8, by rw [upd_ne (Ne.symm w.nk)]; exact h9⟩
end
theorem ixN_last {n : Nat} : ixN (n + 1) (-1) = some n := by
  unfold ixN
  rw [if_neg (by omega), if_pos (by omega)]
  congr 1
  omega
theorem paired_snoc_inv {α β : Type} {R : α → β → Prop} : ∀ {xs : List α} {ys : List β} {y : β}, Paired R xs (ys ++ [y]) → ∃ xs' x, xs = xs' ++ [x] ∧ Paired R xs' ys ∧ R x y
  | _, [], y, h => by
    cases h with
    | cons r t =>
      cases t
      exact ⟨[], _, rfl, .nil, r⟩
  | _, y' :: ys, y, h => by
    rw [List.cons_append] at h
    cases h with
    | @cons x' _ l₁ _ r t =>
      obtain ⟨xs', x, rfl, h2, h3⟩ := paired_snoc_inv t
      exact ⟨x' :: xs', x, rfl, .cons r h2, h3⟩
def tgD : Option Str → PyData
  | none => .none
  | some x => .str x
theorem dpAll_tgs {K : PySem.W.Frag} {H : Hp} : ∀ ts : List (Option Str), DpAll K H (ts.map ownV) (ts.map tgD)
  | [] => .nil
  | none :: ts => .cons .non (dpAll_tgs ts)
  | some x :: ts => .cons (.str x) (dpAll_tgs ts)
theorem canLay_tgs : ∀ ts : List (Option Str), (∀ x, some x ∈ ts → PyData.strOk x = true) → PyData.canLayAll0 (ts.map tgD) = true
  | [], _ => by simp [PyData.canLayAll0]
  | t :: ts, h => by
    rw [List.map_cons, PyData.canLayAll0, canLay_tgs ts fun x hx => h x (List.mem_cons_of_mem _ hx)]
    cases t with
    | none => simp [tgD, PyData.canLay0]
    | some x => simp only [tgD, PyData.canLay0, Bool.and_true]; exact h x List.mem_cons_self
theorem depth_tgs : ∀ ts : List (Option Str), PyData.depthAll (ts.map tgD) = 0
  | [] => by simp [PyData.depthAll]
  | t :: ts => by
    rw [List.map_cons, PyData.depthAll, depth_tgs ts]
    cases t <;> simp [tgD, PyData.depth]
theorem shaped_tgs {ts : List (Option Str)} (h : ∀ x, some x ∈ ts → PyData.strOk x = true) : SeqAt.shaped (.list (ts.map tgD)) = true := by
  unfold SeqAt.shaped
  rw [PyData.canLay0, canLay_tgs ts h, PyData.depth, depth_tgs] <;> rfl
theorem eqvNilL (ds : List PyData) : PyData.eqv (.list ds) (.list []) = ds.isEmpty := by
  cases ds <;> simp [PyData.eqv, PyData.eqvAll]
def sp_values_of (K : PySem.W.Frag) : Sp := fun vs H Q E => ∃ (p tl pt : Addr) (z : Str) (r : RS) (ls picks : List Int) (S : Nat → VS) (m : Nat), vs = [.ref p, .ref tl, .ref pt] ∧ PgAt K p z r H ∧ SqT K H tl (ls.map V.int) ∧ SqT K H pt (picks.map V.int) ∧ ls.length ≤ 100000 ∧ Vls r picks ls S m ∧ (m < ls.length → badE K "BadPick" (m : Int) E H) ∧ (m = ls.length →
  ∀ H' t hl sl kl kd kv, ExtH H H' → SqT K H' t [.ref hl, .ref sl, .ref kl, .ref kd] → H' hl = some (.dK kv) → AtK kI (partsAt K H') kv (S ls.length).held → H' sl = some (.lst (S ls.length).seen) → H' kl = some (.lst ((S ls.length).taken.map V.int)) → H' kd = some (.dK (S ls.length).kn) → Q (.ref t) H')
section
variable {w : World} {K : PySem.W.Frag} {mg : Str → Option Value} {base : Heap}
abbrev st_values_of : Stmt := top 30
theorem sc_values_of : FnScope ["program", "lines", "picks", "names", "targets", "held", "seen", "taken", "step", "line", "words", "known", "record", "parts", "target"] ["program", "lines", "picks"] (defScope st_values_of) := ⟨rfl, rfl, rfl, by decide +kernel, rfl, by decide +kernel, by decide +kernel⟩
theorem ok_values_of (T : T6 K mg) : HasX w K mg base 4 "values_of" ["program", "lines", "picks"] (sp_values_of K) := by
  obtain ⟨fd, F⟩ := T.fn 18
  have H_read_record := ok_read_record (w := w) (base := base) T
  have H_pick_at := ok_pick_at (w := w) (base := base) T
  have H_made_parts := ok_made_parts (w := w) (base := base) T
  have H_named_value := ok_named_value (w := w) (base := base) T
  have H_given_values := ok_given_values (w := w) (base := base) T
  have H_leaves_call := ok_leaves_call (w := w) (base := base) T
  have gf_enumerate := T.free "enumerate" (by decide +kernel)
  have gf_len := T.free "len" (by decide +kernel)
  have g_MAKING := T.glo "MAKING" (by decide +kernel)
  have g_NAMING := T.glo "NAMING" (by decide +kernel)
  refine has_ofX (st := st_values_of) T F (by decide +kernel) (F.ok sc_values_of (fun vs H Q E h => ?_) (fun cdv A outer s H vs Q E hr h => ⟨_, (
    (pss_cons (ps_set (i := 3) sc_values_of.nd rfl (Or.inl rfl) (pe_lst (pa_cons pe_dnewK pa_nil)))
    (pss_cons (ps_set (i := 4) sc_values_of.nd rfl (Or.inl rfl) (pe_lst pa_nil))
    (pss_cons (ps_set (i := 5) sc_values_of.nd rfl (Or.inl rfl) pe_dnewK)
    (pss_cons (ps_set (i := 6) sc_values_of.nd rfl (Or.inl rfl) (pe_lst pa_nil))
    (pss_cons (ps_set (i := 7) sc_values_of.nd rfl (Or.inl rfl) (pe_lst pa_nil))
    (pss_cons (ps_for (passes_of rfl) rfl (pi_enumT rfl gf_enumerate (pa_cons (pv 1) pa_nil)) (pg_tup rfl (pgs_cons (pg_name (i := 8) sc_values_of.nd rfl (Or.inl rfl)) (pgs_cons (pg_name (i := 9) sc_values_of.nd rfl (Or.inl rfl)) pgs_nil)))
      (pss_cons (ps_par (i := 10) (j := 11) (by rfl) sc_values_of.nd rfl rfl (by decide) rfl rfl (pa_cons (pe_dget hr.u1 (pe_fld (pv 0) rfl) (pv 9) (fun _ _ => rfl)) (pa_cons (pe_ix ix_list (pv 3) (pe_un un_neg pe_int) (fun _ _ => rfl)) pa_nil)) (by rfl))
      (pss_cons (ps_set (i := 12) sc_values_of.nd rfl (Or.inl rfl) (pe_has H_read_record rfl (hr.mono (by decide)) rfl (pa_cons (pv 11) (pa_cons (pv 10) pa_nil))))
      (pss_cons (ps_set (i := 13) sc_values_of.nd rfl (Or.inl rfl) (pe_ifExp (pt_cmpR op_isN (pv 12) pe_non rfl) (pe_tup pa_nil) (pe_dget hr.u1 (pv 5) (pv 12) (fun _ _ => rfl))))
      (pss_cons (ps_expr (pe_bm PySem.F.plainAttrs_list PySem.F.slot_list_append PySem.F.type_list_append mt_append (pv 6) (pa_cons (pv 12) pa_nil)))
      (pss_cons (ps_if (PW.pt (pw_and (pt_cmpR op_eq (pe_ix ix_tup (pv 10) pe_int (fun _ _ => rfl)) pe_str (nomark _)) (pw_and1 (pt_cmpR (op_neD hr.units) (pv 13) (pe_tup pa_nil) (nomark _)))))
        (pss_one (ps_expr (pe_bm PySem.F.plainAttrs_list PySem.F.slot_list_append PySem.F.type_list_append mt_append (pv 7) (pa_cons (pe_hasX H_pick_at rfl (hr.mono (by decide)) rfl (takes_of rfl rfl rfl rfl) (pa_cons (pv 2) (pa_cons (pe_callB call_len_seq rfl gf_len PySem.boot_len (pa_cons (pv 7) pa_nil)) (pa_cons (pe_callB call_len_seq rfl gf_len PySem.boot_len (pa_cons (pv 13) pa_nil)) (pa_cons (pv 8) pa_nil))))) pa_nil))))
        pss_nil)
      (pss_cons (ps_if (pt_cmpR op_in_seq (pe_ix ix_tup (pv 10) pe_int (fun _ _ => rfl)) (pe_gr rfl g_MAKING) rfl)
        (pss_one (ps_dput hr.u1 (pv 5) (pv 8) (pe_has H_made_parts rfl (hr.mono (by decide)) rfl (pa_cons (pv 11) (pa_cons (pv 13) (pa_cons (pv 10) pa_nil)))) rfl))
        pss_nil)
      (pss_one (ps_if (pt_cmpR op_in_seq (pe_ix ix_tup (pv 10) pe_int (fun _ _ => rfl)) (pe_gr rfl g_NAMING) rfl)
        (pss_one (ps_asg (pe_dictStar (pv 11) (pe_ix ix_tup (pv 10) pe_int (fun _ _ => rfl)) (pe_has H_named_value rfl (hr.mono (by decide)) rfl (pa_cons (pv 0) (pa_cons (pv 9) (pa_cons (pv 11) (pa_cons (pv 13) (pa_cons (pv 8) (pa_cons (pv 7) pa_nil)))))))) (pg_sub (pv 3) (pe_un un_neg pe_int) set_list)))
        (pss_one (ps_if (pt_cmp (pc_din hr.u1 (pv 9) (pe_fld (pv 0) rfl)))
          (pss_cons (ps_expr (pe_bm PySem.F.plainAttrs_list PySem.F.slot_list_append PySem.F.type_list_append mt_append (pv 3) (pa_cons (pe_has H_given_values rfl (hr.mono (by decide)) rfl (pa_cons (pv 0) (pa_cons (pv 9) (pa_cons (pv 11) pa_nil)))) pa_nil)))
          (pss_one (ps_expr (pe_bm PySem.F.plainAttrs_list PySem.F.slot_list_append PySem.F.type_list_append mt_append (pv 4) (pa_cons (pe_ifExp (pt_cmpR op_eq (pe_ix ix_tup (pv 10) pe_int (fun _ _ => rfl)) pe_str (nomark _)) (pe_ix ix_tup (pv 10) pe_int (fun _ _ => rfl)) pe_non) pa_nil)))))
          (pss_one (ps_if (PW.pt (pw_and (pt_val (pe_has H_leaves_call rfl (hr.mono (by decide)) rfl (pa_cons (pv 0) (pa_cons (pv 9) pa_nil)))) (pw_and1 (pt_cmpR (op_neD hr.units) (pv 4) (pe_lst pa_nil) (nomark _)))))
            (pss_cons (ps_expr (pe_bm0 PySem.F.plainAttrs_list PySem.F.slot_list_pop PySem.F.type_list_pop mt_pop (pv 3)))
            (pss_cons (ps_set (i := 14) sc_values_of.nd rfl (Or.inl rfl) (pe_bm0 PySem.F.plainAttrs_list PySem.F.slot_list_pop PySem.F.type_list_pop mt_pop (pv 4)))
            (pss_one (ps_if (pt_cmpR op_notN (pv 14) pe_non rfl)
              (pss_one (ps_asg (pe_dictStar (pe_ix ix_list (pv 3) (pe_un un_neg pe_int) (fun _ _ => rfl)) (pv 14) (pe_ifExp (pt_cmpR op_eq (pe_ix ix_tup (pv 10) pe_int (fun _ _ => rfl)) pe_str (nomark _)) (pe_dget1 hr.u1 (pv 11) (pe_ix ix_tup (pv 10) pe_int (fun _ _ => rfl)) ⟨rfl, rfl, rfl, rfl⟩) pe_non)) (pg_sub (pv 3) (pe_un un_neg pe_int) set_list)))
              pss_nil))))
            pss_nil)))))))))))))
    (pss_one (ps_ret (pe_tup (pa_cons (pv 5) (pa_cons (pv 6) (pa_cons (pv 7) (pa_cons (pe_ix ix_list (pv 3) (pe_un un_neg pe_int) (fun _ _ => rfl)) pa_nil)))))))))))))), ?_⟩)) fun _ _ _ _ _ _ us hl => match us, hl with | [_, _, _], _ => rfl
  · obtain ⟨p, tl, pt, z, r, ls, picks, S, m, rfl, _⟩ := h
    rfl
  · obtain ⟨p, tl, pt, z, r, ls, picks, S, m, rfl, hp, htl, hpt, hll, ⟨hle, hstop, hS0, hst, hsm⟩, qb, q⟩ := h
    clear F
    have hC := T.cls "Program" (by decide +kernel)
    have hA1 := T.noat "Program" "callees" (by decide +kernel)
    have hA2 := T.noat "Program" "rows" (by decide +kernel)
    intro kd nkd
    refine ⟨by rw [sizeLine_eq]; show 1 ≤ 16777216; decide, fun nl nnl => ?_⟩
    refine ⟨Nat.zero_le _, fun tg ntg => ?_⟩
    intro hl nhl
    refine ⟨Nat.zero_le _, fun sl nsl => ⟨Nat.zero_le _, fun kl nkl => ?_⟩⟩
    have d0 : upd H kd (.dK []) kd = some (.dK []) := upd_same
    have x1 := extH_put (o := .dK []) nkd
    generalize upd H kd (.dK []) = G1 at d0 x1 nnl ntg nhl nsl nkl ⊢
    have d1 : upd G1 nl (.lst [.ref kd]) nl = some (.lst [.ref kd]) := upd_same
    have x2 := extH_put (o := .lst [.ref kd]) nnl
    have c1 : H nl = none := x1.none nnl
    have d01 := x2 _ _ d0
    generalize upd G1 nl (.lst [.ref kd]) = G2 at d1 x2 d01 ntg nhl nsl nkl ⊢
    have d2 : upd G2 tg (.lst []) tg = some (.lst []) := upd_same
    have x3 := extH_put (o := .lst []) ntg
    have c2 : H tg = none := (x1.trans x2).none ntg
    have nnt := ne_of_none d1 ntg
    have d02 := x3 _ _ d01
    have d12 := x3 _ _ d1
    generalize upd G2 tg (.lst []) = G3 at d2 x3 d02 d12 nhl nsl nkl ⊢
    have d3 : upd G3 hl (.dK []) hl = some (.dK []) := upd_same
    have x4 := extH_put (o := .dK []) nhl
    have c3 : H hl = none := ((x1.trans x2).trans x3).none nhl
    have nnh := ne_of_none d12 nhl
    have nth := ne_of_none d2 nhl
    have nkh := ne_of_none d02 nhl
    have d03 := x4 _ _ d02
    have d13 := x4 _ _ d12
    have d23 := x4 _ _ d2
    generalize upd G3 hl (.dK []) = G4 at d3 x4 d03 d13 d23 nsl nkl ⊢
    have d4 : upd G4 sl (.lst []) sl = some (.lst []) := upd_same
    have x5 := extH_put (o := .lst []) nsl
    have c4 : H sl = none := (((x1.trans x2).trans x3).trans x4).none nsl
    have nns := ne_of_none d13 nsl
    have nts := ne_of_none d23 nsl
    have nhs := ne_of_none d3 nsl
    have d04 := x5 _ _ d03
    have d14 := x5 _ _ d13
    have d24 := x5 _ _ d23
    have d34 := x5 _ _ d3
    generalize upd G4 sl (.lst []) = G5 at d4 x5 d04 d14 d24 d34 nkl ⊢
    have x6 := extH_put (o := .lst []) nkl
    have c5 : H kl = none := ((((x1.trans x2).trans x3).trans x4).trans x5).none nkl
    have own : VOwn H nl tg hl sl kl := ⟨c1, c2, c3, c4, c5, nnt, nnh, nns, ne_of_none d14 nkl, nth, nts, ne_of_none d24 nkl, nhs, ne_of_none d34 nkl, ne_of_none d4 nkl⟩
    have inv0 : VInv K H nl tg hl sl kl (S 0).below (S 0).tgs (S 0).kn (S 0).held (S 0).seen (S 0).taken (upd G5 kl (.lst [])) := by
      rw [hS0]
      exact ⟨(((((x1.trans x2).trans x3).trans x4).trans x5).trans x6), ⟨kd, [], x6 _ _ d14, x6 _ _ d04, nkh, .nil⟩, x6 _ _ d24, ⟨[], x6 _ _ d34, .nil⟩, x6 _ _ d4, upd_same⟩
    clear x6 d04 d14 d24 d34 d4 x5 d03 d13 d23 d3 x4
    generalize upd G5 kl (.lst []) = G0 at inv0 ⊢
    refine ⟨_, rfl, tl, _, rfl, sqT_extH inv0.ext htl, for_it walk_enumT (fun i σ G => ∃ v8 v9 v10 v11 v12 v13 v14, σ = [some (.ref p), some (.ref tl), some (.ref pt), some (.ref nl), some (.ref tg), some (.ref hl), some (.ref sl), some (.ref kl), v8, v9, v10, v11, v12, v13, v14] ∧ i ≤ m ∧ VInv K H nl tg hl sl kl (S i).below (S i).tgs (S i).kn (S i).held (S i).seen (S i).taken G)
      ⟨_, _, _, _, _, _, _, rfl, Nat.zero_le _, inv0⟩ (fun i σ G _ ⟨_, _, _, _, _, _, _, _, _, e⟩ => sqT_extH e.ext htl) ?_ ?_⟩
    · rintro i x σ G G' hi ⟨v8, v9, v10, v11, v12, v13, v14, rfl, him, inv⟩ ⟨t, y, rfl, nt, rfl, hx⟩
      rw [List.getElem?_map] at hx
      obtain ⟨l, hl', rfl⟩ := Option.map_eq_some_iff.mp hx
      have hil : i < ls.length := (List.getElem?_eq_some_iff.mp hl').1
      by_cases hlt : i < m
      case neg =>
        have him : i = m := by omega
        subst him
        obtain ⟨⟨ws, rec, parts, hrow, hrec, hir, hpo, hpr, hne, hpk⟩⟩ := hstop l hl'
        obtain ⟨sm1, sm2, sm3, sm4, sm5, sm6, sm7⟩ := hsm i him
        obtain ⟨e3, tt⟩ : ExtH G (upd G t (.tup [.int ((i : Nat) : Int), .int l])) ∧ SqT K (upd G t (.tup [.int ((i : Nat) : Int), .int l])) t [.int ((i : Nat) : Int), .int l] := ⟨extH_put nt, SqT.of upd_same⟩
        have inv3 := inv.next e3
        generalize upd G t (.tup [.int ((i : Nat) : Int), .int l]) = G3 at inv3 tt ⊢
        obtain ⟨dx3, fs3, hp3, P3⟩ := hp.ext inv3.ext
        obtain ⟨c3, _, lk3, _, dg3, wt, rfl, hw3⟩ := P3.rows.get kI_inj hrow
        obtain ⟨kd', bs3, hn3, hkd3, nkdh, hbs3⟩ := inv3.names
        refine ⟨t, _, rfl, tt, rfl, _, _, rfl, _, _, rfl, rfl, ?_⟩
        refine ⟨_, rfl, _, _, _, _, _, rfl, hp3, hC, hA2, lk3, _, rfl, _, _, rfl, dg3, _, rfl, _, rfl, nl, _, -1, .ref kd', rfl, rfl, SqL.of hn3, at_last, _, _, rfl, ?_⟩
        refine ⟨_, rfl, _, rfl, kd', wt, (S i).kn, ("some" : Str) :: ws, rec, rfl, hkd3, hw3, hrec, fun G4 e4 => ?_⟩
        have i0 : atI ((("some" : Str) :: ws).map V.str) 0 = some (V.str "some") := atI_nat (j := 0) rfl
        have inv4 := inv3.next e4
        have hw4 := sqT_extH e4 hw3
        try dsimp only
        refine seq_cut (C := fun σ' G' => ∃ pa, σ' = [some (.ref p), some (.ref tl), some (.ref pt), some (.ref nl), some (.ref tg), some (.ref hl), some (.ref sl), some (.ref kl), some (.int ((i : Nat) : Int)), some (.int l), some (.ref wt), some (.ref kd'), some rec, some (.ref pa), v14] ∧ SqT K G' pa parts ∧ ExtH G4 G') ?_ ?_
        · rintro σ' G5 ⟨pa, rfl, hpa, e5⟩
          have inv5 := inv4.next e5
          have hw5 := sqT_extH e5 hw4
          refine ⟨_, rfl, .inl ⟨rfl, _, SqL.of inv5.seen⟩, _, rfl, sl, _, _, rfl, rfl, inv5.seen, by rw [sizeLine_eq]; omega, ?_⟩
          have inv6 := inv5.setS (seen' := (S i).seen ++ [rec]) own
          have tx6 : Tx G5 (upd G5 sl (.lst ((S i).seen ++ [rec]))) := tx_upd inv5.seen rfl
          have hw6 := tx6.sqT hw5
          have hpa6 := tx6.sqT hpa
          generalize upd G5 sl (.lst ((S i).seen ++ [rec])) = G6 at inv6 hw6 hpa6 ⊢
          refine ⟨_, rfl, wt, _, 0, _, rfl, rfl, hw6, i0, rfl, _, rfl, iteT ?_⟩
          refine ⟨_, rfl, Nat.zero_le _, fun t7 nt7 => ⟨.tuple (parts.map recD), .tuple [], dp_rec (sqT_extH (extH_put nt7) hpa6) hpr, .tup (xs := []) (SqT.of upd_same) .nil, shapedRec _, rfl, ?_⟩⟩
          have e7 := extH_put (o := .tup []) nt7
          generalize upd G6 t7 (.tup []) = G7 at e7 ⊢
          have inv7 := inv6.next e7
          rw [eqvNilT, empty_rec]
          refine ⟨_, rfl, ifT (by rw [decide_eq_false hne]; rfl) ?_⟩
          have htk7 := inv7.taken
          exact ⟨_, rfl, .inl ⟨rfl, _, SqL.of htk7⟩, _, rfl, _, rfl, kl, _, rfl, .inl (SqL.of htk7), _, rfl, pa, _, rfl, .inr (sqT_extH e7 hpa6), _, rfl, pt, picks, (S i).taken.length, parts.length, ((i : Nat) : Int), by simp only [List.length_map, List.append_nil], sqT_extH inv7.ext hpt, (fun pk' h' => by rw [hpk] at h'; cases h'), fun _ H' d x hd => qb hil H' d (inv7.ext.trans x) hd⟩
        · intro rr hrr
          refine ⟨_, rfl, rfl, _, rfl, ?_⟩
          cases rec with
          | non =>
            cases hpo
            exact ifT rfl ⟨Nat.zero_le _, fun t5 nt5 => hrr _ _ ⟨t5, rfl, SqT.of upd_same, extH_put nt5⟩⟩
          | int k =>
            obtain ⟨kv, hkv, akv⟩ := inv4.held
            obtain ⟨u, hu, pa, rfl, hpa⟩ := akv.get kI_inj hpo
            exact ifF rfl ⟨_, rfl, _, rfl, hl, _, rfl, by rw [← hu]; exact DGet.k (k := .inl k) hkv, hrr _ _ ⟨pa, rfl, hpa, .refl⟩⟩
          | _ => cases hir
      obtain ⟨⟨kw, ws, rec, parts, taken, hrow, hwl, hrec, hir, hpo, hpr, hpl, htk, hhn, hend⟩⟩ := hst i l hlt hl'
      obtain ⟨sm1, sm2, sm3, sm4, sm5, sm6, sm7⟩ := hsm i him
      obtain ⟨e3, tt⟩ : ExtH G (upd G t (.tup [.int ((i : Nat) : Int), .int l])) ∧ SqT K (upd G t (.tup [.int ((i : Nat) : Int), .int l])) t [.int ((i : Nat) : Int), .int l] := ⟨extH_put nt, SqT.of upd_same⟩
      have inv3 := inv.next e3
      generalize upd G t (.tup [.int ((i : Nat) : Int), .int l]) = G3 at inv3 tt ⊢
      obtain ⟨dx3, fs3, hp3, P3⟩ := hp.ext inv3.ext
      obtain ⟨c3, _, lk3, _, dg3, wt, rfl, hw3⟩ := P3.rows.get kI_inj hrow
      obtain ⟨kd', bs3, hn3, hkd3, nkdh, hbs3⟩ := inv3.names
      refine ⟨t, _, rfl, tt, rfl, _, _, rfl, _, _, rfl, rfl, ?_⟩
      refine ⟨_, rfl, _, _, _, _, _, rfl, hp3, hC, hA2, lk3, _, rfl, _, _, rfl, dg3, _, rfl, _, rfl, nl, _, -1, .ref kd', rfl, rfl, SqL.of hn3, at_last, _, _, rfl, ?_⟩
      refine ⟨_, rfl, _, rfl, kd', wt, (S i).kn, kw :: ws, rec, rfl, hkd3, hw3, hrec, fun G4 e4 => ?_⟩
      have i0 : atI ((kw :: ws).map V.str) 0 = some (V.str kw) := atI_nat (j := 0) rfl
      have inv4 := inv3.next e4
      have hw4 := sqT_extH e4 hw3
      have hkd4 := e4 _ _ hkd3
      have hn4 := e4 _ _ hn3
      try dsimp only
      refine seq_cut (C := fun σ' G' => ∃ pa, σ' = [some (.ref p), some (.ref tl), some (.ref pt), some (.ref nl), some (.ref tg), some (.ref hl), some (.ref sl), some (.ref kl), some (.int ((i : Nat) : Int)), some (.int l), some (.ref wt), some (.ref kd'), some rec, some (.ref pa), v14] ∧ SqT K G' pa parts ∧ ExtH G4 G') ?_ ?_
      · rintro σ' G5 ⟨pa, rfl, hpa, e5⟩
        have inv5 := inv4.next e5
        have hw5 := sqT_extH e5 hw4
        have hkd5 := e5 _ _ hkd4
        refine ⟨_, rfl, .inl ⟨rfl, _, SqL.of inv5.seen⟩, _, rfl, sl, _, _, rfl, rfl, inv5.seen, by rw [sizeLine_eq]; omega, ?_⟩
        have nks : kd' ≠ sl := fun z => by rw [z, inv5.seen] at hkd5; cases hkd5
        have inv6 := inv5.setS (seen' := (S i).seen ++ [rec]) own
        have tx6 : Tx G5 (upd G5 sl (.lst ((S i).seen ++ [rec]))) := tx_upd inv5.seen rfl
        have hw6 := tx6.sqT hw5
        have hpa6 := tx6.sqT hpa
        have hkd6 : upd G5 sl (.lst ((S i).seen ++ [rec])) kd' = some (.dK (S i).kn) := by rw [upd_ne nks]; exact hkd5
        generalize upd G5 sl (.lst ((S i).seen ++ [rec])) = G6 at inv6 hw6 hpa6 hkd6 ⊢
        try dsimp only
        refine seq_cut (C := fun σ' G' => σ' = [some (.ref p), some (.ref tl), some (.ref pt), some (.ref nl), some (.ref tg), some (.ref hl), some (.ref sl), some (.ref kl), some (.int ((i : Nat) : Int)), some (.int l), some (.ref wt), some (.ref kd'), some rec, some (.ref pa), v14] ∧ SqT K G' pa parts ∧ SqT K G' wt ((kw :: ws).map V.str) ∧ G' kd' = some (.dK (S i).kn) ∧ VInv K H nl tg hl sl kl (S i).below (S i).tgs (S i).kn (S i).held ((S i).seen ++ [rec]) taken G') ?_ ?_
        · rintro σ' G7 ⟨rfl, hpa7, hw7, hkd7, inv7⟩
          try dsimp only
          refine seq_cut (C := fun σ' G' => σ' = [some (.ref p), some (.ref tl), some (.ref pt), some (.ref nl), some (.ref tg), some (.ref hl), some (.ref sl), some (.ref kl), some (.int ((i : Nat) : Int)), some (.int l), some (.ref wt), some (.ref kd'), some rec, some (.ref pa), v14] ∧ SqT K G' pa parts ∧ SqT K G' wt ((kw :: ws).map V.str) ∧ G' kd' = some (.dK (S i).kn) ∧ VInv K H nl tg hl sl kl (S i).below (S i).tgs (S i).kn (heldOf (S i).kn ((i : Nat) : Int) (kw :: ws) parts (S i).held) ((S i).seen ++ [rec]) taken G') ?_ ?_
          · rintro σ' G8 ⟨rfl, hpa8, hw8, hkd8, inv8⟩
            refine ⟨_, rfl, wt, _, 0, _, rfl, rfl, hw8, i0, _, _, rfl, .inr (T.na G8), rfl, by decide, _, rfl, ?_⟩
            rw [show [V.str "none", V.str "new", V.str "with", V.str "get", V.str "some", V.str "let"] = naming.map V.str from rfl]
            rcases hend with ⟨hna, x, v, hx0, hv, hS1⟩ | ⟨hna, kn9, bw9, ts9, hve, hS1⟩
            · refine ifT (inV_str.trans (decide_eq_true hna)) ?_
              intro pd npd
              have hkdp : kd' ≠ pd := ne_of_none hkd8 npd
              have e9 := extH_put (o := .dK []) npd
              have hkn1 : (S i).kn.length < sizeLine := by rw [sizeLine_eq]; omega
              refine ⟨_, rfl, kd', (S i).kn, rfl, upd_same, e9 _ _ hkd8, hkdp, hkn1, fun p2 np2 => ?_⟩
              have hpn : G8 pd = none := npd
              have e10 : ExtH G8 (upd (upd G8 pd (.dK [])) pd (.dK (S i).kn)) := extH_upd e9 hpn
              have d10 : upd (upd G8 pd (.dK [])) pd (.dK (S i).kn) pd = some (.dK (S i).kn) := upd_same
              generalize upd (upd G8 pd (.dK [])) pd (.dK (S i).kn) = G10 at e10 d10 np2 ⊢
              have e11 := e10.trans (extH_put (o := .dK []) np2)
              have hpp2 : pd ≠ p2 := ne_of_none d10 np2
              have d11 := extH_put (o := .dK []) np2 _ _ d10
              have d12 : upd G10 p2 (.dK []) p2 = some (.dK []) := upd_same
              generalize upd G10 p2 (.dK []) = G11 at e11 d11 d12 ⊢
              have inv11 := inv8.next e11
              refine ⟨_, rfl, wt, _, 1, _, rfl, rfl, sqT_extH e11 hw8, row_at hx0, ?_⟩
              refine ⟨_, rfl, _, rfl, _, rfl, _, rfl, _, rfl, _, rfl, p, kd', pa, kl, z, r, l, ((i : Nat) : Int), (S i).kn, parts, taken, kw :: ws, v, rfl, hp.ext inv11.ext, hrow, e11 _ _ hkd8, sqT_extH e11 hpa8, hpr, SqL.of inv11.taken, hv, fun G12 e12 => ?_⟩
              have inv12 := inv11.next e12
              have l12 : ((S i).kn).length < sizeLine := hkn1
              refine ⟨.inr x, (S i).kn, rfl, e12 _ _ d12, e12 _ _ d11, l12, ?_⟩
              have hp2n : ∀ {a o}, G8 a = some o → a ≠ p2 := fun {a o} h => ne_of_none (e10 _ _ h) np2
              have hpdn : ∀ {a o}, G8 a = some o → a ≠ pd := fun {a o} h => ne_of_none h hpn
              have e13 : ExtH G8 (upd (upd G12 p2 (.dK [(.inr x, v)])) pd (.dK (putK (S i).kn (.inr x) v))) := fun a o h => by
                rw [upd_ne (hpdn h), upd_ne (hp2n h)]
                exact e12 _ _ (e11 _ _ h)
              have d13 : upd (upd G12 p2 (.dK [(.inr x, v)])) pd (.dK (putK (S i).kn (.inr x) v)) pd = some (.dK (putK (S i).kn (.inr x) v)) := upd_same
              generalize upd (upd G12 p2 (.dK [(.inr x, v)])) pd (.dK (putK (S i).kn (.inr x) v)) = G13 at e13 d13 ⊢
              have inv13 := inv8.next e13
              obtain ⟨kd9, bs9, hn13, _, _, hbs9⟩ := inv13.names
              have npdh : pd ≠ hl := fun z => by
                obtain ⟨kv, hkv, _⟩ := inv8.held
                rw [← z, hpn] at hkv; cases hkv
              refine ⟨_, rfl, _, rfl, nl, _, -1, bs9.length, rfl, rfl, hn13, (by rw [List.length_append]; exact ixN_last), _, _, _, _, _, _, _, rfl, hlt, ?_⟩
              have inv14 := inv13.setN (kd := pd) (kn' := putK (S i).kn (.inr x) v) own d13 npdh hbs9
              rw [show (bs9 ++ [V.ref kd9]).set bs9.length (.ref pd) = bs9 ++ [.ref pd] by simp]
              rw [hS1]
              exact inv14
            · refine ifF (inV_str.trans (decide_eq_false hna)) ?_
              obtain ⟨dx8, fs8, hp8, P8⟩ := hp.ext inv8.ext
              have fin : ∀ G9, VInv K H nl tg hl sl kl bw9 ts9 kn9 (heldOf (S i).kn ((i : Nat) : Int) (kw :: ws) parts (S i).held) ((S i).seen ++ [rec]) taken G9 → VInv K H nl tg hl sl kl (S (i + 1)).below (S (i + 1)).tgs (S (i + 1)).kn (S (i + 1)).held (S (i + 1)).seen (S (i + 1)).taken G9 := fun G9 h9 => by
                rw [hS1]
                exact h9
              obtain ⟨kd8, bs8, hn8, hkd8', nkd8, hbs8⟩ := inv8.names
              have lbs8 := Paired.length hbs8
              cases hve with
              | @call g ps x e1 e2 e3 e4 e5 e6 e7 e8 e9 =>
                obtain ⟨cc, _, lkc, _, dgc, rfl⟩ := P8.callees.get kI_inj e5
                refine ⟨_, rfl, _, rfl, _, _, _, _, _, rfl, hp8, hC, hA1, lkc, cc, _, rfl, dgc, true, rfl, ifT rfl ?_⟩
                refine ⟨_, rfl, .inl ⟨rfl, _, SqL.of hn8⟩, _, rfl, _, rfl, _, rfl, p, kd', z, r, l, (S i).kn, kw, ws, ps, g, rfl, hp.ext inv8.ext, hrow, e5, e6, e7, hkd8, (by rw [if_pos e1]; exact e4), e8, e9, fun G9 D x9 hD hDk => ?_⟩
                have inv9 := inv8.next x9
                have hn9 := x9 _ _ hn8
                refine ⟨nl, _, _, rfl, rfl, hn9, (by rw [sizeLine_eq, List.length_append]; simp only [List.length_singleton]; omega), ?_⟩
                have nDh : D ≠ hl := fun z => by
                  obtain ⟨kv, hkv, _⟩ := inv8.held
                  rw [← z, hD] at hkv; cases hkv
                have hbs9 : Paired (knAt hl G9) (bs8 ++ [.ref kd8]) ((S i).below ++ [(S i).kn]) := Paired.snoc (kns_ext x9 hbs8) ⟨kd8, rfl, x9 _ _ hkd8', nkd8⟩
                have inv10 := inv9.setN (kd := D) own hDk nDh hbs9
                have tx10 : Tx G9 (upd G9 nl (.lst ((bs8 ++ [.ref kd8]) ++ [.ref D]))) := tx_upd hn9 rfl
                have hw10 := tx10.sqT (sqT_extH x9 hw8)
                generalize upd G9 nl (.lst ((bs8 ++ [.ref kd8]) ++ [.ref D])) = G10 at inv10 hw10 ⊢
                have htg := inv10.tg
                refine ⟨_, rfl, .inl ⟨rfl, _, SqL.of htg⟩, _, rfl, wt, _, 0, _, rfl, rfl, hw10, i0, rfl, _, rfl, ?_⟩
                refine ifT (by rw [dec_str]; exact decide_eq_true e1) ⟨_, rfl, wt, _, 1, _, rfl, rfl, hw10, row_at e2, tg, _, _, rfl, rfl, htg, by rw [sizeLine_eq, List.length_map]; omega, ?_⟩
                have inv11 := inv10.setT (ts' := (S i).tgs ++ [some x]) own
                rw [List.map_append] at inv11
                exact ⟨_, _, _, _, _, _, _, rfl, hlt, fin _ inv11⟩
              | @do_ g ps e1 e4 e5 e6 e7 e8 e9 =>
                obtain ⟨cc, _, lkc, _, dgc, rfl⟩ := P8.callees.get kI_inj e5
                refine ⟨_, rfl, _, rfl, _, _, _, _, _, rfl, hp8, hC, hA1, lkc, cc, _, rfl, dgc, true, rfl, ifT rfl ?_⟩
                refine ⟨_, rfl, .inl ⟨rfl, _, SqL.of hn8⟩, _, rfl, _, rfl, _, rfl, p, kd', z, r, l, (S i).kn, kw, ws, ps, g, rfl, hp.ext inv8.ext, hrow, e5, e6, e7, hkd8, (by rw [if_neg e1]; exact e4), e8, e9, fun G9 D x9 hD hDk => ?_⟩
                have inv9 := inv8.next x9
                have hn9 := x9 _ _ hn8
                refine ⟨nl, _, _, rfl, rfl, hn9, (by rw [sizeLine_eq, List.length_append]; simp only [List.length_singleton]; omega), ?_⟩
                have nDh : D ≠ hl := fun z => by
                  obtain ⟨kv, hkv, _⟩ := inv8.held
                  rw [← z, hD] at hkv; cases hkv
                have hbs9 : Paired (knAt hl G9) (bs8 ++ [.ref kd8]) ((S i).below ++ [(S i).kn]) := Paired.snoc (kns_ext x9 hbs8) ⟨kd8, rfl, x9 _ _ hkd8', nkd8⟩
                have inv10 := inv9.setN (kd := D) own hDk nDh hbs9
                have tx10 : Tx G9 (upd G9 nl (.lst ((bs8 ++ [.ref kd8]) ++ [.ref D]))) := tx_upd hn9 rfl
                have hw10 := tx10.sqT (sqT_extH x9 hw8)
                generalize upd G9 nl (.lst ((bs8 ++ [.ref kd8]) ++ [.ref D])) = G10 at inv10 hw10 ⊢
                have htg := inv10.tg
                refine ⟨_, rfl, .inl ⟨rfl, _, SqL.of htg⟩, _, rfl, wt, _, 0, _, rfl, rfl, hw10, i0, rfl, _, rfl, ?_⟩
                refine ifF (by rw [dec_str]; exact decide_eq_false e1) ⟨tg, _, _, rfl, rfl, htg, by rw [sizeLine_eq, List.length_map]; omega, ?_⟩
                have inv11 := inv10.setT (ts' := (S i).tgs ++ [none]) own
                rw [List.map_append] at inv11
                exact ⟨_, _, _, _, _, _, _, rfl, hlt, fin _ inv11⟩
              | @stay b e1 e2 e3 =>
                obtain ⟨cc, lkc, _, dgc⟩ := P8.callees.non kI_inj e1
                refine ⟨_, rfl, _, rfl, _, _, _, _, _, rfl, hp8, hC, hA1, lkc, cc, _, rfl, dgc, false, rfl, ifF rfl ?_⟩
                refine ⟨_, rfl, _, rfl, p, z, r, l, b, rfl, hp.ext inv8.ext, e2, b, rfl, ?_⟩
                cases b with
                | false => exact iteF (ifF rfl ⟨_, _, _, _, _, _, _, rfl, hlt, fin _ inv8⟩)
                | true =>
                  have e3 : (S i).tgs = [] := e3.resolve_left (fun z => by cases z)
                  have htg : G8 tg = some (.lst []) := by have := inv8.tg; rw [e3] at this; exact this
                  refine iteT ⟨_, rfl, Nat.zero_le _, fun t9 nt9 => ⟨.list [], .list [], .lst (xs := []) (SqL.of (extH_put nt9 _ _ htg)) .nil, .lst (xs := []) (SqL.of upd_same) .nil, rfl, rfl, false, rfl, ifF rfl ?_⟩⟩
                  exact ⟨_, _, _, _, _, _, _, rfl, hlt, fin _ (inv8.next (extH_put nt9))⟩
              | @give bl k0 ts x y e1 e2 e3 e4 e5 e6 e7 =>
                obtain ⟨cc, lkc, _, dgc⟩ := P8.callees.non kI_inj e3
                refine ⟨_, rfl, _, rfl, _, _, _, _, _, rfl, hp8, hC, hA1, lkc, cc, _, rfl, dgc, false, rfl, ifF rfl ?_⟩
                refine ⟨_, rfl, _, rfl, p, z, r, l, true, rfl, hp.ext inv8.ext, e4, true, rfl, ?_⟩
                refine iteT ⟨_, rfl, Nat.zero_le _, fun t9 nt9 => ⟨.list ((S i).tgs.map tgD), .list [], .lst (SqL.of (extH_put nt9 _ _ inv8.tg)) (dpAll_tgs _), .lst (xs := []) (SqL.of upd_same) .nil, shaped_tgs sm7, rfl, true, (by rw [eqvNilL, e6]; simp), ifT rfl ?_⟩⟩
                have inv9 := inv8.next (extH_put (o := .lst []) nt9)
                have hw9 := sqT_extH (extH_put (o := .lst []) nt9) hw8
                have hkd9 := extH_put (o := .lst []) nt9 _ _ hkd8
                generalize upd G8 t9 (.lst []) = G9 at inv9 hw9 hkd9 ⊢
                obtain ⟨kd9, bs9, hn9, hkd9', nkd9, hbs9⟩ := inv9.names
                rw [e5] at hbs9
                obtain ⟨bs', v', rfl, hbs', m, rfl, hm, nmh⟩ := paired_snoc_inv hbs9
                refine ⟨_, rfl, .inl ⟨rfl, _, SqL.of hn9⟩, nl, _, .ref kd9, rfl, rfl, hn9, (by rw [← List.getLast?_eq_getElem?]; simp), ?_⟩
                rw [List.dropLast_concat]
                have inv10 := inv9.setN (kd := m) own hm nmh hbs'
                have tx10 : Tx G9 (upd G9 nl (.lst (bs' ++ [.ref m]))) := tx_upd hn9 rfl
                have hkn : kd' ≠ nl := fun z => by rw [z, hn9] at hkd9; cases hkd9
                have hkd10 : upd G9 nl (.lst (bs' ++ [.ref m])) kd' = some (.dK (S i).kn) := by rw [upd_ne hkn]; exact hkd9
                have hw10 := tx10.sqT hw9
                generalize upd G9 nl (.lst (bs' ++ [.ref m])) = G10 at inv10 hw10 hkd10 ⊢
                have htg := inv10.tg
                rw [e6] at htg
                rw [List.map_append] at htg
                refine ⟨_, rfl, .inl ⟨rfl, _, SqL.of htg⟩, tg, _, .str x, rfl, rfl, htg, (by rw [← List.getLast?_eq_getElem?]; simp [ownV]), ?_⟩
                have edl : (ts9.map ownV ++ [some x].map ownV).dropLast = ts9.map ownV := by rw [List.map_singleton, List.dropLast_concat]
                rw [edl]
                have inv11 := inv10.setT (ts' := ts9) own
                have hkt : kd' ≠ tg := fun z => by rw [z, htg] at hkd10; cases hkd10
                have tx11 : Tx G10 (upd G10 tg (.lst (ts9.map ownV))) := tx_upd htg rfl
                have hkd11 : upd G10 tg (.lst (ts9.map ownV)) kd' = some (.dK (S i).kn) := by rw [upd_ne hkt]; exact hkd10
                have hw11 := tx11.sqT hw10
                generalize upd G10 tg (.lst (ts9.map ownV)) = G11 at inv11 hw11 hkd11 ⊢
                refine ⟨_, rfl, rfl, _, rfl, ifT rfl ?_⟩
                intro pd npd
                obtain ⟨kdz, bsz, hnz, hkz, nkz, hbz⟩ := inv11.names
                have e12 := extH_put (o := .dK []) npd
                have hzp : kdz ≠ pd := ne_of_none hkz npd
                have lz : k0.length < sizeLine := by rw [sizeLine_eq]; omega
                refine ⟨_, rfl, _, rfl, nl, _, -1, .ref kdz, rfl, rfl, SqL.of (e12 _ _ hnz), at_last, kdz, k0, rfl, upd_same, e12 _ _ hkz, hzp, lz, fun p2 np2 => ?_⟩
                have hpn : G11 pd = none := npd
                have e13 : ExtH G11 (upd (upd G11 pd (.dK [])) pd (.dK k0)) := extH_upd e12 hpn
                have d13 : upd (upd G11 pd (.dK [])) pd (.dK k0) pd = some (.dK k0) := upd_same
                generalize upd (upd G11 pd (.dK [])) pd (.dK k0) = G13 at e13 d13 np2 ⊢
                have e14 := e13.trans (extH_put (o := .dK []) np2)
                have hpp2 : pd ≠ p2 := ne_of_none d13 np2
                have d14 := extH_put (o := .dK []) np2 _ _ d13
                have d14' : upd G13 p2 (.dK []) p2 = some (.dK []) := upd_same
                have hp2n : ∀ {a o}, G11 a = some o → a ≠ p2 := fun {a o} h => ne_of_none (e13 _ _ h) np2
                have hpdn : ∀ {a o}, G11 a = some o → a ≠ pd := fun {a o} h => ne_of_none h hpn
                generalize upd G13 p2 (.dK []) = G14 at e14 d14 d14' ⊢
                refine ⟨_, rfl, _, rfl, wt, _, 0, _, rfl, rfl, sqT_extH e14 hw11, i0, rfl, _, rfl, ifT (by rw [dec_str]; exact decide_eq_true e1) ?_⟩
                refine ⟨_, rfl, kd', rfl, .inl ⟨_, .inl (e14 _ _ hkd11)⟩, _, rfl, wt, _, 1, _, rfl, rfl, sqT_extH e14 hw11, row_at e2, _, get_dg (e14 _ _ hkd11) y, .inr x, k0, rfl, d14', d14, lz, ?_⟩
                have e15 : ExtH G11 (upd (upd G14 p2 (.dK [(.inr x, getN (S i).kn y)])) pd (.dK (putK k0 (.inr x) (getN (S i).kn y)))) := fun a o h => by
                  rw [upd_ne (hpdn h), upd_ne (hp2n h)]
                  exact e14 _ _ h
                have d15 : upd (upd G14 p2 (.dK [(.inr x, getN (S i).kn y)])) pd (.dK (putK k0 (.inr x) (getN (S i).kn y))) pd = some (.dK (putK k0 (.inr x) (getN (S i).kn y))) := upd_same
                have inv15 := inv11.next e15
                show ∃ _, _
                have npdh : pd ≠ hl := fun z => by
                  obtain ⟨kv, hkv, _⟩ := inv11.held
                  rw [← z, hpn] at hkv; cases hkv
                have hn15 := e15 _ _ hnz
                refine ⟨_, rfl, _, rfl, nl, _, -1, bsz.length, rfl, rfl, hn15, (by rw [List.length_append]; exact ixN_last), _, _, _, _, _, _, _, rfl, hlt, ?_⟩
                have inv16 := inv15.setN (kd := pd) (kn' := putK k0 (.inr x) (getN (S i).kn y)) own d15 npdh (kns_ext e15 hbz)
                rw [show (bsz ++ [V.ref kdz]).set bsz.length (.ref pd) = bsz ++ [.ref pd] by simp]
                exact fin _ inv16
              | @back bl k0 ts x e1 e3 e4 e5 e6 e7 =>
                obtain ⟨cc, lkc, _, dgc⟩ := P8.callees.non kI_inj e3
                refine ⟨_, rfl, _, rfl, _, _, _, _, _, rfl, hp8, hC, hA1, lkc, cc, _, rfl, dgc, false, rfl, ifF rfl ?_⟩
                refine ⟨_, rfl, _, rfl, p, z, r, l, true, rfl, hp.ext inv8.ext, e4, true, rfl, ?_⟩
                refine iteT ⟨_, rfl, Nat.zero_le _, fun t9 nt9 => ⟨.list ((S i).tgs.map tgD), .list [], .lst (SqL.of (extH_put nt9 _ _ inv8.tg)) (dpAll_tgs _), .lst (xs := []) (SqL.of upd_same) .nil, shaped_tgs sm7, rfl, true, (by rw [eqvNilL, e6]; simp), ifT rfl ?_⟩⟩
                have inv9 := inv8.next (extH_put (o := .lst []) nt9)
                have hw9 := sqT_extH (extH_put (o := .lst []) nt9) hw8
                have hkd9 := extH_put (o := .lst []) nt9 _ _ hkd8
                generalize upd G8 t9 (.lst []) = G9 at inv9 hw9 hkd9 ⊢
                obtain ⟨kd9, bs9, hn9, hkd9', nkd9, hbs9⟩ := inv9.names
                rw [e5] at hbs9
                obtain ⟨bs', v', rfl, hbs', m, rfl, hm, nmh⟩ := paired_snoc_inv hbs9
                refine ⟨_, rfl, .inl ⟨rfl, _, SqL.of hn9⟩, nl, _, .ref kd9, rfl, rfl, hn9, (by rw [← List.getLast?_eq_getElem?]; simp), ?_⟩
                rw [List.dropLast_concat]
                have inv10 := inv9.setN (kd := m) own hm nmh hbs'
                have tx10 : Tx G9 (upd G9 nl (.lst (bs' ++ [.ref m]))) := tx_upd hn9 rfl
                have hkn : kd' ≠ nl := fun z => by rw [z, hn9] at hkd9; cases hkd9
                have hkd10 : upd G9 nl (.lst (bs' ++ [.ref m])) kd' = some (.dK (S i).kn) := by rw [upd_ne hkn]; exact hkd9
                have hw10 := tx10.sqT hw9
                generalize upd G9 nl (.lst (bs' ++ [.ref m])) = G10 at inv10 hw10 hkd10 ⊢
                have htg := inv10.tg
                rw [e6] at htg
                rw [List.map_append] at htg
                refine ⟨_, rfl, .inl ⟨rfl, _, SqL.of htg⟩, tg, _, .str x, rfl, rfl, htg, (by rw [← List.getLast?_eq_getElem?]; simp [ownV]), ?_⟩
                have edl : (ts9.map ownV ++ [some x].map ownV).dropLast = ts9.map ownV := by rw [List.map_singleton, List.dropLast_concat]
                rw [edl]
                have inv11 := inv10.setT (ts' := ts9) own
                have hkt : kd' ≠ tg := fun z => by rw [z, htg] at hkd10; cases hkd10
                have tx11 : Tx G10 (upd G10 tg (.lst (ts9.map ownV))) := tx_upd htg rfl
                have hkd11 : upd G10 tg (.lst (ts9.map ownV)) kd' = some (.dK (S i).kn) := by rw [upd_ne hkt]; exact hkd10
                have hw11 := tx11.sqT hw10
                generalize upd G10 tg (.lst (ts9.map ownV)) = G11 at inv11 hw11 hkd11 ⊢
                refine ⟨_, rfl, rfl, _, rfl, ifT rfl ?_⟩
                intro pd npd
                obtain ⟨kdz, bsz, hnz, hkz, nkz, hbz⟩ := inv11.names
                have e12 := extH_put (o := .dK []) npd
                have hzp : kdz ≠ pd := ne_of_none hkz npd
                have lz : k0.length < sizeLine := by rw [sizeLine_eq]; omega
                refine ⟨_, rfl, _, rfl, nl, _, -1, .ref kdz, rfl, rfl, SqL.of (e12 _ _ hnz), at_last, kdz, k0, rfl, upd_same, e12 _ _ hkz, hzp, lz, fun p2 np2 => ?_⟩
                have hpn : G11 pd = none := npd
                have e13 : ExtH G11 (upd (upd G11 pd (.dK [])) pd (.dK k0)) := extH_upd e12 hpn
                have d13 : upd (upd G11 pd (.dK [])) pd (.dK k0) pd = some (.dK k0) := upd_same
                generalize upd (upd G11 pd (.dK [])) pd (.dK k0) = G13 at e13 d13 np2 ⊢
                have e14 := e13.trans (extH_put (o := .dK []) np2)
                have hpp2 : pd ≠ p2 := ne_of_none d13 np2
                have d14 := extH_put (o := .dK []) np2 _ _ d13
                have d14' : upd G13 p2 (.dK []) p2 = some (.dK []) := upd_same
                have hp2n : ∀ {a o}, G11 a = some o → a ≠ p2 := fun {a o} h => ne_of_none (e13 _ _ h) np2
                have hpdn : ∀ {a o}, G11 a = some o → a ≠ pd := fun {a o} h => ne_of_none h hpn
                generalize upd G13 p2 (.dK []) = G14 at e14 d14 d14' ⊢
                refine ⟨_, rfl, _, rfl, wt, _, 0, _, rfl, rfl, sqT_extH e14 hw11, i0, rfl, _, rfl, ifF (by rw [dec_str]; exact decide_eq_false e1) ?_⟩
                refine ⟨.inr x, k0, rfl, d14', d14, lz, ?_⟩
                have e15 : ExtH G11 (upd (upd G14 p2 (.dK [(.inr x, .non)])) pd (.dK (putK k0 (.inr x) .non))) := fun a o h => by
                  rw [upd_ne (hpdn h), upd_ne (hp2n h)]
                  exact e14 _ _ h
                have d15 : upd (upd G14 p2 (.dK [(.inr x, .non)])) pd (.dK (putK k0 (.inr x) .non)) pd = some (.dK (putK k0 (.inr x) .non)) := upd_same
                have inv15 := inv11.next e15
                show ∃ _, _
                have npdh : pd ≠ hl := fun z => by
                  obtain ⟨kv, hkv, _⟩ := inv11.held
                  rw [← z, hpn] at hkv; cases hkv
                have hn15 := e15 _ _ hnz
                refine ⟨_, rfl, _, rfl, nl, _, -1, bsz.length, rfl, rfl, hn15, (by rw [List.length_append]; exact ixN_last), _, _, _, _, _, _, _, rfl, hlt, ?_⟩
                have inv16 := inv15.setN (kd := pd) (kn' := putK k0 (.inr x) .non) own d15 npdh (kns_ext e15 hbz)
                rw [show (bsz ++ [V.ref kdz]).set bsz.length (.ref pd) = bsz ++ [.ref pd] by simp]
                exact fin _ inv16
              | @drop bl k0 ts e3 e4 e5 e6 =>
                obtain ⟨cc, lkc, _, dgc⟩ := P8.callees.non kI_inj e3
                refine ⟨_, rfl, _, rfl, _, _, _, _, _, rfl, hp8, hC, hA1, lkc, cc, _, rfl, dgc, false, rfl, ifF rfl ?_⟩
                refine ⟨_, rfl, _, rfl, p, z, r, l, true, rfl, hp.ext inv8.ext, e4, true, rfl, ?_⟩
                refine iteT ⟨_, rfl, Nat.zero_le _, fun t9 nt9 => ⟨.list ((S i).tgs.map tgD), .list [], .lst (SqL.of (extH_put nt9 _ _ inv8.tg)) (dpAll_tgs _), .lst (xs := []) (SqL.of upd_same) .nil, shaped_tgs sm7, rfl, true, (by rw [eqvNilL, e6]; simp), ifT rfl ?_⟩⟩
                have inv9 := inv8.next (extH_put (o := .lst []) nt9)
                have hw9 := sqT_extH (extH_put (o := .lst []) nt9) hw8
                have hkd9 := extH_put (o := .lst []) nt9 _ _ hkd8
                generalize upd G8 t9 (.lst []) = G9 at inv9 hw9 hkd9 ⊢
                obtain ⟨kd9, bs9, hn9, hkd9', nkd9, hbs9⟩ := inv9.names
                rw [e5] at hbs9
                obtain ⟨bs', v', rfl, hbs', m, rfl, hm, nmh⟩ := paired_snoc_inv hbs9
                refine ⟨_, rfl, .inl ⟨rfl, _, SqL.of hn9⟩, nl, _, .ref kd9, rfl, rfl, hn9, (by rw [← List.getLast?_eq_getElem?]; simp), ?_⟩
                rw [List.dropLast_concat]
                have inv10 := inv9.setN (kd := m) own hm nmh hbs'
                have tx10 : Tx G9 (upd G9 nl (.lst (bs' ++ [.ref m]))) := tx_upd hn9 rfl
                have hkn : kd' ≠ nl := fun z => by rw [z, hn9] at hkd9; cases hkd9
                have hkd10 : upd G9 nl (.lst (bs' ++ [.ref m])) kd' = some (.dK (S i).kn) := by rw [upd_ne hkn]; exact hkd9
                have hw10 := tx10.sqT hw9
                generalize upd G9 nl (.lst (bs' ++ [.ref m])) = G10 at inv10 hw10 hkd10 ⊢
                have htg := inv10.tg
                rw [e6] at htg
                rw [List.map_append] at htg
                refine ⟨_, rfl, .inl ⟨rfl, _, SqL.of htg⟩, tg, _, .non, rfl, rfl, htg, (by rw [← List.getLast?_eq_getElem?]; simp [ownV]), ?_⟩
                have edl : (ts9.map ownV ++ [(none : Option Str)].map ownV).dropLast = ts9.map ownV := by rw [List.map_singleton, List.dropLast_concat]
                rw [edl]
                have inv11 := inv10.setT (ts' := ts9) own
                have hkt : kd' ≠ tg := fun z => by rw [z, htg] at hkd10; cases hkd10
                have tx11 : Tx G10 (upd G10 tg (.lst (ts9.map ownV))) := tx_upd htg rfl
                have hkd11 : upd G10 tg (.lst (ts9.map ownV)) kd' = some (.dK (S i).kn) := by rw [upd_ne hkt]; exact hkd10
                have hw11 := tx11.sqT hw10
                generalize upd G10 tg (.lst (ts9.map ownV)) = G11 at inv11 hw11 hkd11 ⊢
                exact ⟨_, rfl, rfl, _, rfl, ifF rfl ⟨_, _, _, _, _, _, _, rfl, hlt, fin _ inv11⟩⟩
          · intro rr hrr
            refine ⟨_, rfl, wt, _, 0, _, rfl, rfl, hw7, i0, _, _, rfl, .inr (T.mk_ G7), rfl, by decide, _, rfl, ?_⟩
            rw [show [V.str "new", V.str "with"] = ([("new" : Str), "with"]).map V.str from rfl]
            by_cases h1 : kw ∈ [("new" : Str), "with"]
            · refine ifT (inV_str.trans (decide_eq_true h1)) ?_
              refine ⟨_, rfl, _, rfl, _, rfl, kd', pa, wt, (S i).kn, parts, kw :: ws, rfl, hkd7, hpa7, hw7, Nat.succ_pos _, by rw [List.length_cons]; omega, fun G8 t8 e8 h8 => ?_⟩
              have inv8 := inv7.next e8
              obtain ⟨kv, hkv, akv⟩ := inv8.held
              have lkv := akv.len
              have hah := akv.put kI_inj (k := ((i : Nat) : Int)) (u := .ref t8) (v := parts ++ ((kw :: ws).drop 3).map (getN (S i).kn)) hhn ⟨t8, rfl, h8⟩
              have tx : Tx G8 (upd G8 hl (.dK (putK kv (.inl ((i : Nat) : Int)) (.ref t8)))) := tx_upd hkv rfl
              refine ⟨_, rfl, _, rfl, _, _, rfl, DPut.k (k := .inl ((i : Nat) : Int)) hkv (by rw [sizeLine_eq]; omega), hrr _ _ ⟨rfl, tx.sqT (sqT_extH e8 hpa7), tx.sqT (sqT_extH e8 hw7), ?_, ?_⟩⟩
              · rw [upd_ne nkdh]; exact e8 _ _ hkd7
              · unfold heldOf
                rw [if_pos (show (kw :: ws).headD "" ∈ [("new" : Str), "with"] from h1)]
                exact inv8.setH own hah
            · refine ifF (inV_str.trans (decide_eq_false h1)) (hrr _ _ ⟨rfl, hpa7, hw7, hkd7, ?_⟩)
              unfold heldOf
              rw [if_neg (show ¬ (kw :: ws).headD "" ∈ [("new" : Str), "with"] from h1)]
              exact inv7
        · intro rr hrr
          unfold takenOf at htk
          refine ⟨_, rfl, wt, _, 0, _, rfl, rfl, hw6, i0, rfl, _, rfl, ?_⟩
          rw [dec_str]
          by_cases h1 : kw = "some"
          · rw [decide_eq_true h1]
            refine ⟨_, rfl, Nat.zero_le _, fun t7 nt7 => ⟨.tuple (parts.map recD), .tuple [], dp_rec (sqT_extH (extH_put nt7) hpa6) hpr, .tup (xs := []) (SqT.of upd_same) .nil, shapedRec _, rfl, ?_⟩⟩
            have e7 := extH_put (o := .tup []) nt7
            generalize upd G6 t7 (.tup []) = G7 at e7 ⊢
            have inv7 := inv6.next e7
            rw [eqvNilT, empty_rec]
            refine ⟨_, rfl, ?_⟩
            by_cases h2 : parts = []
            · rw [if_neg (fun z => z.2 h2)] at htk
              cases htk
              exact ifF (by rw [decide_eq_true h2]; rfl) (hrr _ _ ⟨rfl, sqT_extH e7 hpa6, sqT_extH e7 hw6, e7 _ _ hkd6, inv7⟩)
            · rw [if_pos ⟨h1, h2⟩] at htk
              obtain ⟨pk, hpk, rfl⟩ := Option.map_eq_some_iff.mp htk
              refine ifT (by rw [decide_eq_false h2]; rfl) ?_
              have htk7 := inv7.taken
              refine ⟨_, rfl, .inl ⟨rfl, _, SqL.of htk7⟩, _, rfl, _, rfl, kl, _, rfl, .inl (SqL.of htk7), _, rfl, pa, _, rfl, .inr (sqT_extH e7 hpa6), _, rfl, pt, picks, (S i).taken.length, parts.length, ((i : Nat) : Int), by simp only [List.length_map, List.append_nil], sqT_extH inv7.ext hpt, (fun pk' hpk' => ?_), fun hn => by rw [hpk] at hn; cases hn⟩
              obtain rfl : pk = pk' := Option.some.inj (hpk.symm.trans hpk')
              refine ⟨kl, _, _, rfl, rfl, htk7, by rw [sizeLine_eq, List.length_map]; omega, ?_⟩
              have nkk : kd' ≠ kl := fun z => by have := e7 _ _ hkd6; rw [z, htk7] at this; cases this
              have tx : Tx G7 (upd G7 kl (.lst ((S i).taken.map V.int ++ [.int pk]))) := tx_upd htk7 rfl
              have inv8 := inv7.setK (taken' := (S i).taken ++ [pk]) own
              rw [List.map_append] at inv8
              exact hrr _ _ ⟨rfl, tx.sqT (sqT_extH e7 hpa6), tx.sqT (sqT_extH e7 hw6), by rw [upd_ne nkk]; exact e7 _ _ hkd6, inv8⟩
          · rw [if_neg (fun z => h1 z.1)] at htk
            cases htk
            rw [decide_eq_false h1]
            exact hrr _ _ ⟨rfl, hpa6, hw6, hkd6, inv6⟩
      · intro rr hrr
        refine ⟨_, rfl, rfl, _, rfl, ?_⟩
        cases rec with
        | non =>
          cases hpo
          exact ifT rfl ⟨Nat.zero_le _, fun t5 nt5 => hrr _ _ ⟨t5, rfl, SqT.of upd_same, extH_put nt5⟩⟩
        | int k =>
          obtain ⟨kv, hkv, akv⟩ := inv4.held
          obtain ⟨u, hu, pa, rfl, hpa⟩ := akv.get kI_inj hpo
          exact ifF rfl ⟨_, rfl, _, rfl, hl, _, rfl, by rw [← hu]; exact DGet.k (k := .inl k) hkv, hrr _ _ ⟨pa, rfl, hpa, .refl⟩⟩
        | _ => cases hir
    · rintro σ G ⟨v8, v9, v10, v11, v12, v13, v14, rfl, him, inv⟩
      rw [List.length_map] at inv him
      have q := q (by omega)
      obtain ⟨kd', bs, hn, hkd, _, _⟩ := inv.names
      obtain ⟨kv, hkv, akv⟩ := inv.held
      refine ⟨_, rfl, _, rfl, _, rfl, _, rfl, _, rfl, nl, _, -1, .ref kd', rfl, rfl, SqL.of hn, at_last, by rw [sizeLine_eq]; show 4 ≤ 16777216; decide, fun t nt => ?_⟩
      have e := extH_put (o := .tup [.ref hl, .ref sl, .ref kl, .ref kd']) nt
      exact q _ t hl sl kl kd' kv (inv.ext.trans e) (SqT.of upd_same) (e _ _ hkv) (akv.imp fun _ _ => parts_tx (ext_tx e)) (e _ _ inv.seen) (e _ _ inv.taken) (e _ _ hkd)
end
end R9H
set_option Elab.async false
set_option linter.all false
set_option maxRecDepth 100000
set_option maxHeartbeats 4000000
/-! k19, part YF: Run(program, lines, picks) -/
namespace R9H
open PySem PySem.Spec PyProof.Rows L2
theorem atk_keysG {α : Type} {R : V → α → Prop} {kvs : List (Key × V)} {l : List (Int × α)} (h : AtK kI R kvs l) : (kvs.map fun kv => kV kv.1) = (l.map (·.1)).map V.int := by
  unfold AtK at h
  induction h with
  | nil => rfl
  | cons r t ih => rw [List.map_cons, List.map_cons, List.map_cons, ih, r.1] <;> rfl
def KeepX (x : Addr) (G G' : Hp) : Prop := ∀ b o, b ≠ x → G b = some o → G' b = some o
theorem KeepX.trans {x : Addr} {G G' G'' : Hp} (a : KeepX x G G') (b : KeepX x G' G'') : KeepX x G G'' := fun y o n h => b y o n (a y o n h)
theorem KeepX.ext {x : Addr} {G G' : Hp} (e : ExtH G G') : KeepX x G G' := fun y o _ h => e y o h
theorem KeepX.tx {x C dx : Addr} {fs : List (Str × V)} {G G' : Hp} (k : KeepX x G G') (h : G x = some (.ins C dx fs)) : Tx G G' := fun l xs r => by
  have hl : l ≠ x := fun z => by
    rcases r with r | ⟨u, r⟩
    · rw [z, h] at r; cases r
    · rw [z, h] at r; cases r
  exact r.imp (k _ _ hl) fun ⟨u, r⟩ => ⟨u, k _ _ hl r⟩
theorem fldX {K : PySem.W.Frag} {mg : Str → Option Value} {x dx : Addr} {Cn f : Str} {y : V} {D : Ends} {σ : L2.St} {G : Hp} {fs : List (Str × V)} (T : T6 K mg) (hx : G x = some (.ins (ga K Cn) dx fs)) (hc : inC Cn = true) (hno : inN Cn f = true) (hl : fs.length < 1000) (e : σ[0]? = some (some (.ref x)))
    (c : ∀ G', KeepX x G G' → G' x = some (.ins (ga K Cn) dx (putF f y fs)) → D.nx σ G') :
    tVar 0 σ G fun x H2 => ∃ a C dx fs, x = .ref a ∧ H2 a = some (.ins C dx fs) ∧ Cls K C ∧ NoAttr K C f ∧ fs.length < 1000 ∧ D.nx σ (upd H2 a (.ins C dx (putF f y fs))) :=
  ⟨_, e, x, _, dx, _, rfl, hx, T.cls Cn hc, T.noat Cn f hno, hl, c _ (fun b o n h => by rw [upd_ne n]; exact h) upd_same⟩
/-- a run -/
structure RunF (K : PySem.W.Frag) (fs : List (Str × V)) (p : Addr) (ls cm : List Int) (v : VS) (s : SS) (H : Hp) : Prop where
  program : fs.lookup ("program" : Str) = some (.ref p)
  lines : ∃ t, fs.lookup ("lines" : Str) = some (.ref t) ∧ SqT K H t (ls.map V.int)
  picks : ∃ t, fs.lookup ("picks" : Str) = some (.ref t) ∧ SqT K H t (v.taken.map V.int)
  records : ∃ t, fs.lookup ("records" : Str) = some (.ref t) ∧ SqT K H t ((v.held.map (·.1)).map V.int)
  complete : fs.lookup ("complete" : Str) = some (.bl cm.isEmpty)
  coming : ∃ t, fs.lookup ("coming" : Str) = some (.ref t) ∧ SqT K H t (cm.map V.int)
  held : FdAt kI (partsAt K H) fs "held" v.held H
  seen : ∃ t, fs.lookup ("seen" : Str) = some (.ref t) ∧ SqT K H t v.seen
  meth : ∀ m ∈ [("parts" : Str), "read", "stays", "ended", "value"], fs.lookup m = none
  known : ∃ t, fs.lookup ("known" : Str) = some (.ref t) ∧ H t = some (.dK v.kn)
  spans : ∃ t sv, fs.lookup ("spans" : Str) = some (.ref t) ∧ SqT K H t sv ∧ Paired (SpanAt K H) sv s.spans
def RunAt (K : PySem.W.Frag) (x p : Addr) (ls cm : List Int) (v : VS) (s : SS) (H : Hp) : Prop := ∃ dx fs, H x = some (.ins (ga K "Run") dx fs) ∧ RunF K fs p ls cm v s H
theorem RunF.ext {K : PySem.W.Frag} {fs : List (Str × V)} {p : Addr} {ls cm : List Int} {v : VS} {s : SS} {H G : Hp} (h : RunF K fs p ls cm v s H) (e : ExtH H G) : RunF K fs p ls cm v s G :=
  ⟨h.program, let ⟨t, a, b⟩ := h.lines; ⟨t, a, sqT_extH e b⟩, let ⟨t, a, b⟩ := h.picks; ⟨t, a, sqT_extH e b⟩, let ⟨t, a, b⟩ := h.records; ⟨t, a, sqT_extH e b⟩, h.complete, let ⟨t, a, b⟩ := h.coming; ⟨t, a, sqT_extH e b⟩, h.held.ext e fun _ _ => parts_tx (ext_tx e),
    let ⟨t, a, b⟩ := h.seen; ⟨t, a, sqT_extH e b⟩, h.meth, let ⟨t, a, b⟩ := h.known; ⟨t, a, e _ _ b⟩, let ⟨t, sv, a, b, c⟩ := h.spans; ⟨t, sv, a, sqT_extH e b, Paired.mapP c fun _ _ ⟨a, dx, h1, h2⟩ => ⟨a, dx, h1, e _ _ h2⟩⟩⟩
theorem RunAt.ext {K : PySem.W.Frag} {x p : Addr} {ls cm : List Int} {v : VS} {s : SS} {H G : Hp} (h : RunAt K x p ls cm v s H) (e : ExtH H G) : RunAt K x p ls cm v s G := let ⟨dx, fs, a, b⟩ := h; ⟨dx, fs, e _ _ a, b.ext e⟩
def spRun (K : PySem.W.Frag) : Sp := fun vs H Q E => ∃ (x dx p ll pl : Addr) (z : Str) (r : RS) (ls picks : List Int) (C cs : Nat → List Int) (m : Nat) (V' : Nat → VS) (mv : Nat), vs = [.ref x, .ref p, .ref ll, .ref pl] ∧ H x = some (.ins (ga K "Run") dx []) ∧ PgAt K p z r H ∧ Short r ∧ SqL K H ll (ls.map V.int) ∧ (SqL K H pl (picks.map V.int) ∨ SqT K H pl (picks.map V.int)) ∧
  ls.length ≤ 100000 ∧ Fol r ls C cs m ∧ Vls r picks (ls.take m) V' mv ∧ (mv < m → badE K "BadPick" (mv : Int) E H) ∧ (mv = m → m < ls.length → badE K "NotRun" (m : Int) E H) ∧
  (mv = m → m = ls.length → (C ls.length).length ≤ 1000 ∧ ∃ S : Nat → SS, Sty r ls S ∧ ∀ H', KeepX x H H' → RunAt K x p ls (C ls.length) (V' ls.length) (S ls.length) H' → Q .non H')
theorem badE.ext {K : PySem.W.Frag} {x : Str} {i : Int} {E : XK} {H G : Hp} (h : badE K x i E H) (e : ExtH H G) : badE K x i E G := fun H' d e' k => h H' d (e.trans e') k
/-- a bound that is None or an int -/
def optV : V → Option Int
  | .int i => some i
  | _ => none
theorem po_anyV {X : Cx} {e : Expr} {te : TE} (h : PE X e te) : PO X (some e) (fun σ H Q => te σ H fun x H1 => (x = .non ∨ ∃ i, x = .int i) ∧ Q (optV x) H1) := by
  constructor
  intro pins s σ H Q I hw
  rw [evalPart_some]
  refine thn (h.run pins s σ H _ I hw) ?_
  rintro u s1 ⟨x, H1, I1, r1, ex, q1⟩
  rcases ex with rfl | ⟨i, rfl⟩
  · cases r1
    exact ⟨none, H1, I1, .none, q1⟩
  · obtain ⟨t, rfl⟩ := r1
    exact ⟨some i, H1, I1, .int i t, q1⟩
theorem cutV_whole {xs : List V} {lo hi : Option Int} (h : HT.sIx xs.length 0 lo = 0 ∧ HT.sIx xs.length xs.length hi = xs.length) : cutV xs lo hi = xs := by
  unfold cutV
  rw [h.1, h.2] <;> simp
def rSlU (K : PySem.W.Frag) : V → Option Int → Option Int → Hp → VK → Prop := fun x lo hi H Q => ∃ a xs, x = .ref a ∧ SqT K H a xs ∧ ∀ H' p, ExtH H H' → SqT K H' p (cutV xs lo hi) → Q (.ref p) H'
theorem sl_tupU {X : Cx} : SlR X (rSlU X.K) := by
  intro pins s σ H x v vl vu lo hi sl Q I rx hs pl pu h
  obtain ⟨a, xs, rfl, hx, q⟩ := h
  exact sl_tupA pins s σ H _ v vl vu lo hi sl Q I rx hs pl pu ⟨a, xs, rfl, hx, fun hw => q _ a .refl ((cutV_whole hw).symm ▸ hx), fun _ p np => q _ p (extH_put np) (SqT.of upd_same)⟩
theorem cut_wrong {ls : List Int} {m : Nat} (h : m ≤ ls.length) : cutV (ls.map V.int) none (optV (wrongV ls m)) = (ls.take m).map V.int := by
  unfold wrongV
  by_cases c : m < ls.length
  · rw [if_pos c]
    unfold cutV
    show ((ls.map V.int).drop 0).take (HT.sIx (ls.map V.int).length (ls.map V.int).length (some (m : Int)) - 0) = _
    rw [HT.sIx_nat, List.length_map, List.drop_zero, Nat.sub_zero, Nat.min_eq_left h, List.map_take]
  · rw [if_neg c]
    have e : m = ls.length := by omega
    subst e
    rw [List.take_length]
    exact cutV_whole ⟨rfl, rfl⟩
theorem wrong_any (ls : List Int) (m : Nat) : wrongV ls m = .non ∨ ∃ i, wrongV ls m = .int i := by
  unfold wrongV
  by_cases c : m < ls.length
  · rw [if_pos c]; exact .inr ⟨_, rfl⟩
  · rw [if_neg c]; exact .inl rfl
section
variable {w : World} {K : PySem.W.Frag} {mg : Str → Option Value} {base : Heap}
abbrev st_Run___init : Stmt := inClass (top 31) 0
theorem sc_Run___init : FnScope ["self", "program", "lines", "picks", "told", "coming", "wrong", "held", "seen", "taken", "known", "spans", "origins"] ["self", "program", "lines", "picks"] (defScope st_Run___init) := ⟨rfl, rfl, rfl, by decide +kernel, rfl, by decide +kernel, by decide +kernel⟩
theorem ok_Run___init (T : T6 K mg) : ∃ fd : FuncData, FnOk P6 w K mg base (L2.CX P6 w) 7 (He.ma K (ga K "Run") "__init__") fd ["self", "program", "lines", "picks"] (spRun K) ∧ Binds K fd ["self", "program", "lines", "picks"] [] := by
  obtain ⟨fd, F⟩ := T.fn 19
  have H_followed := ok_followed (w := w) (base := base) T
  have H_values_of := ok_values_of (w := w) (base := base) T
  have H_stays_of := ok_stays_of (w := w) (base := base) T
  have gf_tuple := T.free "tuple" (by decide +kernel)
  have gf_list := T.free "list" (by decide +kernel)
  refine ⟨fd, F.ok sc_Run___init (fun vs H Q E h => ?_) (fun cdv A outer s H vs Q E hr h => ⟨_, (
    (pss_cons (ps_set (i := 4) sc_Run___init.nd rfl (Or.inl rfl) (pe_callTy call_tuple_of rfl gf_tuple PyProof.Rows.boot_tuple (pa_cons (pv 2) pa_nil)))
    (pss_cons (ps_asg (pe_has H_followed rfl (hr.mono (by decide)) rfl (pa_cons (pv 1) (pa_cons (pv 4) pa_nil))) (pg_tup rfl (pgs_cons (pg_name (i := 5) sc_Run___init.nd rfl (Or.inl rfl)) (pgs_cons (pg_name (i := 6) sc_Run___init.nd rfl (Or.inl rfl)) pgs_nil))) (by rfl))
    (pss_cons (ps_asg (pe_hasX H_values_of rfl (hr.mono (by decide)) rfl (takes_of rfl rfl rfl rfl) (pa_cons (pv 1) (pa_cons (pe_slice sl_tupU (pv 4) po_none (po_anyV (pv 6))) (pa_cons (pe_callTy call_tuple_of rfl gf_tuple PyProof.Rows.boot_tuple (pa_cons (pv 3) pa_nil)) pa_nil)))) (pg_tup rfl (pgs_cons (pg_name (i := 7) sc_Run___init.nd rfl (Or.inl rfl)) (pgs_cons (pg_name (i := 8) sc_Run___init.nd rfl (Or.inl rfl)) (pgs_cons (pg_name (i := 9) sc_Run___init.nd rfl (Or.inl rfl)) (pgs_cons (pg_name (i := 10) sc_Run___init.nd rfl (Or.inl rfl)) pgs_nil))))) (by rfl))
    (pss_cons (ps_if (pt_cmpR op_notN (pv 6) pe_non rfl)
      (pss_one (ps_raise rfl (takes_of rfl rfl rfl rfl) (pmk_x (mkX_of (d := xs[2]'(by decide)) rfl rfl (T.err 2 _ rfl) (ini_NotRun T) (by decide)) hr (T.free "super" (by decide +kernel)) rfl (T.glo "NotRun" (by decide +kernel)) (pa_cons (pv 6) pa_nil))))
      pss_nil)
    (pss_cons (ps_asg (pe_has H_stays_of rfl (hr.mono (by decide)) rfl (pa_cons (pv 1) (pa_cons (pv 4) pa_nil))) (pg_tup rfl (pgs_cons (pg_name (i := 11) sc_Run___init.nd rfl (Or.inl rfl)) (pgs_cons (pg_name (i := 12) sc_Run___init.nd rfl (Or.inl rfl)) pgs_nil))) (by rfl))
    (pss_cons (ps_fld (pv 0) (pv 1) rfl)
    (pss_cons (ps_fld (pv 0) (pv 4) rfl)
    (pss_cons (ps_fld (pv 0) (pe_callTy call_tuple_of rfl gf_tuple PyProof.Rows.boot_tuple (pa_cons (pv 9) pa_nil)) rfl)
    (pss_cons (ps_fld (pv 0) (pe_callTy call_tuple_of rfl gf_tuple PyProof.Rows.boot_tuple (pa_cons (pe_callTy (call_listD rfl) rfl gf_list (by decide +kernel) (pa_cons (pv 7) pa_nil)) pa_nil)) rfl)
    (pss_cons (ps_fld (pv 0) (pe_cmpR (op_eqD hr.units) (pv 5) (pe_tup pa_nil) (nomark _)) rfl)
    (pss_cons (ps_fld (pv 0) (pv 5) rfl)
    (pss_cons (ps_fld (pv 0) (pv 10) rfl)
    (pss_cons (ps_fld (pv 0) (pv 7) rfl)
    (pss_cons (ps_fld (pv 0) (pe_callTy call_tuple_of rfl gf_tuple PyProof.Rows.boot_tuple (pa_cons (pv 8) pa_nil)) rfl)
    (pss_cons (ps_fld (pv 0) (pv 11) rfl)
    (pss_one (ps_fld (pv 0) (pv 12) rfl)))))))))))))))))), ?_⟩), ?_⟩
  · obtain ⟨x, dx, p, ll, pl, z, r, ls, picks, C, cs, m, V', mv, rfl, _⟩ := h
    rfl
  · obtain ⟨x, dx, p, ll, pl, z, r, ls, picks, C, cs, m, V', mv, rfl, hx, hp, hsh, hll, hpl, hlen, hC, hV, qb, qn, q⟩ := h
    clear F
    have hmle := hC.le
    refine ⟨_, rfl, ll, _, rfl, .inl ⟨hll, fun t4 nt4 => ?_⟩⟩
    have e1 := extH_put (o := .tup (ls.map V.int)) nt4
    have h4 : SqT K (upd H t4 (.tup (ls.map V.int))) t4 (ls.map V.int) := SqT.of upd_same
    generalize upd H t4 (.tup (ls.map V.int)) = H1 at e1 h4 ⊢
    refine ⟨_, rfl, _, rfl, p, t4, z, r, ls, C, cs, m, rfl, hp.ext e1, h4, hC, fun H2 tt cc e2 h2 hc2 => ⟨tt, _, rfl, h2, rfl, _, _, rfl, _, _, rfl, rfl, ?_⟩⟩
    have e12 := e1.trans e2
    have h42 := sqT_extH e2 h4
    try dsimp only
    refine seq_cut (C := fun σ' G' => ∃ hl sl kl kd kv, σ' = [some (.ref x), some (.ref p), some (.ref ll), some (.ref pl), some (.ref t4), some (.ref cc), some (wrongV ls m), some (.ref hl), some (.ref sl), some (.ref kl), some (.ref kd), none, none] ∧ mv = m ∧ ExtH H2 G' ∧ G' hl = some (.dK kv) ∧ AtK kI (partsAt K G') kv (V' m).held ∧ G' sl = some (.lst (V' m).seen) ∧ G' kl = some (.lst ((V' m).taken.map V.int)) ∧ G' kd = some (.dK (V' m).kn)) ?_ ?_
    · rintro σ' H4 ⟨hl, sl, kl, kd, kv, rfl, hmv, e34, hkv, akv, hsl, hkl, hkd⟩
      have e14 := e12.trans e34
      by_cases hstop : m < ls.length
      · have qn' := (qn hmv hstop).ext e14
        rw [show wrongV ls m = .int (m : Int) from if_pos hstop]
        exact ⟨_, rfl, rfl, _, rfl, ifT rfl ⟨_, rfl, rfl, fun z => absurd z (by simp [K7.finOf, K7.finA]), fun d _ hd => qn' _ d (extH_put hd) upd_same⟩⟩
      have hml : m = ls.length := by omega
      obtain ⟨hcl, S, hS, q⟩ := q hmv hml
      clear qb qn
      rw [show wrongV ls m = .non from if_neg hstop]
      rw [hml] at akv hsl hkl hkd
      rw [hml] at hc2
      refine ⟨_, rfl, rfl, _, rfl, ifF rfl ?_⟩
      have h44 := sqT_extH e34 h42
      refine ⟨_, rfl, _, rfl, p, t4, z, r, ls, S, rfl, hp.ext e14, hsh, h44, hlen, hS, fun H5 t5 sp og ko sv e5 h5 hog hsp psp => ⟨t5, _, rfl, h5, rfl, _, _, rfl, _, _, rfl, rfl, ?_⟩⟩
      have e15 := e14.trans e5
      have hx5 := e15 _ _ hx
      have h45 := sqT_extH e5 h44
      have hcc5 := sqT_extH (e34.trans e5) hc2
      have hkv5 := e5 _ _ hkv
      have hsl5 := e5 _ _ hsl
      have hkl5 := e5 _ _ hkl
      have hkd5 := e5 _ _ hkd
      have akv5 := akv.imp fun _ _ => parts_tx (ext_tx e5)
      have nhl : hl ≠ x := fun z => by rw [z, hx5] at hkv5; cases hkv5
      have nsl : sl ≠ x := fun z => by rw [z, hx5] at hsl5; cases hsl5
      have nkl : kl ≠ x := fun z => by rw [z, hx5] at hkl5; cases hkl5
      have nkd : kd ≠ x := fun z => by rw [z, hx5] at hkd5; cases hkd5
      have nog : og ≠ x := fun z => by rw [z, hx5] at hog; cases hog
      generalize (V' ls.length) = vn at hkv5 hsl5 hkl5 hkd5 akv5 q
      generalize (S ls.length) = sn at psp q
      generalize (C ls.length) = cn at hcc5 q hcl
      clear hkv hsl hkl hkd akv hc2 h5 h2 h42 h44 h4
      -- the fields
      refine ⟨_, rfl, fldX T hx5 (by decide +kernel) (f := "program") (by decide +kernel) (by decide) rfl fun G1 k1 x1 => ?_⟩
      refine ⟨_, rfl, fldX T x1 (by decide +kernel) (f := "lines") (by decide +kernel) (by show 1 < 1000; decide) rfl fun G2 k2 x2 => ?_⟩
      have k02 := k1.trans k2
      refine ⟨_, rfl, kl, _, rfl, .inl ⟨SqL.of (k02 _ _ nkl hkl5), fun tk ntk => ?_⟩⟩
      have e6 := extH_put (o := .tup (vn.taken.map V.int)) ntk
      have htk : SqT K (upd G2 tk (.tup (vn.taken.map V.int))) tk (vn.taken.map V.int) := SqT.of upd_same
      have x2' := e6 _ _ x2
      have k02' := k02.trans (.ext e6)
      generalize upd G2 tk (.tup (vn.taken.map V.int)) = G2' at htk x2' k02' ⊢
      refine fldX T x2' (by decide +kernel) (f := "picks") (by decide +kernel) (by show 2 < 1000; decide) rfl fun G3 k3 x3 => ?_
      have htk3 := (k3.tx x2').sqT htk
      have k03 := k02'.trans k3
      refine ⟨_, rfl, hl, _, rfl, .inl (k03 _ _ nhl hkv5), fun p1 n1 => ⟨p1, _, rfl, .inl ⟨SqL.of upd_same, fun tr ntr => ?_⟩⟩⟩
      have e7 := (extH_put (o := .lst (kv.map fun kv => kV kv.1)) n1).trans (extH_put (o := .tup (kv.map fun kv => kV kv.1)) ntr)
      have htr : SqT K (upd (upd G3 p1 (.lst (kv.map fun kv => kV kv.1))) tr (.tup (kv.map fun kv => kV kv.1))) tr ((vn.held.map (·.1)).map V.int) := by
        rw [← atk_keysG akv5]
        exact SqT.of upd_same
      have x3' := e7 _ _ x3
      have k03' := k03.trans (.ext e7)
      have htk3' := sqT_extH e7 htk3
      generalize upd (upd G3 p1 (.lst (kv.map fun kv => kV kv.1))) tr (.tup (kv.map fun kv => kV kv.1)) = G3' at htr x3' k03' htk3' ⊢
      refine fldX T x3' (by decide +kernel) (f := "records") (by decide +kernel) (by show 3 < 1000; decide) rfl fun G4 k4 x4 => ?_
      have htk4 := (k4.tx x3').sqT htk3'
      have htr4 := (k4.tx x3').sqT htr
      have k04 := k03'.trans k4
      have hcc4 := (k04.tx hx5).sqT hcc5
      refine ⟨_, rfl, Nat.zero_le _, fun te nte => ⟨.tuple (cn.map PyData.int), .tuple [], dp_ints_tup (sqT_extH (extH_put nte) hcc4), .tup (xs := []) (SqT.of upd_same) .nil, shapedIntsT _, rfl, ?_⟩⟩
      rw [eqvNilT]
      have e8 := extH_put (o := .tup []) nte
      have x4' := e8 _ _ x4
      have k04' := k04.trans (.ext e8)
      have htk4' := sqT_extH e8 htk4
      have htr4' := sqT_extH e8 htr4
      generalize upd G4 te (.tup []) = G4' at x4' k04' htk4' htr4' ⊢
      refine fldX T x4' (by decide +kernel) (f := "complete") (by decide +kernel) (by show 4 < 1000; decide) rfl fun G5 k5 x5 => ?_
      refine ⟨_, rfl, fldX T x5 (by decide +kernel) (f := "coming") (by decide +kernel) (by show 5 < 1000; decide) rfl fun G6 k6 x6 => ?_⟩
      refine ⟨_, rfl, fldX T x6 (by decide +kernel) (f := "known") (by decide +kernel) (by show 6 < 1000; decide) rfl fun G7 k7 x7 => ?_⟩
      refine ⟨_, rfl, fldX T x7 (by decide +kernel) (f := "held") (by decide +kernel) (by show 7 < 1000; decide) rfl fun G8 k8 x8 => ?_⟩
      have k48 := ((k5.trans k6).trans k7).trans k8
      have k08 := k04'.trans k48
      have htk8 := (k48.tx x4').sqT htk4'
      have htr8 := (k48.tx x4').sqT htr4'
      refine ⟨_, rfl, sl, _, rfl, .inl ⟨SqL.of (k08 _ _ nsl hsl5), fun ts nts => ?_⟩⟩
      have e9 := extH_put (o := .tup vn.seen) nts
      have hts : SqT K (upd G8 ts (.tup vn.seen)) ts vn.seen := SqT.of upd_same
      have x8' := e9 _ _ x8
      have k08' := k08.trans (.ext e9)
      have htk8' := sqT_extH e9 htk8
      have htr8' := sqT_extH e9 htr8
      generalize upd G8 ts (.tup vn.seen) = G8' at x8' k08' htk8' htr8' hts ⊢
      refine fldX T x8' (by decide +kernel) (f := "seen") (by decide +kernel) (by show 8 < 1000; decide) rfl fun G9 k9 x9 => ?_
      refine ⟨_, rfl, fldX T x9 (by decide +kernel) (f := "spans") (by decide +kernel) (by show 9 < 1000; decide) rfl fun G10 k10 x10 => ?_⟩
      refine ⟨_, rfl, fldX T x10 (by decide +kernel) (f := "origins") (by decide +kernel) (by show 10 < 1000; decide) rfl fun G11 k11 x11 => ?_⟩
      have k811 := (k9.trans k10).trans k11
      have k011 := k08'.trans k811
      have tx := k011.tx hx5
      have tx8 := k811.tx x8'
      refine q G11 ((KeepX.ext e15).trans k011) ⟨dx, _, x11, ?_⟩
      exact {
        program := rfl
        lines := ⟨t4, rfl, tx.sqT h45⟩
        picks := ⟨tk, rfl, tx8.sqT htk8'⟩
        records := ⟨tr, rfl, tx8.sqT htr8'⟩
        complete := by show some (V.bl _) = some (V.bl _); rw [List.isEmpty_map]
        coming := ⟨cc, rfl, tx.sqT hcc5⟩
        held := ⟨hl, kv, rfl, k011 _ _ nhl hkv5, akv5.imp fun _ _ => parts_tx tx⟩
        seen := ⟨ts, rfl, tx8.sqT hts⟩
        meth := fun m hm => by
          simp only [List.mem_cons, List.not_mem_nil, or_false] at hm
          rcases hm with rfl | rfl | rfl | rfl | rfl <;> rfl
        known := ⟨kd, rfl, k011 _ _ nkd hkd5⟩
        spans := ⟨sp, sv, rfl, tx.sqT hsp, Paired.mapP psp fun _ _ ⟨a, dx', h1, h2⟩ => ⟨a, dx', h1, k011 _ _ (fun z => by rw [z, hx5] at h2; unfold spanO at h2; injection h2 with h2; injection h2 with _ _ h2; cases h2) h2⟩⟩ }
    · intro rr hrr
      refine ⟨_, rfl, _, rfl, _, rfl, wrong_any ls m, t4, _, rfl, h42, fun G0 t0 e0 h0 => ?_⟩
      rw [cut_wrong hmle] at h0
      have e20 := e12.trans e0
      have hlt : (ls.take m).length ≤ 100000 := by rw [List.length_take]; omega
      have hlm : (ls.take m).length = m := by rw [List.length_take]; omega
      rcases hpl with hpl | hpl
      · refine ⟨_, rfl, pl, _, rfl, .inl ⟨sqL_extH e20 hpl, fun tp ntp => ?_⟩⟩
        have e3 := extH_put (o := .tup (picks.map V.int)) ntp
        have htp : SqT K (upd G0 tp (.tup (picks.map V.int))) tp (picks.map V.int) := SqT.of upd_same
        generalize upd G0 tp (.tup (picks.map V.int)) = H3 at e3 htp ⊢
        exact ⟨p, t0, tp, z, r, ls.take m, picks, V', mv, rfl, hp.ext (e20.trans e3), sqT_extH e3 h0, htp, hlt, hV, fun hb => (qb (by rw [hlm] at hb; exact hb)).ext (e20.trans e3), fun hmm H4 t3 hl sl kl kd kv e4 h3 hkv akv hsl hkl hkd => ⟨t3, _, rfl, h3, rfl, _, _, rfl, _, _, rfl, _, _, rfl, _, _, rfl, rfl, hrr _ _ ⟨hl, sl, kl, kd, kv, rfl, hmm.trans hlm, e0.trans (e3.trans e4), hkv, by rw [hlm] at akv; exact akv, by rw [hlm] at hsl; exact hsl, by rw [hlm] at hkl; exact hkl, by rw [hlm] at hkd; exact hkd⟩⟩⟩
      · refine ⟨_, rfl, pl, _, rfl, .inr ⟨sqT_extH e20 hpl, ?_⟩⟩
        have e3 : ExtH G0 G0 := .refl
        have htp := sqT_extH e20 hpl
        exact ⟨p, t0, pl, z, r, ls.take m, picks, V', mv, rfl, hp.ext (e20.trans e3), sqT_extH e3 h0, htp, hlt, hV, fun hb => (qb (by rw [hlm] at hb; exact hb)).ext (e20.trans e3), fun hmm H4 t3 hl sl kl kd kv e4 h3 hkv akv hsl hkl hkd => ⟨t3, _, rfl, h3, rfl, _, _, rfl, _, _, rfl, _, _, rfl, _, _, rfl, rfl, hrr _ _ ⟨hl, sl, kl, kd, kv, rfl, hmm.trans hlm, e0.trans (e3.trans e4), hkv, by rw [hlm] at akv; exact akv, by rw [hlm] at hsl; exact hsl, by rw [hlm] at hkl; exact hkl, by rw [hlm] at hkd; exact hkd⟩⟩⟩
  · obtain ⟨ds, rd, hb⟩ := F.binds1 (ps := ["self", "program", "lines", "picks"]) 4 1 (by intro z; cases z) rfl fun T kV doc pm an cdv ct us its hl hi => match us, hl, its, hi with | [_, _, _, _], _, [_], _ => ⟨_, rfl, rfl⟩
    cases rd
    exact hb
end
end R9H
set_option Elab.async false
set_option linter.all false
set_option maxRecDepth 100000
set_option maxHeartbeats 4000000
/-! k19, part YG: Run.read -/
namespace R9H
open PySem PySem.Spec PyProof.Rows L2
def HasM (w : World) (K : PySem.W.Frag) (mg : Str → Option Value) (base : Heap) (k : Nat) (x m : Str) (ps : List Str) (sp : Sp) : Prop := ∃ fd : FuncData, FnOk P6 w K mg base CX0 k (He.ma K (ga K x) m) fd ps sp ∧ Binds K fd ps []
def spRead (K : PySem.W.Frag) : Sp := fun vs H Q _ => ∃ (x p : Addr) (ls cm : List Int) (v : VS) (s : SS) (j : Nat) (u : V), vs = [.ref x, .int (j : Int)] ∧ RunAt K x p ls cm v s H ∧ v.seen[j]? = some u ∧ Q u H
section
variable {w : World} {K : PySem.W.Frag} {mg : Str → Option Value} {base : Heap}
abbrev st_Run_read : Stmt := inClass (top 31) 4
theorem sc_Run_read : FnScope ["self", "step"] ["self", "step"] (defScope st_Run_read) := ⟨rfl, rfl, rfl, by decide +kernel, rfl, by decide +kernel, by decide +kernel⟩
theorem ok_Run_read (T : T6 K mg) : HasM w K mg base 1 "Run" "read" ["self", "step"] (spRead K) := by
  obtain ⟨fd, F⟩ := T.fn 22
  refine ⟨fd, F.ok sc_Run_read (fun vs H Q E h => ?_) (fun cdv A outer s H vs Q E hr h => ⟨_, PSs.nox (
    (pss_one (ps_ret (pe_ix ix_tup (pe_fld (pv 0) rfl) (pv 1) (fun _ _ => rfl))))), ?_⟩), F.bindsN fun _ _ _ _ _ _ us hl => match us, hl with | [_, _], _ => rfl⟩
  · obtain ⟨x, p, ls, cm, v, s, j, u, rfl, _⟩ := h
    rfl
  · obtain ⟨x, p, ls, cm, v, s, j, u, rfl, ⟨dx, fs, hx, R⟩, hj, q⟩ := h
    clear F
    obtain ⟨t, lk, ht⟩ := R.seen
    exact ⟨_, rfl, _, _, _, _, _, rfl, hx, T.cls "Run" (by decide +kernel), T.noat "Run" "seen" (by decide +kernel), lk, _, rfl, t, _, (j : Int), u, rfl, rfl, ht, atI_nat hj, q⟩
end
end R9H
set_option Elab.async false
set_option linter.all false
set_option maxRecDepth 100000
set_option maxHeartbeats 4000000
/-! k19, part SB: the run's lines -/
namespace R9H
open PySem PySem.Spec PyProof.Rows L2
def lns : List Int := [4, 5, 6, 7, 8, 9, 10, 11, 12, 13, 14, 15, 16, 17, 18, 19, 20]
def nxtT : List (Int × List Int) := [(4, [5]), (5, [6, 8]), (6, [7]), (7, [9]), (8, [9]), (9, [10, 17]), (10, [11, 13]), (11, [12]), (12, [15]), (13, [14]), (14, [15]), (15, [16]), (16, [10, 17]), (17, [18, 21]), (18, [19]), (19, [20]), (20, [18, 21])]
def nxt (l : Int) : List Int := (nxtT.lookup l).getD []
def s0 : SS := ⟨[(-1, 3)], [0], [], [(0, -1)]⟩
section
variable {P B X Q Y : Str}
theorem ln_facts {l : Int} (h : l ∈ lns) (i : Int) : nextLines (scR P B X Q Y) l 0 = some (nxt l) ∧ (scR P B X Q Y).callees.lookup l = none ∧ leaves (scR P B X Q Y) l = some false ∧ stayStep (scR P B X Q Y) i l s0 = some s0 := by
  unfold lns at h
  simp only [List.mem_cons, List.not_mem_nil, or_false] at h
  rcases h with rfl | rfl | rfl | rfl | rfl | rfl | rfl | rfl | rfl | rfl | rfl | rfl | rfl | rfl | rfl | rfl | rfl <;> exact ⟨rfl, rfl, rfl, rfl⟩
end
/-- lines that follow one another -/
inductive FC : List Int → List Int → List Int → Prop
  | nil {C} : FC C [] C
  | cons {C l ls C'} : l ∈ C → l ∈ lns → FC (nxt l) ls C' → FC C (l :: ls) C'
theorem FC.append {C C' C'' ls ms : List Int} (h : FC C ls C') (g : FC C' ms C'') : FC C (ls ++ ms) C'' := by
  induction h with
  | nil => exact g
  | cons a b _ ih => exact .cons a b (ih g)
theorem FC.states {C C' ls : List Int} (h : FC C ls C') : ∃ Z : Nat → List Int, Z 0 = C ∧ Z ls.length = C' ∧ ∀ (k : Nat) l, ls[k]? = some l → l ∈ Z k ∧ l ∈ lns ∧ Z (k + 1) = nxt l := by
  induction h with
  | @nil C => exact ⟨fun _ => C, rfl, rfl, fun k l h => by simp at h⟩
  | @cons C l ls C' a b t ih =>
    obtain ⟨Z, z1, z2, z3⟩ := ih
    refine ⟨fun k => match k with
      | 0 => C
      | k + 1 => Z k, rfl, z2, fun k m hm => ?_⟩
    match k with
    | 0 =>
      have : m = l := by simpa using hm.symm
      subst this
      exact ⟨a, b, z1⟩
    | k + 1 => exact z3 k m (by simpa using hm)
section
variable {P B X Q Y : Str}
theorem fol_of {ls : List Int} {Z : Nat → List Int} {m : Nat} (z0 : Z 0 = [4]) (hm : m ≤ ls.length) (h : ∀ (k : Nat) l, k < m → ls[k]? = some l → l ∈ Z k ∧ l ∈ lns ∧ Z (k + 1) = nxt l) (st : ∀ l, ls[m]? = some l → l ∉ Z m) : Fol (scR P B X Q Y) ls Z (fun _ => [0]) m :=
  ⟨⟨4, rfl, z0⟩, rfl, hm, st, fun i l hi hl => by
    obtain ⟨h1, h2, h3⟩ := h i l hi hl
    obtain ⟨f1, f2, f3, _⟩ := ln_facts (P := P) (B := B) (X := X) (Q := Q) (Y := Y) h2 0
    exact ⟨h1, 0, rfl, by rw [h3]; exact f1, .inr ⟨f2, false, f3, rfl⟩⟩, fun _ => Nat.le_of_ble_eq_true rfl⟩
theorem fol_full {ls C' : List Int} (h : FC [4] ls C') : ∃ Z, Fol (scR P B X Q Y) ls Z (fun _ => [0]) ls.length ∧ Z ls.length = C' := by
  obtain ⟨Z, z1, z2, z3⟩ := h.states
  exact ⟨Z, fol_of z1 (Nat.le_refl _) (fun k l _ hl => z3 k l hl) (fun l hl => by simp at hl), z2⟩
theorem no_odd : ∀ l ∈ lns, ∀ o ∈ [(4 : Int), 22, 0, 3], o ∉ nxt l := by decide
theorem no_18 : ∀ l ∈ lns, l ∉ [(17 : Int), 20] → 18 ∉ nxt l := by decide
theorem fol_cut {ls C' : List Int} (h : FC [4] ls C') {cut : Nat} {odd l0 : Int} (h1 : 1 ≤ cut) (h2 : cut ≤ ls.length) (hl : ls[cut - 1]? = some l0) (ho : odd ∈ [(4 : Int), 22, 0, 3] ∨ (odd = 18 ∧ l0 ∉ [(17 : Int), 20])) :
    ∃ Z, Fol (scR P B X Q Y) (ls.take cut ++ odd :: ls.drop cut) Z (fun _ => [0]) cut := by
  obtain ⟨Z, z1, z2, z3⟩ := h.states
  have lt : (ls.take cut).length = cut := by rw [List.length_take]; omega
  refine ⟨Z, fol_of z1 (by rw [List.length_append, lt]; omega) (fun k l hk hl => z3 k l ?_) (fun l hl' => ?_)⟩
  · rw [List.getElem?_append_left (by omega), List.getElem?_take_of_lt hk] at hl
    exact hl
  · rw [List.getElem?_append_right (by omega), lt, Nat.sub_self] at hl'
    have : l = odd := by simpa using hl'.symm
    subst this
    obtain ⟨_, m0, e0⟩ := z3 (cut - 1) l0 hl
    rw [show cut - 1 + 1 = cut by omega] at e0
    rw [e0]
    rcases ho with ho | ⟨rfl, ho⟩
    · exact no_odd _ m0 _ ho
    · exact no_18 _ m0 ho
theorem sty_full {ls C' : List Int} (h : FC [4] ls C') : Sty (scR P B X Q Y) ls fun _ => s0 := by
  obtain ⟨Z, z1, z2, z3⟩ := h.states
  refine ⟨⟨3, rfl, rfl⟩, fun _ _ => Nat.zero_le _, fun i _ => ?_, fun i _ => ?_, fun i _ => ?_, fun i l hl => (ln_facts (z3 i l hl).2.1 i).2.2.2⟩
  · show 1 ≤ i + 1; omega
  · show 1 ≤ i + 1; omega
  · show 1 ≤ i + 1; omega
end
/-! ### values -/
inductive VC (r : RS) (picks : List Int) : Nat → List Int → VS → Option Nat → VS → Prop
  | nil {i : Nat} {a : VS} : VC r picks i [] a none a
  | bad {i : Nat} {l : Int} {ls : List Int} {a : VS} : VBad r picks l a → VC r picks i (l :: ls) a (some i) a
  | cons {i : Nat} {l : Int} {ls : List Int} {a b : VS} {o : Option Nat} {c : VS} : VStep r picks (i : Int) l a b → VC r picks (i + 1) ls b o c → VC r picks i (l :: ls) a o c
theorem VC.append {r : RS} {picks : List Int} {i : Nat} {ls ms : List Int} {a b c : VS} {o o' : Option Nat} (h : VC r picks i ls a o' b) (e : o' = none) (g : VC r picks (i + ls.length) ms b o c) : VC r picks i (ls ++ ms) a o c := by
  induction h with
  | nil => exact g
  | bad => cases e
  | @cons i l ls a b' o1 c' s t ih =>
    refine .cons s (ih e ?_)
    rw [show i + 1 + ls.length = i + (l :: ls).length by rw [List.length_cons]; omega]
    exact g
theorem VC.one {r : RS} {picks : List Int} {i : Nat} {l : Int} {a b : VS} (h : VStep r picks (i : Int) l a b) : VC r picks i [l] a none b := .cons h .nil
/-- the states behind each step that is done -/
theorem VC.states {r : RS} {picks : List Int} {i : Nat} {ls : List Int} {a c : VS} {o : Option Nat} (h : VC r picks i ls a o c) : ∃ (Z : Nat → VS) (e : Nat), (∀ j, o = some j → j = i + e) ∧ (o = none → e = ls.length) ∧ e ≤ ls.length ∧ Z 0 = a ∧ Z e = c ∧
    (∀ (k : Nat) l, k < e → ls[k]? = some l → VStep r picks ((i + k : Nat) : Int) l (Z k) (Z (k + 1))) ∧ (∀ l, ls[e]? = some l → VBad r picks l (Z e)) := by
  induction h with
  | @nil i a => exact ⟨fun _ => a, 0, fun _ h => (by cases h), fun _ => rfl, Nat.le_refl _, rfl, rfl, fun k l h => (by omega), fun l h => (by simp at h)⟩
  | @bad i l ls a b => exact ⟨fun _ => a, 0, fun j h => (by cases h; rfl), fun h => by (cases h), Nat.zero_le _, rfl, rfl, fun k l h => (by omega), fun m h => by
      have : m = l := by simpa using h.symm
      subst this
      exact b⟩
  | @cons i l ls a b o c s t ih =>
    obtain ⟨Z, e, e1, e2, e3, z1, z2, z3, z4⟩ := ih
    refine ⟨fun k => match k with
      | 0 => a
      | k + 1 => Z k, e + 1, fun j h => ?_, fun h => ?_, ?_, rfl, z2, fun k m hk hm => ?_, fun m hm => z4 m (by simpa using hm)⟩
    · rw [e1 j h]; omega
    · rw [e2 h, List.length_cons]
    · rw [List.length_cons]; omega
    · match k with
      | 0 =>
        have : m = l := by simpa using hm.symm
        subst this
        show VStep r picks ((i + 0 : Nat) : Int) m a (Z 0)
        rw [z1]
        exact s
      | k + 1 =>
        have := z3 k m (by omega) (by simpa using hm)
        show VStep r picks ((i + (k + 1) : Nat) : Int) m (Z k) (Z (k + 1))
        rw [show i + (k + 1) = i + 1 + k by omega]
        exact this
def v0 : VS := ⟨[], [], [], [], [], []⟩
structure Sm (i : Nat) (v : VS) : Prop where
  kn : v.kn.length ≤ i
  held : v.held.length ≤ i
  seen : v.seen.length = i
  taken : v.taken.length ≤ i
  below : v.below = []
  tgs : v.tgs = []
/-- a step keeps the sizes, where no call is made -/
theorem step_sm {r : RS} {picks : List Int} {i : Nat} {l : Int} {a b : VS} (hc : r.callees.lookup l = none) (h : VStep r picks (i : Int) l a b) (s : Sm i a) : Sm (i + 1) b := by
  obtain ⟨kw, ws, rec, parts, taken, h1, h2, h3, h4, h5, h6, h7, h8, h9, h10⟩ := h.ex
  have ht : taken.length ≤ i + 1 := by
    unfold takenOf at h8
    split at h8
    · obtain ⟨pk, _, rfl⟩ := Option.map_eq_some_iff.mp h8
      rw [List.length_append]
      have := s.taken
      show _ + 1 ≤ _
      omega
    · cases h8
      have := s.taken
      omega
  have hh : (heldOf a.kn (i : Int) (kw :: ws) parts a.held).length ≤ i + 1 := by
    unfold heldOf
    have := s.held
    split
    · rw [List.length_append]
      show _ + 1 ≤ _
      omega
    · omega
  have hs : (a.seen ++ [rec]).length = i + 1 := by rw [List.length_append, s.seen] <;> rfl
  have hb := s.below
  have htg := s.tgs
  rcases h10 with ⟨_, x, v, _, _, rfl⟩ | ⟨_, kn, bw, ts, h11, rfl⟩
  · exact ⟨up1 s.kn, hh, hs, ht, hb, htg⟩
  · have no : ∀ {ts : List (Option Str)} {x}, a.tgs ≠ ts ++ [x] := fun {ts x} z => by
      rw [htg] at z
      exact absurd z.symm (by simp)
    cases h11 with
    | call _ _ _ _ hc2 => rw [hc] at hc2; cases hc2
    | do_ _ _ hc2 => rw [hc] at hc2; cases hc2
    | stay _ _ _ => exact ⟨by show a.kn.length ≤ _; have := s.kn; omega, hh, hs, ht, hb, htg⟩
    | give _ _ _ _ _ e => exact absurd e no
    | back _ _ _ _ e => exact absurd e no
    | drop _ _ _ e => exact absurd e no
theorem VC.vls {r : RS} {picks : List Int} {ls : List Int} {c : VS} {o : Option Nat} (h : VC r picks 0 ls v0 o c) (hl : ls.length ≤ 1000) (hc : ∀ l ∈ ls, r.callees.lookup l = none) : ∃ V', Vls r picks ls V' (o.getD ls.length) ∧ V' (o.getD ls.length) = c := by
  obtain ⟨Z, e, e1, e2, e3, z1, z2, z3, z4⟩ := h.states
  have ee : o.getD ls.length = e := by
    cases o with
    | none => exact (e2 rfl).symm
    | some j => have := e1 j rfl; show j = e; omega
  rw [ee]
  have sm : ∀ i ≤ e, Sm i (Z i) := by
    intro i
    induction i with
    | zero => intro _; rw [z1]; exact ⟨Nat.le_refl _, Nat.le_refl _, rfl, Nat.le_refl _, rfl, rfl⟩
    | succ i ih =>
      intro hi
      have hg : ls[i]? = some ls[i] := List.getElem?_eq_getElem (by omega)
      have st := z3 i _ (by omega) hg
      rw [Nat.zero_add] at st
      exact step_sm (hc _ (List.mem_of_getElem? hg)) st (ih (by omega))
  refine ⟨Z, ⟨e3, z4, z1, fun i l hi hl => ?_, fun i hi => ?_⟩, z2⟩
  · have := z3 i l hi hl
    rw [Nat.zero_add] at this
    exact this
  · have s := sm i hi
    exact ⟨by have := s.kn; omega, s.held, by rw [s.seen]; exact Nat.le_refl _, s.taken, by rw [s.below]; exact Nat.zero_le _, by rw [s.tgs]; exact Nat.zero_le _, fun x hx => by rw [s.tgs] at hx; cases hx⟩
theorem vls_take {r : RS} {picks ls : List Int} {V' : Nat → VS} {m c : Nat} (h : Vls r picks ls V' m) (hc : c ≤ ls.length) : Vls r picks (ls.take c) V' (min m c) := by
  have lt : (ls.take c).length = c := by rw [List.length_take]; omega
  refine ⟨by rw [lt]; exact Nat.min_le_right _ _, fun l hl => ?_, h.zero, fun i l hi hl => ?_, fun i hi => h.small i (Nat.le_trans hi (Nat.min_le_left _ _))⟩
  · have hm : min m c < c := by
      by_cases z : min m c < c
      · exact z
      · rw [List.getElem?_eq_none (by omega)] at hl; cases hl
    have e : min m c = m := by omega
    rw [e] at hl ⊢
    rw [List.getElem?_take_of_lt (by omega)] at hl
    exact h.stop l hl
  · rw [List.getElem?_take_of_lt (by omega)] at hl
    exact h.step i l (by omega) hl
/-! ### kinds of steps -/
section
variable {r : RS} {picks : List Int} {i l : Int} {v : VS}
theorem readRec_cons {kn : List (Key × V)} {kw : Str} {ws : List Str} : readRec kn (kw :: ws) = if kw = "use" then ws[0]?.map (getN kn) else if kw ∈ [("with" : Str), "get", "some"] then ws[1]?.map (getN kn) else some .non := rfl
theorem namedV_cons {kn : List (Key × V)} {parts : List V} {i : Int} {taken : List Int} {kw : Str} {ws : List Str} : namedV kn parts i taken (kw :: ws) = if kw ∈ [("new" : Str), "with"] then some (.int i) else if kw = "let" then ws[1]?.map (getN kn) else if kw = "none" ∨ parts = [] then some .non else if kw = "some" then (match taken.getLast? with
    | some t => if 0 ≤ t then parts[t.toNat]? else none
    | none => none) else none := rfl
theorem held_no {kn : List (Key × V)} {i : Int} {kw : Str} {ws : List Str} {parts : List V} {held : List (Int × List V)} (h : kw ∉ [("new" : Str), "with"]) : heldOf kn i (kw :: ws) parts held = held := if_neg h
theorem held_yes {kn : List (Key × V)} {i : Int} {kw : Str} {ws : List Str} {parts : List V} {held : List (Int × List V)} (h : kw ∈ [("new" : Str), "with"]) : heldOf kn i (kw :: ws) parts held = held ++ [(i, parts ++ ((kw :: ws).drop 3).map (getN kn))] := if_pos h
/-- a line that does nothing -/
theorem v_plain {kw : Str} {ws : List Str} (h1 : r.rows.lookup l = some (kw :: ws)) (hw : ws.length ≤ 1000) (h2 : kw ≠ "use") (h3 : kw ∉ [("with" : Str), "get", "some"]) (h4 : kw ∉ naming) (h5 : v.held.lookup i = none) (h6 : r.callees.lookup l = none) (h7 : leaves r l = some false) :
    VStep r picks i l v { v with seen := v.seen ++ [.non] } := by
  have hs : kw ≠ "some" := fun e => h3 (by rw [e]; decide)
  have hn : kw ∉ [("new" : Str), "with"] := fun e => h4 (by
    simp only [List.mem_cons, List.not_mem_nil, or_false] at e
    rcases e with rfl | rfl <;> decide)
  refine ⟨kw, ws, .non, [], v.taken, h1, hw, ?_, rfl, rfl, (fun _ h => by cases h), Nat.zero_le _, ?_, h5, .inr ⟨h4, v.kn, v.below, v.tgs, .stay h6 h7 (.inl rfl), ?_⟩⟩
  · rw [readRec_cons, if_neg h2, if_neg h3]
  · unfold takenOf
    rw [if_neg (fun z => hs z.1)]
  · rw [held_no hn]
/-- use x -/
theorem v_use {x : Str} {u : V} {parts : List V} (h1 : r.rows.lookup l = some [("use" : Str), x]) (hu : getN v.kn x = u) (hr : isRec u = true) (hp : partsOf v.held u = some parts) (hq : ∀ y ∈ parts, isRec y = true) (hl : parts.length ≤ 100000) (h5 : v.held.lookup i = none) (h6 : r.callees.lookup l = none) (h7 : leaves r l = some false) :
    VStep r picks i l v { v with seen := v.seen ++ [u] } := by
  refine ⟨"use", [x], u, parts, v.taken, h1, by show 1 ≤ 1000; decide, ?_, hr, hp, hq, hl, ?_, h5, .inr ⟨by decide, v.kn, v.below, v.tgs, .stay h6 h7 (.inl rfl), ?_⟩⟩
  · rw [readRec_cons, if_pos rfl, ← hu] <;> rfl
  · unfold takenOf
    rw [if_neg (fun z => absurd z.1 (by decide))]
  · rw [held_no (by decide)]
/-- new x s -/
theorem v_new {x s : Str} (h1 : r.rows.lookup l = some [("new" : Str), x, s]) (h5 : v.held.lookup i = none) :
    VStep r picks i l v { v with kn := putK v.kn (.inr x) (.int i), held := v.held ++ [(i, [])], seen := v.seen ++ [.non] } := by
  refine ⟨"new", [x, s], .non, [], v.taken, h1, by show 2 ≤ 1000; decide, ?_, rfl, rfl, (fun _ h => by cases h), Nat.zero_le _, ?_, h5, .inl ⟨by decide, x, .int i, rfl, ?_, ?_⟩⟩
  · rw [readRec_cons, if_neg (by decide), if_neg (by decide)]
  · unfold takenOf
    rw [if_neg (fun z => absurd z.1 (by decide))]
  · rw [namedV_cons, if_pos (by decide)]
  · rw [held_yes (by decide)]
    rfl
/-- none x s -/
theorem v_none {x s : Str} (h1 : r.rows.lookup l = some [("none" : Str), x, s]) (h5 : v.held.lookup i = none) :
    VStep r picks i l v { v with kn := putK v.kn (.inr x) .non, seen := v.seen ++ [.non] } := by
  refine ⟨"none", [x, s], .non, [], v.taken, h1, by show 2 ≤ 1000; decide, ?_, rfl, rfl, (fun _ h => by cases h), Nat.zero_le _, ?_, h5, .inl ⟨by decide, x, .non, rfl, ?_, ?_⟩⟩
  · rw [readRec_cons, if_neg (by decide), if_neg (by decide)]
  · unfold takenOf
    rw [if_neg (fun z => absurd z.1 (by decide))]
  · rw [namedV_cons, if_neg (by decide), if_neg (by decide), if_pos (.inl rfl)]
  · rw [held_no (by decide)]
/-- with x y z -/
theorem v_with {x y z : Str} {u : V} {parts : List V} (h1 : r.rows.lookup l = some [("with" : Str), x, y, z]) (hu : getN v.kn y = u) (hr : isRec u = true) (hp : partsOf v.held u = some parts) (hq : ∀ y ∈ parts, isRec y = true) (hl : parts.length ≤ 100000) (h5 : v.held.lookup i = none) :
    VStep r picks i l v { v with kn := putK v.kn (.inr x) (.int i), held := v.held ++ [(i, parts ++ [getN v.kn z])], seen := v.seen ++ [u] } := by
  refine ⟨"with", [x, y, z], u, parts, v.taken, h1, by show 3 ≤ 1000; decide, ?_, hr, hp, hq, hl, ?_, h5, .inl ⟨by decide, x, .int i, rfl, ?_, ?_⟩⟩
  · rw [readRec_cons, if_neg (by decide), if_pos (by decide), ← hu] <;> rfl
  · unfold takenOf
    rw [if_neg (fun z => absurd z.1 (by decide))]
  · rw [namedV_cons, if_pos (by decide)]
  · rw [held_yes (by decide)]
    rfl
/-- some x y, of an empty bag or of nothing -/
theorem v_some0 {x y : Str} {u : V} (h1 : r.rows.lookup l = some [("some" : Str), x, y]) (hu : getN v.kn y = u) (hr : isRec u = true) (hp : partsOf v.held u = some []) (h5 : v.held.lookup i = none) :
    VStep r picks i l v { v with kn := putK v.kn (.inr x) .non, seen := v.seen ++ [u] } := by
  refine ⟨"some", [x, y], u, [], v.taken, h1, by show 2 ≤ 1000; decide, ?_, hr, hp, (fun _ h => by cases h), Nat.zero_le _, ?_, h5, .inl ⟨by decide, x, .non, rfl, ?_, ?_⟩⟩
  · rw [readRec_cons, if_neg (by decide), if_pos (by decide), ← hu] <;> rfl
  · unfold takenOf
    rw [if_neg (fun z => z.2 rfl)]
  · rw [namedV_cons, if_neg (by decide), if_neg (by decide), if_pos (.inr rfl)]
  · rw [held_no (by decide)]
theorem pick_bd {picks : List Int} {n m : Nat} {pk : Int} (h : pickAt picks n m = some pk) : 0 ≤ pk ∧ pk < (m : Int) := by
  unfold pickAt at h
  split at h
  · cases h; assumption
  · cases h
/-- some x y, with a pick -/
theorem v_some {x y : Str} {u p : V} {parts : List V} {pk : Int} (h1 : r.rows.lookup l = some [("some" : Str), x, y]) (hu : getN v.kn y = u) (hr : isRec u = true) (hp : partsOf v.held u = some parts) (hq : ∀ y ∈ parts, isRec y = true) (hl : parts.length ≤ 100000) (hne : parts ≠ []) (hpk : pickAt picks v.taken.length parts.length = some pk) (hat : parts[pk.toNat]? = some p) (h5 : v.held.lookup i = none) :
    VStep r picks i l v { v with kn := putK v.kn (.inr x) p, seen := v.seen ++ [u], taken := v.taken ++ [pk] } := by
  refine ⟨"some", [x, y], u, parts, v.taken ++ [pk], h1, by show 2 ≤ 1000; decide, ?_, hr, hp, hq, hl, ?_, h5, .inl ⟨by decide, x, p, rfl, ?_, ?_⟩⟩
  · rw [readRec_cons, if_neg (by decide), if_pos (by decide), ← hu] <;> rfl
  · unfold takenOf
    rw [if_pos ⟨rfl, hne⟩, hpk] <;> rfl
  · rw [namedV_cons, if_neg (by decide), if_neg (by decide), if_neg (fun z => z.elim (by decide) hne), if_pos rfl, List.getLast?_concat]
    exact (if_pos (pick_bd hpk).1).trans hat
  · rw [held_no (by decide)]
/-- some x y, with a pick that is no item -/
theorem v_bad {x y : Str} {u : V} {parts : List V} (h1 : r.rows.lookup l = some [("some" : Str), x, y]) (hu : getN v.kn y = u) (hr : isRec u = true) (hp : partsOf v.held u = some parts) (hq : ∀ y ∈ parts, isRec y = true) (hne : parts ≠ []) (hpk : pickAt picks v.taken.length parts.length = none) : VBad r picks l v := by
  refine ⟨[x, y], u, parts, h1, ?_, hr, hp, hq, hne, hpk⟩
  rw [readRec_cons, if_neg (by decide), if_pos (by decide), ← hu] <;> rfl
end
end R9H
set_option Elab.async false
set_option linter.all false
set_option maxRecDepth 100000
set_option maxHeartbeats 4000000
/-! k19, part SC: the run's lines and what they do -/
namespace R9H
open PySem PySem.Spec PyProof.Rows L2
def reps (n : Nat) (l : List Int) : List Int := (List.replicate n l).flatten
theorem reps_len (n : Nat) (l : List Int) : (reps n l).length = n * l.length := by
  unfold reps
  induction n with
  | zero => simp
  | succ n ih => rw [List.replicate_succ, List.flatten_cons, List.length_append, ih, Nat.succ_mul]; omega
theorem reps_cons (n : Nat) (l : List Int) : reps (n + 1) l = l ++ reps n l := by unfold reps; rw [List.replicate_succ, List.flatten_cons]
def preL (b : Bool) : List Int := [4, 5] ++ (if b then [6, 7] else [8]) ++ [9]
def itemL (b : Bool) : List Int := [10] ++ (if b then [11, 12] else [13, 14]) ++ [15, 16]
def itemsL (bs : List Bool) : List Int := (bs.map itemL).flatten
def told (b : Bool) (bs : List Bool) (many : Nat) : List Int := preL b ++ itemsL bs ++ [17] ++ reps many [18, 19, 20]
theorem itemL_len (b : Bool) : (itemL b).length = 5 := by cases b <;> rfl
theorem itemsL_len : ∀ bs : List Bool, (itemsL bs).length = 5 * bs.length
  | [] => rfl
  | b :: bs => by
    have := itemsL_len bs
    unfold itemsL at this ⊢
    rw [List.map_cons, List.flatten_cons, List.length_append, itemL_len, this, List.length_cons]
    omega
theorem fc_pre (b : Bool) : FC [4] (preL b) [10, 17] := by
  cases b with
  | true => exact .cons (by decide) (by decide) (.cons (by decide) (by decide) (.cons (by decide) (by decide) (.cons (by decide) (by decide) (.cons (by decide) (by decide) .nil))))
  | false => exact .cons (by decide) (by decide) (.cons (by decide) (by decide) (.cons (by decide) (by decide) (.cons (by decide) (by decide) .nil)))
theorem fc_item (b : Bool) : FC [10, 17] (itemL b) [10, 17] := by
  cases b with
  | true => exact .cons (by decide) (by decide) (.cons (by decide) (by decide) (.cons (by decide) (by decide) (.cons (by decide) (by decide) (.cons (by decide) (by decide) .nil))))
  | false => exact .cons (by decide) (by decide) (.cons (by decide) (by decide) (.cons (by decide) (by decide) (.cons (by decide) (by decide) (.cons (by decide) (by decide) .nil))))
theorem fc_items : ∀ bs : List Bool, FC [10, 17] (itemsL bs) [10, 17]
  | [] => .nil
  | b :: bs => (fc_item b).append (fc_items bs)
theorem fc_reps : ∀ n : Nat, FC [18, 21] (reps n [18, 19, 20]) [18, 21]
  | 0 => .nil
  | n + 1 => by
    rw [reps_cons]
    exact FC.append (.cons (by decide) (by decide) (.cons (by decide) (by decide) (.cons (by decide) (by decide) .nil))) (fc_reps n)
theorem fc_told (b : Bool) (bs : List Bool) (many : Nat) : FC [4] (told b bs many) [18, 21] :=
  (((fc_pre b).append (fc_items bs)).append (.cons (by decide) (by decide) .nil)).append (fc_reps many)
/-! ### names -/
section
variable {x y : Str} {u : V} {kn : List (Key × V)}
theorem getN_put : getN (putK kn (.inr x) u) x = u := by
  unfold getN
  rw [valV_put, if_pos rfl] <;> rfl
theorem getN_oth (h : x ≠ y) : getN (putK kn (.inr x) u) y = getN kn y := by
  unfold getN
  rw [valV_put, if_neg (fun z => h (Sum.inr.inj z).symm)]
end
/-- ahead of the loops' lines: the bag's items -/
structure VI (Q : Str) (i : Nat) (v : VS) (parts : List V) : Prop where
  q : partsOf v.held (getN v.kn Q) = some parts
  qr : isRec (getN v.kn Q) = true
  el : ∀ u ∈ parts, u = .non ∨ ∃ k, u = .int k ∧ v.held.lookup k = some []
  hk : ∀ k : Nat, i ≤ k → v.held.lookup (k : Int) = none
  pl : parts.length ≤ i
theorem VI.recs {Q : Str} {i : Nat} {v : VS} {parts : List V} (h : VI Q i v parts) : ∀ u ∈ parts, isRec u = true := fun u hu => by
  rcases h.el u hu with rfl | ⟨k, rfl, _⟩ <;> rfl
theorem VI.of {Q : Str} {i j : Nat} {v v' : VS} {parts : List V} (h : VI Q i v parts) (e1 : getN v'.kn Q = getN v.kn Q) (e2 : v'.held = v.held) (hj : i ≤ j) : VI Q j v' parts :=
  ⟨by rw [e1, e2]; exact h.q, by rw [e1]; exact h.qr, by rw [e2]; exact h.el, fun k hk => by rw [e2]; exact h.hk k (by omega), by have := h.pl; omega⟩
theorem lk_app {α : Type} {l : List (Int × α)} {k i : Int} {v w : α} (h : l.lookup k = some v) : (l ++ [(i, w)]).lookup k = some v := by
  induction l with
  | nil => cases h
  | cons p l ih =>
    rw [show p = (p.1, p.2) from rfl, List.cons_append, List.lookup_cons] at *
    cases hb : k == p.1 with
    | true => rw [hb] at h; exact h
    | false => rw [hb] at h; exact ih h
theorem lk_new {α : Type} {l : List (Int × α)} {i : Int} {w : α} (h : l.lookup i = none) : (l ++ [(i, w)]).lookup i = some w := by
  induction l with
  | nil => rw [List.nil_append, List.lookup_cons, beq_self_eq_true]
  | cons p l ih =>
    rw [show p = (p.1, p.2) from rfl, List.cons_append, List.lookup_cons] at *
    cases hb : i == p.1 with
    | true => rw [hb] at h; cases h
    | false => rw [hb] at h; exact ih h
theorem lk_non {α : Type} {l : List (Int × α)} {k i : Int} {w : α} (h : l.lookup k = none) (hi : k ≠ i) : (l ++ [(i, w)]).lookup k = none := by
  induction l with
  | nil =>
    have hb : (k == i) = false := by simpa using hi
    rw [List.nil_append, List.lookup_cons, hb] <;> rfl
  | cons p l ih =>
    rw [show p = (p.1, p.2) from rfl, List.cons_append, List.lookup_cons] at *
    cases hb : k == p.1 with
    | true => rw [hb] at h; cases h
    | false => rw [hb] at h; exact ih h
def parts1 (i : Nat) (b : Bool) : V := if b then .int ((i + 1 : Nat) : Int) else .non
def partsL : Nat → List Bool → List V
  | _, [] => []
  | i, b :: bs => parts1 i b :: partsL (i + 5) bs
theorem partsL_len : ∀ (i : Nat) (bs : List Bool), (partsL i bs).length = bs.length
  | _, [] => rfl
  | i, b :: bs => by rw [partsL, List.length_cons, List.length_cons, partsL_len]
section
variable {P B X Q Y : Str} {picks : List Int}
theorem vc_pre (N : Nm P B X Q Y) (b : Bool) : ∃ v, VC (scR P B X Q Y) picks 0 (preL b) v0 none v ∧ VI Q (preL b).length v [] ∧ v.taken = [] ∧ v.seen.length = (preL b).length := by
  have s1 : VStep (scR P B X Q Y) picks ((0 : Nat) : Int) 4 v0 _ := v_none (x := Q) (s := B) rfl rfl
  have s2 : VStep (scR P B X Q Y) picks ((1 : Nat) : Int) 5 _ _ := v_plain (v := { v0 with kn := putK v0.kn (.inr Q) .non, seen := v0.seen ++ [.non] }) (kw := "either") (ws := []) rfl (Nat.zero_le _) (by decide) (by decide) (by decide) rfl rfl rfl
  cases b with
  | true =>
    have s3 : VStep (scR P B X Q Y) picks ((2 : Nat) : Int) 6 _ _ := v_new (v := ⟨putK [] (.inr Q) .non, [], [.non, .non], [], [], []⟩) (x := Q) (s := B) rfl rfl
    have s4 : VStep (scR P B X Q Y) picks ((3 : Nat) : Int) 7 _ _ := v_plain (v := ⟨putK (putK [] (.inr Q) .non) (.inr Q) (.int 2), [(2, [])], [.non, .non, .non], [], [], []⟩) (kw := "or") (ws := []) rfl (Nat.zero_le _) (by decide) (by decide) (by decide) rfl rfl rfl
    have s5 : VStep (scR P B X Q Y) picks ((4 : Nat) : Int) 9 _ _ := v_plain (v := ⟨putK (putK [] (.inr Q) .non) (.inr Q) (.int 2), [(2, [])], [.non, .non, .non, .non], [], [], []⟩) (kw := "loop") (ws := []) rfl (Nat.zero_le _) (by decide) (by decide) (by decide) rfl rfl rfl
    refine ⟨_, .cons s1 (.cons s2 (.cons s3 (.cons s4 (.cons s5 .nil)))), ⟨?_, ?_, fun _ h => by (cases h), fun k hk => ?_, Nat.zero_le _⟩, rfl, rfl⟩
    · rw [getN_put] <;> rfl
    · rw [getN_put] <;> rfl
    · have hk : 5 ≤ k := hk
      have : (2 : Int) ≠ (k : Int) := by omega
      exact lk_non (l := []) rfl (by omega)
  | false =>
    have s3 : VStep (scR P B X Q Y) picks ((2 : Nat) : Int) 8 _ _ := v_plain (v := ⟨putK [] (.inr Q) .non, [], [.non, .non], [], [], []⟩) (kw := "end") (ws := []) rfl (Nat.zero_le _) (by decide) (by decide) (by decide) rfl rfl rfl
    have s4 : VStep (scR P B X Q Y) picks ((3 : Nat) : Int) 9 _ _ := v_plain (v := ⟨putK [] (.inr Q) .non, [], [.non, .non, .non], [], [], []⟩) (kw := "loop") (ws := []) rfl (Nat.zero_le _) (by decide) (by decide) (by decide) rfl rfl rfl
    refine ⟨_, .cons s1 (.cons s2 (.cons s3 (.cons s4 .nil))), ⟨?_, ?_, fun _ h => by (cases h), fun k hk => rfl, Nat.zero_le _⟩, rfl, rfl⟩
    · rw [getN_put] <;> rfl
    · rw [getN_put] <;> rfl
theorem vc_item (N : Nm P B X Q Y) (b : Bool) {i : Nat} {v : VS} {parts : List V} (h : VI Q i v parts) (hi : i ≤ 1000) : ∃ v', VC (scR P B X Q Y) picks i (itemL b) v none v' ∧ VI Q (i + 5) v' (parts ++ [parts1 i b]) ∧ v'.taken = v.taken ∧ v'.seen.length = v.seen.length + 5 := by
  have s1 : VStep (scR P B X Q Y) picks ((i : Nat) : Int) 10 v _ := v_plain (kw := "either") (ws := []) rfl (Nat.zero_le _) (by decide) (by decide) (by decide) (h.hk i (by omega)) rfl rfl
  -- behind the either: X has its value
  have mid : ∃ l1 l2 v3, itemL b = [10, l1, l2, 15, 16] ∧ VC (scR P B X Q Y) picks (i + 1) [l1, l2] { v with seen := v.seen ++ [.non] } none v3 ∧ VI Q (i + 3) v3 parts ∧ getN v3.kn X = parts1 i b ∧ (parts1 i b = .non ∨ ∃ k, parts1 i b = .int k ∧ v3.held.lookup k = some []) ∧ v3.taken = v.taken ∧ v3.seen.length = v.seen.length + 3 := by
    cases b with
    | true =>
      have s2 : VStep (scR P B X Q Y) picks ((i + 1 : Nat) : Int) 11 _ _ := v_new (v := { v with seen := v.seen ++ [.non] }) (x := X) (s := P) rfl (h.hk (i + 1) (by omega))
      have hk : ∀ k : Nat, i + 2 ≤ k → (v.held ++ [(((i + 1 : Nat) : Int), [])]).lookup (k : Int) = none := fun k hk => lk_non (h.hk k (by omega)) (by omega)
      have s3 : VStep (scR P B X Q Y) picks ((i + 1 + 1 : Nat) : Int) 12 _ _ := v_plain (v := { v with kn := putK v.kn (.inr X) (.int ((i + 1 : Nat) : Int)), held := v.held ++ [(((i + 1 : Nat) : Int), [])], seen := v.seen ++ [.non] ++ [.non] }) (kw := "or") (ws := []) rfl (Nat.zero_le _) (by decide) (by decide) (by decide) (hk _ (by omega)) rfl rfl
      refine ⟨11, 12, _, rfl, .cons s2 (.cons s3 .nil), ⟨?_, ?_, fun u hu => ?_, fun k hk' => hk k (by omega), by have := h.pl; omega⟩, getN_put, .inr ⟨_, rfl, lk_new (h.hk _ (by omega))⟩, rfl, ?_⟩
      · show partsOf (v.held ++ _) (getN (putK v.kn (.inr X) _) Q) = _
        rw [getN_oth N.xq]
        have hq := h.q
        have hr := h.qr
        cases hc : getN v.kn Q with
        | non => rw [hc] at hq; exact hq
        | int k => rw [hc] at hq; exact lk_app hq
        | _ => rw [hc] at hr; cases hr
      · show isRec (getN (putK v.kn (.inr X) _) Q) = true
        rw [getN_oth N.xq]
        exact h.qr
      · rcases h.el u hu with h1 | ⟨k, h1, h2⟩
        · exact .inl h1
        · exact .inr ⟨k, h1, lk_app h2⟩
      · show (v.seen ++ [V.non] ++ [V.non] ++ [V.non]).length = _
        simp
    | false =>
      have s2 : VStep (scR P B X Q Y) picks ((i + 1 : Nat) : Int) 13 _ _ := v_none (v := { v with seen := v.seen ++ [.non] }) (x := X) (s := P) rfl (h.hk (i + 1) (by omega))
      have s3 : VStep (scR P B X Q Y) picks ((i + 1 + 1 : Nat) : Int) 14 _ _ := v_plain (v := { v with kn := putK v.kn (.inr X) .non, seen := v.seen ++ [.non] ++ [.non] }) (kw := "end") (ws := []) rfl (Nat.zero_le _) (by decide) (by decide) (by decide) (h.hk _ (by omega)) rfl rfl
      refine ⟨13, 14, _, rfl, .cons s2 (.cons s3 .nil), h.of (getN_oth N.xq) rfl (by omega), getN_put, .inl rfl, rfl, ?_⟩
      show (v.seen ++ [V.non] ++ [V.non] ++ [V.non]).length = _
      simp
  obtain ⟨l1, l2, v3, el, c, h3, hX, hE, ht, hs⟩ := mid
  have s4 : VStep (scR P B X Q Y) picks ((i + 3 : Nat) : Int) 15 v3 _ := v_with (x := Q) (y := Q) (z := X) rfl rfl h3.qr h3.q h3.recs (by have := h3.pl; omega) (h3.hk _ (by omega))
  rw [hX] at s4
  have hk : ∀ k : Nat, i + 4 ≤ k → (v3.held ++ [(((i + 3 : Nat) : Int), parts ++ [parts1 i b])]).lookup (k : Int) = none := fun k hk => lk_non (h3.hk k (by omega)) (by omega)
  have s5 : VStep (scR P B X Q Y) picks ((i + 3 + 1 : Nat) : Int) 16 _ _ := v_plain (v := { v3 with kn := putK v3.kn (.inr Q) (.int ((i + 3 : Nat) : Int)), held := v3.held ++ [(((i + 3 : Nat) : Int), parts ++ [parts1 i b])], seen := v3.seen ++ [getN v3.kn Q] }) (kw := "end") (ws := []) rfl (Nat.zero_le _) (by decide) (by decide) (by decide) (hk _ (by omega)) rfl rfl
  refine ⟨{ v3 with kn := putK v3.kn (.inr Q) (.int ((i + 3 : Nat) : Int)), held := v3.held ++ [(((i + 3 : Nat) : Int), parts ++ [parts1 i b])], seen := v3.seen ++ [getN v3.kn Q] ++ [.non] }, ?_, ⟨?_, ?_, fun u hu => ?_, fun k hk' => hk k (by omega), ?_⟩, ht, ?_⟩
  · rw [el]
    exact .cons s1 (VC.append (ls := [l1, l2]) c rfl (.cons s4 (.cons s5 .nil)))
  · show partsOf _ (getN (putK v3.kn (.inr Q) _) Q) = _
    rw [getN_put]
    exact lk_new (h3.hk _ (by omega))
  · show isRec (getN (putK v3.kn (.inr Q) _) Q) = true
    rw [getN_put] <;> rfl
  · rcases List.mem_append.mp hu with hu | hu
    · rcases h3.el u hu with h1 | ⟨k, h1, h2⟩
      · exact .inl h1
      · exact .inr ⟨k, h1, lk_app h2⟩
    · rw [List.mem_singleton.mp hu]
      rcases hE with h1 | ⟨k, h1, h2⟩
      · exact .inl h1
      · exact .inr ⟨k, h1, lk_app h2⟩
  · rw [List.length_append]
    have := h3.pl
    show _ + 1 ≤ _
    omega
  · show (v3.seen ++ [_] ++ [_]).length = _
    simp [hs]
theorem vc_items (N : Nm P B X Q Y) : ∀ (bs : List Bool) {i : Nat} {v : VS} {parts : List V}, VI Q i v parts → i + 5 * bs.length ≤ 1000 → ∃ v', VC (scR P B X Q Y) picks i (itemsL bs) v none v' ∧ VI Q (i + 5 * bs.length) v' (parts ++ partsL i bs) ∧ v'.taken = v.taken ∧ v'.seen.length = v.seen.length + 5 * bs.length
  | [], i, v, parts, h, hi => ⟨v, .nil, by rw [partsL, List.append_nil]; exact h, rfl, rfl⟩
  | b :: bs, i, v, parts, h, hi => by
    rw [List.length_cons] at hi
    obtain ⟨v1, c1, h1, t1, n1⟩ := vc_item (P := P) (B := B) (picks := picks) N b h (by omega)
    obtain ⟨v2, c2, h2, t2, n2⟩ := vc_items N bs h1 (by omega)
    refine ⟨v2, c1.append rfl (by rw [itemL_len]; exact c2), ?_, t2.trans t1, ?_⟩
    · rw [partsL, List.append_cons, List.length_cons, show i + 5 * (bs.length + 1) = i + 5 + 5 * bs.length by omega]
      exact h2
    · rw [n2, n1, List.length_cons]
      omega
/-- the bag's loop -/
theorem vc_some (N : Nm P B X Q Y) {parts : List V} : ∀ (n : Nat) {i : Nat} {v : VS}, VI Q i v parts → i + 3 * n ≤ 100000 → ∃ o c, VC (scR P B X Q Y) picks i (reps n [18, 19, 20]) v o c ∧ dueF parts.length picks i (reps n [18, 19, 20]) v.taken = (c.taken, o) ∧
    (o = none → ∃ ps ys, c.taken = v.taken ++ ps ∧ ys.length = n ∧ c.seen = v.seen ++ (ys.map fun y => [getN v.kn Q, y, .non]).flatten ∧ (parts = [] → ps = [] ∧ ys = List.replicate n .non) ∧ (parts ≠ [] → ps.length = n ∧ ys = ps.map (fun p => parts.getD p.toNat .non)) ∧ ∀ p ∈ ps, 0 ≤ p ∧ p < (parts.length : Int))
  | 0, i, v, h, hi => ⟨none, v, .nil, rfl, fun _ => ⟨[], [], by simp, rfl, by simp, fun _ => ⟨rfl, rfl⟩, fun _ => ⟨rfl, rfl⟩, fun _ h => by cases h⟩⟩
  | n + 1, i, v, h, hi => by
    -- the value of Y
    have go : ∀ (y : V) (tk : List Int), (y = .non ∨ ∃ k, y = .int k ∧ v.held.lookup k = some []) → VStep (scR P B X Q Y) picks ((i : Nat) : Int) 18 v { v with kn := putK v.kn (.inr Y) y, seen := v.seen ++ [getN v.kn Q], taken := tk } →
        ∃ v3, VC (scR P B X Q Y) picks i [18, 19, 20] v none v3 ∧ VI Q (i + 3) v3 parts ∧ v3.taken = tk ∧ v3.seen = v.seen ++ [getN v.kn Q, y, .non] ∧ getN v3.kn Q = getN v.kn Q := by
      intro y tk hy s1
      have hyp : isRec y = true ∧ partsOf v.held y = some [] := by
        rcases hy with rfl | ⟨k, rfl, h2⟩
        · exact ⟨rfl, rfl⟩
        · exact ⟨rfl, h2⟩
      have s2 : VStep (scR P B X Q Y) picks ((i + 1 : Nat) : Int) 19 _ _ := v_use (v := { v with kn := putK v.kn (.inr Y) y, seen := v.seen ++ [getN v.kn Q], taken := tk }) (x := Y) (u := y) (parts := []) rfl getN_put hyp.1 hyp.2 (fun _ h => by cases h) (Nat.zero_le _) (h.hk _ (by omega)) rfl rfl
      have s3 : VStep (scR P B X Q Y) picks ((i + 1 + 1 : Nat) : Int) 20 _ _ := v_plain (v := { v with kn := putK v.kn (.inr Y) y, seen := v.seen ++ [getN v.kn Q] ++ [y], taken := tk }) (kw := "end") (ws := []) rfl (Nat.zero_le _) (by decide) (by decide) (by decide) (h.hk _ (by omega)) rfl rfl
      refine ⟨_, .cons s1 (.cons s2 (.cons s3 .nil)), h.of (getN_oth (Ne.symm N.qy)) rfl (by omega), rfl, ?_, getN_oth (Ne.symm N.qy)⟩
      show v.seen ++ [_] ++ [_] ++ [_] = _
      simp
    by_cases hp : parts = []
    · have s1 : VStep (scR P B X Q Y) picks ((i : Nat) : Int) 18 v _ := v_some0 (x := Y) (y := Q) rfl rfl h.qr (by rw [← hp]; exact h.q) (h.hk i (by omega))
      obtain ⟨v3, c3, h3, t3, n3, g3⟩ := go .non v.taken (.inl rfl) s1
      obtain ⟨o, c, c4, d4, q4⟩ := vc_some N n h3 (by omega)
      rw [reps_cons]
      refine ⟨o, c, c3.append rfl c4, ?_, fun ho => ?_⟩
      · show dueF parts.length picks i (18 :: 19 :: 20 :: reps n [18, 19, 20]) v.taken = _
        rw [dueF, if_neg (fun z => by rw [hp] at z; exact absurd z.2 (by decide)), dueF, if_neg (fun z => absurd z.1 (by decide)), dueF, if_neg (fun z => absurd z.1 (by decide)), ← t3]
        exact d4
      · obtain ⟨ps, ys, e1, e2, e3, e4, e5, e6⟩ := q4 ho
        refine ⟨ps, .non :: ys, by rw [e1, t3], by rw [List.length_cons, e2], ?_, fun hp => ⟨(e4 hp).1, by rw [(e4 hp).2, List.replicate_succ]⟩, fun z => absurd hp z, e6⟩
        rw [e3, n3, g3, List.map_cons, List.flatten_cons, List.append_assoc]
    · have hne : 0 < parts.length := List.length_pos_iff.mpr hp
      cases hk : pickAt picks v.taken.length parts.length with
      | none =>
        have b1 : VBad (scR P B X Q Y) picks 18 v := v_bad (x := Y) (y := Q) rfl rfl h.qr h.q h.recs hp hk
        rw [reps_cons]
        refine ⟨some i, v, .bad b1, ?_, fun z => by cases z⟩
        show dueF parts.length picks i (18 :: 19 :: 20 :: reps n [18, 19, 20]) v.taken = _
        rw [dueF, if_pos ⟨rfl, hne⟩, hk]
      | some pk =>
        obtain ⟨b1, b2⟩ := pick_bd hk
        have hlt : pk.toNat < parts.length := by omega
        have hat : parts[pk.toNat]? = some parts[pk.toNat] := List.getElem?_eq_getElem hlt
        have s1 : VStep (scR P B X Q Y) picks ((i : Nat) : Int) 18 v _ := v_some (x := Y) (y := Q) rfl rfl h.qr h.q h.recs (by have := h.pl; omega) hp hk hat (h.hk i (by omega))
        obtain ⟨v3, c3, h3, t3, n3, g3⟩ := go parts[pk.toNat] (v.taken ++ [pk]) (h.el _ (List.mem_of_getElem? hat)) s1
        obtain ⟨o, c, c4, d4, q4⟩ := vc_some N n h3 (by omega)
        rw [reps_cons]
        refine ⟨o, c, c3.append rfl c4, ?_, fun ho => ?_⟩
        · show dueF parts.length picks i (18 :: 19 :: 20 :: reps n [18, 19, 20]) v.taken = _
          rw [dueF, if_pos ⟨rfl, hne⟩, hk]
          dsimp only
          rw [dueF, if_neg (fun z => absurd z.1 (by decide)), dueF, if_neg (fun z => absurd z.1 (by decide)), ← t3]
          exact d4
        · obtain ⟨ps, ys, e1, e2, e3, e4, e5, e6⟩ := q4 ho
          refine ⟨pk :: ps, parts[pk.toNat] :: ys, by rw [e1, t3, List.append_assoc] <;> rfl, by rw [List.length_cons, e2], ?_, fun z => absurd z hp, fun _ => ⟨by rw [List.length_cons, (e5 hp).1], ?_⟩, fun p hp' => ?_⟩
          · rw [e3, n3, g3, List.map_cons, List.flatten_cons, List.append_assoc]
          · rw [List.map_cons, ← (e5 hp).2, List.getD_eq_getElem?_getD, hat] <;> rfl
          · rcases List.mem_cons.mp hp' with rfl | hp'
            · exact ⟨b1, b2⟩
            · exact e6 p hp'
end
theorem due_skip {size : Nat} {picks : List Int} : ∀ {ls ms : List Int} {i : Nat} {tk : List Int}, (∀ l ∈ ls, l ≠ 18) → dueF size picks i (ls ++ ms) tk = dueF size picks (i + ls.length) ms tk
  | [], _, _, _, _ => rfl
  | l :: ls, ms, i, tk, h => by
    rw [List.cons_append, dueF, if_neg (fun z => h l List.mem_cons_self z.1), due_skip fun l hl => h l (List.mem_cons_of_mem _ hl), List.length_cons, show i + 1 + ls.length = i + (ls.length + 1) by omega]
theorem no18_pre (b : Bool) : ∀ l ∈ preL b, l ≠ 18 := by cases b <;> decide
theorem no18_item (b : Bool) : ∀ l ∈ itemL b, l ≠ 18 := by cases b <;> decide
theorem no18_items (bs : List Bool) : ∀ l ∈ itemsL bs, l ≠ 18 := fun l hl => by
  obtain ⟨x, hx, hl⟩ := List.mem_flatten.mp hl
  obtain ⟨b, _, rfl⟩ := List.mem_map.mp hx
  exact no18_item b l hl
theorem told_len (b : Bool) (bs : List Bool) (many : Nat) : (told b bs many).length = (preL b).length + 5 * bs.length + 1 + 3 * many := by
  unfold told
  rw [List.length_append, List.length_append, List.length_append, itemsL_len, reps_len]
  show _ + _ + 1 + many * 3 = _
  omega
/-- the whole course -/
theorem course {P B X Q Y : Str} (N : Nm P B X Q Y) (picks : List Int) (b : Bool) (bs : List Bool) (many : Nat) (hb : bs.length ≤ 6) (hm : many ≤ 6) : ∃ o c, VC (scR P B X Q Y) picks 0 (told b bs many) v0 o c ∧ dueF bs.length picks 0 (told b bs many) [] = (c.taken, o) ∧ (∀ j, o = some j → j < (told b bs many).length) ∧
    (o = none → ∃ (q : V) (ps : List Int) (ys sn : List V), c.taken = ps ∧ ys.length = many ∧ sn.length = (preL b).length + 5 * bs.length + 1 ∧ c.seen = sn ++ (ys.map fun y => [q, y, V.non]).flatten ∧ (bs = [] → ps = [] ∧ ys = List.replicate many .non) ∧ (bs ≠ [] → ps.length = many ∧ ys = ps.map (fun p => (partsL (preL b).length bs).getD p.toNat .non)) ∧ ∀ p ∈ ps, 0 ≤ p ∧ p < (bs.length : Int)) := by
  have hpl : (preL b).length ≤ 5 := by cases b <;> exact Nat.le_of_ble_eq_true rfl
  obtain ⟨v1, c1, h1, t1, n1⟩ := vc_pre (P := P) (B := B) (X := X) (Y := Y) (picks := picks) N b
  obtain ⟨v2, c2, h2, t2, n2⟩ := vc_items (picks := picks) N bs h1 (by omega)
  rw [List.nil_append] at h2
  have s3 : VStep (scR P B X Q Y) picks (((preL b).length + 5 * bs.length : Nat) : Int) 17 v2 _ := v_plain (kw := "loop") (ws := []) rfl (Nat.zero_le _) (by decide) (by decide) (by decide) (h2.hk _ (Nat.le_refl _)) rfl rfl
  have h3 : VI Q ((preL b).length + 5 * bs.length + 1) { v2 with seen := v2.seen ++ [.non] } (partsL (preL b).length bs) := h2.of rfl rfl (by omega)
  obtain ⟨o, c, c4, d4, q4⟩ := vc_some (picks := picks) N many h3 (by omega)
  have hlen : (preL b ++ itemsL bs).length = (preL b).length + 5 * bs.length := by rw [List.length_append, itemsL_len]
  have cc := ((c1.append rfl (by rw [Nat.zero_add]; exact c2)).append (ls := preL b ++ itemsL bs) (ms := [17]) rfl (by rw [Nat.zero_add, hlen]; exact VC.one s3)).append rfl (ms := reps many [18, 19, 20]) (by rw [Nat.zero_add, List.length_append, hlen]; exact c4)
  refine ⟨o, c, cc, ?_, fun j hj => ?_, fun ho => ?_⟩
  · unfold told
    rw [due_skip (ls := preL b ++ itemsL bs ++ [17]), Nat.zero_add, List.length_append, hlen]
    · have ht : ({ v2 with seen := v2.seen ++ [.non] } : VS).taken = [] := t2.trans t1
      rw [ht, partsL_len] at d4
      exact d4
    · intro l hl
      rcases List.mem_append.mp hl with hl | hl
      · rcases List.mem_append.mp hl with hl | hl
        · exact no18_pre b l hl
        · exact no18_items bs l hl
      · rw [List.mem_singleton.mp hl]; decide
  · have : ∀ {i : Nat} {ls : List Int} {a c : VS} {o : Option Nat}, VC (scR P B X Q Y) picks i ls a o c → ∀ j, o = some j → j < i + ls.length := by
        intro i ls a c o h
        induction h with
        | nil => intro j h; cases h
        | bad _ => intro j h; cases h; rw [List.length_cons]; omega
        | cons _ _ ih => intro j h; have := ih j h; rw [List.length_cons]; omega
    have := this cc j hj
    rw [Nat.zero_add] at this
    exact this
  · obtain ⟨ps, ys, e1, e2, e3, e4, e5, e6⟩ := q4 ho
    have ht : ({ v2 with seen := v2.seen ++ [.non] } : VS).taken = [] := t2.trans t1
    rw [ht, List.nil_append] at e1
    refine ⟨_, ps, ys, v2.seen ++ [.non], e1, e2, ?_, e3, fun hb => e4 (by rw [hb]; rfl), fun hb => e5 (fun z => hb ?_), (partsL_len (preL b).length bs) ▸ e6⟩
    · rw [List.length_append, n2, n1] <;> rfl
    · have := partsL_len (preL b).length bs
      rw [z] at this
      exact List.eq_nil_of_length_eq_zero this.symm
end R9H
set_option Elab.async false
set_option linter.all false
set_option maxRecDepth 100000
set_option maxHeartbeats 4000000
/-! k19, part PD: _law_scene -/
namespace R9H
open PySem PySem.Spec PyProof.Rows L2
theorem ll0 : ("shape " : Str).length = 6 := by decide +kernel
theorem ll1 : (" " : Str).length = 1 := by decide +kernel
theorem ll2 : ("bag " : Str).length = 4 := by decide +kernel
theorem ll3 : ("none " : Str).length = 5 := by decide +kernel
theorem ll4 : ("new " : Str).length = 4 := by decide +kernel
theorem ll5 : ("with " : Str).length = 5 := by decide +kernel
theorem ll6 : ("some " : Str).length = 5 := by decide +kernel
theorem ll7 : ("use " : Str).length = 4 := by decide +kernel
theorem scene_V (P B X Q Y : Str) : (sceneStr P B X Q Y).map V.str = [.str ("shape " ++ P), .str ("bag " ++ B ++ " " ++ P), .str "func main", .str ("none " ++ Q ++ " " ++ B), .str "either", .str ("new " ++ Q ++ " " ++ B), .str "or", .str "end", .str "loop", .str "either", .str ("new " ++ X ++ " " ++ P), .str "or", .str ("none " ++ X ++ " " ++ P), .str "end", .str ("with " ++ Q ++ " " ++ Q ++ " " ++ X), .str "end", .str "loop", .str ("some " ++ Y ++ " " ++ Q), .str ("use " ++ Y), .str "end", .str "end"] := rfl
theorem lap {a b : Str} {m n : Nat} (ha : a.length ≤ m) (hb : b.length ≤ n) : (a ++ b).length ≤ m + n := by rw [app_len]; omega
theorem sz2 {i j m n : Nat} (hi : i ≤ m) (hj : j ≤ n) (h : m + n ≤ 1000 := by decide) : i + j ≤ sizeLine := by rw [sizeLine_eq]; omega
def sp_law_scene (K : PySem.W.Frag) : Sp := fun vs H Q _ => ∃ (p c : Addr) (n : Nat), vs = [.ref p] ∧ PenAt H p c n ∧ n + 100 < 1000000 ∧ ∀ H' l P B X Q' Y, Fr p H H' → PenAt H' p c (n + 24) → H' l = some (.lst ((sceneStr P B X Q' Y).map V.str)) → GW [P, B] 2 → GW [X, Q', Y] 3 → Q (.ref l) H'
section
variable {w : World} {K : PySem.W.Frag} {mg : Str → Option Value} {base : Heap}
theorem ok__law_words (T : T6 K mg) : Has w K mg base 3 "_law_words" ["_law_pen_here", "_law_many"] (sp_law_words K) := ok_law_words T
abbrev st_law_scene : Stmt := top 89
theorem sc_law_scene : FnScope ["_law_pen_here", "_law_point", "_law_bag", "_law_x", "_law_q", "_law_y", "_law_rows"] ["_law_pen_here"] (defScope st_law_scene) := ⟨rfl, rfl, rfl, by decide +kernel, rfl, by decide +kernel, by decide +kernel⟩
theorem ok_law_scene (T : T6 K mg) : Has w K mg base 4 "_law_scene" ["_law_pen_here"] (sp_law_scene K) := by
  obtain ⟨fd, F⟩ := T.fn 71
  have H__law_words := ok__law_words (w := w) (base := base) T
  refine has_of (st := st_law_scene) T F (by decide +kernel) (F.ok sc_law_scene (fun vs H Q E h => ?_) (fun cdv A outer s H vs Q E hr h => ⟨_, PSs.nox (
    (pss_cons (ps_asg (pe_has H__law_words rfl (hr.mono (by decide)) rfl (pa_cons (pv 0) (pa_cons pe_int pa_nil))) (pg_lst rfl (pgs_cons (pg_name (i := 1) sc_law_scene.nd rfl (Or.inl rfl)) (pgs_cons (pg_name (i := 2) sc_law_scene.nd rfl (Or.inl rfl)) pgs_nil))) (by rfl))
    (pss_cons (ps_asg (pe_has H__law_words rfl (hr.mono (by decide)) rfl (pa_cons (pv 0) (pa_cons pe_int pa_nil))) (pg_lst rfl (pgs_cons (pg_name (i := 3) sc_law_scene.nd rfl (Or.inl rfl)) (pgs_cons (pg_name (i := 4) sc_law_scene.nd rfl (Or.inl rfl)) (pgs_cons (pg_name (i := 5) sc_law_scene.nd rfl (Or.inl rfl)) pgs_nil)))) (by rfl))
    (pss_cons (ps_set (i := 6) sc_law_scene.nd rfl (Or.inl rfl) (pe_lst (pa_cons (pe_op op_add_str pe_str (pv 1)) (pa_cons (pe_op op_add_str (pe_op op_add_str (pe_op op_add_str pe_str (pv 2)) pe_str) (pv 1)) (pa_cons pe_str (pa_cons (pe_op op_add_str (pe_op op_add_str (pe_op op_add_str pe_str (pv 4)) pe_str) (pv 2)) pa_nil))))))
    (pss_cons (ps_set (i := 6) sc_law_scene.nd rfl (Or.inl rfl) (pe_op op_cat (pv 6) (pe_lst (pa_cons pe_str (pa_cons (pe_op op_add_str (pe_op op_add_str (pe_op op_add_str pe_str (pv 4)) pe_str) (pv 2)) (pa_cons pe_str (pa_cons pe_str (pa_cons pe_str (pa_cons pe_str (pa_cons (pe_op op_add_str (pe_op op_add_str (pe_op op_add_str pe_str (pv 3)) pe_str) (pv 1)) (pa_cons pe_str pa_nil)))))))))))
    (pss_cons (ps_set (i := 6) sc_law_scene.nd rfl (Or.inl rfl) (pe_op op_cat (pv 6) (pe_lst (pa_cons (pe_op op_add_str (pe_op op_add_str (pe_op op_add_str pe_str (pv 3)) pe_str) (pv 1)) (pa_cons pe_str (pa_cons (pe_op op_add_str (pe_op op_add_str (pe_op op_add_str (pe_op op_add_str (pe_op op_add_str pe_str (pv 4)) pe_str) (pv 4)) pe_str) (pv 3)) (pa_cons pe_str pa_nil)))))))
    (pss_one (ps_ret (pe_op op_cat (pv 6) (pe_lst (pa_cons pe_str (pa_cons (pe_op op_add_str (pe_op op_add_str (pe_op op_add_str pe_str (pv 5)) pe_str) (pv 4)) (pa_cons (pe_op op_add_str pe_str (pv 5)) (pa_cons pe_str (pa_cons pe_str pa_nil))))))))))))))), ?_⟩)) fun _ _ _ _ _ _ us hl => match us, hl with | [_], _ => rfl
  · obtain ⟨p, c, n, rfl, hp, hn, q⟩ := h
    rfl
  · obtain ⟨p, c, n, rfl, hp, hn, q⟩ := h
    clear F
    refine ⟨_, rfl, p, c, n, 2, rfl, hp, by omega, by decide, fun H1 l1 ws1 fr1 pn1 nl1 h1 gw1 => ?_⟩
    obtain ⟨P, B, rfl⟩ : ∃ P B, ws1 = [P, B] := by
      match ws1, gw1.1 with
      | [P, B], _ => exact ⟨P, B, rfl⟩
    refine ⟨l1, _, rfl, SqL.of h1, rfl, _, _, rfl, _, _, rfl, rfl, ?_⟩
    refine ⟨_, rfl, p, c, n + 12, 3, rfl, pn1, by omega, by decide, fun H5 l2 ws2 fr2 pn5 nl2 h2 gw2 => ?_⟩
    obtain ⟨X, Q', Y, rfl⟩ : ∃ X Q' Y, ws2 = [X, Q', Y] := by
      match ws2, gw2.1 with
      | [X, Q', Y], _ => exact ⟨X, Q', Y, rfl⟩
    have hP := (gw1.2.2 P (by simp)).1.2.1
    have hB := (gw1.2.2 B (by simp)).1.2.1
    have hX := (gw2.2.2 X (by simp)).1.2.1
    have hQ' := (gw2.2.2 Q' (by simp)).1.2.1
    have hY := (gw2.2.2 Y (by simp)).1.2.1
    have fr05 := fr1.trans fr2
    refine ⟨l2, _, rfl, SqL.of h2, rfl, _, _, rfl, _, _, rfl, _, _, rfl, rfl, ?_⟩
    refine ⟨_, rfl, _, _, rfl, rfl, sz2 (Nat.le_of_eq ll0) hP, ?_⟩
    refine ⟨_, rfl, _, _, rfl, rfl, sz2 (Nat.le_of_eq ll2) hB, _, _, rfl, rfl, sz2 (lap (Nat.le_of_eq ll2) hB) (Nat.le_of_eq ll1), _, rfl, _, _, rfl, rfl, sz2 (lap (lap (Nat.le_of_eq ll2) hB) (Nat.le_of_eq ll1)) hP, ?_⟩
    refine ⟨_, rfl, _, _, rfl, rfl, sz2 (Nat.le_of_eq ll3) hQ', _, _, rfl, rfl, sz2 (lap (Nat.le_of_eq ll3) hQ') (Nat.le_of_eq ll1), _, rfl, _, _, rfl, rfl, sz2 (lap (lap (Nat.le_of_eq ll3) hQ') (Nat.le_of_eq ll1)) hB, ?_⟩
    refine ⟨by rw [sizeLine_eq]; show 4 ≤ 16777216; decide, fun r1 nr1 => ?_⟩
    have e1 := extH_put (o := .lst [.str ("shape " ++ P), .str ("bag " ++ B ++ " " ++ P), .str "func main", .str ("none " ++ Q' ++ " " ++ B)]) nr1
    have g1 : upd H5 r1 (.lst [.str ("shape " ++ P), .str ("bag " ++ B ++ " " ++ P), .str "func main", .str ("none " ++ Q' ++ " " ++ B)]) r1 = some (.lst [.str ("shape " ++ P), .str ("bag " ++ B ++ " " ++ P), .str "func main", .str ("none " ++ Q' ++ " " ++ B)]) := upd_same
    generalize upd H5 r1 (.lst [.str ("shape " ++ P), .str ("bag " ++ B ++ " " ++ P), .str "func main", .str ("none " ++ Q' ++ " " ++ B)]) = G1 at e1 g1 ⊢
    try dsimp only
    refine seq_cut (C := fun σ' G' => ∃ r, σ' = [some (.ref p), some (.str P), some (.str B), some (.str X), some (.str Q'), some (.str Y), some (.ref r)] ∧ ExtH H5 G' ∧ H5 r = none ∧ G' r = some (.lst [.str ("shape " ++ P), .str ("bag " ++ B ++ " " ++ P), .str "func main", .str ("none " ++ Q' ++ " " ++ B), .str "either", .str ("new " ++ Q' ++ " " ++ B), .str "or", .str "end", .str "loop", .str "either", .str ("new " ++ X ++ " " ++ P), .str "or"])) ?_ ?_
    · rintro σ' G2 ⟨r2, rfl, e2, nr2, g2⟩
      try dsimp only
      refine seq_cut (C := fun σ' G' => ∃ r, σ' = [some (.ref p), some (.str P), some (.str B), some (.str X), some (.str Q'), some (.str Y), some (.ref r)] ∧ ExtH H5 G' ∧ H5 r = none ∧ G' r = some (.lst [.str ("shape " ++ P), .str ("bag " ++ B ++ " " ++ P), .str "func main", .str ("none " ++ Q' ++ " " ++ B), .str "either", .str ("new " ++ Q' ++ " " ++ B), .str "or", .str "end", .str "loop", .str "either", .str ("new " ++ X ++ " " ++ P), .str "or", .str ("none " ++ X ++ " " ++ P), .str "end", .str ("with " ++ Q' ++ " " ++ Q' ++ " " ++ X), .str "end"])) ?_ ?_
      · rintro σ' G3 ⟨r3, rfl, e3, nr3, g3⟩
        refine ⟨_, rfl, ?_⟩
        refine ⟨_, rfl, _, _, rfl, rfl, sz2 (Nat.le_of_eq ll6) hY, _, _, rfl, rfl, sz2 (lap (Nat.le_of_eq ll6) hY) (Nat.le_of_eq ll1), _, rfl, _, _, rfl, rfl, sz2 (lap (lap (Nat.le_of_eq ll6) hY) (Nat.le_of_eq ll1)) hQ', ?_⟩
        refine ⟨_, rfl, _, _, rfl, rfl, sz2 (Nat.le_of_eq ll7) hY, ?_⟩
        refine ⟨by rw [sizeLine_eq]; show 5 ≤ 16777216; decide, fun s ns => ?_⟩
        have d := extH_put (o := .lst [.str "loop", .str ("some " ++ Y ++ " " ++ Q'), .str ("use " ++ Y), .str "end", .str "end"]) ns
        refine ⟨r3, s, _, _, rfl, rfl, d _ _ g3, upd_same, by rw [sizeLine_eq]; show 21 ≤ 16777216; decide, fun l nl => ?_⟩
        have e := (e3.trans d).trans (extH_put (o := .lst ([.str ("shape " ++ P), .str ("bag " ++ B ++ " " ++ P), .str "func main", .str ("none " ++ Q' ++ " " ++ B), .str "either", .str ("new " ++ Q' ++ " " ++ B), .str "or", .str "end", .str "loop", .str "either", .str ("new " ++ X ++ " " ++ P), .str "or", .str ("none " ++ X ++ " " ++ P), .str "end", .str ("with " ++ Q' ++ " " ++ Q' ++ " " ++ X), .str "end"] ++ [.str "loop", .str ("some " ++ Y ++ " " ++ Q'), .str ("use " ++ Y), .str "end", .str "end"])) nl)
        exact q _ l P B X Q' Y (fr05.trans (fr_ext e)) (pen_ext pn5 e) (by rw [upd_same, scene_V] <;> rfl) gw1 gw2
      · intro rr hrr
        refine ⟨_, rfl, ?_⟩
        refine ⟨_, rfl, _, _, rfl, rfl, sz2 (Nat.le_of_eq ll3) hX, _, _, rfl, rfl, sz2 (lap (Nat.le_of_eq ll3) hX) (Nat.le_of_eq ll1), _, rfl, _, _, rfl, rfl, sz2 (lap (lap (Nat.le_of_eq ll3) hX) (Nat.le_of_eq ll1)) hP, ?_⟩
        refine ⟨_, rfl, _, _, rfl, rfl, sz2 (Nat.le_of_eq ll5) hQ', _, _, rfl, rfl, sz2 (lap (Nat.le_of_eq ll5) hQ') (Nat.le_of_eq ll1), _, rfl, _, _, rfl, rfl, sz2 (lap (lap (Nat.le_of_eq ll5) hQ') (Nat.le_of_eq ll1)) hQ', _, _, rfl, rfl, sz2 (lap (lap (lap (Nat.le_of_eq ll5) hQ') (Nat.le_of_eq ll1)) hQ') (Nat.le_of_eq ll1), _, rfl, _, _, rfl, rfl, sz2 (lap (lap (lap (lap (Nat.le_of_eq ll5) hQ') (Nat.le_of_eq ll1)) hQ') (Nat.le_of_eq ll1)) hX, ?_⟩
        refine ⟨by rw [sizeLine_eq]; show 4 ≤ 16777216; decide, fun s ns => ?_⟩
        have d := extH_put (o := .lst [.str ("none " ++ X ++ " " ++ P), .str "end", .str ("with " ++ Q' ++ " " ++ Q' ++ " " ++ X), .str "end"]) ns
        refine ⟨r2, s, _, _, rfl, rfl, d _ _ g2, upd_same, by rw [sizeLine_eq]; show 16 ≤ 16777216; decide, fun r nr => ?_⟩
        exact hrr _ _ ⟨r, rfl, (e2.trans d).trans (extH_put nr), (e2.trans d).none nr, upd_same⟩
    · intro rr hrr
      refine ⟨_, rfl, ?_⟩
      refine ⟨_, rfl, _, _, rfl, rfl, sz2 (Nat.le_of_eq ll4) hQ', _, _, rfl, rfl, sz2 (lap (Nat.le_of_eq ll4) hQ') (Nat.le_of_eq ll1), _, rfl, _, _, rfl, rfl, sz2 (lap (lap (Nat.le_of_eq ll4) hQ') (Nat.le_of_eq ll1)) hB, ?_⟩
      refine ⟨_, rfl, _, _, rfl, rfl, sz2 (Nat.le_of_eq ll4) hX, _, _, rfl, rfl, sz2 (lap (Nat.le_of_eq ll4) hX) (Nat.le_of_eq ll1), _, rfl, _, _, rfl, rfl, sz2 (lap (lap (Nat.le_of_eq ll4) hX) (Nat.le_of_eq ll1)) hP, ?_⟩
      refine ⟨by rw [sizeLine_eq]; show 8 ≤ 16777216; decide, fun s ns => ?_⟩
      have d := extH_put (o := .lst [.str "either", .str ("new " ++ Q' ++ " " ++ B), .str "or", .str "end", .str "loop", .str "either", .str ("new " ++ X ++ " " ++ P), .str "or"]) ns
      refine ⟨r1, s, _, _, rfl, rfl, d _ _ g1, upd_same, by rw [sizeLine_eq]; show 12 ≤ 16777216; decide, fun r nr => ?_⟩
      exact hrr _ _ ⟨r, rfl, (e1.trans d).trans (extH_put nr), (e1.trans d).none nr, upd_same⟩
end
end R9H
set_option Elab.async false
set_option linter.all false
set_option maxRecDepth 100000
set_option maxHeartbeats 4000000
/-! k19, part SD: _law_course -/
namespace R9H
open PySem PySem.Spec PyProof.Rows L2
def newB (d : Int) : Bool := !decide (d < 1)
def sp_law_course (K : PySem.W.Frag) : Sp := fun vs H Q _ => ∃ (p c li : Addr) (n : Nat) (ds : List Int) (many : Nat), vs = [.ref p, .ref li, .int (many : Int)] ∧ PenAt H p c n ∧ n < 1000000 ∧ H li = some (.lst (ds.map V.int)) ∧ ds.length ≤ 6 ∧ many ≤ 6 ∧
  ∀ H' t b, Fr p H H' → PenAt H' p c (n + 1) → H' t = some (.lst ((told b (ds.map newB) many).map V.int)) → Q (.ref t) H'
section
variable {w : World} {K : PySem.W.Frag} {mg : Str → Option Value} {base : Heap}
abbrev st_law_course : Stmt := top 90
theorem sc_law_course : FnScope ["_law_pen_here", "_law_items", "_law_many", "_law_told", "_law_item"] ["_law_pen_here", "_law_items", "_law_many"] (defScope st_law_course) := ⟨rfl, rfl, rfl, by decide +kernel, rfl, by decide +kernel, by decide +kernel⟩
theorem ok_law_course (T : T6 K mg) : Has w K mg base 3 "_law_course" ["_law_pen_here", "_law_items", "_law_many"] (sp_law_course K) := by
  obtain ⟨fd, F⟩ := T.fn 72
  have H__law_draw := ok__law_draw (w := w) (base := base) T
  have gf_int := T.free "int" (by decide +kernel)
  refine has_of (st := st_law_course) T F (by decide +kernel) (F.ok sc_law_course (fun vs H Q E h => ?_) (fun cdv A outer s H vs Q E hr h => ⟨_, PSs.nox (
    (pss_cons (ps_set (i := 3) sc_law_course.nd rfl (Or.inl rfl) (pe_op op_cat (pe_op op_cat (pe_lst (pa_cons pe_int (pa_cons pe_int pa_nil))) (pe_ix ix_list (pe_lst (pa_cons (pe_lst (pa_cons pe_int (pa_cons pe_int pa_nil))) (pa_cons (pe_lst (pa_cons pe_int pa_nil)) pa_nil))) (pe_has H__law_draw rfl (hr.mono (by decide)) rfl (pa_cons (pv 0) (pa_cons pe_int pa_nil))) (fun _ _ => rfl))) (pe_lst (pa_cons pe_int pa_nil))))
    (pss_cons (ps_for PassesOwn.never rfl (pi_list (pv 1)) (pg_name (i := 4) sc_law_course.nd rfl (Or.inl rfl))
      (pss_one (ps_set (i := 3) sc_law_course.nd rfl (Or.inl rfl) (pe_op op_cat (pe_op op_cat (pe_op op_cat (pv 3) (pe_lst (pa_cons pe_int pa_nil))) (pe_ix ix_list (pe_lst (pa_cons (pe_lst (pa_cons pe_int (pa_cons pe_int pa_nil))) (pa_cons (pe_lst (pa_cons pe_int (pa_cons pe_int pa_nil))) pa_nil))) (pe_callTy call_int1 rfl gf_int boot_int (pa_cons (pe_cmpR op_lt (pv 4) pe_int (nomark _)) pa_nil)) (fun _ _ => rfl))) (pe_lst (pa_cons pe_int (pa_cons pe_int pa_nil)))))))
    (pss_one (ps_ret (pe_op op_cat (pe_op op_cat (pv 3) (pe_lst (pa_cons pe_int pa_nil))) (pe_op op_rep (pe_lst (pa_cons pe_int (pa_cons pe_int (pa_cons pe_int pa_nil)))) (pv 2)))))))), ?_⟩)) fun _ _ _ _ _ _ us hl => match us, hl with | [_, _, _], _ => rfl
  · obtain ⟨p, c, li, n, ds, many, rfl, _⟩ := h
    rfl
  · obtain ⟨p, c, li, n, ds, many, rfl, hp, hn, hl, h6, hm, q⟩ := h
    clear F
    have nlp : li ≠ p := fun z => by
      obtain ⟨cells, a, l', h2, _⟩ := hp
      rw [← z, hl] at h2
      cases h2
    have z1 : 1 ≤ sizeLine := by rw [sizeLine_eq]; decide
    have z2 : 2 ≤ sizeLine := by rw [sizeLine_eq]; decide
    have z3 : 3 ≤ sizeLine := by rw [sizeLine_eq]; decide
    have zz : ∀ m, m ≤ 100 → m ≤ sizeLine := fun m hm => by rw [sizeLine_eq]; omega
    try dsimp only
    refine seq_cut (C := fun σ' G' => ∃ t b, σ' = [some (.ref p), some (.ref li), some (.int (many : Int)), some (.ref t), none] ∧ Fr p H G' ∧ PenAt G' p c (n + 1) ∧ G' t = some (.lst ((preL b).map V.int))) ?_ ?_
    · rintro σ' G ⟨t, b, rfl, fr, pn, ht⟩
      try dsimp only
      refine seq_cut (C := fun σ' G' => ∃ t v4, σ' = [some (.ref p), some (.ref li), some (.int (many : Int)), some (.ref t), v4] ∧ Fr p H G' ∧ PenAt G' p c (n + 1) ∧ G' t = some (.lst ((preL b ++ itemsL (ds.map newB)).map V.int))) ?_ ?_
      · rintro σ' G1 ⟨t1, v4, rfl, fr1, pn1, ht1⟩
        refine ⟨_, rfl, z1, fun a1 m1 => ?_⟩
        have e1 := extH_put (o := .lst [.int 17]) m1
        have hl1 : ((preL b ++ itemsL (ds.map newB)).map V.int).length ≤ 50 := by
          rw [List.length_map, List.length_append, itemsL_len, List.length_map]
          have : (preL b).length ≤ 5 := by cases b <;> decide
          omega
        refine ⟨t1, a1, _, _, rfl, rfl, e1 _ _ ht1, upd_same, zz _ (by show _ + 1 ≤ 100; omega), fun a2 m2 => ?_⟩
        have e2 := e1.trans (extH_put (o := .lst ((preL b ++ itemsL (ds.map newB)).map V.int ++ [.int 17])) m2)
        have h2 : upd (upd G1 a1 (.lst [.int 17])) a2 (.lst ((preL b ++ itemsL (ds.map newB)).map V.int ++ [.int 17])) a2 = some (.lst ((preL b ++ itemsL (ds.map newB)).map V.int ++ [.int 17])) := upd_same
        generalize upd (upd G1 a1 (.lst [.int 17])) a2 (.lst ((preL b ++ itemsL (ds.map newB)).map V.int ++ [.int 17])) = G2 at e2 h2 ⊢
        refine ⟨z3, fun a3 m3 => ⟨_, rfl, a3, many, [V.int 18, V.int 19, V.int 20], rfl, rfl, upd_same, by omega, by omega, zz _ (by show 3 * (many : Int).toNat ≤ 100; omega), fun a4 m4 => ?_⟩⟩
        have hrl : ((List.replicate (many : Int).toNat [V.int 18, V.int 19, V.int 20]).flatten).length ≤ 18 := by
          have : ∀ k : Nat, ((List.replicate k [V.int 18, V.int 19, V.int 20]).flatten).length = 3 * k := fun k => by
            induction k with
            | zero => rfl
            | succ k ih => rw [List.replicate_succ, List.flatten_cons, List.length_append, ih]; show 3 + _ = _; omega
          rw [this]
          omega
        have er : (List.replicate (many : Int).toNat [V.int 18, V.int 19, V.int 20]).flatten = (reps many [18, 19, 20]).map V.int := by
          unfold reps
          simp only [List.map_flatten, List.map_replicate, List.map_cons, List.map_nil, Int.toNat_natCast]
        generalize (List.replicate (many : Int).toNat [V.int 18, V.int 19, V.int 20]).flatten = R2 at hrl er m4 ⊢
        have e3 := extH_put (o := .lst [V.int 18, V.int 19, V.int 20]) m3
        have e4 := extH_put (o := .lst R2) m4
        refine ⟨a2, a4, _, _, rfl, rfl, e4 _ _ (e3 _ _ h2), upd_same, zz _ (by rw [List.length_append]; show _ + 1 + _ ≤ 100; omega), fun a5 m5 => ?_⟩
        have e5 := extH_put (o := .lst ((preL b ++ itemsL (ds.map newB)).map V.int ++ [V.int 17] ++ R2)) m5
        have ee := ((e2.trans e3).trans e4).trans e5
        refine q _ a5 b (fr1.trans (fr_ext ee)) (pen_ext pn1 ee) ?_
        rw [upd_same, er]
        unfold told
        simp only [List.map_append, List.map_cons, List.map_nil]
      · intro rr hrr
        refine ⟨_, rfl, li, rfl, ⟨_, .inl (.inl (fr _ _ nlp hl))⟩, for_list (xs := ds.map V.int) (fun i σ G => ∃ t v4, σ = [some (.ref p), some (.ref li), some (.int (many : Int)), some (.ref t), v4] ∧ Fr p H G ∧ PenAt G p c (n + 1) ∧ G t = some (.lst ((preL b ++ itemsL ((ds.take i).map newB)).map V.int))) ⟨t, none, rfl, fr, pn, by rw [List.take_zero]; show G t = some (.lst ((preL b ++ []).map V.int)); rw [List.append_nil]; exact ht⟩ (fun i σ G _ ⟨_, _, _, f, _⟩ => SqL.of (f _ _ nlp hl)) ?_ ?_⟩
        · rintro i x σ G0 hx ⟨t1, v4, rfl, f1, p1, h1⟩
          rw [List.getElem?_map] at hx
          obtain ⟨d, hd, rfl⟩ := Option.map_eq_some_iff.mp hx
          have tk : ds.take (i + 1) = ds.take i ++ [d] := take_succ' hd
          have hil : i < ds.length := by
            by_cases z : i < ds.length
            · exact z
            · rw [List.getElem?_eq_none (by omega)] at hd; cases hd
          have hl0 : ((preL b ++ itemsL ((ds.take i).map newB)).map V.int).length ≤ 40 := by
            rw [List.length_map, List.length_append, itemsL_len, List.length_map, List.length_take]
            have : (preL b).length ≤ 5 := by cases b <;> decide
            omega
          generalize ew : (preL b ++ itemsL ((ds.take i).map newB)).map V.int = W at h1 hl0
          refine ⟨_, rfl, z1, fun a1 m1 => ?_⟩
          have e1 := extH_put (o := .lst [.int 10]) m1
          refine ⟨t1, a1, _, _, rfl, rfl, e1 _ _ h1, upd_same, zz _ (by show _ + 1 ≤ 100; omega), fun a2 m2 => ?_⟩
          have e2 := e1.trans (extH_put (o := .lst (W ++ [.int 10])) m2)
          have h2 : upd (upd G0 a1 (.lst [.int 10])) a2 (.lst (W ++ [.int 10])) a2 = some (.lst (W ++ [.int 10])) := upd_same
          generalize upd (upd G0 a1 (.lst [.int 10])) a2 (.lst (W ++ [.int 10])) = G2 at e2 h2 ⊢
          refine ⟨z2, fun a3 m3 => ⟨z2, fun a4 m4 => ⟨z2, fun a5 m5 => ⟨_, rfl, _, _, rfl, rfl, .inr ⟨_, rfl, ?_⟩⟩⟩⟩⟩
          have e3 := extH_put (o := .lst [V.int 11, V.int 12]) m3
          have e4 := extH_put (o := .lst [V.int 13, V.int 14]) m4
          have e5 := extH_put (o := .lst [V.ref a3, V.ref a4]) m5
          have k3 : upd (upd (upd G2 a3 (.lst [V.int 11, V.int 12])) a4 (.lst [V.int 13, V.int 14])) a5 (.lst [V.ref a3, V.ref a4]) a3 = some (.lst [V.int 11, V.int 12]) := e5 _ _ (e4 _ _ upd_same)
          have k4 : upd (upd (upd G2 a3 (.lst [V.int 11, V.int 12])) a4 (.lst [V.int 13, V.int 14])) a5 (.lst [V.ref a3, V.ref a4]) a4 = some (.lst [V.int 13, V.int 14]) := e5 _ _ upd_same
          have k5 : upd (upd (upd G2 a3 (.lst [V.int 11, V.int 12])) a4 (.lst [V.int 13, V.int 14])) a5 (.lst [V.ref a3, V.ref a4]) a5 = some (.lst [V.ref a3, V.ref a4]) := upd_same
          have e25 := (e3.trans e4).trans e5
          have h25 := e25 _ _ h2
          generalize upd (upd (upd G2 a3 (.lst [V.int 11, V.int 12])) a4 (.lst [V.int 13, V.int 14])) a5 (.lst [V.ref a3, V.ref a4]) = G5 at k3 k4 k5 e25 h25 ⊢
          -- the item's lines
          have fin : ∀ (a6 : Addr) (xs : List Int), G5 a6 = some (.lst (xs.map V.int)) → xs.length = 2 → [10] ++ xs ++ [15, 16] = itemL (newB d) → rCat (V.ref a2) (.ref a6) G5 fun x H1 => tLst (tCons (tC (V.int 15)) (tCons (tC (V.int 16)) tNil)) [some (.ref p), some (.ref li), some (.int (many : Int)), some (.ref t1), some (.int d)] H1 fun y H2 => rCat x y H2 fun x H1 => ∃ t v4, [some (.ref p), some (.ref li), some (.int (many : Int)), some x, some (.int d)] = [some (.ref p), some (.ref li), some (.int (many : Int)), some (.ref t), v4] ∧ Fr p H H1 ∧ PenAt H1 p c (n + 1) ∧ H1 t = some (.lst ((preL b ++ itemsL ((ds.take (i + 1)).map newB)).map V.int)) := by
            intro a6 xs h6 l6 e6
            have lx : (xs.map V.int).length = 2 := by rw [List.length_map]; exact l6
            refine ⟨a2, a6, _, _, rfl, rfl, h25, h6, zz _ (by rw [List.length_append, lx]; show _ + 1 + 2 ≤ 100; omega), fun a7 m7 => ⟨z2, fun a8 m8 => ?_⟩⟩
            have e7 := extH_put (o := .lst (W ++ [V.int 10] ++ xs.map V.int)) m7
            have e8 := extH_put (o := .lst [V.int 15, V.int 16]) m8
            refine ⟨a7, a8, _, _, rfl, rfl, e8 _ _ upd_same, upd_same, zz _ (by rw [List.length_append, List.length_append, lx]; show _ + 1 + 2 + 2 ≤ 100; omega), fun a9 m9 => ?_⟩
            have e9 := extH_put (o := .lst (W ++ [V.int 10] ++ xs.map V.int ++ [V.int 15, V.int 16])) m9
            have ee := (((e2.trans e25).trans e7).trans e8).trans e9
            refine ⟨a9, _, rfl, f1.trans (fr_ext ee), pen_ext p1 ee, ?_⟩
            rw [upd_same, tk, ← ew, List.map_append (f := newB)]
            unfold itemsL
            rw [List.map_append (f := itemL), List.flatten_append]
            show _ = some (HO.lst ((preL b ++ (_ ++ (itemL (newB d) ++ []))).map V.int))
            rw [← e6]
            simp only [List.map_append, List.map_cons, List.map_nil, List.append_assoc, List.append_nil]
          by_cases hlt : d < 1
          · refine ⟨a5, _, _, V.ref a4, rfl, rfl, SqL.of k5, ?_, fin a4 [13, 14] k4 rfl ?_⟩
            · rw [decide_eq_true hlt] <;> rfl
            · unfold newB; rw [decide_eq_true hlt] <;> rfl
          · refine ⟨a5, _, _, V.ref a3, rfl, rfl, SqL.of k5, ?_, fin a3 [11, 12] k3 rfl ?_⟩
            · rw [decide_eq_false hlt] <;> rfl
            · unfold newB; rw [decide_eq_false hlt] <;> rfl
        · rintro σ G1 ⟨t1, v4, rfl, f1, p1, h1⟩
          rw [List.length_map, List.take_length] at h1
          exact hrr _ _ ⟨t1, v4, rfl, f1, p1, h1⟩
    · intro rr hrr
      refine ⟨z2, fun a1 n1 => ?_⟩
      refine ⟨z2, fun a2 n2 => ?_⟩
      refine ⟨z1, fun a3 n3 => ?_⟩
      refine ⟨z2, fun a4 n4 => ?_⟩
      have e1 := extH_put (o := .lst [V.int 4, V.int 5]) n1
      have e2 := extH_put (o := .lst [V.int 6, V.int 7]) n2
      have e3 := extH_put (o := .lst [V.int 8]) n3
      have e4 := extH_put (o := .lst [V.ref a2, V.ref a3]) n4
      have ee := ((e1.trans e2).trans e3).trans e4
      have h1 : upd (upd (upd (upd H a1 (.lst [V.int 4, V.int 5])) a2 (.lst [V.int 6, V.int 7])) a3 (.lst [V.int 8])) a4 (.lst [V.ref a2, V.ref a3]) a1 = some (.lst [V.int 4, V.int 5]) := e4 _ _ (e3 _ _ (e2 _ _ upd_same))
      have h2 : upd (upd (upd (upd H a1 (.lst [V.int 4, V.int 5])) a2 (.lst [V.int 6, V.int 7])) a3 (.lst [V.int 8])) a4 (.lst [V.ref a2, V.ref a3]) a2 = some (.lst [V.int 6, V.int 7]) := e4 _ _ (e3 _ _ upd_same)
      have h3 : upd (upd (upd (upd H a1 (.lst [V.int 4, V.int 5])) a2 (.lst [V.int 6, V.int 7])) a3 (.lst [V.int 8])) a4 (.lst [V.ref a2, V.ref a3]) a3 = some (.lst [V.int 8]) := e4 _ _ upd_same
      have h4 : upd (upd (upd (upd H a1 (.lst [V.int 4, V.int 5])) a2 (.lst [V.int 6, V.int 7])) a3 (.lst [V.int 8])) a4 (.lst [V.ref a2, V.ref a3]) a4 = some (.lst [V.ref a2, V.ref a3]) := upd_same
      generalize upd (upd (upd (upd H a1 (.lst [V.int 4, V.int 5])) a2 (.lst [V.int 6, V.int 7])) a3 (.lst [V.int 8])) a4 (.lst [V.ref a2, V.ref a3]) = G at h1 h2 h3 h4 ee ⊢
      have pnG := pen_ext hp ee
      have np : ∀ {a : Addr} {xs : List V}, G a = some (.lst xs) → a ≠ p := fun {a xs} h z => by
        obtain ⟨cells, a', l', h2, _⟩ := pnG
        rw [← z, h] at h2
        cases h2
      refine ⟨_, rfl, p, c, n, 2, rfl, pnG, hn, by decide, by decide, fun G1 d fr pn d0 d1 => ?_⟩
      have f1 := fr _ _ (np h1) h1
      have f2 := fr _ _ (np h2) h2
      have f3 := fr _ _ (np h3) h3
      have f4 := fr _ _ (np h4) h4
      have frH := (fr_ext (p := p) ee).trans fr
      have fin : ∀ (a6 : Addr) (xs : List Int) (b : Bool), G1 a6 = some (.lst (xs.map V.int)) → xs.length ≤ 2 → [4, 5] ++ xs ++ [9] = preL b → rCat (V.ref a1) (.ref a6) G1 fun x H1 => tLst (tCons (tC (V.int 9)) tNil) [some (.ref p), some (.ref li), some (.int (many : Int)), none, none] H1 fun y H2 => rCat x y H2 fun x H1 => rr [some (.ref p), some (.ref li), some (.int (many : Int)), some x, none] H1 := by
        intro a6 xs b h6 l6 e6
        have lx : (xs.map V.int).length ≤ 2 := by rw [List.length_map]; exact l6
        refine ⟨a1, a6, _, _, rfl, rfl, f1, h6, zz _ (by show 2 + _ ≤ 100; omega), fun a7 m7 => ⟨z1, fun a8 m8 => ?_⟩⟩
        have e7 := extH_put (o := .lst ([V.int 4, V.int 5] ++ xs.map V.int)) m7
        have e8 := extH_put (o := .lst [V.int 9]) m8
        refine ⟨a7, a8, _, _, rfl, rfl, e8 _ _ upd_same, upd_same, zz _ (by rw [List.length_append]; show 2 + _ + 1 ≤ 100; omega), fun a9 m9 => ?_⟩
        have e9 := extH_put (o := .lst ([V.int 4, V.int 5] ++ xs.map V.int ++ [V.int 9])) m9
        have e79 := (e7.trans e8).trans e9
        refine hrr _ _ ⟨a9, b, rfl, frH.trans (fr_ext e79), pen_ext pn e79, ?_⟩
        rw [upd_same, ← e6]
        simp only [List.map_append, List.map_cons, List.map_nil]
      by_cases hd : d = 0
      · subst hd
        exact ⟨a4, _, _, V.ref a2, rfl, rfl, SqL.of f4, rfl, fin a2 [6, 7] true f2 (by decide) rfl⟩
      · have : d = 1 := by omega
        subst this
        exact ⟨a4, _, _, V.ref a3, rfl, rfl, SqL.of f4, rfl, fin a3 [8] false f3 (by decide) rfl⟩
end
end R9H
set_option Elab.async false
set_option linter.all false
set_option maxRecDepth 100000
set_option maxHeartbeats 4000000
/-! k19, part K9B: an instance whose making may raise; a try with several clauses, each with its name -/
namespace L2
open PySem PySem.Spec PyProof.Rows
/-- what the clauses wish, one after the other; slot i is the name's -/
def wTry (K : PySem.W.Frag) (i : Nat) (Wo : WX) (D : Ends) : List (Value × (Addr → Value → Option Addr → TS)) → WX
  | [] => Wo
  | q :: qs => fun cl d τ G => ∃ b, PySem.W.exmOne K cl q.1 = some b ∧ (b = false → wTry K i Wo D qs cl d τ G) ∧
    (b = true → ∀ a, G a = none → q.2 a cl d { D with nx := fun τ' => D.nx (τ'.set i none), bk := fun τ' => D.bk (τ'.set i none), ct := fun τ' => D.ct (τ'.set i none) } (τ.set i (some (.ref a))) G)
inductive HdsAs (X : Cx) (n : Str) : List ExceptHandler → List (Value × (Addr → Value → Option Addr → TS)) → Prop
  | nil : HdsAs X n [] []
  | cons {y : Str} {cv : Value} {u : Addr → Value → Option Addr → TS} {b : Stmt} {bs : List Stmt} {p1 p2 : Pos} {hs : List ExceptHandler} {qs : List (Value × (Addr → Value → Option Addr → TS))} : Names X y cv →
      (∀ (a : Addr) (o : Obj) (cl : Value) (d : Option Addr) (pp : List (Addr × Obj)), Zc cl d o → (∃ vs, o.data = .fields vs) → PSs (X.suite a ((a, o) :: pp)) (b :: bs) (u a cl d)) → HdsAs X n hs qs →
      HdsAs X n (.ExceptHandler (some (.Name y p1)) (some n) (b :: bs) p2 :: hs) ((cv, u) :: qs)
section
variable {X : Cx} {n : Str} {i : Nat} {bd : List Stmt} {hd : ExceptHandler} {hs : List ExceptHandler} {qs : List (Value × (Addr → Value → Option Addr → TS))} {pos : Pos} {tb : WX → TS} {Wo : WX}
theorem ps_try_as2 (es : X.stack = X.env :: X.outer) (ef : X.env.frame = some X.env.locals) (nd : X.N.Nodup) (ni : X.N[i]? = some n) (nl : X.env.kindOf n = some .local) (tk : Takes X Wo)
    (pb : ∀ (W : WX) (pp : List (Addr × Obj)) (xe : Value → Shared → Prop), Takes (X.tr pp xe) W → PassesOwn (model X.prog X.w) X.A X.env xe → PSs (X.tr pp xe) bd (tb W))
    (ph : HdsAs X n (hd :: hs) qs) : PS X (.Try bd (hd :: hs) [] [] pos) (fun D τ G => tb (wTry X.K i Wo D qs) D τ G) := by
  constructor
  intro pins s τ G D I h
  have ok := I.ok
  have fr : X.A.frames = some (X.env :: X.outer) := ok.frames.trans (by rw [es])
  apply wpAny_Try_except
  apply wpAny_mono ((pb (wTry X.K i Wo D qs) (X.pn ++ pins) (fun e s₁ => wpAny (model X.prog X.w) X.A (noteFrame e X.env) (fun _ s₂ => wpAny (model X.prog X.w) X.A (setFlight e none) (fun _ s₃ => wpAny (model X.prog X.w) X.A (handleBy e X.env (hd :: hs)) (SP X pins D) X.xe s₃) X.xe s₂) X.xe s₁)
    ?xx PassesOwn.looking).run [] s τ G D (I.toTry _) h) ?ends (fun e s1 z => z)
  case xx =>
    rintro u s' ⟨a, B, sI, pins', τ', G', cl, d, rfl, Jt, nb, up, sky0, na, os, ag, wish⟩
    have J : Inv X pins τ' G' sI := Jt.ofTry ok
    have sky : Sky B (X.env :: X.outer) a (Zc cl d) X.env.locals s'.heap := es ▸ sky0
    refine Sky.land Zc.steady fr ef sky fun h3 fl up3 => ?_
    have J3 : Inv X pins τ' G' { s' with heap := h3 } := J.landed nb fl.1 (up.trans up3) os ag
    obtain ⟨o3, vs3, at3, z3, f3⟩ := fl.there
    have out : ∀ {h : Heap} {o : Obj} {vs : Array Value}, h.FunFrames B (X.env :: X.outer) → h.get? a = some o → o.data = .fields vs → ∀ ev ∈ X.env :: X.outer, ∀ l, ev.frame = some l → a ≠ l := by
      intro h o vs ff ea ed ev hev l el z
      have hm : a ∈ frs (X.env :: X.outer) := List.mem_filterMap.mpr ⟨ev, hev, by rw [el, z]⟩
      obtain ⟨_, o', ea', k⟩ := ff.mem hm
      cases ea.symm.trans ea'
      exact k _ ed
    have far := out fl.2.2.1 at3 f3
    have n1 : a ≠ X.env.locals := far _ List.mem_cons_self _ ef
    have n2 : a ∉ X.fs := by
      intro hm
      obtain ⟨ev, hev, q⟩ := List.mem_filterMap.mp hm
      exact far ev (List.mem_cons_of_mem _ hev) a q rfl
    have S3 := J3.suite at3 f3 na n1 n2
    -- a clause after the other
    have go : ∀ {hs' : List ExceptHandler} {qs' : List (Value × (Addr → Value → Option Addr → TS))}, HdsAs X n hs' qs' → wTry X.K i Wo D qs' cl d τ' G' → wpAny (model X.prog X.w) X.A (handleBy (.ref a) X.env hs') (SP X pins D) X.xe { s' with heap := h3 } := by
      intro hs' qs' r
      induction r with
      | nil =>
        intro w
        apply wpAny_handleBy_nil
        obtain ⟨_, _, _, o, vs, T, _, _, ea, _, ed, e1, _⟩ := id fl
        unfold PySem.passOn
        apply wpAny_bind
        apply wpAny_field ea ed e1
        rw [if_neg (by simp : ¬ ((Value.ref T == Value.none) = true))]
        have last : wpAny (model X.prog X.w) X.A (setFlight (.ref a) X.env.frame) (fun _ s4 => wpAny (model X.prog X.w) X.A (throw (.ref a) : Sem Flow) (SP X pins D) X.xe s4) X.xe { s' with heap := h3 } := by
          rw [ef]
          exact HandSPX.setFlight_upZ fl fun h4 k4 up4 => wpAny_throw (tk _ _ ⟨a, B, sI, pins, τ', G', cl, d, rfl, J, nb, (up.trans up3).trans up4, .inr (.inr (es.symm ▸ k4)), na, os, ag, w⟩)
        first
          | exact wpAny_bind (wpAny_pure (wpAny_bind last))
          | exact wpAny_bind last
      | @cons y cv u b bs p1 p2 hs1 qs1 nm ps _ ih =>
        rintro ⟨hit, e1, no, yes⟩
        refine wpAny_handleBy_cons (codeAny_handlers_test ?_) (by intro z; cases z)
        have lt : PySem.W.Looks (model X.prog X.w) h3 (typeOf (.ref a)) cl := fun A Q E s k q => wpAny_typeOf_ref (k _ _ at3) (z3.1.symm ▸ q)
        have name : ∀ {Q E : Value → Shared → Prop}, Q cv { s' with heap := h3 } → wpAny (model X.prog X.w) (X.A.mark (some (.ref a))) (eval (.Name y p1) X.env) Q E { s' with heap := h3 } := by
          intro Q E q
          obtain ⟨g, dbg, m⟩ := nm
          rcases m with m | ⟨m, bv, nn⟩
          · exact ld_glob (X := X.suite a ((a, o3) :: (X.pn ++ pins))) S3 g m q dbg
          · exact ld_blt (X := X.suite a ((a, o3) :: (X.pn ++ pins))) S3 g m bv q nn dbg
        apply name
        apply (PySem.W.exm_one (M := model X.prog X.w) J3.kIn lt e1).here
        cases hit with
        | false => exact ih (no rfl)
        | true =>
          apply codeAny_handlers_suite_as
          refine HandSPX.lands_againZ fl fun h4 fl4 up4 => ?_
          have J4 : Inv X pins τ' G' { s' with heap := h4 } := J.landed nb fl4.1 ((up.trans up3).trans up4) os ag
          obtain ⟨o4, vs4, at4, z4, f4⟩ := fl4.there
          refine store_ok (X := X.suite a ((a, o4) :: (X.pn ++ pins))) (v := .ref a) (J4.suite at4 f4 na n1 n2) nd ni (.inl nl) rfl (fun s5 S5 => ?_) (.inr nl)
          apply wpAny_mono ((ps a o4 cl d (X.pn ++ pins) z4 ⟨_, f4⟩).run [] s5 _ G' _ S5 (yes rfl a na)) ?_ (fun _ _ z => z.elim)
          intro fw s6 sp
          match fw, sp with
          | .next, ⟨τ6, G6, S6, k⟩ => exact gone_ok (S6.unsuite ok) nd ni nl fun s7 J7 => ⟨_, _, J7, k⟩
          | .brk, ⟨τ6, G6, S6, k⟩ => exact gone_ok (S6.unsuite ok) nd ni nl fun s7 J7 => ⟨_, _, J7, k⟩
          | .cont, ⟨τ6, G6, S6, k⟩ => exact gone_ok (S6.unsuite ok) nd ni nl fun s7 J7 => ⟨_, _, J7, k⟩
          | .ret ur, ⟨v6, τ6, G6, S6, r6, k⟩ => exact gone_ok (S6.unsuite ok) nd ni nl fun s7 J7 => ⟨_, _, _, J7, r6, k⟩
    exact go ph wish
  case ends =>
    intro fw s1 sp
    match fw, sp with
    | .next, ⟨τ', G', J, k⟩ => exact wpAny_execs_nil ⟨τ', G', J.ofTry ok, k⟩
    | .brk, ⟨τ', G', J, k⟩ => exact ⟨τ', G', J.ofTry ok, k⟩
    | .cont, ⟨τ', G', J, k⟩ => exact ⟨τ', G', J.ofTry ok, k⟩
    | .ret ur, ⟨v, τ', G', J, r, k⟩ => exact ⟨v, τ', G', J.ofTry ok, r, k⟩
end
/-! ### an instance whose __init__ may raise -/
section
variable {X : Cx} {CX : CXT} {k : Nat} {f C : Addr} {fd : FuncData} {ps : List Str} {sp : Sp} {E : St → XK} {dvs : List V} {ds : List Value} {x : Str} {p pos : Pos} {e : Expr} {es : List Expr} {t : TA}
def tMakeS (C : Addr) (sp : Sp) (dvs : List V) (E : St → XK) (t : TA) : TE := fun σ H Q => tMake C sp dvs (E σ) t σ H Q
theorem pe_makeS (M : Mk X.K C f) (F : FnOk X.prog X.w X.K X.mg X.base CX k f fd ps sp) (hr : Room (k + 1) X.A) (hg : Gl X x) (hm : X.mg x = some (.ref C)) (hb : Binds X.K fd ps ds) (hd : Vals dvs ds) (hx : ∀ σ, PassesAt CX X σ (E σ))
    (ha : PA X (e :: es) t) (hdb : (x == ("__debug__" : Str)) = false := by decide) (he : starEach (e :: es) X.env = (false, eval e X.env) :: starEach es X.env := by rfl) (hpl : (backTo pos (starEach es X.env)).any (·.1) = false := by rfl) :
    PE X (.Call (.Name x p) (e :: es) [] pos) (tMakeS C sp dvs E t) := by
  constructor
  intro pins s σ H Q I h
  apply wpAny_Call_Name_kw
  apply ld_glob I hg hm ?_ hdb
  apply PySem.W.callWith_K (h₀ := X.base) I.ok.mod.kin M.kp (thn (ha.run pos pins s σ H _ I h) ?_) he hpl
  rintro us s1 ⟨vs, H1, I1, r, q⟩
  refine ⟨I1.kIn, ?_⟩
  have q2 := q (s1.heap.objs.size + 1) s1.heap.objs.size (I1.hok.fresh (Nat.le_succ _)) (I1.hok.fresh (Nat.le_refl _)) (Nat.ne_of_lt (Nat.lt_succ_self _))
  have J := Inv.made (C := C) I1
  have rv : Vals (V.ref (s1.heap.objs.size + 1) :: (vs ++ dvs)) (Value.ref (s1.heap.objs.size + 1) :: (us ++ ds)) := .cons rfl (r.append hd)
  have nlen := rv.length
  rw [F.len _ _ _ _ q2] at nlen
  apply wpAny_call
  apply make_map (f := f) I1.kIn M.makes M.init (eq_of_beq M.fn)
  apply codeAny_mono (F.run _ X.stack _ _ ⟨Value.ref (s1.heap.objs.size + 1) :: us, []⟩ _ _ _ (E σ) (hr.make C us []) (J.env0.make C us []) (hb _ (Value.ref (s1.heap.objs.size + 1) :: us) J.kIn nlen.symm) rv q2)
  intro fl s' z
  match fl, z with
  | .error er, z => exact hx σ _ _ _ er s' J z
  | .ok (.ret u), z =>
    obtain ⟨v, G, J3, rw', ev, k⟩ := J.after z
    subst ev
    exact ⟨rw', V.ref (s1.heap.objs.size + 1), G, J3, rfl, k⟩
end
end L2
set_option Elab.async false
set_option linter.all false
set_option maxRecDepth 100000
set_option maxHeartbeats 4000000
/-! k19, part SE: _law_made -/
namespace L2
open PySem PySem.Spec PyProof.Rows
section
variable {X : Cx}
/-- e.f, e the pinned error -/
def tXfP (K : PySem.W.Frag) (a C : Addr) (d : Option Addr) (f : Str) (te : TE) : TE := fun σ H Q => te σ H fun x H1 => ∃ (dd : Addr) (fs : List (Str × V)) (v : V), x = .ref a ∧ d = some dd ∧ XfC K C ∧ PySem.W.findIn K (.ref C) f = some none ∧ H1 dd = some (.xd fs) ∧ fs.lookup f = some v ∧ Q v H1
theorem pe_xfP {a C : Addr} {d : Option Addr} {oe : Obj} {e : Expr} {te : TE} {pos : Pos} {n : Str} (hpn : (a, oe) ∈ X.pn) (hz : Zc (.ref C) d oe) (hf : ∃ vs, oe.data = .fields vs) (he : PE X e te) (hb : attributeBase e n X.env (eval e X.env) = eval e X.env := by rfl) :
    PE X (.Attribute e n pos) (tXfP X.K a C d n te) := by
  refine ⟨fun pins s σ H Q I h => ?_⟩
  refine attr_of hb (thn (he.run pins s σ H _ I h) fun u s1 hh => ?_)
  obtain ⟨x, H1, I1, rx, dd, fs, v, ex, ed, T, hno, ea, l, q⟩ := hh
  subst ex ed
  obtain rfl : u = Value.ref a := rx
  obtain ⟨ha, _⟩ := I1.pin (a, oe) (List.mem_append_left _ hpn)
  obtain ⟨vs, hd⟩ := hf
  have hx : ObjOk X.prog X.w H1 s1.heap dd (.xd fs) := I1.hok dd _ ea
  obtain ⟨mA, hns, hr⟩ := hx
  obtain ⟨od, ho, hl⟩ := lookIn_ns hns
  obtain ⟨u, hu, ru⟩ := RelO.some_of (v := v) (o := mA n) (by rw [← l]; exact hr n)
  have J : PySem.W.InstAt s1.heap a oe C (some od) := ⟨ha, hz.1, by unfold PySem.W.notCls; rw [hd] <;> rfl, by rw [hz.2]; exact ho⟩
  exact HandSPX.exc_get I1.kIn J T.ga T.gg T.exC (PySem.W.findObj_own T.hdC hno rfl (by rw [hl, hu])) (handed_of ru) ⟨v, H1, I1.tok _, ru, q⟩
end
end L2
namespace R9H
open PySem PySem.Spec PyProof.Rows L2
def rIsPc (K : PySem.W.Frag) (a : Addr) (cls : Value) (d : Option Addr) : List V → Hp → VK → Prop := fun xs H Q => ∃ C, cls = .ref C ∧ ExcC K C ∧ rIsP K a C d xs H Q
theorem call_isPc {X : Cx} {a : Addr} {oe : Obj} {cls : Value} {d : Option Addr} (hpn : (a, oe) ∈ X.pn) (hz : Zc cls d oe) (hf : ∃ vs, oe.data = .fields vs) : CallR X (.builtin "isinstance") (rIsPc X.K a cls d) := by
  intro pins s σ H xs us Q I r h
  obtain ⟨C, rfl, T, h⟩ := h
  exact call_isP hpn T hz hf pins s σ H xs us Q I r h
def tXfPc (K : PySem.W.Frag) (a : Addr) (cls : Value) (d : Option Addr) (f : Str) (te : TE) : TE := fun σ H Q => ∃ C, cls = .ref C ∧ tXfP K a C d f te σ H Q
theorem pe_xfPc {X : Cx} {a : Addr} {cls : Value} {d : Option Addr} {oe : Obj} {e : Expr} {te : TE} {pos : Pos} {n : Str} (hpn : (a, oe) ∈ X.pn) (hz : Zc cls d oe) (hf : ∃ vs, oe.data = .fields vs) (he : PE X e te) (hb : attributeBase e n X.env (eval e X.env) = eval e X.env := by rfl) :
    PE X (.Attribute e n pos) (tXfPc X.K a cls d n te) := by
  refine ⟨fun pins s σ H Q I h => ?_⟩
  obtain ⟨C, rfl, h⟩ := h
  exact (pe_xfP hpn hz hf he hb).run pins s σ H Q I h
/-- an error's class as a class of errors -/
theorem exm_self {K : PySem.W.Frag} {P : Program} {d : K7.XD} (x : K7.XAll K P d) : PySem.W.exmOne K (.ref (ga K d.cls)) (.ref (ga K d.cls)) = some true := by
  obtain ⟨cd, hc⟩ := x.xs.cd
  unfold PySem.W.exmOne
  rw [x.exC, if_pos (by rfl)]
  show (if ((PySem.W.clsIn K (ga K d.cls)).isSome && PySem.W.typeIn K (.ref (ga K d.cls)) == some (.type "type")) = true then PySem.W.subIn K (.ref (ga K d.cls)) (.ref (ga K d.cls)) else none) = some true
  rw [hc, x.tyC, if_pos (by rfl)]
  exact x.xs.selfsub
theorem exm_other {K : PySem.W.Frag} {P : Program} {d e : K7.XD} (y : K7.XAll K P e) (h : PySem.W.kitOne K (.ref (ga K d.cls)) (.ref (ga K e.cls)) = some false) : PySem.W.exmOne K (.ref (ga K d.cls)) (.ref (ga K e.cls)) = some false := by
  unfold PySem.W.exmOne
  rw [y.exC, if_pos (by rfl)]
  unfold PySem.W.kitOne at h
  split at h
  · cases h
  · exact h
theorem kit_of {K : PySem.W.Frag} {c e : Value} (h : PySem.W.exmOne K c e = some true) : PySem.W.kitOne K c e = some true := by
  unfold PySem.W.exmOne at h
  unfold PySem.W.kitOne
  split at h
  · split
    · rfl
    · exact h
  · cases h
def spMade (K : PySem.W.Frag) : Sp := fun vs H Q _ => ∃ (p ll pl : Addr) (z : Str) (r : RS) (ls picks : List Int) (C cs : Nat → List Int) (m : Nat) (V' : Nat → VS) (mv : Nat), vs = [.ref p, .ref ll, .ref pl] ∧ PgAt K p z r H ∧ Short r ∧ SqL K H ll (ls.map V.int) ∧ SqL K H pl (picks.map V.int) ∧
  ls.length ≤ 100000 ∧ Fol r ls C cs m ∧ Vls r picks (ls.take m) V' mv ∧ (mv < m → ∀ H' t, ExtH H H' → SqT K H' t [.str "pick", .int (mv : Int)] → Q (.ref t) H') ∧ (mv = m → m < ls.length → ∀ H' t, ExtH H H' → SqT K H' t [.str "line", .int (m : Int)] → Q (.ref t) H') ∧
  (mv = m → m = ls.length → (C ls.length).length ≤ 1000 ∧ ∃ S : Nat → SS, Sty r ls S ∧ ∀ H' t x, ExtH H H' → SqT K H' t [.str "run", .ref x] → RunAt K x p ls (C ls.length) (V' ls.length) (S ls.length) H' → Q (.ref t) H')
section
variable {w : World} {K : PySem.W.Frag} {mg : Str → Option Value} {base : Heap}
abbrev st_law_made : Stmt := top 92
theorem sc_law_made : FnScope ["_law_program", "_law_told", "_law_picks", "e"] ["_law_program", "_law_told", "_law_picks"] (defScope st_law_made) := ⟨rfl, rfl, rfl, by decide +kernel, rfl, by decide +kernel, by decide +kernel⟩
def tIsG (K : PySem.W.Frag) (a : Addr) (cls : Value) (d : Option Addr) (n : Str) : TE := tCB (rIsPc K a cls d) (tCons (tVar 3) (tCons (tC (.ref (ga K n))) tNil))
def t_pick (K : PySem.W.Frag) : Addr → Value → Option Addr → TS := fun a cls d => tRet (tTup (tCons (tIf (tAnd (tB (tIsG K a cls d "RoomError")) (tNot (tB (tIsG K a cls d "NotRun")))) (tC (.str "pick")) (tC (.str "class"))) (tCons (tXfPc K a cls d "index" (tVar 3)) tNil)))
def t_line (K : PySem.W.Frag) : Addr → Value → Option Addr → TS := fun a cls d => tRet (tTup (tCons (tIf (tB (tIsG K a cls d "RoomError")) (tC (.str "line")) (tC (.str "class"))) (tCons (tXfPc K a cls d "index" (tVar 3)) tNil)))
theorem ok_law_made (T : T6 K mg) : Has w K mg base 9 "_law_made" ["_law_program", "_law_told", "_law_picks"] (spMade K) := by
  obtain ⟨fd, F⟩ := T.fn 74
  obtain ⟨fd_Run, F_Run, b_Run⟩ := ok_Run___init (w := w) (base := base) T
  have g_Run := T.glo "Run" (by decide +kernel)
  have M_Run := T.mkr "Run" (by decide +kernel)
  have gi := T.free "isinstance" (by decide +kernel)
  have gB := T.glo "BadPick" (by decide +kernel)
  have gN := T.glo "NotRun" (by decide +kernel)
  have gR := T.glo "RoomError" (by decide +kernel)
  refine has_of (st := st_law_made) T F (by decide +kernel) (F.ok sc_law_made (fun vs H Q E h => ?_) (fun cdv A outer s H vs Q E hr h => ⟨_, PSs.nox (
    pss_one (ps_try_as2 (n := "e") (i := 3) (Wo := fun _ _ _ _ => False) (tb := fun W => tRet (tTup (tCons (tC (.str "run")) (tCons (tMakeS (ga K "Run") (spRun K) [] (WE W) (tCons (tVar 0) (tCons (tVar 1) (tCons (tVar 2) tNil)))) tNil))))
      rfl rfl sc_law_made.nd rfl rfl takes0
      (fun W pn xe tk _ => pss_one (ps_ret (pe_tup (pa_cons pe_str (pa_cons (by exact pe_makeS M_Run F_Run (hr.mono (by decide)) rfl g_Run b_Run .nil (fun σ => passAt tk σ) (pa_cons (pv 0) (pa_cons (pv 1) (pa_cons (pv 2) pa_nil)))) pa_nil)))))
      (.cons (u := t_pick K) ⟨rfl, by decide, Or.inl gB⟩ (fun a oe cls d pn hz hf => by exact pss_one (ps_ret (pe_tup (pa_cons (pe_ifExp (PW.pt (pw_and (pt_val (pe_callB (call_isPc (oe := oe) List.mem_cons_self hz hf) rfl gi PyProof.Rows.boot_isinstance (pa_cons (pv 3) (pa_cons (pe_glob (v := .ref (ga K "RoomError")) rfl gR rfl) pa_nil)))) (pw_and1 (pt_not (pt_val (pe_callB (call_isPc (oe := oe) List.mem_cons_self hz hf) rfl gi PyProof.Rows.boot_isinstance (pa_cons (pv 3) (pa_cons (pe_glob (v := .ref (ga K "NotRun")) rfl gN rfl) pa_nil)))))))) pe_str pe_str) (pa_cons (pe_xfPc (oe := oe) List.mem_cons_self hz hf (pv 3)) pa_nil)))))
        (.cons (u := t_line K) ⟨rfl, by decide, Or.inl gN⟩ (fun a oe cls d pn hz hf => by exact pss_one (ps_ret (pe_tup (pa_cons (pe_ifExp (pt_val (pe_callB (call_isPc (oe := oe) List.mem_cons_self hz hf) rfl gi PyProof.Rows.boot_isinstance (pa_cons (pv 3) (pa_cons (pe_glob (v := .ref (ga K "RoomError")) rfl gR rfl) pa_nil)))) pe_str pe_str) (pa_cons (pe_xfPc (oe := oe) List.mem_cons_self hz hf (pv 3)) pa_nil))))) .nil)))), ?_⟩)) fun _ _ _ _ _ _ us hl => match us, hl with | [_, _, _], _ => rfl
  · obtain ⟨p, ll, pl, z, r, ls, picks, C, cs, m, V', mv, rfl, _⟩ := h
    rfl
  · obtain ⟨p, ll, pl, z, r, ls, picks, C, cs, m, V', mv, rfl, hp, hsh, hll, hpl, hlen, hC, hV, qb, qn, q⟩ := h
    clear F
    have xb := T.err 3 _ rfl
    have xn := T.err 2 _ rfl
    obtain ⟨_, kb⟩ := K7.SaysX.kit T.says.errs 3 rfl
    obtain ⟨_, kn⟩ := K7.SaysX.kit T.says.errs 2 rfl
    have kbn : PySem.W.kitOne K (.ref (ga K "BadPick")) (.ref (ga K "NotRun")) = some false := kb _ (List.mem_of_getElem? (i := 2) rfl)
    have knb : PySem.W.kitOne K (.ref (ga K "NotRun")) (.ref (ga K "BadPick")) = some false := kn _ (List.mem_of_getElem? (i := 3) rfl)
    have hBB : PySem.W.exmOne K (.ref (ga K "BadPick")) (.ref (ga K "BadPick")) = some true := exm_self xb
    have hNN : PySem.W.exmOne K (.ref (ga K "NotRun")) (.ref (ga K "NotRun")) = some true := exm_self xn
    have hNB : PySem.W.exmOne K (.ref (ga K "NotRun")) (.ref (ga K "BadPick")) = some false := exm_other (d := xs[2]'(by decide)) xb knb
    have hBR : PySem.W.kitOne K (.ref (ga K "BadPick")) (.ref (ga K "RoomError")) = some true := kit_of xb.ex
    have hNR : PySem.W.kitOne K (.ref (ga K "NotRun")) (.ref (ga K "RoomError")) = some true := kit_of xn.ex
    have ecB : ExcC K (ga K "BadPick") := xb.ec
    have ecN : ExcC K (ga K "NotRun") := xn.ec
    have xfB : XfC K (ga K "BadPick") := xb.xf
    have xfN : XfC K (ga K "NotRun") := xn.xf
    have noB : PySem.W.findIn K (.ref (ga K "BadPick")) "index" = some none := xb.no _ List.mem_cons_self
    have noN : PySem.W.findIn K (.ref (ga K "NotRun")) "index" = some none := xn.no _ List.mem_cons_self
    have z2 : 2 ≤ sizeLine := by rw [sizeLine_eq]; decide
    refine ⟨_, rfl, _, rfl, _, rfl, fun x dx nx ndx hne => ?_⟩
    have e1 : ExtH H (upd (upd H dx (.own x)) x (.ins (ga K "Run") dx [])) := fun b o h => by
      rw [upd_ne (ne_of_none h nx), upd_ne (ne_of_none h ndx)]
      exact h
    refine ⟨x, dx, p, ll, pl, z, r, ls, picks, C, cs, m, V', mv, rfl, upd_same, hp.ext e1, hsh, sqL_extH e1 hll, .inl (sqL_extH e1 hpl), hlen, hC, hV, fun hm => ?_, fun h1 h2 => ?_, fun h1 h2 => ?_⟩
    · intro G d eG hd
      have dat : ∀ dx, some d = some dx → ∃ fs, G dx = some (.xd fs) := fun dx h => by
        cases h
        exact ⟨_, hd⟩
      refine ⟨true, hBB, fun z => Bool.noConfusion z, fun _ a na => ?_⟩
      refine ⟨_, rfl, _, rfl, ecB, _, .ref (ga K "RoomError"), true, rfl, dat, fun u r => r, hBR, true, rfl, ifT rfl ⟨_, rfl, _, rfl, ecB, _, .ref (ga K "NotRun"), false, rfl, dat, fun u r => r, kbn, false, rfl, ifT rfl ⟨_, rfl, _, rfl, d, _, _, rfl, rfl, xfB, noB, hd, rfl, z2, fun t nt => ?_⟩⟩⟩
      exact qb hm _ t ((e1.trans eG).trans (extH_put nt)) (SqT.of upd_same)
    · intro G d eG hd
      have dat : ∀ dx, some d = some dx → ∃ fs, G dx = some (.xd fs) := fun dx h => by
        cases h
        exact ⟨_, hd⟩
      refine ⟨false, hNB, fun _ => ⟨true, hNN, fun z => Bool.noConfusion z, fun _ a na => ?_⟩, fun z => Bool.noConfusion z⟩
      refine ⟨_, rfl, _, rfl, ecN, _, .ref (ga K "RoomError"), true, rfl, dat, fun u r => r, hNR, true, rfl, ifT rfl ⟨_, rfl, _, rfl, d, _, _, rfl, rfl, xfN, noN, hd, rfl, z2, fun t nt => ?_⟩⟩
      exact qn h1 h2 _ t ((e1.trans eG).trans (extH_put nt)) (SqT.of upd_same)
    · obtain ⟨hc, S, hS, q⟩ := q h1 h2
      refine ⟨hc, S, hS, fun G kx ha => ⟨rfl, z2, fun t nt => ?_⟩⟩
      have eG : ExtH H G := fun b o h => kx b o (ne_of_none h nx) (e1 _ _ h)
      exact q _ t x (eG.trans (extH_put nt)) (SqT.of upd_same) (ha.ext (extH_put nt))
end
end R9H
set_option Elab.async false
set_option linter.all false
set_option maxRecDepth 100000
set_option maxHeartbeats 4000000
/-! k19, part SF: a program while the pen is used; _law_is_stopped -/
namespace R9H
open PySem PySem.Spec PyProof.Rows L2
/-! ### a program while the pen is used -/
theorem fr_tx {H G : Hp} {p c : Addr} {n : Nat} (hp : PenAt H p c n) (e : Fr p H G) : Tx H G := fun l xs r => by
  obtain ⟨_, _, _, h, _⟩ := hp
  have hl : l ≠ p := fun z => by
    rcases r with r | ⟨u, r⟩
    · rw [z, h] at r; cases r
    · rw [z, h] at r; cases r
  exact r.imp (e _ _ hl) fun ⟨u, r⟩ => ⟨u, e _ _ hl r⟩
section
variable {α κ : Type} {ky : κ → Key} {R R' : V → α → Prop} {fs : List (Str × V)} {x : Str} {l : List (κ × α)} {H G : Hp} {K : PySem.W.Frag} {p c : Addr} {n : Nat}
theorem FdAt.fr (h : FdAt ky R fs x l H) (hp : PenAt H p c n) (e : Fr p H G) (ne : ∀ (a : Int) (b : Int), ¬ AtK ky R (penD c a b) l) (f : ∀ v a, R v a → R' v a) : FdAt ky R' fs x l G := by
  obtain ⟨d, kv, h1, h2, h3⟩ := h
  obtain ⟨_, a, b, g, _⟩ := hp
  have : d ≠ p := fun z => by
    rw [z, g] at h2
    cases h2
    exact ne _ _ h3
  exact ⟨d, kv, h1, e _ _ this h2, Paired.mapP h3 fun _ _ h => ⟨h.1, f _ _ h.2⟩⟩
theorem ne_kI {R : V → α → Prop} {l : List (Int × α)} {a b : Int} : ¬ AtK kI R (penD c a b) l := fun h => by
  unfold AtK penD at h
  cases h with
  | cons r _ => exact absurd r.1 (fun z => by cases z)
theorem ne_len {R : V → α → Prop} {l : List (κ × α)} {a b : Int} (hl : l.length ≠ 3) : ¬ AtK ky R (penD c a b) l := fun h => by
  unfold AtK at h
  have := Paired.length h
  exact hl this.symm
theorem ne_s {l : List (κ × Str)} {a b : Int} : ¬ AtK ky isS (penD c a b) l := fun h => by
  unfold AtK penD at h
  cases h with
  | cons r _ => exact absurd r.2 (fun z => by cases z)
theorem ne_i {l : List (κ × Int)} {a b : Int} : ¬ AtK ky isI (penD c a b) l := fun h => by
  unfold AtK penD at h
  cases h with
  | cons r _ => exact absurd r.2 (fun z => by cases z)
theorem Pg.fr {z : Str} {r : RS} (h : Pg K fs z r H) (hp : PenAt H p c n) (e : Fr p H G) (h1 : r.pm.length ≠ 3) (h2 : r.f.length ≠ 3) (h3 : r.names.length ≠ 3) : Pg K fs z r G := by
  have t := fr_tx hp e
  exact ⟨h.text, h.kinds.fr hp e (fun _ _ => ne_kI) fun _ _ x => x, h.rows.fr hp e (fun _ _ => ne_kI) (tupS.tx t), h.owners.fr hp e (fun _ _ => ne_kI) fun _ _ x => x, h.partners.fr hp e (fun _ _ => ne_kI) fun _ _ x => x, h.ors.fr hp e (fun _ _ => ne_kI) (tupN.tx t), h.eithers.fr hp e (fun _ _ => ne_kI) fun _ _ x => x, h.evers.fr hp e (fun _ _ => ne_kI) fun _ _ x => x, h.callees.fr hp e (fun _ _ => ne_kI) fun _ _ x => x, h.heads.fr hp e (fun _ _ => ne_i) fun _ _ x => x,
    h.params.fr hp e (fun _ _ => ne_len h1) (tupS.tx t), h.names.fr hp e (fun _ _ => ne_len h3) (fun _ _ ⟨n, kv, a, b, c⟩ => ⟨n, kv, a, e _ _ (fun z => by
      obtain ⟨_, _, _, g, _⟩ := hp
      rw [z, g] at b
      cases b
      exact ne_s c) b, c⟩), h.fields.fr hp e (fun _ _ => ne_len h2) fun _ _ x => FldAt.tx x t, h.contents.fr hp e (fun _ _ => ne_s) fun _ _ x => x, h.rooms_of.fr hp e (fun _ _ => ne_kI) (tupN.tx t), h.behinds.fr hp e (fun _ _ => ne_kI) fun _ _ x => x, h.firsts.fr hp e (fun _ _ => ne_i) fun _ _ x => x⟩
theorem PgAt.fr {q : Addr} {z : Str} {r : RS} (h : PgAt K q z r H) (hp : PenAt H p c n) (e : Fr p H G) (h1 : r.pm.length ≠ 3) (h2 : r.f.length ≠ 3) (h3 : r.names.length ≠ 3) : PgAt K q z r G := by
  obtain ⟨dx, fs, a, b⟩ := h
  have : q ≠ p := fun w => by
    obtain ⟨_, _, _, g, _⟩ := hp
    rw [w, g] at a
    cases a
  exact ⟨dx, fs, e _ _ this a, b.fr hp e h1 h2 h3⟩
end
theorem sc_fr {K : PySem.W.Frag} {P B X Q Y : Str} {q p c : Addr} {z : Str} {n : Nat} {H G : Hp} (h : PgAt K q z (scR P B X Q Y) H) (hp : PenAt H p c n) (e : Fr p H G) : PgAt K q z (scR P B X Q Y) G := h.fr hp e (by show 1 ≠ 3; decide) (by show 1 ≠ 3; decide) (by show 1 ≠ 3; decide)
theorem short_sc {P B X Q Y : Str} : Short (scR P B X Q Y) := fun x rs h => by
  unfold allRooms at h
  cases ho : (scR P B X Q Y).owners.lookup x with
  | none => rw [ho] at h; cases h
  | some o =>
    rw [ho] at h
    dsimp only at h
    cases hh : (scR P B X Q Y).hd.lookup o with
    | none => rw [hh] at h; cases h
    | some f =>
      rw [hh] at h
      dsimp only at h
      cases h
      cases hr : (scR P B X Q Y).rooms_of.lookup x with
      | none => exact Nat.le_of_ble_eq_true rfl
      | some l =>
        have : ∀ (q : List (Int × List Int)), (∀ p ∈ q, p.2.length ≤ 2) → ∀ l, q.lookup x = some l → l.length ≤ 2 := by
          intro q
          induction q with
          | nil => intro _ l h; cases h
          | cons p q ih =>
            intro h l hl
            rw [List.lookup_cons] at hl
            cases hb : (x == p.1) with
            | true => rw [hb] at hl; cases hl; exact h p List.mem_cons_self
            | false => rw [hb] at hl; exact ih (fun p hp => h p (List.mem_cons_of_mem _ hp)) l hl
        have := this (roL.take 18) (by decide) l hr
        show l.length ≤ 1000
        omega
theorem FC.mem {C C' ls : List Int} (h : FC C ls C') : ∀ l ∈ ls, l ∈ lns := by
  induction h with
  | nil => intro l h; cases h
  | cons _ b _ ih =>
    intro l h
    rcases List.mem_cons.mp h with rfl | h
    · exact b
    · exact ih l h
theorem cut_in {L : List Int} {cut : Nat} {odd : Int} (h : cut ≤ L.length) : cutV (L.map V.int) none (some (cut : Int)) ++ [V.int odd] ++ cutV (L.map V.int) (some (cut : Int)) none = (L.take cut ++ odd :: L.drop cut).map V.int := by
  unfold cutV
  rw [HT.sIx_nat, HT.sIx_nat, HT.sIx_none, HT.sIx_none, List.length_map, Nat.min_eq_left h, List.drop_zero, Nat.sub_zero, List.map_append, List.map_cons, List.map_take, List.map_drop, List.append_assoc]
  congr 1
  rw [List.take_of_length_le (by rw [List.length_drop, List.length_map]; exact Nat.le_refl _)]
  rfl
theorem vls_of {r : RS} {picks L : List Int} {V' : Nat → VS} {o : Option Nat} {cut : Nat} {odd : Int} (h : Vls r picks L V' (o.getD L.length)) (hc : cut ≤ L.length) : Vls r picks ((L.take cut ++ odd :: L.drop cut).take cut) V' (min (o.getD L.length) cut) := by
  have e : (L.take cut ++ odd :: L.drop cut).take cut = L.take cut := by
    have lt : (L.take cut).length = cut := by rw [List.length_take]; omega
    rw [List.take_append_of_le_length (by omega), List.take_of_length_le (by omega)]
  rw [e]
  exact vls_take h hc
theorem in_1720 {l : Int} : (if false = true then !inV (V.int l) [V.int 17, V.int 20] else inV (V.int l) [V.int 17, V.int 20]) = decide (l ∈ [(17 : Int), 20]) := by
  show inV (V.int l) [V.int 17, V.int 20] = _
  unfold inV
  simp only [List.any_cons, List.any_nil, Bool.or_false, List.mem_cons, List.not_mem_nil, or_false]
  by_cases h1 : l = 17
  · subst h1; rfl
  · by_cases h2 : l = 20
    · subst h2; rfl
    · simp [eqV, h1, h2, Ne.symm h1, Ne.symm h2]
/-- what is due of a run with a line that cannot come -/
def dueT (o : Option Nat) (cut : Nat) : List V := match o with
  | none => [.str "line", .int (cut : Int)]
  | some j => if (cut : Int) ≤ (j : Int) then [.str "line", .int (cut : Int)] else [.str "pick", .int (j : Int)]
def dueTD (o : Option Nat) (cut : Nat) : List PyData := match o with
  | none => [.str "line", .int (cut : Int)]
  | some j => if (cut : Int) ≤ (j : Int) then [.str "line", .int (cut : Int)] else [.str "pick", .int (j : Int)]
theorem dueT_dp {K : PySem.W.Frag} {H : Hp} (o : Option Nat) (cut : Nat) : DpAll K H (dueT o cut) (dueTD o cut) := by
  unfold dueT dueTD
  cases o with
  | none => exact .cons (.str _) (.cons (.int _) .nil)
  | some j =>
    dsimp only
    split
    · exact .cons (.str _) (.cons (.int _) .nil)
    · exact .cons (.str _) (.cons (.int _) .nil)
theorem dueT_shp (o : Option Nat) (cut : Nat) : SeqAt.shaped (.tuple (dueTD o cut)) = true ∧ PyData.eqv (.tuple (dueTD o cut)) (.tuple (dueTD o cut)) = true := by
  have h : SeqAt.shaped (.tuple (dueTD o cut)) = true := by
    unfold dueTD
    have k1 : PyData.strOk "line" = true := by decide +kernel
    have k2 : PyData.strOk "pick" = true := by decide +kernel
    cases o with
    | none => simp [SeqAt.shaped, PyData.canLay0, PyData.canLayAll0, PyData.depth, PyData.depthAll, k1, k2]
    | some j =>
      dsimp only
      split <;> simp [SeqAt.shaped, PyData.canLay0, PyData.canLayAll0, PyData.depth, PyData.depthAll, k1, k2]
  refine ⟨h, ?_⟩
  unfold SeqAt.shaped at h
  rw [Bool.and_eq_true] at h
  exact SeqAt.eqv_refl _ h.1
def sp_law_is_stopped (K : PySem.W.Frag) : Sp := fun vs H Q _ => ∃ (p c q tl pl : Addr) (n : Nat) (z P B X Q' Y : Str) (b : Bool) (bs : List Bool) (many : Nat) (picks : List Int), vs = [.ref p, .ref q, .ref tl, .ref pl, badV (dueF bs.length picks 0 (told b bs many) []).2] ∧ PenAt H p c n ∧ n + 2 < 1000000 ∧ PgAt K q z (scR P B X Q' Y) H ∧ Nm P B X Q' Y ∧
  H tl = some (.lst ((told b bs many).map V.int)) ∧ H pl = some (.lst (picks.map V.int)) ∧ bs.length ≤ 6 ∧ many ≤ 6 ∧ ∀ H', Fr p H H' → PenAt H' p c (n + 2) → Q (.bl true) H'
section
variable {w : World} {K : PySem.W.Frag} {mg : Str → Option Value} {base : Heap}
theorem ok__law_made (T : T6 K mg) : Has w K mg base 9 "_law_made" ["_law_program", "_law_told", "_law_picks"] (spMade K) := ok_law_made T
abbrev st_law_is_stopped : Stmt := top 93
theorem sc_law_is_stopped : FnScope ["_law_pen_here", "_law_program", "_law_told", "_law_picks", "_law_bad", "_law_cut", "_law_odd", "_law_due_here"] ["_law_pen_here", "_law_program", "_law_told", "_law_picks", "_law_bad"] (defScope st_law_is_stopped) := ⟨rfl, rfl, rfl, by decide +kernel, rfl, by decide +kernel, by decide +kernel⟩
theorem ok_law_is_stopped (T : T6 K mg) : Has w K mg base 10 "_law_is_stopped" ["_law_pen_here", "_law_program", "_law_told", "_law_picks", "_law_bad"] (sp_law_is_stopped K) := by
  obtain ⟨fd, F⟩ := T.fn 75
  have H__law_pick := ok_pickL (w := w) (base := base) T
  have H__law_draw := ok__law_draw (w := w) (base := base) T
  have H__law_made := ok__law_made (w := w) (base := base) T
  have gf_len := T.free "len" (by decide +kernel)
  refine has_of (st := st_law_is_stopped) T F (by decide +kernel) (F.ok sc_law_is_stopped (fun vs H Q E h => ?_) (fun cdv A outer s H vs Q E hr h => ⟨_, PSs.nox (
    (pss_cons (ps_par (i := 5) (j := 6) (by rfl) sc_law_is_stopped.nd rfl rfl (by decide) rfl rfl (pa_cons (pe_op op_add pe_int (pe_has H__law_draw rfl (hr.mono (by decide)) rfl (pa_cons (pv 0) (pa_cons (pe_callB call_len_seq rfl gf_len PySem.boot_len (pa_cons (pv 2) pa_nil)) pa_nil)))) (pa_cons (pe_has H__law_pick rfl (hr.mono (by decide)) rfl (pa_cons (pv 0) (pa_cons (pe_lst (pa_cons pe_int (pa_cons pe_int (pa_cons pe_int (pa_cons pe_int (pa_cons pe_int pa_nil)))))) pa_nil))) pa_nil)) (by rfl))
    (pss_cons (ps_if (PW.pt (pw_and (pt_cmpR op_eq (pv 6) pe_int (nomark _)) (pw_and1 (pt_cmpR op_in_seq (pe_ix ix_list (pv 2) (pe_op op_sub (pv 5) pe_int) (fun _ _ => rfl)) (pe_lst (pa_cons pe_int (pa_cons pe_int pa_nil))) rfl))))
      (pss_one (ps_set (i := 6) sc_law_is_stopped.nd rfl (Or.inl rfl) pe_int))
      pss_nil)
    (pss_cons (ps_set (i := 7) sc_law_is_stopped.nd rfl (Or.inl rfl) (pe_ifExp (PW.pt (pw_or (pt_cmpR op_isN (pv 4) pe_non rfl) (pw_or1 (pt_cmpR op_ge (pv 4) (pv 5) (nomark _))))) (pe_tup (pa_cons pe_str (pa_cons (pv 5) pa_nil))) (pe_tup (pa_cons pe_str (pa_cons (pv 4) pa_nil)))))
    (pss_one (ps_ret (pe_cmpR (op_eqD hr.units) (pe_has H__law_made rfl (hr.mono (by decide)) rfl (pa_cons (pv 1) (pa_cons (pe_op op_cat (pe_op op_cat (pe_slice sl_list (pv 2) po_none (po_some (pv 5))) (pe_lst (pa_cons (pv 6) pa_nil))) (pe_slice sl_list (pv 2) (po_some (pv 5)) po_none)) (pa_cons (pv 3) pa_nil)))) (pv 7) (nomark _)))))))), ?_⟩)) fun _ _ _ _ _ _ us hl => match us, hl with | [_, _, _, _, _], _ => rfl
  · obtain ⟨p, c, q, tl, pl, n, z, P, B, X, Q', Y, b, bs, many, picks, rfl, _⟩ := h
    rfl
  · obtain ⟨p, c, q, tl, pl, n, z, P, B, X, Q', Y, b, bs, many, picks, rfl, hp, hn, hq, N1, htl, hpl, hb6, hm6, qq⟩ := h
    clear F
    obtain ⟨o, cv, hvc, hdue, hj, _⟩ := course N1 picks b bs many hb6 hm6
    have hb2 : (dueF bs.length picks 0 (told b bs many) []).2 = o := by rw [hdue]
    rw [hb2]
    have hFC := fc_told b bs many
    have hL : 1 ≤ (told b bs many).length ∧ (told b bs many).length ≤ 100 := by
      have := told_len b bs many
      have : 4 ≤ (preL b).length ∧ (preL b).length ≤ 5 := by cases b <;> decide
      omega
    clear hb2 hdue
    generalize told b bs many = L at *
    obtain ⟨V', hV, _⟩ := hvc.vls (by omega) fun l hl => (ln_facts (hFC.mem l hl) 0).2.1
    have z2 : 2 ≤ sizeLine := by rw [sizeLine_eq]; decide
    have zz : ∀ m, m ≤ 1000 → m ≤ sizeLine := fun m hm => by rw [sizeLine_eq]; omega
    have ntl : tl ≠ p := fun z => by
      obtain ⟨cells, a, l', h2, _⟩ := hp
      rw [← z, htl] at h2
      cases h2
    have npl : pl ≠ p := fun z => by
      obtain ⟨cells, a, l', h2, _⟩ := hp
      rw [← z, hpl] at h2
      cases h2
    -- the draws
    try dsimp only
    refine seq_cut (C := fun σ' G' => ∃ (cut : Nat) (odd : Int), σ' = [some (.ref p), some (.ref q), some (.ref tl), some (.ref pl), some (badV o), some (.int (cut : Int)), some (.int odd), none] ∧ 1 ≤ cut ∧ cut ≤ L.length ∧ odd ∈ [(4 : Int), 18, 22, 0, 3] ∧ Fr p H G' ∧ PenAt G' p c (n + 2)) ?_ ?_
    · rintro σ' G ⟨cut, odd, rfl, c1, c2, ho, fr, pn⟩
      have htl := fr _ _ ntl htl
      have hpl := fr _ _ npl hpl
      have hq := sc_fr hq hp fr
      clear hp ntl npl
      have hl0 : L[cut - 1]? = some L[cut - 1] := List.getElem?_eq_getElem (by omega)
      generalize L[cut - 1] = l0 at hl0
      try dsimp only
      refine seq_cut (C := fun σ' G' => ∃ (odd : Int), σ' = [some (.ref p), some (.ref q), some (.ref tl), some (.ref pl), some (badV o), some (.int (cut : Int)), some (.int odd), none] ∧ (odd ∈ [(4 : Int), 22, 0, 3] ∨ (odd = 18 ∧ l0 ∉ [(17 : Int), 20])) ∧ ExtH G G') ?_ ?_
      · rintro σ' G1 ⟨odd, rfl, ho, e1⟩
        have htl := e1 _ _ htl
        have hpl := e1 _ _ hpl
        have hq := hq.ext e1
        have fr := fr.trans (fr_ext e1)
        have pn := pen_ext pn e1
        clear e1
        try dsimp only
        refine seq_cut (C := fun σ' G' => ∃ (td : Addr), σ' = [some (.ref p), some (.ref q), some (.ref tl), some (.ref pl), some (badV o), some (.int (cut : Int)), some (.int odd), some (.ref td)] ∧ SqT K G' td (dueT o cut) ∧ ExtH G1 G') ?_ ?_
        · rintro σ' G2 ⟨td, rfl, htd, e2⟩
          have htl := e2 _ _ htl
          have hpl := e2 _ _ hpl
          have hq := hq.ext e2
          have fr := fr.trans (fr_ext e2)
          have pn := pen_ext pn e2
          clear e2
          refine ⟨_, rfl, _, rfl, _, rfl, (cut : Int), rfl, tl, _, rfl, SqL.of htl, fun a1 n1 => ?_⟩
          have e1 := extH_put (o := .lst (cutV (L.map V.int) none (some (cut : Int)))) n1
          have lc1 := cutV_length (L.map V.int) none (some (cut : Int))
          have lc2 := cutV_length (L.map V.int) (some (cut : Int)) none
          rw [List.length_map] at lc1 lc2
          have ein := cut_in (odd := odd) c2
          generalize cutV (L.map V.int) none (some (cut : Int)) = W1 at e1 lc1 ein n1 ⊢
          refine ⟨_, rfl, by rw [sizeLine_eq]; show 1 ≤ 16777216; decide, fun a2 n2 => ?_⟩
          have e2 := extH_put (o := .lst [V.int odd]) n2
          refine ⟨a1, a2, _, _, rfl, rfl, e2 _ _ upd_same, upd_same, zz _ (by show _ + 1 ≤ 1000; omega), fun a3 n3 => ?_⟩
          have e3 := extH_put (o := .lst (W1 ++ [V.int odd])) n3
          refine ⟨_, rfl, _, rfl, (cut : Int), rfl, tl, _, rfl, SqL.of (e3 _ _ (e2 _ _ (e1 _ _ htl))), fun a4 n4 => ?_⟩
          generalize cutV (L.map V.int) (some (cut : Int)) none = W2 at lc2 ein n4 ⊢
          have e4 := extH_put (o := .lst W2) n4
          refine ⟨a3, a4, _, _, rfl, rfl, e4 _ _ upd_same, upd_same, zz _ (by rw [List.length_append]; show _ + 1 + _ ≤ 1000; omega), fun a5 n5 => ?_⟩
          have e5 := extH_put (o := .lst (W1 ++ [V.int odd] ++ W2)) n5
          have ee := (((e1.trans e2).trans e3).trans e4).trans e5
          obtain ⟨Z, hF⟩ := fol_cut (P := P) (B := B) (X := X) (Q := Q') (Y := Y) hFC c1 c2 hl0 ho
          have hlen : (L.take cut ++ odd :: L.drop cut).length = L.length + 1 := by
            rw [List.length_append, List.length_cons, List.length_take, List.length_drop]; omega
          have fin : ∀ (H' : Hp) (t : Addr) (xs : List V), ExtH G2 H' → SqT K H' t xs → xs = dueT o cut → (rEqD K) (.ref t) (.ref td) H' Q := by
            intro H' t xs eH ht hx
            subst hx
            obtain ⟨s1, s2⟩ := dueT_shp o cut
            refine ⟨_, _, .tup ht (dueT_dp o cut), .tup (sqT_extH eH htd) (dueT_dp o cut), s1, s1, ?_⟩
            rw [s2]
            exact qq _ (fr.trans (fr_ext eH)) (pen_ext pn eH)
          refine ⟨_, rfl, q, a5, pl, z, scR P B X Q' Y, L.take cut ++ odd :: L.drop cut, picks, Z, _, cut, V', _, rfl, hq.ext ee, short_sc, SqL.of (by rw [upd_same, ein]), SqL.of (ee _ _ hpl), by omega, hF, vls_of hV c2, fun hm H' t eH ht => ?_, fun h1 _ H' t eH ht => ?_, fun _ h2 => ?_⟩
          · refine ⟨_, rfl, fin _ _ _ (ee.trans eH) ht ?_⟩
            cases o with
            | none => exact absurd hm (by show ¬ min L.length cut < cut; omega)
            | some j =>
              have hm : min j cut < cut := hm
              unfold dueT
              dsimp only
              rw [if_neg (by omega)]
              show [V.str "pick", V.int ((min j cut : Nat) : Int)] = _
              rw [show min j cut = j by omega]
          · refine ⟨_, rfl, fin _ _ _ (ee.trans eH) ht ?_⟩
            cases o with
            | none => rfl
            | some j =>
              have h1 : min j cut = cut := h1
              unfold dueT
              dsimp only
              rw [if_pos (by omega)]
          · exfalso; omega
        · intro rr hrr
          cases o with
          | none => 
            refine ⟨_, rfl, rfl, _, rfl, ifT rfl ?_⟩
            refine ⟨_, rfl, z2, fun td ntd => ?_⟩
            exact hrr _ _ ⟨td, rfl, SqT.of upd_same, extH_put ntd⟩
          | some j =>
            refine ⟨_, rfl, rfl, _, rfl, ifF rfl ⟨_, rfl, _, rfl, _, _, rfl, rfl, _, rfl, ?_⟩⟩
            by_cases hc : (cut : Int) ≤ (j : Int)
            · refine ifT (decide_eq_true hc) ⟨_, rfl, z2, fun td ntd => ?_⟩
              refine hrr _ _ ⟨td, rfl, ?_, extH_put ntd⟩
              unfold dueT
              dsimp only
              rw [if_pos hc]
              exact SqT.of upd_same
            · refine ifF (decide_eq_false hc) ⟨_, rfl, z2, fun td ntd => ?_⟩
              refine hrr _ _ ⟨td, rfl, ?_, extH_put ntd⟩
              unfold dueT
              dsimp only
              rw [if_neg hc]
              exact SqT.of upd_same
      · intro rr hrr
        refine ⟨_, rfl, rfl, _, rfl, ?_⟩
        rw [dec_int]
        by_cases h18 : odd = 18
        · subst h18
          refine ifT (decide_eq_true rfl) ⟨_, rfl, _, rfl, _, _, rfl, rfl, tl, _, (cut : Int) - 1, .int l0, rfl, rfl, SqL.of htl, ?_, z2, fun al nal => ⟨al, _, rfl, .inl (SqL.of upd_same), rfl, rfl, _, rfl, ?_⟩⟩
          · rw [show (cut : Int) - 1 = ((cut - 1 : Nat) : Int) by omega]
            exact at_intL hl0
          · have ea := extH_put (o := .lst [V.int 17, V.int 20]) nal
            by_cases hin : l0 ∈ [(17 : Int), 20]
            · refine ifT ?_ (hrr _ _ ⟨4, rfl, .inl (by decide), ea⟩)
              rw [in_1720, decide_eq_true hin]
            · refine ifF ?_ (hrr _ _ ⟨18, rfl, .inr ⟨rfl, hin⟩, ea⟩)
              rw [in_1720, decide_eq_false hin]
        · refine ifF (decide_eq_false h18) (hrr _ _ ⟨odd, rfl, .inl ?_, .refl⟩)
          simp only [List.mem_cons, List.not_mem_nil, or_false] at ho ⊢
          omega
    · intro rr hrr
      refine ⟨_, rfl, _, rfl, tl, _, rfl, .inl (SqL.of htl), p, c, n, _, rfl, hp, by omega, by rw [List.length_map]; omega, by rw [List.length_map]; omega, fun G1 d fr1 pn1 d0 d1 => ⟨_, _, rfl, rfl, ?_⟩⟩
      rw [List.length_map] at d1
      refine ⟨_, rfl, zz _ (by decide), fun al nal => ?_⟩
      have e1 := extH_put (o := .lst [V.int 4, .int 18, .int 22, .int 0, .int 3]) nal
      refine ⟨p, c, al, n + 1, _, rfl, pen_ext pn1 e1, by omega, upd_same, by decide, by decide, fun G2 j v fr2 pn2 hv => ?_⟩
      have : ∃ odd : Int, v = .int odd ∧ odd ∈ [(4 : Int), 18, 22, 0, 3] := by
        have := List.mem_of_getElem? hv
        simp only [List.mem_cons, List.not_mem_nil, or_false] at this
        rcases this with rfl | rfl | rfl | rfl | rfl <;> exact ⟨_, rfl, by decide⟩
      obtain ⟨odd, rfl, ho⟩ := this
      exact ⟨_, _, rfl, hrr _ _ ⟨(1 + d).toNat, odd, by rw [show (((1 + d).toNat : Nat) : Int) = 1 + d by omega] <;> rfl, by omega, by omega, ho, (fr1.trans (fr_ext e1)).trans fr2, pn2⟩⟩
end
end R9H
set_option Elab.async false
set_option linter.all false
set_option maxRecDepth 100000
set_option maxHeartbeats 4000000
/-! k19, part SH: what the law asks, in plain Lean -/
namespace R9H
open PySem PySem.Spec PyProof.Rows L2
/-- the places of a line -/
def idxF (x : Int) : Nat → List Int → List Nat
  | _, [] => []
  | i, l :: ls => (if l = x then [i] else []) ++ idxF x (i + 1) ls
theorem idxF_app {x : Int} : ∀ {a b : List Int} {i : Nat}, idxF x i (a ++ b) = idxF x i a ++ idxF x (i + a.length) b
  | [], _, _ => rfl
  | l :: a, b, i => by
    rw [List.cons_append, idxF, idxF, idxF_app, List.append_assoc, List.length_cons, show i + 1 + a.length = i + (a.length + 1) by omega]
theorem idxF_none {x : Int} : ∀ {a : List Int} {i : Nat}, (∀ l ∈ a, l ≠ x) → idxF x i a = []
  | [], _, _ => rfl
  | l :: a, i, h => by
    rw [idxF, if_neg (h l List.mem_cons_self), idxF_none fun m hm => h m (List.mem_cons_of_mem _ hm)]
    rfl
theorem idxF_take {x : Int} {L : List Int} {k : Nat} {l : Int} (h : L[k]? = some l) : idxF x 0 (L.take (k + 1)) = idxF x 0 (L.take k) ++ (if l = x then [k] else []) := by
  have hk : k < L.length := by
    by_cases z : k < L.length
    · exact z
    · rw [List.getElem?_eq_none (by omega)] at h; cases h
  rw [take_succ' h, idxF_app, List.length_take, Nat.min_eq_left (by omega), Nat.zero_add]
  unfold idxF
  rw [idxF, List.append_nil]
theorem idxF_len {x : Int} : ∀ {a : List Int} {i : Nat}, (idxF x i a).length ≤ a.length
  | [], _ => Nat.le_refl _
  | l :: a, i => by
    have := idxF_len (x := x) (a := a) (i := i + 1)
    rw [idxF, List.length_append, List.length_cons]
    split <;> simp <;> omega
theorem idxF_lt {x : Int} : ∀ {a : List Int} {i j : Nat}, j ∈ idxF x i a → i ≤ j ∧ j < i + a.length ∧ a[j - i]? = some x
  | [], _, _, h => by cases h
  | l :: a, i, j, h => by
    rw [idxF] at h
    rcases List.mem_append.mp h with h | h
    · split at h
      · rename_i e
        rw [List.mem_singleton.mp h, List.length_cons, Nat.sub_self]
        exact ⟨Nat.le_refl _, by omega, by rw [← e] <;> rfl⟩
      · cases h
    · obtain ⟨h1, h2, h3⟩ := idxF_lt h
      refine ⟨by omega, by rw [List.length_cons]; omega, ?_⟩
      rw [show j - i = (j - (i + 1)) + 1 by omega, List.getElem?_cons_succ]
      exact h3
/-! ### the bag's items -/
def plF : Nat → List Bool → List Nat
  | _, [] => []
  | i, _ :: bs => (i + 3) :: plF (i + 5) bs
theorem idx15_items : ∀ (bs : List Bool) (i : Nat), idxF 15 i (itemsL bs) = plF i bs
  | [], _ => rfl
  | b :: bs, i => by
    show idxF 15 i (itemL b ++ itemsL bs) = _
    rw [idxF_app, itemL_len, idx15_items bs, plF]
    cases b <;> rfl
theorem no_reps {x : Int} (h1 : x ≠ 18) (h2 : x ≠ 19) (h3 : x ≠ 20) (n : Nat) : ∀ l ∈ reps n [18, 19, 20], l ≠ x := fun l hl => by
  obtain ⟨q, hq, hl⟩ := List.mem_flatten.mp hl
  rw [(List.mem_replicate.mp hq).2] at hl
  simp only [List.mem_cons, List.not_mem_nil, or_false] at hl
  rcases hl with rfl | rfl | rfl
  · exact Ne.symm h1
  · exact Ne.symm h2
  · exact Ne.symm h3
theorem idx15 (b : Bool) (bs : List Bool) (many : Nat) : idxF 15 0 (told b bs many) = plF (preL b).length bs := by
  unfold told
  rw [idxF_app, idxF_app, idxF_app, idx15_items, idxF_none (a := preL b), idxF_none (a := reps many [18, 19, 20]) (no_reps (by decide) (by decide) (by decide) _), idxF_none (a := [17]), Nat.zero_add, List.nil_append, List.append_nil, List.append_nil]
  · intro l hl
    rw [List.mem_singleton.mp hl]; decide
  · cases b <;> decide
def heldV (L : List Int) (k : Nat) : V := if L[k - 2]? = some 11 then .int ((k : Int) - 2) else .non
theorem held_items : ∀ (bs : List Bool) (A R : List Int), (plF A.length bs).map (heldV (A ++ (itemsL bs ++ R))) = partsL A.length bs
  | [], _, _ => rfl
  | b :: bs, A, R => by
    have ih := held_items bs (A ++ itemL b) R
    rw [List.length_append, itemL_len] at ih
    have e : A ++ (itemsL (b :: bs) ++ R) = A ++ itemL b ++ (itemsL bs ++ R) := by
      show A ++ ((itemL b ++ itemsL bs) ++ R) = _
      simp only [List.append_assoc]
    rw [plF, List.map_cons, partsL, e, ih]
    congr 1
    unfold heldV parts1
    rw [show A.length + 3 - 2 = A.length + 1 by omega, List.append_assoc, List.getElem?_append_right (by omega), show A.length + 1 - A.length = 1 by omega]
    cases b with
    | true =>
      rw [if_pos (by rfl), if_pos rfl]
      congr 1
      omega
    | false =>
      rw [if_neg (by
        show ¬ some (13 : Int) = some 11
        decide), if_neg (by decide)]
theorem held_told (b : Bool) (bs : List Bool) (many : Nat) : (idxF 15 0 (told b bs many)).map (heldV (told b bs many)) = partsL (preL b).length bs := by
  rw [idx15]
  have := held_items bs (preL b) ([17] ++ reps many [18, 19, 20])
  unfold told
  rw [List.append_assoc, List.append_assoc]
  exact this
theorem parts_rec : ∀ (i : Nat) (bs : List Bool), ∀ v ∈ partsL i bs, isRec v = true
  | _, [], v, h => by cases h
  | i, b :: bs, v, h => by
    rw [partsL] at h
    rcases List.mem_cons.mp h with rfl | h
    · cases b <;> rfl
    · exact parts_rec _ _ v h
/-! ### the uses -/
def usF : Nat → Nat → List Nat
  | _, 0 => []
  | i, n + 1 => (i + 1) :: usF (i + 3) n
theorem usF_len : ∀ (n i : Nat), (usF i n).length = n
  | 0, _ => rfl
  | n + 1, i => by rw [usF, List.length_cons, usF_len]
theorem idx19_reps : ∀ (n i : Nat), idxF 19 i (reps n [18, 19, 20]) = usF i n
  | 0, _ => rfl
  | n + 1, i => by
    rw [reps_cons, idxF_app, idx19_reps n, usF]
    rfl
theorem no19_pre (b : Bool) : ∀ l ∈ preL b, l ≠ 19 := by cases b <;> decide
theorem no19_item (b : Bool) : ∀ l ∈ itemL b, l ≠ 19 := by cases b <;> decide
theorem idx19 (b : Bool) (bs : List Bool) (many : Nat) : idxF 19 0 (told b bs many) = usF ((preL b).length + 5 * bs.length + 1) many := by
  unfold told
  rw [idxF_app, idxF_none (a := preL b ++ itemsL bs ++ [17]), List.nil_append, idx19_reps]
  · congr 1
    rw [List.length_append, List.length_append, itemsL_len]
    show 0 + (_ + 1) = _
    omega
  · intro l hl
    rcases List.mem_append.mp hl with hl | hl
    · rcases List.mem_append.mp hl with hl | hl
      · exact no19_pre b l hl
      · obtain ⟨x, hx, hl⟩ := List.mem_flatten.mp hl
        obtain ⟨b, _, rfl⟩ := List.mem_map.mp hx
        exact no19_item b l hl
    · rw [List.mem_singleton.mp hl]; decide
theorem seen_us {q : V} : ∀ (ys sn : List V) (k : Nat) (y : V), ys[k]? = some y → ∃ j, (usF sn.length ys.length)[k]? = some j ∧ (sn ++ (ys.map fun y => [q, y, V.non]).flatten)[j]? = some y
  | [], sn, k, y, h => by simp at h
  | y0 :: ys, sn, 0, y, h => by
    have e : y0 = y := by simpa using h
    subst e
    refine ⟨sn.length + 1, rfl, ?_⟩
    rw [List.getElem?_append_right (by omega), show sn.length + 1 - sn.length = 1 by omega]
    rfl
  | y0 :: ys, sn, k + 1, y, h => by
    obtain ⟨j, h1, h2⟩ := seen_us ys (sn ++ [q, y0, V.non]) k y (by simpa using h)
    refine ⟨j, ?_, ?_⟩
    · rw [List.length_append] at h1
      exact h1
    · rw [List.map_cons, List.flatten_cons, ← List.append_assoc]
      exact h2
def fH (L : List Int) : V → V
  | .int k => heldV L k.toNat
  | v => v
def fR (seen : List V) : V → V
  | .int k => (seen[k.toNat]?).getD .non
  | v => v
def fP (parts : List V) : V → V
  | .int k => parts.getD k.toNat .non
  | v => v
theorem shapedRecL (vs : List V) : SeqAt.shaped (.list (vs.map recD)) = true := by
  unfold SeqAt.shaped
  rw [PyData.canLay0, canLayRec, PyData.depth, depthRec] <;> rfl
theorem rep_one : ∀ k : Nat, (List.replicate k [V.non]).flatten = List.replicate k V.non
  | 0 => rfl
  | k + 1 => by rw [List.replicate_succ, List.flatten_cons, rep_one k, List.replicate_succ] <;> rfl
theorem at_two {b : Bool} {bs : List Bool} {many k : Nat} (h : k ∈ idxF 15 0 (told b bs many)) : ∃ l, (told b bs many)[k - 2]? = some l ∧ 2 ≤ k := by
  obtain ⟨h1, h2, h3⟩ := idxF_lt h
  rw [idx15] at h
  have : ∀ (bs : List Bool) (i : Nat), ∀ k ∈ plF i bs, i + 3 ≤ k := by
    intro bs
    induction bs with
    | nil => intro i k h; cases h
    | cons b bs ih =>
      intro i k h
      rw [plF] at h
      rcases List.mem_cons.mp h with rfl | h
      · exact Nat.le_refl _
      · have := ih _ _ h; omega
  have := this _ _ _ h
  exact ⟨_, List.getElem?_eq_getElem (by omega), by omega⟩
theorem reads_ys {qv : V} {b : Bool} {bs : List Bool} {many : Nat} {ys sn : List V} (ly : ys.length = many) (lsn : sn.length = (preL b).length + 5 * bs.length + 1) :
    (idxF 19 0 (told b bs many)).map (fun k => ((sn ++ (ys.map fun y => [qv, y, V.non]).flatten)[k]?).getD .non) = ys ∧ (idxF 19 0 (told b bs many)).length = many ∧ ∀ k ∈ idxF 19 0 (told b bs many), ∃ u, (sn ++ (ys.map fun y => [qv, y, V.non]).flatten)[k]? = some u := by
  rw [idx19, ← lsn, ← ly]
  refine ⟨?_, usF_len _ _, fun k hk => ?_⟩
  · refine List.ext_getElem? fun k => ?_
    rw [List.getElem?_map]
    cases h : ys[k]? with
    | none =>
      have hk : ys.length ≤ k := List.getElem?_eq_none_iff.mp h
      rw [List.getElem?_eq_none (by rw [usF_len]; exact hk)]
      rfl
    | some y =>
      obtain ⟨j, h1, h2⟩ := seen_us (q := qv) ys sn k y h
      rw [h1, Option.map_some, h2] <;> rfl
  · obtain ⟨i, hi⟩ := List.getElem?_of_mem hk
    have hil : i < ys.length := by
      by_cases z : i < (usF sn.length ys.length).length
      · rw [usF_len] at z; exact z
      · rw [List.getElem?_eq_none (by omega)] at hi; cases hi
    obtain ⟨j, h1, h2⟩ := seen_us (q := qv) ys sn i ys[i] (List.getElem?_eq_getElem hil)
    rw [hi] at h1
    cases h1
    exact ⟨_, h2⟩
theorem ys_rec {b : Bool} {bs : List Bool} {many : Nat} {ps : List Int} {ys : List V} (h0 : bs = [] → ps = [] ∧ ys = List.replicate many .non) (h1 : bs ≠ [] → ps.length = many ∧ ys = ps.map (fun p => (partsL (preL b).length bs).getD p.toNat .non)) : ∀ v ∈ ys, isRec v = true := fun v hv => by
  by_cases hb : bs = []
  · rw [(h0 hb).2] at hv
    rw [(List.mem_replicate.mp hv).2] <;> rfl
  · rw [(h1 hb).2] at hv
    obtain ⟨p, _, rfl⟩ := List.mem_map.mp hv
    rw [List.getD_eq_getElem?_getD]
    cases h : (partsL (preL b).length bs)[p.toNat]? with
    | none => rfl
    | some u => exact parts_rec _ _ u (List.mem_of_getElem? h)
theorem ys_due {b : Bool} {bs : List Bool} {many : Nat} {ps : List Int} {ys : List V} (ly : ys.length = many) (h0 : bs = [] → ps = [] ∧ ys = List.replicate many .non) (h1 : bs ≠ [] → ps.length = many ∧ ys = ps.map (fun p => (partsL (preL b).length bs).getD p.toNat .non)) : ps.length ≤ many ∧ ps.map (fun p => (partsL (preL b).length bs).getD p.toNat .non) ++ List.replicate (many - ps.length) .non = ys := by
  by_cases hb : bs = []
  · obtain ⟨e1, e2⟩ := h0 hb
    rw [e1, e2]
    exact ⟨Nat.zero_le _, rfl⟩
  · obtain ⟨e1, e2⟩ := h1 hb
    rw [e1, Nat.sub_self, ← e2]
    exact ⟨Nat.le_refl _, List.append_nil _⟩
end R9H
set_option Elab.async false
set_option linter.all false
set_option maxRecDepth 100000
set_option maxHeartbeats 4000000
/-! k19, part SG: law -/
namespace R9H
open PySem PySem.Spec PyProof.Rows L2
def spLaw (K : PySem.W.Frag) : Sp := fun vs H Q _ => ∃ (a : Addr) (ns : List Int), vs = [.ref a] ∧ SqL K H a (ns.map V.int) ∧ ns.length ≤ 63 ∧ ∀ H', Q (.bl true) H'
theorem nm_of {P B X Q Y : Str} (g1 : GW [P, B] 2) (g2 : GW [X, Q, Y] 3) : Nm P B X Q Y := by
  have n1 := g1.2.1
  have n2 := g2.2.1
  simp only [List.nodup_cons, List.mem_cons, List.not_mem_nil, or_false, not_or, not_false_eq_true, List.nodup_nil, and_true] at n1 n2
  exact ⟨(g1.2.2 P (by simp)).1, (g1.2.2 B (by simp)).1, (g2.2.2 X (by simp)).1, (g2.2.2 Q (by simp)).1, (g2.2.2 Y (by simp)).1, n1, n2.1.1, n2.1.2, n2.2⟩
theorem text_scene {P B X Q Y : Str} (N : Nm P B X Q Y) : TextIs (Txt.join "\n" (sceneStr P B X Q Y)) (sceneRows P B X Q Y) := by
  rw [scene_eq]
  exact text_ofR (Nat.le_of_ble_eq_true rfl) (fun z => by cases z) fun ws h => ⟨(okw N ws h).1, (okw N ws h).2.2.1, (okw N ws h).2.2.2⟩
theorem sum_le {b : Nat} : ∀ {l : List Nat}, (∀ x ∈ l, x ≤ b) → l.sum ≤ b * l.length
  | [], _ => Nat.zero_le _
  | x :: l, h => by
    have := sum_le (l := l) fun y hy => h y (List.mem_cons_of_mem _ hy)
    have := h x List.mem_cons_self
    rw [List.sum_cons, List.length_cons, Nat.mul_succ]
    omega
theorem scene_sum {P B X Q Y : Str} (N : Nm P B X Q Y) : ((sceneStr P B X Q Y).map (·.length)).sum ≤ 1050 := by
  refine Nat.le_trans (sum_le (b := 50) fun x hx => ?_) (by rw [List.length_map]; show 50 * 21 ≤ 1050; decide)
  obtain ⟨s, hs, rfl⟩ := List.mem_map.mp hx
  rw [scene_eq] at hs
  obtain ⟨ws, hws, rfl⟩ := List.mem_map.mp hs
  have hP := N.gP.2.1
  have hB := N.gB.2.1
  have hX := N.gX.2.1
  have hY := N.gY.2.1
  have hQ := N.gQ.2.1
  have key : ∀ ws ∈ sceneRows P B X Q Y, (ws.map (·.length)).sum + ws.length ≤ 51 := by
    have a1 : ("func" : Str).length = 4 := by decide +kernel
    have a2 : ("end" : Str).length = 3 := by decide +kernel
    have a3 : ("loop" : Str).length = 4 := by decide +kernel
    have a4 : ("either" : Str).length = 6 := by decide +kernel
    have a5 : ("or" : Str).length = 2 := by decide +kernel
    have a6 : ("shape" : Str).length = 5 := by decide +kernel
    have a7 : ("bag" : Str).length = 3 := by decide +kernel
    have a8 : ("none" : Str).length = 4 := by decide +kernel
    have a9 : ("main" : Str).length = 4 := by decide +kernel
    have b1 : ("new" : Str).length = 3 := by decide +kernel
    have b2 : ("with" : Str).length = 4 := by decide +kernel
    have b3 : ("use" : Str).length = 3 := by decide +kernel
    have b4 : ("some" : Str).length = 4 := by decide +kernel
    clear hs hx hws
    unfold sceneRows
    simp only [List.forall_mem_cons, List.map_cons, List.map_nil, List.sum_cons, List.sum_nil, List.length_cons, List.length_nil, a1, a2, a3, a4, a5, a6, a7, a8, a9, b1, b2, b3, b4]
    refine ⟨?_, ?_, ?_, ?_, ?_, ?_, ?_, ?_, ?_, ?_, ?_, ?_, ?_, ?_, ?_, ?_, ?_, ?_, ?_, ?_, ?_, fun _ h => by cases h⟩ <;> omega
  have := key ws hws
  show (Txt.join " " ws).length ≤ 50
  rw [str_len, tlj, sp_cps]
  have l2 : ∀ ps : List (List Nat), (TL.joinL [32] ps).length ≤ (ps.map (·.length)).sum + (ps.length - 1) := by
    intro ps
    induction ps with
    | nil => exact Nat.zero_le _
    | cons q r ih =>
      cases r with
      | nil => show q.length ≤ q.length + 0 + 0; omega
      | cons q' r' =>
        show (q ++ ([32] ++ TL.joinL [32] (q' :: r'))).length ≤ _
        rw [List.length_append, List.length_append, List.map_cons, List.sum_cons, List.length_cons, List.length_cons (a := q)]
        simp only [List.length_cons, List.length_nil] at ih ⊢
        omega
  refine Nat.le_trans (l2 _) ?_
  rw [List.length_map, List.map_map]
  have e : (ws.map ((fun x => x.length) ∘ fun w => w.cps.toList)) = ws.map (·.length) := List.map_congr_left fun w _ => (str_len w).symm
  rw [e]
  have : ws ≠ [] := (okw N ws hws).2.2.1
  have : 0 < ws.length := List.length_pos_iff.mpr this
  omega
theorem sceneStr_len (P B X Q Y : Str) : (sceneStr P B X Q Y).length = 21 := rfl
/-- what stays in a turn -/
structure Kp9 (K : PySem.W.Frag) (P B X Q Y : Str) (x : Addr) (z : Str) (p c : Addr) (m : Nat) (D t pl : Addr) (ds L picks : List Int) (G : Hp) : Prop where
  pg : PgAt K x z (scR P B X Q Y) G
  pen : PenAt G p c m
  hD : G D = some (.lst (ds.map V.int))
  ht : G t = some (.lst (L.map V.int))
  hpl : G pl = some (.lst (picks.map V.int))
theorem Kp9.ext {K : PySem.W.Frag} {P B X Q Y : Str} {x p c D t pl : Addr} {z : Str} {m : Nat} {ds L picks : List Int} {G G' : Hp} (h : Kp9 K P B X Q Y x z p c m D t pl ds L picks G) (e : ExtH G G') : Kp9 K P B X Q Y x z p c m D t pl ds L picks G' :=
  ⟨h.pg.ext e, pen_ext h.pen e, e _ _ h.hD, e _ _ h.ht, e _ _ h.hpl⟩
theorem pen_lst {G : Hp} {p c a : Addr} {m : Nat} {xs : List V} (hp : PenAt G p c m) (h : G a = some (.lst xs)) : a ≠ p := fun z => by
  obtain ⟨cells, a', l', h2, _⟩ := hp
  rw [← z, h] at h2
  cases h2
theorem eqvSelf {d : PyData} (h : SeqAt.shaped d = true) : PyData.eqv d d = true := by
  unfold SeqAt.shaped at h
  rw [Bool.and_eq_true] at h
  exact SeqAt.eqv_refl _ h.1
section
variable {w : World} {K : PySem.W.Frag} {mg : Str → Option Value} {base : Heap}
theorem ok__law_pen (T : T6 K mg) : Has w K mg base 1 "_law_pen" ["_law_script"] (spPen K) := ok_pen T
theorem ok__law_scene (T : T6 K mg) : Has w K mg base 4 "_law_scene" ["_law_pen_here"] (sp_law_scene K) := ok_law_scene T
theorem ok__law_course (T : T6 K mg) : Has w K mg base 3 "_law_course" ["_law_pen_here", "_law_items", "_law_many"] (sp_law_course K) := ok_law_course T
theorem ok__law_due (T : T6 K mg) : Has w K mg base 3 "_law_due" ["_law_told", "_law_size", "_law_picks"] (sp_law_due K) := ok_law_due T
theorem ok__law_is_stopped (T : T6 K mg) : Has w K mg base 10 "_law_is_stopped" ["_law_pen_here", "_law_program", "_law_told", "_law_picks", "_law_bad"] (sp_law_is_stopped K) := ok_law_is_stopped T
theorem ok_Program (T : T6 K mg) : HasI w K mg base 7 "Program" ["self", "text"] (spProg K) := ok_prog T
abbrev st_law : Stmt := top 94
theorem sc_law : FnScope ["_law_script", "_law_pen_here", "_law_turn", "_law_program", "_law_items", "_law_k", "_law_told", "_law_picks", "_law_taken", "_law_bad", "_law_kind", "_law_made_here", "_law_places", "_law_held", "_law_uses", "_law_pick_here"] ["_law_script"] (defScope st_law) := ⟨rfl, rfl, rfl, by decide +kernel, rfl, by decide +kernel, by decide +kernel⟩
theorem ok_law (T : T6 K mg) {fd : FuncData} (F : FnP K "law" st_law fd) : FnOk P6 w K mg base CX0 12 (ga K "law") fd ["_law_script"] (spLaw K) := by
  have gf_max := T.free "max" (by decide +kernel)
  have H__law_pen := ok__law_pen (w := w) (base := base) T
  have H__law_scene := ok__law_scene (w := w) (base := base) T
  have H__law_draw := ok__law_draw (w := w) (base := base) T
  have H__law_course := ok__law_course (w := w) (base := base) T
  have H__law_due := ok__law_due (w := w) (base := base) T
  have H__law_is_stopped := ok__law_is_stopped (w := w) (base := base) T
  have H__law_made := ok__law_made (w := w) (base := base) T
  obtain ⟨fd_Program, F_Program, b_Program⟩ := ok_Program (w := w) (base := base) T
  have g_Program := T.glo "Program" (by decide +kernel)
  have M_Program := T.mkr "Program" (by decide +kernel)
  have hC_Run := T.cls "Run" (by decide +kernel)
  have hM_Run_read := T.meth "Run" "read" (by decide +kernel)
  obtain ⟨fd_Run_read, F_Run_read, b_Run_read⟩ := ok_Run_read (w := w) (base := base) T
  have gf_range := T.free "range" (by decide +kernel)
  have gf_min := T.free "min" (by decide +kernel)
  have gf_len := T.free "len" (by decide +kernel)
  have gf_tuple := T.free "tuple" (by decide +kernel)
  refine F.ok sc_law (fun vs H Q E h => ?_) (fun cdv A outer s H vs Q E hr h => ⟨_, PSs.nox (
    (pss_cons (ps_set (i := 1) sc_law.nd rfl (Or.inr rfl) (pe_has H__law_pen rfl (hr.mono (by decide)) rfl (pa_cons (pv 0) pa_nil)))
    (pss_cons (ps_for PassesOwn.never rfl (pi_range1 rfl gf_range (pa_cons (pe_op op_add pe_int (pe_callB (call_min2 rfl) rfl gf_min (by decide +kernel) (pa_cons pe_int (pa_cons (pe_callB call_len_seq rfl gf_len PySem.boot_len (pa_cons (pv 0) pa_nil)) pa_nil)))) pa_nil)) (pg_name (i := 2) sc_law.nd rfl (Or.inl rfl))
      (pss_cons (ps_set (i := 3) sc_law.nd rfl (Or.inl rfl) (pe_make M_Program F_Program (hr.mono (by decide)) rfl g_Program b_Program .nil pass0 (pa_cons (pe_join pe_str (pe_has H__law_scene rfl (hr.mono (by decide)) rfl (pa_cons (pv 1) pa_nil))) pa_nil)))
      (pss_cons (ps_setLc (i := 4) (own := [("_law_k", 5)]) (g := gName 5) rfl sc_law.nd rfl rfl (sw_true rfl rfl rfl (by decide +kernel)) (pi_range1 rfl gf_range (pa_cons (pe_has H__law_draw rfl (hr.mono (by decide)) rfl (pa_cons (pv 1) (pa_cons pe_int pa_nil))) pa_nil)) (blkOk_by (own := [("_law_k", 5)]) (N := ["_law_script", "_law_pen_here", "_law_turn", "_law_program", "_law_items", "_law_k", "_law_told", "_law_picks", "_law_taken", "_law_bad", "_law_kind", "_law_made_here", "_law_places", "_law_held", "_law_uses", "_law_pick_here"]) (sc := defScope st_law) (by decide +kernel))
        (fun _ _ _ _ _ => (pg_name (i := 5) sc_law.nd rfl (Or.inl rfl))) (fun _ _ _ _ _ => pts_nil) (fun _ _ _ _ _ => (pe_has H__law_draw rfl (hr.mono (by decide)) rfl (pa_cons (pv 1) (pa_cons pe_int pa_nil)))))
      (pss_cons (ps_set (i := 6) sc_law.nd rfl (Or.inr rfl) (pe_has H__law_course rfl (hr.mono (by decide)) rfl (pa_cons (pv 1) (pa_cons (pv 4) (pa_cons (pe_has H__law_draw rfl (hr.mono (by decide)) rfl (pa_cons (pv 1) (pa_cons pe_int pa_nil))) pa_nil)))))
      (pss_cons (ps_set (i := 7) sc_law.nd rfl (Or.inl rfl) (pe_lst pa_nil))
      (pss_cons (ps_for PassesOwn.never rfl (pi_range1 rfl gf_range (pa_cons (pe_has H__law_draw rfl (hr.mono (by decide)) rfl (pa_cons (pv 1) (pa_cons pe_int pa_nil))) pa_nil)) (pg_name (i := 5) sc_law.nd rfl (Or.inl rfl))
        (pss_one (ps_expr (pe_bm PySem.F.plainAttrs_list PySem.F.slot_list_append PySem.F.type_list_append mt_append (pv 7) (pa_cons (pe_op op_add (pe_has H__law_draw rfl (hr.mono (by decide)) rfl (pa_cons (pv 1) (pa_cons (pe_callB (call_max2 rfl) rfl gf_max (by decide +kernel) (pa_cons pe_int (pa_cons (pe_callB call_len_seq rfl gf_len PySem.boot_len (pa_cons (pv 4) pa_nil)) pa_nil))) pa_nil))) (pe_ix ix_list (pe_lst (pa_cons pe_int (pa_cons pe_int (pa_cons pe_int (pa_cons pe_int (pa_cons pe_int (pa_cons pe_int (pa_cons (pe_un un_neg pe_int) pa_nil)))))))) (pe_has H__law_draw rfl (hr.mono (by decide)) rfl (pa_cons (pv 1) (pa_cons pe_int pa_nil))) (fun _ _ => rfl))) pa_nil)))))
      (pss_cons (ps_asg (pe_has H__law_due rfl (hr.mono (by decide)) rfl (pa_cons (pv 6) (pa_cons (pe_callB call_len_seq rfl gf_len PySem.boot_len (pa_cons (pv 4) pa_nil)) (pa_cons (pv 7) pa_nil)))) (pg_tup rfl (pgs_cons (pg_name (i := 8) sc_law.nd rfl (Or.inl rfl)) (pgs_cons (pg_name (i := 9) sc_law.nd rfl (Or.inl rfl)) pgs_nil))) (by rfl))
      (pss_cons (ps_if (pt_not (pt_val (pe_has H__law_is_stopped rfl (hr.mono (by decide)) rfl (pa_cons (pv 1) (pa_cons (pv 3) (pa_cons (pv 6) (pa_cons (pv 7) (pa_cons (pv 9) pa_nil)))))))) pss_no
        pss_nil)
      (pss_cons (ps_asg (pe_has H__law_made rfl (hr.mono (by decide)) rfl (pa_cons (pv 3) (pa_cons (pv 6) (pa_cons (pv 7) pa_nil)))) (pg_tup rfl (pgs_cons (pg_name (i := 10) sc_law.nd rfl (Or.inl rfl)) (pgs_cons (pg_name (i := 11) sc_law.nd rfl (Or.inr rfl)) pgs_nil))) (by rfl))
      (pss_cons (ps_if (pt_cmpR op_notN (pv 9) pe_non rfl)
        (pss_cons (ps_if (pt_cmpR (op_neD hr.units) (pe_tup (pa_cons (pv 10) (pa_cons (pv 11) pa_nil))) (pe_tup (pa_cons pe_str (pa_cons (pv 9) pa_nil))) (nomark _)) pss_no
          pss_nil)
        (pss_one ps_continue))
        pss_nil)
      (pss_cons (ps_if (PW.pt (pw_or (pt_cmpR op_ne (pv 10) pe_str (nomark _)) (pw_or1 (pt_cmpR (op_neD hr.units) (pe_fld (pv 11) rfl) (pe_callTy call_tuple_of rfl gf_tuple PyProof.Rows.boot_tuple (pa_cons (pv 8) pa_nil)) (nomark _))))) pss_no
        pss_nil)
      (pss_cons (ps_setLc (i := 12) (own := [("_law_k", 5)]) (g := gName 5) rfl sc_law.nd rfl rfl (sw_true rfl rfl rfl (by decide +kernel)) (pi_range1 rfl gf_range (pa_cons (pe_callB call_len_seq rfl gf_len PySem.boot_len (pa_cons (pv 6) pa_nil)) pa_nil)) (blkOk_by (own := [("_law_k", 5)]) (N := ["_law_script", "_law_pen_here", "_law_turn", "_law_program", "_law_items", "_law_k", "_law_told", "_law_picks", "_law_taken", "_law_bad", "_law_kind", "_law_made_here", "_law_places", "_law_held", "_law_uses", "_law_pick_here"]) (sc := defScope st_law) (by decide +kernel))
        (fun _ _ _ _ _ => (pg_name (i := 5) sc_law.nd rfl (Or.inl rfl))) (fun _ _ _ _ _ => (pts_one (pt_cmpR op_eq (pe_ix (ix_listB (K := K)) (pv 6) (pv 5) (fun _ _ => rfl)) pe_int (nomark _)))) (fun _ _ _ _ _ => (pv 5)))
      (pss_cons (ps_set (i := 13) sc_law.nd rfl (Or.inr rfl) (pe_lc (own := [("_law_k", 5)]) (g := gName 5) (by rfl) sc_law.nd (pi_list (pv 12)) (blkOk_by (own := [("_law_k", 5)]) (N := ["_law_script", "_law_pen_here", "_law_turn", "_law_program", "_law_items", "_law_k", "_law_told", "_law_picks", "_law_taken", "_law_bad", "_law_kind", "_law_made_here", "_law_places", "_law_held", "_law_uses", "_law_pick_here"]) (sc := defScope st_law) (by decide +kernel))
        (fun _ _ _ _ _ => (pg_name (i := 5) sc_law.nd rfl (Or.inl rfl))) (fun _ _ _ _ _ => pts_nil) (fun _ _ _ _ _ => (pe_ifExp (pt_cmpR op_eq (pe_ix (ix_listB (K := K)) (pv 6) (pe_op op_sub (pv 5) pe_int) (fun _ _ => rfl)) pe_int (nomark _)) (pe_op op_sub (pv 5) pe_int) pe_non))))
      (pss_cons (ps_setLc (i := 14) (own := [("_law_k", 5)]) (g := gName 5) rfl sc_law.nd rfl rfl (sw_true rfl rfl rfl (by decide +kernel)) (pi_range1 rfl gf_range (pa_cons (pe_callB call_len_seq rfl gf_len PySem.boot_len (pa_cons (pv 6) pa_nil)) pa_nil)) (blkOk_by (own := [("_law_k", 5)]) (N := ["_law_script", "_law_pen_here", "_law_turn", "_law_program", "_law_items", "_law_k", "_law_told", "_law_picks", "_law_taken", "_law_bad", "_law_kind", "_law_made_here", "_law_places", "_law_held", "_law_uses", "_law_pick_here"]) (sc := defScope st_law) (by decide +kernel))
        (fun _ _ _ _ _ => (pg_name (i := 5) sc_law.nd rfl (Or.inl rfl))) (fun _ _ _ _ _ => (pts_one (pt_cmpR op_eq (pe_ix (ix_listB (K := K)) (pv 6) (pv 5) (fun _ _ => rfl)) pe_int (nomark _)))) (fun _ _ _ _ _ => (pv 5)))
      (pss_one (ps_if (pt_cmpR (op_neD hr.units) (pe_lc (own := [("_law_k", 5)]) (g := gName 5) (by rfl) sc_law.nd (pi_list (pv 14)) (blkOk_by (own := [("_law_k", 5)]) (N := ["_law_script", "_law_pen_here", "_law_turn", "_law_program", "_law_items", "_law_k", "_law_told", "_law_picks", "_law_taken", "_law_bad", "_law_kind", "_law_made_here", "_law_places", "_law_held", "_law_uses", "_law_pick_here"]) (sc := defScope st_law) (by decide +kernel))
        (fun _ _ _ _ _ => (pg_name (i := 5) sc_law.nd rfl (Or.inl rfl))) (fun _ _ _ _ _ => pts_nil) (fun _ _ _ _ _ => (pe_meth (pv 11) hC_Run hM_Run_read F_Run_read (hr.mono (by decide)) b_Run_read .nil pass0 (pa_cons (pv 5) pa_nil)))) (pe_op op_cat (pe_lc (own := [("_law_pick_here", 15)]) (g := gName 15) (by rfl) sc_law.nd (pi_list (pv 8)) (blkOk_by (own := [("_law_pick_here", 15)]) (N := ["_law_script", "_law_pen_here", "_law_turn", "_law_program", "_law_items", "_law_k", "_law_told", "_law_picks", "_law_taken", "_law_bad", "_law_kind", "_law_made_here", "_law_places", "_law_held", "_law_uses", "_law_pick_here"]) (sc := defScope st_law) (by decide +kernel))
        (fun _ _ _ _ _ => (pg_name (i := 15) sc_law.nd rfl (Or.inl rfl))) (fun _ _ _ _ _ => pts_nil) (fun _ _ _ _ _ => (pe_ix (ix_listB (K := K)) (pv 13) (pv 15) (fun _ _ => rfl)))) (pe_op op_rep (pe_lst (pa_cons pe_non pa_nil)) (pe_op op_sub (pe_callB call_len_seq rfl gf_len PySem.boot_len (pa_cons (pv 14) pa_nil)) (pe_callB call_len_seq rfl gf_len PySem.boot_len (pa_cons (pv 8) pa_nil))))) (nomark _)) pss_no
        pss_nil))))))))))))))))
    (pss_one (ps_ret pe_bl))))), ?_⟩)
  · obtain ⟨a, ns, rfl, _⟩ := h
    rfl
  · obtain ⟨a, ns, rfl, hS, h63, q⟩ := h
    clear F
    refine ⟨_, rfl, a, ns, rfl, hS, fun G1 p c ep np nc pp => ?_⟩
    refine ⟨_, rfl, a, _, rfl, .inl (sqL_extH ep hS), 6, _, rfl, _, _, rfl, rfl, ?_⟩
    have mm : ∀ n : Nat, (0 : Int) ≤ (3 + if ((n : Int) < 6) then (n : Int) else 6) ∧ (3 + if ((n : Int) < 6) then (n : Int) else 6) ≤ 9 := fun n => by
      split <;> omega
    have m1 := mm (ns.map V.int).length
    obtain ⟨N, eN, hN⟩ : ∃ N : Nat, (3 + if (((ns.map V.int).length : Int) < 6) then ((ns.map V.int).length : Int) else 6) = (N : Int) ∧ N ≤ 9 := by
      refine ⟨(3 + if (((ns.map V.int).length : Int) < 6) then ((ns.map V.int).length : Int) else 6).toNat, ?_, ?_⟩ <;> omega
    refine ⟨(N : Int), by rw [← eN], by omega, by omega, for_range (lo := 0) (n := N) (fun i σ H => ∃ v2 v3 v4 v5 v6 v7 v8 v9 v10 v11 v12 v13 v14 v15 : Option V, σ = [some (.ref a), some (.ref p), v2, v3, v4, v5, v6, v7, v8, v9, v10, v11, v12, v13, v14, v15] ∧ PenAt H p c (60 * i)) ⟨_, _, _, _, _, _, _, _, _, _, _, _, _, _, rfl, pp⟩ ?_ (fun σ H _ => q H)⟩
    rintro i σ G hi ⟨v2, v3, v4, v5, v6, v7, v8, v9, v10, v11, v12, v13, v14, v15, rfl, pn⟩
    clear mm m1 eN pp np nc ep q hS
    -- the program
    try dsimp only
    refine seq_cut (C := fun σ' G' => ∃ (x : Addr) (z P B X Q' Y : Str), σ' = [some (.ref a), some (.ref p), some (.int ((0 : Int) + (i : Int))), some (.ref x), v4, v5, v6, v7, v8, v9, v10, v11, v12, v13, v14, v15] ∧ Nm P B X Q' Y ∧ PgAt K x z (scR P B X Q' Y) G' ∧ PenAt G' p c (60 * i + 24)) ?_ ?_
    · rintro σ' G2 ⟨x, z, P, B, X, Q', Y, rfl, N1, hpg, pn⟩
      -- the items
      try dsimp only
      refine seq_cut (C := fun σ' G' => ∃ (D : Addr) (ds : List Int) (v5' : Option V), σ' = [some (.ref a), some (.ref p), some (.int ((0 : Int) + (i : Int))), some (.ref x), some (.ref D), v5', v6, v7, v8, v9, v10, v11, v12, v13, v14, v15] ∧ ds.length ≤ 6 ∧ G' D = some (.lst (ds.map V.int)) ∧ PgAt K x z (scR P B X Q' Y) G' ∧ PenAt G' p c (60 * i + 31)) ?_ ?_
      · rintro σ' G3 ⟨D, ds, v5', rfl, hds, hD, hpg, pn⟩
        -- the lines
        try dsimp only
        refine seq_cut (C := fun σ' G' => ∃ (t : Addr) (b : Bool) (many : Nat), σ' = [some (.ref a), some (.ref p), some (.int ((0 : Int) + (i : Int))), some (.ref x), some (.ref D), v5', some (.ref t), v7, v8, v9, v10, v11, v12, v13, v14, v15] ∧ many ≤ 6 ∧ G' t = some (.lst ((told b (ds.map newB) many).map V.int)) ∧ G' D = some (.lst (ds.map V.int)) ∧ PgAt K x z (scR P B X Q' Y) G' ∧ PenAt G' p c (60 * i + 33)) ?_ ?_
        · rintro σ' G4 ⟨t, b, many, rfl, hmany, ht, hD, hpg, pn⟩
          -- the picks
          try dsimp only
          refine seq_cut (C := fun σ' G' => ∃ (pl : Addr), σ' = [some (.ref a), some (.ref p), some (.int ((0 : Int) + (i : Int))), some (.ref x), some (.ref D), v5', some (.ref t), some (.ref pl), v8, v9, v10, v11, v12, v13, v14, v15] ∧ G4 pl = none ∧ ExtH G4 G' ∧ G' pl = some (.lst [])) ?_ ?_
          · rintro σ' G5 ⟨pl, rfl, npl, e5, hpl⟩
            try dsimp only
            refine seq_cut (C := fun σ' G' => ∃ (picks : List Int) (v5' : Option V), σ' = [some (.ref a), some (.ref p), some (.int ((0 : Int) + (i : Int))), some (.ref x), some (.ref D), v5', some (.ref t), some (.ref pl), v8, v9, v10, v11, v12, v13, v14, v15] ∧ picks.length ≤ 8 ∧ Kp9 K P B X Q' Y x z p c (60 * i + 50) D t pl ds (told b (ds.map newB) many) picks G') ?_ ?_
            · rintro σ' G6 ⟨picks, v5', rfl, hpk, kp⟩
              clear npl e5 hpl hD ht hpg pn
              have hbl : (ds.map newB).length ≤ 6 := by rw [List.length_map]; exact hds
              obtain ⟨o, cv, hvc, hdue, hj, hfin⟩ := course N1 picks b (ds.map newB) many hbl hmany
              have hFC := fc_told b (ds.map newB) many
              have hL : 1 ≤ (told b (ds.map newB) many).length ∧ (told b (ds.map newB) many).length ≤ 100 := by
                have := told_len b (ds.map newB) many
                have : 4 ≤ (preL b).length ∧ (preL b).length ≤ 5 := by cases b <;> decide
                omega
              -- what is due
              try dsimp only
              refine seq_cut (C := fun σ' G' => ∃ (ta : Addr), σ' = [some (.ref a), some (.ref p), some (.int ((0 : Int) + (i : Int))), some (.ref x), some (.ref D), v5', some (.ref t), some (.ref pl), some (.ref ta), some (badV o), v10, v11, v12, v13, v14, v15] ∧ Kp9 K P B X Q' Y x z p c (60 * i + 50) D t pl ds (told b (ds.map newB) many) picks G' ∧ G' ta = some (.lst (cv.taken.map V.int))) ?_ ?_
              · rintro σ' G7 ⟨ta, rfl, kp, hta⟩
                try dsimp only
                refine seq_cut (C := fun σ' G' => σ' = [some (.ref a), some (.ref p), some (.int ((0 : Int) + (i : Int))), some (.ref x), some (.ref D), v5', some (.ref t), some (.ref pl), some (.ref ta), some (badV o), v10, v11, v12, v13, v14, v15] ∧ Kp9 K P B X Q' Y x z p c (60 * i + 52) D t pl ds (told b (ds.map newB) many) picks G' ∧ G' ta = some (.lst (cv.taken.map V.int))) ?_ ?_
                · rintro σ' G8 ⟨rfl, kp, hta⟩
                  obtain ⟨V', hV, eV⟩ := hvc.vls (by omega) fun l hl => (ln_facts (hFC.mem l hl) 0).2.1
                  obtain ⟨Z, hF, hZ⟩ := fol_full (P := P) (B := B) (X := X) (Q := Q') (Y := Y) hFC
                  -- the run
                  try dsimp only
                  refine seq_cut (C := fun σ' G' => ∃ (kd : Str) (u : V), σ' = [some (.ref a), some (.ref p), some (.int ((0 : Int) + (i : Int))), some (.ref x), some (.ref D), v5', some (.ref t), some (.ref pl), some (.ref ta), some (badV o), some (.str kd), some u, v12, v13, v14, v15] ∧ ExtH G8 G' ∧ ((o = none ∧ kd = "run" ∧ ∃ y, u = .ref y ∧ RunAt K y x (told b (ds.map newB) many) [18, 21] cv s0 G') ∨ (∃ j : Nat, o = some j ∧ kd = "pick" ∧ u = .int (j : Int)))) ?_ ?_
                  · rintro σ' G9 ⟨kd, u, rfl, e9, hres⟩
                    have kp := kp.ext e9
                    have hta := e9 _ _ hta
                    clear e9 hF hZ hV eV
                    have z2 : 2 ≤ sizeLine := by rw [sizeLine_eq]; decide
                    rcases hres with ⟨ho, rfl, y, rfl, hrun⟩ | ⟨j, rfl, rfl, rfl⟩
                    · rw [ho]
                      refine ⟨_, rfl, rfl, _, rfl, ifF rfl ?_⟩
                      obtain ⟨qv, ps, ys, sn, et, ly, lsn, es, h0, h1, hps⟩ := hfin ho
                      rw [et] at hta
                      have hL2 := hL.2
                      -- the picks
                      unfold tNext
                      try dsimp only
                      refine seq_cut (C := fun σ' G' => σ' = [some (.ref a), some (.ref p), some (.int ((0 : Int) + (i : Int))), some (.ref x), some (.ref D), v5', some (.ref t), some (.ref pl), some (.ref ta), some (badV none), some (.str "run"), some (.ref y), v12, v13, v14, v15] ∧ ExtH G9 G') ?_ ?_
                      · rintro σ' G10 ⟨rfl, e10⟩
                        have kp := kp.ext e10
                        have hta := e10 _ _ hta
                        have hrun := hrun.ext e10
                        clear e10
                        try dsimp only
                        refine seq_cut (C := fun σ' G' => ∃ (D1 : Addr), σ' = [some (.ref a), some (.ref p), some (.int ((0 : Int) + (i : Int))), some (.ref x), some (.ref D), v5', some (.ref t), some (.ref pl), some (.ref ta), some (badV none), some (.str "run"), some (.ref y), some (.ref D1), v13, v14, v15] ∧ ExtH G10 G' ∧ G' D1 = some (.lst ((idxF 15 0 (told b (ds.map newB) many)).map fun (j : Nat) => V.int (j : Int)))) ?_ ?_
                        · rintro σ' G11 ⟨D1, rfl, e11, hD1⟩
                          have kp := kp.ext e11
                          have hta := e11 _ _ hta
                          have hrun := hrun.ext e11
                          clear e11
                          try dsimp only
                          refine seq_cut (C := fun σ' G' => ∃ (D2 : Addr), σ' = [some (.ref a), some (.ref p), some (.int ((0 : Int) + (i : Int))), some (.ref x), some (.ref D), v5', some (.ref t), some (.ref pl), some (.ref ta), some (badV none), some (.str "run"), some (.ref y), some (.ref D1), some (.ref D2), v14, v15] ∧ ExtH G11 G' ∧ G' D2 = some (.lst (partsL (preL b).length (ds.map newB)))) ?_ ?_
                          · rintro σ' G12 ⟨D2, rfl, e12, hD2⟩
                            have kp := kp.ext e12
                            have hta := e12 _ _ hta
                            have hrun := hrun.ext e12
                            clear e12 hD1
                            try dsimp only
                            refine seq_cut (C := fun σ' G' => ∃ (D3 : Addr), σ' = [some (.ref a), some (.ref p), some (.int ((0 : Int) + (i : Int))), some (.ref x), some (.ref D), v5', some (.ref t), some (.ref pl), some (.ref ta), some (badV none), some (.str "run"), some (.ref y), some (.ref D1), some (.ref D2), some (.ref D3), v15] ∧ ExtH G12 G' ∧ G' D3 = some (.lst ((idxF 19 0 (told b (ds.map newB) many)).map fun (j : Nat) => V.int (j : Int)))) ?_ ?_
                            · rintro σ' G13 ⟨D3, rfl, e13, hD3⟩
                              have kp := kp.ext e13
                              have hta := e13 _ _ hta
                              have hrun := hrun.ext e13
                              have hD2 := e13 _ _ hD2
                              clear e13
                              obtain ⟨dx, fs, hy, R⟩ := hrun
                              have hrun : RunAt K y x (told b (ds.map newB) many) [18, 21] cv s0 G13 := ⟨dx, fs, hy, R⟩
                              have hln := idxF_len (x := 19) (a := told b (ds.map newB) many) (i := 0)
                              obtain ⟨hus, hul, hseen⟩ := reads_ys (qv := qv) (b := b) (bs := ds.map newB) ly lsn
                              rw [← es] at hus hseen
                              have hyr : ∀ v ∈ ys, isRec v = true := ys_rec (b := b) h0 h1
                              -- what is read
                              refine ⟨_, rfl, D3, rfl, ⟨_, SqL.of hD3⟩, fun D4 hD4 => ?_⟩
                              refine lc_pure (xs := (idxF 19 0 (told b (ds.map newB) many)).map fun (j : Nat) => V.int (j : Int)) (fun _ => true) (fR cv.seen) (SqL.of hD3) hD4 (by rw [List.length_map]; omega) (fun _ => rfl) (fun x _ G' Q' _ h => tyes h) ?_ ?_
                              · intro v hv _ G5 Q5 e5 q5
                                obtain ⟨k, hk, rfl⟩ := List.mem_map.mp hv
                                obtain ⟨u, hu⟩ := hseen k hk
                                have q5 : Q5 ((cv.seen[k]?).getD .non) G5 := q5
                                rw [hu] at q5
                                exact ⟨_, rfl, y, dx, fs, rfl, e5 _ _ hy, R.meth "read" (by decide +kernel), _, rfl, y, x, _, _, cv, s0, k, u, rfl, hrun.ext e5, hu, q5⟩
                              intro G14 e14 h14
                              rw [List.filter_eq_self.mpr (fun _ _ => rfl), List.map_map] at h14
                              have h14 : G14 D4 = some (.lst ys) := by rw [h14, ← hus] <;> rfl
                              have hta := e14 _ _ hta
                              have hD2 := e14 _ _ hD2
                              have hD3 := e14 _ _ hD3
                              -- what is due
                              refine ⟨_, rfl, ta, rfl, ⟨_, SqL.of hta⟩, fun D5 hD5 => ?_⟩
                              obtain ⟨hpm, hdy⟩ := ys_due ly h0 h1
                              refine lc_pure (xs := ps.map V.int) (fun _ => true) (fP (partsL (preL b).length (ds.map newB))) (SqL.of hta) hD5 (by rw [List.length_map]; omega) (fun _ => rfl) (fun x _ G' Q' _ h => tyes h) ?_ ?_
                              · intro v hv _ G5 Q5 e5 q5
                                obtain ⟨pk, hk, rfl⟩ := List.mem_map.mp hv
                                obtain ⟨b0, b1⟩ := hps pk hk
                                have hlt : pk.toNat < (partsL (preL b).length (ds.map newB)).length := by rw [partsL_len]; omega
                                have hat := List.getElem?_eq_getElem hlt
                                have q5 : Q5 ((partsL (preL b).length (ds.map newB)).getD pk.toNat .non) G5 := q5
                                obtain ⟨u, hu⟩ : ∃ u, (partsL (preL b).length (ds.map newB))[pk.toNat]? = some u := ⟨_, hat⟩
                                rw [List.getD_eq_getElem?_getD, hu] at q5
                                refine ⟨_, rfl, _, rfl, D2, _, pk, u, rfl, rfl, SqL.of (e5 _ _ hD2), ?_, q5⟩
                                rw [show pk = ((pk.toNat : Nat) : Int) by omega]
                                exact atI_nat hu
                              intro G15 e15 h15
                              rw [List.filter_eq_self.mpr (fun _ _ => rfl), List.map_map] at h15
                              have h14 := e15 _ _ h14
                              have hta := e15 _ _ hta
                              have hD3 := e15 _ _ hD3
                              refine ⟨by rw [sizeLine_eq]; show 1 ≤ 16777216; decide, fun a1 n1 => ?_⟩
                              have e16 := extH_put (o := .lst [V.non]) n1
                              refine ⟨_, rfl, D3, _, rfl, .inl (SqL.of (e16 _ _ hD3)), _, rfl, ta, _, rfl, .inl (SqL.of (e16 _ _ hta)), _, _, rfl, rfl, a1, _, _, rfl, rfl, upd_same, ?_, ?_, ?_, fun a2 n2 => ?_⟩
                              · simp only [List.length_map]; omega
                              · simp only [List.length_map]; omega
                              · rw [sizeLine_eq]; simp only [List.length_map, List.length_cons, List.length_nil]; omega
                              have ek : (((((idxF 19 0 (told b (ds.map newB) many)).map fun (j : Nat) => V.int (j : Int)).length : Nat) : Int) - (((ps.map V.int).length : Nat) : Int)).toNat = many - ps.length := by
                                rw [List.length_map, List.length_map, hul]; omega
                              rw [ek, rep_one]
                              have e17 := extH_put (o := .lst (List.replicate (many - ps.length) V.non)) n2
                              have e1617 := e16.trans e17
                              refine ⟨D5, a2, _, _, rfl, rfl, e1617 _ _ h15, upd_same, by rw [sizeLine_eq]; simp only [List.length_map, List.length_replicate]; omega, fun a3 n3 => ?_⟩
                              have e18 := extH_put (o := .lst (ps.map (fP (partsL (preL b).length (ds.map newB)) ∘ V.int) ++ List.replicate (many - ps.length) V.non)) n3
                              have h18 : upd (upd (upd G15 a1 (.lst [V.non])) a2 (.lst (List.replicate (many - ps.length) V.non))) a3 (.lst (ps.map (fP (partsL (preL b).length (ds.map newB)) ∘ V.int) ++ List.replicate (many - ps.length) V.non)) a3 = some (.lst ys) := by
                                rw [upd_same, ← hdy] <;> rfl
                              have ee := e1617.trans e18
                              refine ⟨.list (ys.map recD), .list (ys.map recD), .lst (SqL.of (ee _ _ h14)) (dpAll_rec hyr), .lst (SqL.of h18) (dpAll_rec hyr), shapedRecL _, shapedRecL _, ?_⟩
                              rw [eqvSelf (shapedRecL _)]
                              exact ⟨_, rfl, ifF rfl ⟨_, _, _, _, _, _, _, _, _, _, _, _, _, _, rfl, pen_le (pen_ext kp.pen ((e14.trans e15).trans ee)) (by omega)⟩⟩
                            · intro rr hrr
                              refine ⟨_, rfl, t, _, rfl, .inl (SqL.of kp.ht), _, rfl, by omega, by rw [List.length_map]; omega, fun D3 hD3 => ?_⟩
                              rw [Int.toNat_natCast, List.length_map]
                              refine lc_it (walk_range (lo := 0) (n := (told b (ds.map newB) many).length)) (fun k G => ExtH G12 G ∧ G D3 = some (.lst ((idxF 19 0 ((told b (ds.map newB) many).take k)).map fun (j : Nat) => V.int (j : Int)))) ⟨extH_put hD3, by rw [List.take_zero]; exact upd_same⟩ (fun _ _ _ _ => trivial) ?_ ?_
                              · rintro k x' G5 G6 hk ⟨eG, g3⟩ ⟨rfl, rfl⟩
                                have hl : (told b (ds.map newB) many)[k]? = some (told b (ds.map newB) many)[k] := List.getElem?_eq_getElem hk
                                generalize (told b (ds.map newB) many)[k] = l at hl
                                have hlen := idxF_len (x := 19) (a := (told b (ds.map newB) many).take k) (i := 0)
                                rw [List.length_take] at hlen
                                have zk : (0 : Int) + (k : Int) = (k : Int) := Int.zero_add _
                                refine ⟨rfl, ?_⟩
                                refine ⟨_, rfl, _, rfl, t, _, (0 : Int) + (k : Int), .int l, rfl, rfl, SqL.of (eG _ _ kp.ht), by rw [zk]; exact at_intL hl, rfl, _, rfl, ?_⟩
                                rw [dec_int, idxF_take hl]
                                by_cases hx : l = 19
                                · refine ifT (decide_eq_true hx) ⟨_, rfl, _, g3, by rw [List.length_map, sizeLine_eq]; omega, ext_own eG hD3, ?_⟩
                                  rw [upd_same, if_pos hx, List.map_append]
                                  show some (HO.lst (_ ++ [V.int ((0 : Int) + (k : Int))])) = some (HO.lst (_ ++ [V.int (k : Int)]))
                                  rw [zk]
                                · refine ifF (decide_eq_false hx) ⟨eG, ?_⟩
                                  rw [if_neg hx, List.append_nil]
                                  exact g3
                              · rintro G ⟨eG, g3⟩
                                rw [List.take_length] at g3
                                exact hrr _ _ ⟨D3, rfl, eG, g3⟩
                          · intro rr hrr
                            refine ⟨_, rfl, D1, rfl, ⟨_, SqL.of hD1⟩, fun D2 hD2 => ?_⟩
                            have hln := idxF_len (x := 15) (a := told b (ds.map newB) many) (i := 0)
                            refine lc_pure (xs := (idxF 15 0 (told b (ds.map newB) many)).map fun (j : Nat) => V.int (j : Int)) (fun _ => true) (fH (told b (ds.map newB) many)) (SqL.of hD1) hD2 (by rw [List.length_map]; omega) (fun _ => rfl) (fun x _ G' Q' _ h => tyes h) ?_ ?_
                            · intro v hv _ G5 Q5 e5 q5
                              obtain ⟨k, hk, rfl⟩ := List.mem_map.mp hv
                              obtain ⟨l, hl, h2⟩ := at_two hk
                              have q5 : Q5 (heldV (told b (ds.map newB) many) k) G5 := q5
                              unfold heldV at q5
                              rw [hl] at q5
                              refine ⟨_, rfl, _, rfl, _, _, rfl, rfl, t, _, (k : Int) - 2, .int l, rfl, rfl, SqL.of (e5 _ _ kp.ht), ?_, rfl, _, rfl, ?_⟩
                              · rw [show (k : Int) - 2 = ((k - 2 : Nat) : Int) by omega]
                                exact at_intL hl
                              · rw [dec_int]
                                by_cases h11 : l = 11
                                · rw [if_pos (by rw [h11])] at q5
                                  exact ifT (decide_eq_true h11) ⟨_, rfl, _, _, rfl, rfl, q5⟩
                                · rw [if_neg (fun z => h11 (Option.some.inj z))] at q5
                                  exact ifF (decide_eq_false h11) q5
                            · intro G5 e5 h5
                              rw [List.filter_eq_self.mpr (fun _ _ => rfl), List.map_map] at h5
                              exact hrr _ _ ⟨D2, rfl, e5, by rw [h5, ← held_told b (ds.map newB) many] <;> rfl⟩
                        · intro rr hrr
                          refine ⟨_, rfl, t, _, rfl, .inl (SqL.of kp.ht), _, rfl, by omega, by rw [List.length_map]; omega, fun D1 hD1 => ?_⟩
                          rw [Int.toNat_natCast, List.length_map]
                          refine lc_it (walk_range (lo := 0) (n := (told b (ds.map newB) many).length)) (fun k G => ExtH G10 G ∧ G D1 = some (.lst ((idxF 15 0 ((told b (ds.map newB) many).take k)).map fun (j : Nat) => V.int (j : Int)))) ⟨extH_put hD1, by rw [List.take_zero]; exact upd_same⟩ (fun _ _ _ _ => trivial) ?_ ?_
                          · rintro k x' G5 G6 hk ⟨eG, g3⟩ ⟨rfl, rfl⟩
                            have hl : (told b (ds.map newB) many)[k]? = some (told b (ds.map newB) many)[k] := List.getElem?_eq_getElem hk
                            generalize (told b (ds.map newB) many)[k] = l at hl
                            have hlen := idxF_len (x := 15) (a := (told b (ds.map newB) many).take k) (i := 0)
                            rw [List.length_take] at hlen
                            have zk : (0 : Int) + (k : Int) = (k : Int) := Int.zero_add _
                            refine ⟨rfl, ?_⟩
                            refine ⟨_, rfl, _, rfl, t, _, (0 : Int) + (k : Int), .int l, rfl, rfl, SqL.of (eG _ _ kp.ht), by rw [zk]; exact at_intL hl, rfl, _, rfl, ?_⟩
                            rw [dec_int, idxF_take hl]
                            by_cases hx : l = 15
                            · refine ifT (decide_eq_true hx) ⟨_, rfl, _, g3, by rw [List.length_map, sizeLine_eq]; omega, ext_own eG hD1, ?_⟩
                              rw [upd_same, if_pos hx, List.map_append]
                              show some (HO.lst (_ ++ [V.int ((0 : Int) + (k : Int))])) = some (HO.lst (_ ++ [V.int (k : Int)]))
                              rw [zk]
                            · refine ifF (decide_eq_false hx) ⟨eG, ?_⟩
                              rw [if_neg hx, List.append_nil]
                              exact g3
                          · rintro G ⟨eG, g3⟩
                            rw [List.take_length] at g3
                            exact hrr _ _ ⟨D1, rfl, eG, g3⟩
                      · intro rr hrr
                        refine ⟨_, rfl, rfl, _, rfl, ?_⟩
                        refine ifF (by simp) ?_
                        obtain ⟨dx, fs, hy, R⟩ := hrun
                        obtain ⟨tk, lk, hk⟩ := R.picks
                        rw [et] at hk
                        refine ⟨_, rfl, _, _, _, _, _, rfl, hy, T.cls "Run" (by decide +kernel), T.noat "Run" "picks" (by decide +kernel), lk, _, rfl, ta, _, rfl, .inl ⟨SqL.of hta, fun t4 n4 => ?_⟩⟩
                        have e4 := extH_put (o := .tup (ps.map V.int)) n4
                        refine ⟨.tuple (ps.map PyData.int), .tuple (ps.map PyData.int), dp_ints_tup (sqT_extH e4 hk), dp_ints_tup (SqT.of upd_same), shapedIntsT _, shapedIntsT _, ?_⟩
                        rw [eqvSelf (shapedIntsT _)]
                        exact ⟨_, rfl, ifF rfl (hrr _ _ ⟨rfl, e4⟩)⟩
                    · refine ⟨_, rfl, rfl, _, rfl, ifT rfl ?_⟩
                      refine ⟨_, rfl, _, rfl, z2, fun t1 n1 => ⟨_, rfl, z2, fun t2 n2 => ?_⟩⟩
                      have e1 := extH_put (o := .tup [.str "pick", .int (j : Int)]) n1
                      have e2 := extH_put (o := .tup [.str "pick", .int (j : Int)]) n2
                      have k2 : PyData.strOk "pick" = true := by decide +kernel
                      have sh : SeqAt.shaped (.tuple [.str "pick", .int (j : Int)]) = true := by
                        simp [SeqAt.shaped, PyData.canLay0, PyData.canLayAll0, PyData.depth, PyData.depthAll, k2]
                      refine ⟨.tuple [.str "pick", .int (j : Int)], .tuple [.str "pick", .int (j : Int)], .tup (SqT.of (e2 _ _ upd_same)) (.cons (.str _) (.cons (.int _) .nil)), .tup (SqT.of upd_same) (.cons (.str _) (.cons (.int _) .nil)), sh, sh, ?_⟩
                      rw [eqvSelf sh]
                      exact ⟨_, rfl, ifF rfl ⟨_, _, _, _, _, _, _, _, _, _, _, _, _, _, rfl, pen_le (pen_ext kp.pen (e1.trans e2)) (by omega)⟩⟩
                  · intro rr hrr
                    rw [show told b (ds.map newB) many = (told b (ds.map newB) many).take (told b (ds.map newB) many).length from (List.take_length).symm] at hV
                    refine ⟨_, rfl, _, rfl, _, rfl, x, t, pl, z, scR P B X Q' Y, told b (ds.map newB) many, picks, Z, fun _ => [0], (told b (ds.map newB) many).length, V', _, rfl, kp.pg, short_sc, SqL.of kp.ht, SqL.of kp.hpl, by omega, hF, hV, fun hm G' tt eG htt => ?_, fun _ hm => absurd hm (Nat.lt_irrefl _), fun hm _ => ?_⟩
                    · cases o with
                      | none =>
                        simp only [Option.getD_none, List.take_length] at hm
                        exact absurd hm (Nat.lt_irrefl _)
                      | some j => exact ⟨tt, _, rfl, htt, rfl, _, _, rfl, _, _, rfl, rfl, hrr _ _ ⟨_, _, rfl, eG, .inr ⟨j, rfl, rfl, rfl⟩⟩⟩
                    · cases o with
                      | some j =>
                        have := hj j rfl
                        simp only [Option.getD_some] at hm
                        omega
                      | none =>
                        refine ⟨by rw [hZ]; show 2 ≤ 1000; decide, fun _ => s0, sty_full hFC, fun G' tt y eG htt hrun => ?_⟩
                        have eV : V' (told b (ds.map newB) many).length = cv := eV
                        rw [hZ, eV] at hrun
                        exact ⟨tt, _, rfl, htt, rfl, _, _, rfl, _, _, rfl, rfl, hrr _ _ ⟨_, _, rfl, eG, .inl ⟨rfl, rfl, y, rfl, hrun⟩⟩⟩
                · intro rr hrr
                  have hb2 : (dueF (ds.map newB).length picks 0 (told b (ds.map newB) many) []).2 = o := by rw [hdue]
                  have nta := pen_lst kp.pen hta
                  have nD := pen_lst kp.pen kp.hD
                  have nt := pen_lst kp.pen kp.ht
                  have npl := pen_lst kp.pen kp.hpl
                  refine ⟨_, rfl, _, rfl, _, rfl, _, rfl, _, rfl, p, c, x, t, pl, 60 * i + 50, z, P, B, X, Q', Y, b, ds.map newB, many, picks, by rw [hb2]; rfl, kp.pen, by omega, kp.pg, N1, kp.ht, kp.hpl, hbl, hmany, fun G' fr pn' => ?_⟩
                  refine ⟨_, rfl, ifF rfl (hrr _ _ ⟨rfl, ⟨sc_fr kp.pg kp.pen fr, pn', fr _ _ nD kp.hD, fr _ _ nt kp.ht, fr _ _ npl kp.hpl⟩, fr _ _ nta hta⟩)⟩
              · intro rr hrr
                refine ⟨_, rfl, _, rfl, D, _, rfl, .inl (SqL.of kp.hD), _, rfl, t, pl, told b (ds.map newB) many, picks, (ds.map newB).length, ?_, SqL.of kp.ht, SqL.of kp.hpl, by omega, by omega, fun G' tt ta eG htt hta => ?_⟩
                · simp only [List.length_map]
                  rfl
                · rw [hdue] at htt hta
                  exact ⟨tt, _, rfl, htt, rfl, _, _, rfl, _, _, rfl, rfl, hrr _ _ ⟨ta, rfl, kp.ext eG, hta⟩⟩
            · intro rr hrr
              have fr45 : Fr p G4 G5 := fr_ext e5
              refine ⟨_, rfl, p, c, 60 * i + 33, 9, rfl, pen_ext pn e5, by omega, by decide, by decide, fun G6 d fr pn6 d0 d1 => ?_⟩
              obtain ⟨m, rfl⟩ : ∃ m : Nat, d = (m : Int) := ⟨d.toNat, by omega⟩
              have nplp := pen_lst (pen_ext pn e5) hpl
              refine ⟨(m : Int), rfl, by omega, by omega, for_range (lo := 0) (n := m) (fun k σ H => ∃ (picks : List Int) (v5' : Option V), σ = [some (.ref a), some (.ref p), some (.int ((0 : Int) + (i : Int))), some (.ref x), some (.ref D), v5', some (.ref t), some (.ref pl), v8, v9, v10, v11, v12, v13, v14, v15] ∧ picks.length = k ∧ Fr p G4 H ∧ PenAt H p c (60 * i + 34 + 2 * k) ∧ H pl = some (.lst (picks.map V.int))) ⟨[], _, rfl, rfl, fr45.trans fr, pn6, fr _ _ nplp hpl⟩ ?_ ?_⟩
              · rintro k σ G7 hk ⟨picks, v5', rfl, hlk, f7, pn7, hpl7⟩
                have hD7 := f7 _ _ (pen_lst pn hD) hD
                refine ⟨_, rfl, .inl ⟨rfl, _, SqL.of hpl7⟩, ?_⟩
                refine ⟨_, rfl, _, rfl, D, _, rfl, .inl (SqL.of hD7), 1, _, rfl, ?_⟩
                obtain ⟨mx, emx, hmx0, hmx1⟩ : ∃ mx : Int, (if (((ds.map V.int).length : Nat) : Int) > 1 then (((ds.map V.int).length : Nat) : Int) else 1) = mx ∧ 0 < mx ∧ mx < 100 := by
                  refine ⟨_, rfl, ?_, ?_⟩ <;> (rw [List.length_map]; split <;> omega)
                rw [emx]
                refine ⟨p, c, 60 * i + 34 + 2 * k, mx, rfl, pn7, by omega, hmx0, by omega, fun G8 d8 fr8 pn8 _ _ => ?_⟩
                refine ⟨_, rfl, by rw [sizeLine_eq]; show 7 ≤ 16777216; decide, fun al nal => ?_⟩
                have e9 := extH_put (o := .lst [V.int 0, V.int 0, V.int 0, V.int 0, V.int 0, V.int 9, V.int (-9)]) nal
                refine ⟨_, rfl, p, c, 60 * i + 34 + 2 * k + 1, 7, rfl, pen_ext pn8 e9, by omega, by decide, by decide, fun G10 d10 fr10 pn10 e0 e1 => ?_⟩
                have hal : (upd G8 al (.lst [V.int 0, V.int 0, V.int 0, V.int 0, V.int 0, V.int 9, V.int (-9)])) al = some (.lst [V.int 0, V.int 0, V.int 0, V.int 0, V.int 0, V.int 9, V.int (-9)]) := upd_same
                have nalp := pen_lst (pen_ext pn8 e9) hal
                obtain ⟨j, rfl⟩ : ∃ j : Nat, d10 = (j : Int) := ⟨d10.toNat, by omega⟩
                obtain ⟨w, hw⟩ : ∃ w : Int, [V.int 0, V.int 0, V.int 0, V.int 0, V.int 0, V.int 9, V.int (-9)][j]? = some (V.int w) := by
                  have : j < 7 := by omega
                  match j, this with
                  | 0, _ => exact ⟨_, rfl⟩
                  | 1, _ => exact ⟨_, rfl⟩
                  | 2, _ => exact ⟨_, rfl⟩
                  | 3, _ => exact ⟨_, rfl⟩
                  | 4, _ => exact ⟨_, rfl⟩
                  | 5, _ => exact ⟨_, rfl⟩
                  | 6, _ => exact ⟨_, rfl⟩
                have f78 : Fr p G7 G10 := (fr8.trans (fr_ext e9)).trans fr10
                have hpl10 := f78 _ _ (pen_lst pn7 hpl7) hpl7
                refine ⟨al, _, (j : Int), V.int w, rfl, rfl, SqL.of (fr10 _ _ nalp hal), atI_nat hw, _, _, rfl, rfl, pl, _, _, rfl, rfl, hpl10, by rw [sizeLine_eq, List.length_map]; omega, ?_⟩
                refine ⟨picks ++ [d8 + w], _, rfl, by rw [List.length_append, hlk] <;> rfl, fun y o hy h => ?_, ?_, by rw [upd_same, List.map_append] <;> rfl⟩
                · rw [upd_ne (ne_of_none h npl)]
                  exact f78 _ _ hy (f7 _ _ hy h)
                · obtain ⟨cells, a, l, q1, q2, q3⟩ := pn10
                  have ncp : c ≠ pl := fun z => by
                    obtain ⟨cells', a', l', _, q2', _⟩ := pn
                    rw [z, npl] at q2'; cases q2'
                  exact ⟨cells, a, l, by rw [upd_ne (Ne.symm nplp)]; exact q1, by rw [upd_ne ncp]; exact q2, by omega⟩
              · rintro σ G7 ⟨picks, v5', rfl, hlk, f7, pn7, hpl7⟩
                exact hrr _ _ ⟨picks, _, rfl, by omega, sc_fr hpg pn f7, pen_le pn7 (by omega), f7 _ _ (pen_lst pn hD) hD, f7 _ _ (pen_lst pn ht) ht, hpl7⟩
          · intro rr hrr
            exact ⟨Nat.zero_le _, fun pl npl => hrr _ _ ⟨pl, rfl, npl, extH_put npl, upd_same⟩⟩
        · intro rr hrr
          have nD := pen_lst pn hD
          refine ⟨_, rfl, _, rfl, _, rfl, p, c, 60 * i + 31, 7, rfl, pn, by omega, by decide, by decide, fun G4 d fr pn4 d0 d1 => ?_⟩
          obtain ⟨many, rfl⟩ : ∃ m : Nat, d = (m : Int) := ⟨d.toNat, by omega⟩
          refine ⟨p, c, D, 60 * i + 32, ds, many, rfl, pn4, by omega, fr _ _ nD hD, hds, by omega, fun G5 t b fr5 pn5 ht => ?_⟩
          have nD4 := pen_lst pn4 (fr _ _ nD hD)
          exact hrr _ _ ⟨t, b, many, rfl, by omega, ht, fr5 _ _ nD4 (fr _ _ nD hD), sc_fr (sc_fr hpg pn fr) pn4 fr5, pn5⟩
      · intro rr hrr
        refine ⟨_, rfl, p, c, 60 * i + 24, 7, rfl, pn, by omega, by decide, by decide, fun G3 d fr pn3 d0 d1 => ?_⟩
        obtain ⟨m, rfl⟩ : ∃ m : Nat, d = (m : Int) := ⟨d.toNat, by omega⟩
        have hpg3 := sc_fr hpg pn fr
        refine ⟨_, rfl, by omega, by omega, fun D hD => ?_⟩
        rw [show ((m : Nat) : Int).toNat = m from Int.toNat_natCast _]
        have nDp := pen_ne pn3 hD
        refine lc_it (walk_range (lo := 0) (n := m)) (fun k G => Fr p G3 G ∧ PenAt G p c (60 * i + 25 + k) ∧ ∃ cs : List Int, cs.length = k ∧ G D = some (.lst (cs.map V.int)))
          ⟨fr_ext (extH_put hD), pen_ext pn3 (extH_put hD), [], rfl, upd_same⟩ (fun _ _ _ _ => trivial) ?_ ?_
        · rintro k x' G5 G6 hk ⟨f1, p1, cs, g1, g3⟩ ⟨rfl, rfl⟩
          refine ⟨rfl, tyes (ifT rfl ?_)⟩
          refine ⟨_, rfl, p, c, 60 * i + 25 + k, 3, rfl, p1, by omega, by decide, by decide, fun G2 b fr pn b0 b1 => ?_⟩
          have g3' := fr _ _ nDp g3
          refine ⟨_, g3', by rw [List.length_map, sizeLine_eq]; omega, fun y o hy h => ?_, ?_, cs ++ [b], by rw [List.length_append, g1] <;> rfl, ?_⟩
          · rw [upd_ne (ne_of_none h hD)]
            exact fr _ _ hy (f1 _ _ hy h)
          · obtain ⟨cells, a, l, q1, q2, q3⟩ := pn
            have ncD : c ≠ D := fun z => by
              obtain ⟨cells', a', l', _, q2', _⟩ := pn3
              rw [z, hD] at q2'; cases q2'
            exact ⟨cells, a, l, by rw [upd_ne (Ne.symm nDp)]; exact q1, by rw [upd_ne ncD]; exact q2, by omega⟩
          · rw [upd_same, List.map_append] <;> rfl
        · rintro G ⟨f1, p1, cs, g1, g3⟩
          exact hrr _ _ ⟨D, cs, _, rfl, by omega, g3, sc_fr hpg3 pn3 f1, pen_le p1 (by omega)⟩
    · intro rr hrr
      refine ⟨⟨_, rfl⟩, _, rfl, p, c, 60 * i, rfl, pn, by omega, fun G2 l P B X Q' Y fr2 pn2 hl gw1 gw2 => ?_⟩
      have N1 := nm_of gw1 gw2
      have hsum := scene_sum N1
      have htx := text_scene N1
      refine ⟨_, l, _, rfl, rfl, .inl (SqL.of hl), ?_, fun x dx nx ndx hne => ?_⟩
      · have h2 : ("\n" : Str).length = 1 := by decide +kernel
        rw [h2, sceneStr_len]
        omega
      clear gw1 gw2 hsum
      refine ⟨x, dx, _, sceneRows P B X Q' Y, sc P B X Q' Y, scR P B X Q' Y, rfl, upd_same, htx, scene_read N1, rfl, rfl, by show 0 ≤ 100; decide, fun g hg => ?_, ?_, by show 1 ≤ 1000; decide, by show ((kindsL.take 21).map (·.1)).Nodup; decide, Nat.le_of_ble_eq_true rfl, fun q hq => ?_, fun G3 kx hpg => ⟨rfl, ?_⟩⟩
      · have hg : g ∈ [mainS] := hg
        rw [List.mem_singleton.mp hg]
        exact ⟨3, rfl⟩
      · show [mainS].Nodup
        simp
      · have hq : q ∈ [(mainS, (3 : Int))] := hq
        rw [List.mem_singleton.mp hq]
        exact ⟨4, rfl⟩
      have e23 : ExtH G2 G3 := fun b o h => by
        have h1 := ne_of_none h nx
        have h2 := ne_of_none h ndx
        exact kx b o h1 (by rw [upd_ne h1, upd_ne h2]; exact h)
      exact hrr _ _ ⟨x, _, P, B, X, Q', Y, rfl, N1, hpg, pen_ext pn2 e23⟩
end
end R9H
set_option Elab.async false
set_option linter.all false
set_option maxRecDepth 100000
set_option maxHeartbeats 4000000
/-! k19, part SI: the end -/
namespace R9H
open PySem PySem.Spec PyProof.Rows L2
theorem facts {w : World} {K : PySem.W.Frag} {h : Heap} {mg : Str → Option Value} {f : Addr} (X : K.In h) (G : h.Ns mainGlobals mg) (hfa : mg ("law" : Str) = some (.ref f)) (c : Says K) :
    ∃ fd : FuncData, (∀ (s : Shared) (v : Value), BindsTo s fd ⟨[v], []⟩ [("_law_script", v)]) ∧ ∀ base : Heap, K.In base → base.Ns mainGlobals mg → FnOk P6 w K mg base CX0 12 f fd ["_law_script"] (spLaw K) := by
  have T := T6.mk' X G c
  obtain ⟨fd, F⟩ := T.fn 76
  have e := hfa.symm.trans (T.glo "law" (by decide +kernel))
  cases e
  have bb := FunD.bindsA (ps := ["_law_script"]) F fun _ _ _ _ _ _ us hl => match us, hl with | [_], _ => rfl
  exact ⟨fd, fun s v => bb s [v] rfl, fun base _ _ => ok_law T F⟩
end R9H
open PySem PySem.W PySem.Calls PyProof.Rows
theorem PySem.Challenge.cw_roomends_k19_items_that_are_picked_holds : PySem.Challenge.rw_roomends_k19_items_that_are_picked.Holds := by
  w_on; o_law
  refine HandSHeadRun.head_any (r := OpenLaw.row PySem.Challenge.rw_roomends_k19_items_that_are_picked) (q := view (OpenLaw.row PySem.Challenge.rw_roomends_k19_items_that_are_picked).prog [94]) (H := R9H.hk) (ob := R9H.ob) (M := 9000) (loose := R9H.loose) (d := HandSHeadRun.topDef (OpenLaw.row PySem.Challenge.rw_roomends_k19_items_that_are_picked).prog 94) (kwd := []) R9H.ob_eq
    (by kernel_rfl) (fun s => by kernel_rfl) R9H.run (by kernel_rfl) (by kernel_rfl) (by kernel_rfl) (by rfl) (by first | assumption | decide +kernel) (by decide +kernel) ⟨rfl, rfl, rfl, rfl, rfl, by decide +kernel⟩ ?hw ?hc
  case hw => w_witness2
  case hc =>
    refine L2.walk_ofE (l := PySem.Challenge.rw_roomends_k19_items_that_are_picked) (n := 63) (k := 12) (x := "_law_script") (CX := L2.CX0) rfl (by decide) (by kernel_rfl) ⟨rfl, by decide, by decide⟩ ?F (fun _ _ _ _ z => z)
    intro w mg fa h Y G hmg0
    obtain ⟨K, KX, c⟩ := Y
    have hmg : mg ("law" : PySem.Str) = some (.ref fa) := by
      have e : (HandSHeadRun.topDef (OpenLaw.row PySem.Challenge.rw_roomends_k19_items_that_are_picked).prog 94).name = ("law" : PySem.Str) := by kernel_rfl
      rw [← e]
      exact hmg0
    obtain ⟨fd, hb, hF⟩ := R9H.facts (w := w) KX G hmg c
    exact ⟨K, fd, R9H.spLaw K, KX, hb, fun H a ns hl _ hS => ⟨a, ns, rfl, hS, hl, fun _ => rfl⟩, hF⟩
