import PyProof.Rows.All
import Wide.All
import OpenK.AllK
import Wide.FinOn
import HandS.ForMost
import HandS.EndBits
import HandS.HeadEnd
import HandS.HeadHook4
import KE.KNestM
import HandS.ExcField
import KE.KIsAll
import KE.KStateDown
import HandS.Base
import HandS.Call
import HandS.Ends
import HandS.More
import HandS.Words
import HandS.WordsExc
import HandS.Defaults
import HandS.Head0
import HandS.Head1
import HandS.Head2
import HandS.HeadHook1
import HandS.HeadHook2
import KE.KExcSuper
import HandS.Exc
import HandS.ExcInit
import HandS.IsInst
import HandS.Deep
import HandS.TupAny
import HandS.RaiseMore
import KE.DataCmp
import KE.DataMinMax
import HandS.ExcOwn
import HandS.CallSlots
import HandS.Rev
import KE.DatumOrd
import HandS.List
import HandS.OwnEq
import PyProof.InstNe
import HandS.TupSets
import KE.SortData
import HandS.Style
import HandS.NoneIn
import KE.GoesNew
import HandS.Zip
import HandS.Small
import HandS.Conv
import HandS.Iter
import HandS.DictComp
import KE.KDictZip
import HandS.Lambda
import PySem.Challenge.RW_makefirst_k23_whole_fewest_rows_added
set_option Elab.async false
set_option linter.all false
set_option maxRecDepth 100000
set_option maxHeartbeats 2000000
namespace Mk
open PySem PySem.Spec PyProof.Rows L2

/-! ### an own error whose __init__ says super().__init__(text), then self.f = f -/
section
variable {prog : Program} {w : World} {A : Around} {E : Value → Shared → Prop} {h : Heap} {g : Array GenState} {d : Drawn} {t : Nat} {os : OsState}
/-- the bound built-in __init__ runs -/
theorem mw_call {B i newId nm qn : _} {bmB : List Value} {C N : Addr} {bs bm : List Value} {hdct : Bool} {sn : List Str} {sub : List Value} {ab : Bool} {col : Option Bool} {dd : Option Addr} {k0 k1 k2 k3 k5 : Option Value} (FB : ExcBaseFacts B newId i bmB) {u e t0 : Addr} {rest : List Value} {Q : Value → Shared → Prop}
    (hC : h.get? C = some (excClassObj nm qn C N bs bm hdct sn sub ab col dd k0 k1 k2 k3 k5 newId)) (he : h.get? e = some (PySem.HandSPX.excO C t0)) (hu : h.get? u = some (PySem.W.kxs_mw i e)) (hz : rest.length ≤ sizeLine)
    (hq : ∀ h' t1, (∀ b o, b ≠ e → h.get? b = some o → h'.get? b = some o) → h'.get? e = some (PySem.HandSPX.excO C t1) → Q .none ⟨h', g, d, t, os⟩) : wpAny (model prog w) A (call (.ref u) rest) Q E ⟨h, g, d, t, os⟩ := by
  refine wpAny_call (codeAny_of_tree ?_)
  show wpAny _ A.in1 (callAny (.ref u) ⟨rest, []⟩) _ _ _
  simp only [callAny]
  refine wpAny_bind (wpAny_load hu ?_)
  simp only [PySem.W.kxs_mw, show (Value.type "method-wrapper" == Value.type "method" || Value.type "method-wrapper" == Value.type "builtin_function_or_method" || Value.type "method-wrapper" == Value.type "method-wrapper") = true by decide, if_true]
  refine PySem.W.KFB.if_so (by decide) ?_
  refine wpAny_bind (PySem.W.check_bound_init FB.toExcCallFacts hC he rfl ?_)
  refine wpAny_bind (wpAny_pure (wpAny_pure ?_))
  refine ⟨plainId_quiet FB.init.plain _, codeAny_builtin FB.initEntry ?_⟩
  exact PySem.W.exc_init_tree (cls := .ref C) (t0 := t0) (dv := none) (c2 := .none) (c3 := .none) (b4 := .bool false) he hz fun h' k e' _ => hq h' _ k e'
end
/-- the body -/
abbrev supB (txt f : Str) (j : Nat) (p0 p1 p2 p3 p4 p5 q1 q2 q3 q4 : Pos) : List Stmt :=
  [.Expr (.Call (.Attribute (.Call (.Name "super" p0) [] [] p1) "__init__" p2) [.Constant (.str txt) j p3] [] p4) p5, .Assign [.Attribute (.Name "self" q1) f q2] (.Name f q3) q4]
/-- what the written part says of such a class -/
structure SupF (P : Program) (K : PySem.W.Frag) (C fI : Addr) (f : Str) : Prop where
  cls : OexC K C
  no : PySem.W.findIn K (.ref C) f = some none
  iC : PySem.W.findIn K (.ref C) "__init__" = some (some (.ref fI))
  tI : PySem.W.typeIn K (.ref fI) = some (.type "function")
  up : PySem.W.ks_superIn K C C "__init__" = some (some (.builtin "ValueError.__init__"))
  isV : PySem.W.subIn K (.ref C) (.type "ValueError") = some true
  own : PySem.W.mroIn K C (.ref C) = some true
  any : PySem.W.nsIn K cStatics "thirdparty.any" = some none
  sup : PySem.W.nsIn K mainGlobals "super" = some none
  top : (P.main.scope.names.lookup ("super" : Str)).isSome = false
  fn : ∃ (oc : Value) (od : Option Addr) (qual : Str) (params : Arguments) (txt : Str) (j : Nat) (p0 p1 p2 p3 p4 p5 q1 q2 q3 q4 : Pos) (scope : Scope) (dV kV doc pm ct : Value) (an : Option Addr) (cda cc : Addr) (osl : Array (Option Value)) (ar : Arg),
    K.lookup fI = some ⟨oc, od, .func (PySem.W.ksFn "__init__" qual params (supB txt f j p0 p1 p2 p3 p4 p5 q1 q2 q3 q4) scope dV kV doc pm an (.ref cda) ct cc), osl⟩ ∧ PySem.W.codeIn K (.ref cda) qual = true ∧
      (∃ (cl : Value) (cld : Option Addr) (csl : Array (Option Value)), K.lookup cc = some ⟨cl, cld, .cell (some (.ref C)), csl⟩) ∧
      (∃ (ccl : Value) (cdd : Option Addr) (vs : Array Value) (ccs : Array (Option Value)) (file : Str) (tf : Tok), K.lookup cda = some ⟨ccl, cdd, .fields vs, ccs⟩ ∧ vs[2]? = some (.str file tf) ∧ ((P.main.file : Str) == file) = true) ∧
      (params.posonlyargs ++ params.args).head? = some ar ∧ ar.arg = "self" ∧
      (∀ u v : Value, bindArgs (PySem.W.ksFn "__init__" qual params (supB txt f j p0 p1 p2 p3 p4 p5 q1 q2 q3 q4) scope dV kV doc pm an (.ref cda) ct cc) ⟨[u, v], []⟩ = pure [(("self" : Str), u), (f, v)]) ∧
      scope.kind = .function ∧ scope.isCoroutine = false ∧ scope.isGenerator = false ∧ (∀ x ∈ scope.names, x.2 ≠ .cell) ∧ scope.names.lookup ("self" : Str) = some .local ∧ scope.names.lookup f = some .local ∧
      scope.names.lookup ("super" : Str) = some .globalImplicit ∧ scope.names.lookup ("__class__" : Str) = some .free ∧ (f == ("__debug__" : Str)) = false ∧ f ≠ "self" ∧
      (∀ env : Env, ∃ pl : Sem Bool, eval (.Call (.Attribute (.Call (.Name "super" p0) [] [] p1) "__init__" p2) [.Constant (.str txt) j p3] [] p4) env = (do
        let ov ← attributeBase (.Call (.Name "super" p0) [] [] p1) "__init__" env (eval (.Call (.Name "super" p0) [] [] p1) env)
        standAt p2.atName
        let (m, first) ← holding [ov] (getMethod ov "__init__" pl)
        callWith p4 m first (backTo p4 (starEach [.Constant (.str txt) j p3] env)) [])) ∧
      (∀ env : Env, swapsWith (.Call (.Attribute (.Call (.Name "super" p0) [] [] p1) "__init__" p2) [.Constant (.str txt) j p3] [] p4) none p5.line env = pure false) ∧
      (∀ env : Env, swapsWith (.Name f q3) (some (.Attribute (.Name "self" q1) f q2)) q4.line env = pure false)
section
variable {prog : Program} {w : World} {A : Around} {R : Result → Shared → Prop} {h : Heap} {g : Array GenState} {d : Drawn} {t : Nat} {os : OsState} {K : PySem.W.Frag} {mg : Str → Option Value} {C fI x t0 : Addr} {f : Str} {u : Value}
theorem sup_init (S : SupF prog K C fI f) (X : K.In h) (lim : h.NoLimit) (G : h.Ns mainGlobals mg) (Bn : ∃ mb, h.Ns builtinsNs mb ∧ ∀ x : Str, x ≠ "__name__" → mb x = bootBuiltins x) (hroom : A.depth < recursionLimit)
    (hx : h.get? x = some (PySem.HandSPX.excO C t0)) (hKx : K.lookup x = none)
    (hq : ∀ h' tk dx t1, (∀ b o, b ≠ x → h.get? b = some o → h'.get? b = some o) → h.objs.size ≤ dx → dx ≠ x → h'.get? x = some { cls := .ref C, dict := some dx, data := .fields #[.ref t1, .none, .none, .none, .bool false, .none] } →
      h'.Ns1 dx (fun y => if y = f then some u else none) → R (.ok (.ret .none)) ⟨h', g, d, tk, os⟩) :
    codeAny (model prog w) A (.call (.ref fI) ⟨[.ref x, u], []⟩) R ⟨h, g, d, t, os⟩ := by
  obtain ⟨oc, od, qual, params, txt, j, p0, p1, p2, p3, p4, p5, q1, q2, q3, q4, scope, dV, kV, doc, pm, ct, an, cda, cc, osl, ar, lf, lcd, ⟨cl, cld, csl, lcc⟩, ⟨ccl, cdd, vs, ccs, file, tf, lk, hvs, hfile⟩, hhead, har, hbind, hk, hco, hgen, hcell, hself, hf, hks, hkc, hdb, hne, hev, hs1, hs2⟩ := S.fn
  obtain ⟨nm, q, N, bs, bm, sn, sub, ab, col, dd, k0, k1, k2, k3, k5, hC, hbm⟩ := S.cls.cls
  have hcl : PySem.W.clsIn K C = some { name := nm, bases := bs, mro := .ref C :: bm, ns := N, qualname := q, hasDict := true, slotNames := sn, subclasses := sub, abstract := ab, collection := col, hasDel := false } := by unfold PySem.W.clsIn; rw [hC] <;> rfl
  obtain ⟨mb, hbn, hbb⟩ := Bn
  refine ks_codeAny_call_defAt (binds := [(("self" : Str), .ref x), (f, u)]) hroom (X _ _ lf) rfl lim (PySem.W.codeRec_of X lcd) rfl (.of_eq (hbind _ _)) hcell (fun y hy => ?_) (fun h₁ hns hk₁ => ?_) hco hgen hk
  · rcases List.mem_cons.mp hy with rfl | hy
    · exact hself
    · rcases List.mem_cons.mp hy with rfl | hy
      · exact hf
      · cases hy
  have K1 : K.In h₁ := PySem.W.Frag.In.keeps X hk₁
  have C1 := K1 _ _ hC
  have x1 := hk₁ _ _ hx
  have hxC : x ≠ C := fun z => by
    rw [z, X _ _ hC] at hx
    cases hx
  have vS : (([(("self" : Str), Value.ref x), (f, u)] : List (Str × Value)).reverse.lookup ("self" : Str)) = some (.ref x) := by
    have e : (("self" : Str) == f) = false := by simpa using fun z => hne z.symm
    simp [List.lookup, e]
  have vF : (([(("self" : Str), Value.ref x), (f, u)] : List (Str × Value)).reverse.lookup f) = some u := by simp [List.lookup]
  obtain ⟨pl, hev'⟩ := hev (PySem.W.ksEnv qual scope h.objs.size fI (.ref cda) cc)
  refine ks_wpAt_execs_cons (ks_wpAt_Expr_any (ks_wpAt_MethodCall (pl := pl) (ks_wpAt_super_base (env := PySem.W.ksEnv qual scope h.objs.size fI (.ref cda) cc) hks hkc rfl rfl (K1 _ _ lf) rfl hhead rfl (K1 _ _ lk) rfl hvs hfile S.top ?_) hev') (by simp [interactive, callEnv, newEnv, hk]) (hs1 _))
  refine PySem.W.ks_loadName_global hk hks (Calls.loadGlobal_builtin (env := PySem.W.ksEnv qual scope h.objs.size fI (.ref cda) cc) (G.keeps hk₁) (PySem.W.mg_none_of X G S.sup) (hbn.keeps hk₁) ((hbb _ (by decide +kernel)).trans (by decide +kernel)) ⟨rfl, ?_⟩)
  refine wpAny_loadName_free hk hkc rfl ⟨_, K1 _ _ lcc, rfl⟩ ?_
  rw [har]
  refine wpAny_loadName_local hk hself hns vS ?_
  refine ks_wpAny_isType_cls C1 rfl ⟨rfl, ?_⟩
  refine ks_wpAny_call_super C1 rfl x1 rfl (fun c e => nomatch e) (PySem.W.looks_mroIn K1 S.own) (fun h₂ e₂ k₂ => ?_)
  have K2 : K.In h₂ := PySem.W.Frag.In.keeps K1 k₂
  have x2 := k₂ _ _ x1
  have I2 : PySem.W.InstAt h₂ x (PySem.HandSPX.excO C t0) C none := ⟨x2, rfl, rfl, trivial⟩
  have up := S.up
  unfold PySem.W.ks_superIn at up
  rw [hcl] at up
  refine PySem.W.kxs_getMethod PySem.W.kxs_ValueError e₂ (PySem.W.looks_opaque K2 S.any) (l₀ := .ref C :: bm) ((PySem.W.looks_clsIn K2 hcl).andThen .now) rfl K2 up (I2.type.andThen (PySem.W.looks_subIn K2 S.isV)) hxC rfl ?_
  refine PySem.W.kxs_callWith (i := "ValueError.__init__") (x := x) (by rfl) ?_
  show wpAny _ _ (evalArgs _ true ((false, eval (.Constant (.str txt) j p3) (PySem.W.ksEnv qual scope h.objs.size fI (.ref cda) cc)) :: backTo p4 (starEach [] (PySem.W.ksEnv qual scope h.objs.size fI (.ref cda) cc))) []) _ _ _
  refine Calls.evalArgs_plain (Calls.spliced_cons (Calls.Constant_str (Calls.spliced_nil ⟨Heap.get?_push_at rfl rfl, ?_⟩)))
  have p3' : ∀ b o, h₂.get? b = some o → (h₂.push (PySem.W.kxs_mw "ValueError.__init__" x)).get? b = some o := fun b o e => Heap.get?_push_of_some _ e
  refine mw_call F.excBase_ValueError (p3' _ _ (K2 _ _ hC)) (p3' _ _ x2) (Heap.get?_push_at rfl rfl) (by show 1 ≤ sizeLine; decide) (fun h₄ t4 k₄ e₄ => ?_)
  have all4 : ∀ b o, b ≠ x → h₁.get? b = some o → h₄.get? b = some o := fun b o hb e => k₄ b o hb (p3' _ _ (k₂ _ _ e))
  have nx : ∀ b o, K.lookup b = some o → b ≠ x := fun b o e z => by
    rw [z, hKx] at e
    cases e
  have K4 : K.In h₄ := fun b o e => all4 b o (nx b o e) (K1 b o e)
  have Lx : h.objs.size ≠ x := Nat.ne_of_gt (Heap.lt_size hx)
  have n4 : h₄.Ns h.objs.size (fun y => ([(("self" : Str), Value.ref x), (f, u)] : List (Str × Value)).reverse.lookup y) := by
    obtain ⟨o, es, ep, e1, e2, e3⟩ := hns
    exact ⟨o, es, ep, all4 _ _ Lx e1, e2, e3⟩
  refine wpAt_of_wpAny (wpAny_execs_cons (plainObj_wpAny_Assign_Attribute (wpAny_Name (wpAny_loadName_local hk hf n4 vF ?_) hdb) (hs2 _)))
  refine wpAny_Name (wpAny_loadName_local hk hself n4 vS ?_) (by decide)
  refine PySem.W.set_plain K4 (ox := PySem.HandSPX.excO C t4) (od := none) ⟨e₄, rfl, rfl, trivial⟩ S.cls.sa ?_
  refine PySem.HandSPX.exc_osa K4 e₄ hcl (show PySem.HandSPX.refsVE (.ref C :: bm) = true from hbm) rfl S.no (fun h₅ tk dx k₅ dn dne hx₅ hn₅ => ?_)
  exact wpAny_execs_nil (hq h₅ _ dx t4 (fun b o hb e => k₅ b o hb (all4 b o hb (hk₁ b o e))) (Nat.le_trans (Nat.le_of_lt n4.lt) dn) dne hx₅ hn₅)
end
end Mk
namespace Mk
open PySem L2

/-! ### data that stands in a heap -/
mutual
inductive Rp (F : Hp) : V → PyData → Prop
  | non : Rp F .non .none
  | bl (b : Bool) : Rp F (.bl b) (.bool b)
  | int (i : Int) : Rp F (.int i) (.int i)
  | str (x : Str) : Rp F (.str x) (.str x)
  | lst {a : Addr} {xs : List V} {ds : List PyData} : F a = some (.lst xs) → Rps F xs ds → Rp F (.ref a) (.list ds)
  | tup {a : Addr} {xs : List V} {ds : List PyData} : F a = some (.tup xs) → Rps F xs ds → Rp F (.ref a) (.tuple ds)
inductive Rps (F : Hp) : List V → List PyData → Prop
  | nil : Rps F [] []
  | cons {v : V} {vs : List V} {d : PyData} {ds : List PyData} : Rp F v d → Rps F vs ds → Rps F (v :: vs) (d :: ds)
end

mutual
theorem Rp.mono {F F' : Hp} (e : Same F F') : ∀ {v : V} {d : PyData}, Rp F v d → Rp F' v d
  | _, _, .non => .non
  | _, _, .bl b => .bl b
  | _, _, .int i => .int i
  | _, _, .str x => .str x
  | _, _, .lst h r => .lst (e _ _ h) (Rps.mono e r)
  | _, _, .tup h r => .tup (e _ _ h) (Rps.mono e r)
theorem Rps.mono {F F' : Hp} (e : Same F F') : ∀ {vs : List V} {ds : List PyData}, Rps F vs ds → Rps F' vs ds
  | _, _, .nil => .nil
  | _, _, .cons h r => .cons (Rp.mono e h) (Rps.mono e r)
end
mutual
theorem Rp.dp {K : PySem.W.Frag} {F H : Hp} (e : Same F H) : ∀ {v : V} {d : PyData}, Rp F v d → Dp K H v d
  | _, _, .non => .non
  | _, _, .bl b => .bl b
  | _, _, .int i => .int i
  | _, _, .str x => .str x
  | _, _, .lst h r => .lst (SqL.of (e _ _ h)) (Rps.dp e r)
  | _, _, .tup h r => .tup (SqT.of (e _ _ h)) (Rps.dp e r)
theorem Rps.dp {K : PySem.W.Frag} {F H : Hp} (e : Same F H) : ∀ {vs : List V} {ds : List PyData}, Rps F vs ds → DpAll K H vs ds
  | _, _, .nil => .nil
  | _, _, .cons h r => .cons (Rp.dp e h) (Rps.dp e r)
end
theorem Rps.length {F : Hp} : ∀ {vs : List V} {ds : List PyData}, Rps F vs ds → vs.length = ds.length
  | _, _, .nil => rfl
  | _, _, .cons _ r => by rw [List.length_cons, List.length_cons, Rps.length r]
theorem Rps.append {F : Hp} : ∀ {vs us : List V} {ds es : List PyData}, Rps F vs ds → Rps F us es → Rps F (vs ++ us) (ds ++ es)
  | _, _, _, _, .nil, s => s
  | _, _, _, _, .cons h r, s => .cons h (Rps.append r s)
theorem Rps.snoc {F : Hp} {vs : List V} {ds : List PyData} {v : V} {d : PyData} (r : Rps F vs ds) (h : Rp F v d) : Rps F (vs ++ [v]) (ds ++ [d]) := r.append (.cons h .nil)
theorem Rps.get {F : Hp} : ∀ {vs : List V} {ds : List PyData} {i : Nat} {v : V}, Rps F vs ds → vs[i]? = some v → ∃ d, ds[i]? = some d ∧ Rp F v d
  | _, _, _, _, .nil, e => by simp at e
  | _, _, 0, _, .cons h _, e => by
    simp at e
    subst e
    exact ⟨_, rfl, h⟩
  | _, _, i + 1, v, .cons _ r, e => by
    obtain ⟨d, h1, h2⟩ := Rps.get (i := i) (v := v) r (by simpa using e)
    exact ⟨d, by simpa using h1, h2⟩
theorem Rps.at {F : Hp} : ∀ {vs : List V} {ds : List PyData} {i : Nat} {d : PyData}, Rps F vs ds → ds[i]? = some d → ∃ v, vs[i]? = some v ∧ Rp F v d
  | _, _, _, _, .nil, e => by simp at e
  | _, _, 0, _, .cons h _, e => by
    simp at e
    subst e
    exact ⟨_, rfl, h⟩
  | _, _, i + 1, d, .cons _ r, e => by
    obtain ⟨v, h1, h2⟩ := Rps.at (i := i) (d := d) r (by simpa using e)
    exact ⟨v, by simpa using h1, h2⟩
theorem Rps.take {F : Hp} : ∀ {vs : List V} {ds : List PyData} (n : Nat), Rps F vs ds → Rps F (vs.take n) (ds.take n)
  | _, _, 0, _ => .nil
  | _, _, _ + 1, .nil => .nil
  | _, _, n + 1, .cons h r => .cons h (Rps.take n r)
theorem Rps.drop {F : Hp} : ∀ {vs : List V} {ds : List PyData} (n : Nat), Rps F vs ds → Rps F (vs.drop n) (ds.drop n)
  | _, _, 0, r => r
  | _, _, _ + 1, .nil => .nil
  | _, _, n + 1, .cons _ r => Rps.drop n r

/-! ### what a place is known to hold -/
def BkAt (C : Addr) (F : Hp) (v : V) (c k : PyData) : Prop := ∃ (p dx : Addr) (v1 v2 : V), v = .ref p ∧ F p = some (.ins C dx [("columns", v1), ("checks", v2)]) ∧ Rp F v1 c ∧ Rp F v2 k
def BoxAt (H : Hp) (p : Addr) : Prop := ∃ x y : Int, H p = some (.lst [.int x, .int y]) ∧ 0 ≤ x ∧ 0 ≤ y ∧ y ≤ 2147483587
inductive Sl where
  | any
  | dat (d : PyData)
  | bk (C : Addr) (c k : PyData)
  | own (ds : List PyData)
  | dic (ks : List (List Int))
  | box (p : Addr)
  | ob (C p : Addr) (fs : List (Str × PyData))
  | adr (p : Addr)
/-- an instance's fields, by data -/
def FsR (F : Hp) (vs : List (Str × V)) (fs : List (Str × PyData)) : Prop := vs.map (·.1) = fs.map (·.1) ∧ Rps F (vs.map (·.2)) (fs.map (·.2))
theorem FsR.mono {F F' : Hp} {vs : List (Str × V)} {fs : List (Str × PyData)} (e : Same F F') (h : FsR F vs fs) : FsR F' vs fs := ⟨h.1, h.2.mono e⟩
def Sl.owned : Sl → Bool
  | .own _ => true
  | .dic _ => true
  | .box _ => true
  | .ob _ _ _ => true
  | _ => false
/-- what was frozen at the start, what is to be kept -/
structure Bs where
  F : Hp
  M : Hp
/-- nothing, or a tuple: nothing that could change -/
def TU (o : Option HO) : Prop := o = none ∨ ∃ xs, o = some (.tup xs)
theorem TU.back {H H' : Hp} {p : Addr} (e : Same H H') (h : TU (H' p)) : TU (H p) := by
  cases q : H p with
  | none => exact .inl rfl
  | some u =>
    have k := e _ _ q
    rw [k] at h
    exact h
structure Good (B : Bs) (F H : Hp) : Prop where
  f : Same B.F F
  h : Same F H
  m : Same B.M H
  n : ∀ a o, F a = some o → B.F a = none → TU (B.M a)
def kLs (ks : List (List Int)) : List (List Key) := ks.map fun k => k.map Sum.inl
def SlOk (B : Bs) (F H : Hp) (o : Option V) (a : Addr) : Sl → Prop
  | .any => True
  | .dat d => ∃ v, o = some v ∧ Rp F v d
  | .bk C c k => ∃ v, o = some v ∧ BkAt C F v c k
  | .own ds => o = some (.ref a) ∧ F a = none ∧ B.M a = none ∧ ∃ vs, H a = some (.lst vs) ∧ Rps F vs ds
  | .dic ks => o = some (.ref a) ∧ F a = none ∧ B.M a = none ∧ ∃ kvs : List (List Key × V), H a = some (.dT kvs) ∧ kvs.map (·.1) = kLs ks
  | .adr p => o = some (.ref p)
  | .box p => o = some (.ref p) ∧ a = p ∧ F p = none ∧ B.M p = none ∧ BoxAt H p
  | .ob C p fs => o = some (.ref p) ∧ a = p ∧ F p = none ∧ B.M p = none ∧ ∃ dx vs, H p = some (.ins C dx vs) ∧ FsR F vs fs
abbrev En := List Sl
structure Sat0 (B : Bs) (F H : Hp) (s : L2.St) (G : En) (ad : Nat → Addr) : Prop where
  len : G.length = s.length
  ok : ∀ i t, G[i]? = some t → SlOk B F H (s[i]?.join) (ad i) t
  inj : ∀ i j t u, G[i]? = some t → G[j]? = some u → t.owned = true → u.owned = true → ad i = ad j → i = j
def Sat (B : Bs) (F H : Hp) (s : L2.St) (G : En) : Prop := ∃ ad, Sat0 B F H s G ad

/-- only new things come -/
structure Grow (F H F' H' : Hp) : Prop where
  f : Same F F'
  h : Same H H'
  i : Same F' H'
  n : ∀ a o, F' a = some o → F a = none → TU (H a)
theorem Grow.refl {F H : Hp} (h : Same F H) : Grow F H F H := ⟨Same.refl _, Same.refl _, h, fun a o e n => by rw [n] at e; cases e⟩
theorem Grow.trans {F H F1 H1 F2 H2 : Hp} (a : Grow F H F1 H1) (b : Grow F1 H1 F2 H2) : Grow F H F2 H2 :=
  ⟨a.f.trans b.f, a.h.trans b.h, b.i, fun p o e n => by
    cases q : F1 p with
    | none => exact TU.back a.h (b.n p o e q)
    | some u => exact a.n p u q n⟩
theorem same_upd {H : Hp} {p : Addr} {o : HO} (h : H p = none) : Same H (upd H p o) := fun b x e => by
  rw [upd_ne (ne_of_none e h)]
  exact e
theorem Grow.new {F H : Hp} (h : Same F H) {p : Addr} {o : HO} (hp : H p = none) : Grow F H (upd F p o) (upd H p o) :=
  ⟨same_upd (h.free hp), same_upd hp, fun b x e => by
    by_cases q : b = p
    · subst q
      rw [upd_same] at e ⊢
      exact e
    · rw [upd_ne q] at e ⊢
      exact h b x e, fun a x e n => by
    by_cases q : a = p
    · rw [q]; exact .inl hp
    · rw [upd_ne q, n] at e
      cases e⟩
/-- a new thing that is not frozen -/
theorem Grow.loose {F H : Hp} (h : Same F H) {p : Addr} {o : HO} (hp : H p = none) : Grow F H F (upd H p o) :=
  ⟨Same.refl _, same_upd hp, h.trans (same_upd hp), fun a x e n => by rw [n] at e; cases e⟩
theorem Good.grow {B : Bs} {F H F' H' : Hp} (g : Good B F H) (w : Grow F H F' H') : Good B F' H' :=
  ⟨g.f.trans w.f, w.i, g.m.trans w.h, fun a o e n => by
    cases q : F a with
    | none => exact TU.back g.m (w.n a o e q)
    | some u => exact g.n a u q n⟩
theorem Good.start {F H : Hp} (h : Same F H) : Good ⟨F, H⟩ F H := ⟨Same.refl _, h, Same.refl _, fun a o e n => by
  have n' : F a = none := n
  rw [n'] at e
  cases e⟩

theorem BkAt.mono {C : Addr} {F F' : Hp} {v : V} {c k : PyData} (e : Same F F') (h : BkAt C F v c k) : BkAt C F' v c k := by
  obtain ⟨p, dx, v1, v2, h1, h2, h3, h4⟩ := h
  exact ⟨p, dx, v1, v2, h1, e _ _ h2, h3.mono e, h4.mono e⟩
/-- a slot's word goes on where the frozen part grows and its own object stays -/
theorem SlOk.go {B : Bs} {F H F' H' : Hp} {o : Option V} {a : Addr} {t : Sl} (h : SlOk B F H o a t) (e : Same F F') (k : t.owned = true → H' a = H a ∧ F' a = none) : SlOk B F' H' o a t := by
  cases t with
  | any => trivial
  | adr p => exact h
  | dat d =>
    obtain ⟨v, h1, h2⟩ := h
    exact ⟨v, h1, h2.mono e⟩
  | bk C c k' =>
    obtain ⟨v, h1, h2⟩ := h
    exact ⟨v, h1, h2.mono e⟩
  | own ds =>
    obtain ⟨h1, h2, h3, vs, h4, h5⟩ := h
    obtain ⟨k1, k2⟩ := k rfl
    exact ⟨h1, k2, h3, vs, k1.trans h4, h5.mono e⟩
  | dic ks =>
    obtain ⟨h1, h2, h3, vs, h4, h5⟩ := h
    obtain ⟨k1, k2⟩ := k rfl
    exact ⟨h1, k2, h3, vs, k1.trans h4, h5⟩
  | box p =>
    obtain ⟨h1, rfl, h2, h3, x, y, h4, h5⟩ := h
    obtain ⟨k1, k2⟩ := k rfl
    exact ⟨h1, rfl, k2, h3, x, y, k1.trans h4, h5⟩
  | ob C p fs =>
    obtain ⟨h1, rfl, h2, h3, x, y, h4, h5⟩ := h
    obtain ⟨k1, k2⟩ := k rfl
    exact ⟨h1, rfl, k2, h3, x, y, k1.trans h4, h5.mono e⟩
/-- an owned slot's object -/
theorem SlOk.here {B : Bs} {F H : Hp} {o : Option V} {a : Addr} {t : Sl} (h : SlOk B F H o a t) (k : t.owned = true) : o = some (.ref a) ∧ F a = none ∧ B.M a = none ∧ ∃ u, H a = some u := by
  cases t with
  | any => cases k
  | adr p => cases k
  | dat d => cases k
  | bk C c k' => cases k
  | own ds =>
    obtain ⟨h1, h2, h3, vs, h4, h5⟩ := h
    exact ⟨h1, h2, h3, _, h4⟩
  | dic ks =>
    obtain ⟨h1, h2, h3, vs, h4, h5⟩ := h
    exact ⟨h1, h2, h3, _, h4⟩
  | box p =>
    obtain ⟨h1, rfl, h2, h3, x, y, h4, h5⟩ := h
    exact ⟨h1, h2, h3, _, h4⟩
  | ob C p fs =>
    obtain ⟨h1, rfl, h2, h3, x, y, h4, h5⟩ := h
    exact ⟨h1, h2, h3, _, h4⟩
theorem SlOk.nt {B : Bs} {F H : Hp} {o : Option V} {a : Addr} {t : Sl} (h : SlOk B F H o a t) (k : t.owned = true) : ¬ TU (H a) := by
  cases t with
  | any => cases k
  | adr p => cases k
  | dat d => cases k
  | bk C c k' => cases k
  | own ds =>
    obtain ⟨h1, h2, h3, vs, h4, h5⟩ := h
    rw [h4]
    rintro (z | ⟨_, z⟩) <;> cases z
  | dic ks =>
    obtain ⟨h1, h2, h3, vs, h4, h5⟩ := h
    rw [h4]
    rintro (z | ⟨_, z⟩) <;> cases z
  | box p =>
    obtain ⟨h1, rfl, h2, h3, x, y, h4, h5⟩ := h
    rw [h4]
    rintro (z | ⟨_, z⟩) <;> cases z
  | ob C p fs =>
    obtain ⟨h1, rfl, h2, h3, x, y, h4, h5⟩ := h
    rw [h4]
    rintro (z | ⟨_, z⟩) <;> cases z
section
variable {B : Bs} {F H F' H' : Hp} {s : L2.St} {G : En}
theorem Sat0.grow {ad : Nat → Addr} (h : Sat0 B F H s G ad) (w : Grow F H F' H') : Sat0 B F' H' s G ad :=
  ⟨h.len, fun i t e => (h.ok i t e).go w.f fun k => (by
    obtain ⟨_, h2, _, u, h4⟩ := (h.ok i t e).here k
    refine ⟨(w.h _ _ h4).trans h4.symm, ?_⟩
    cases q : F' (ad i) with
    | none => rfl
    | some x =>
      exact absurd (w.n _ _ q h2) ((h.ok i t e).nt k)), h.inj⟩
theorem Sat.grow (h : Sat B F H s G) (w : Grow F H F' H') : Sat B F' H' s G := let ⟨ad, h⟩ := h; ⟨ad, h.grow w⟩
theorem join_some {o : Option (Option V)} {v : V} (h : o.join = some v) : o = some (some v) := by
  cases o with
  | none => cases h
  | some x =>
    cases x with
    | none => cases h
    | some y =>
      have e : some y = some v := h
      rw [e]
theorem Sat.dat {i : Nat} {d : PyData} (h : Sat B F H s G) (e : G[i]? = some (.dat d)) : ∃ v, s[i]? = some (some v) ∧ Rp F v d := by
  obtain ⟨ad, h⟩ := h
  obtain ⟨v, h1, h2⟩ := h.ok i _ e
  exact ⟨v, join_some h1, h2⟩
theorem Sat.val {i : Nat} {t : Sl} (h : Sat B F H s G) (e : G[i]? = some t) (n : t ≠ .any) : ∃ v, s[i]? = some (some v) := by
  obtain ⟨ad, h⟩ := h
  have q := h.ok i _ e
  cases t with
  | any => exact absurd rfl n
  | adr p => exact ⟨_, join_some q⟩
  | dat d =>
    obtain ⟨v, h1, h2⟩ := q
    exact ⟨v, join_some h1⟩
  | bk C c k =>
    obtain ⟨v, h1, h2⟩ := q
    exact ⟨v, join_some h1⟩
  | own ds => exact ⟨_, join_some q.1⟩
  | dic ks => exact ⟨_, join_some q.1⟩
  | box p => exact ⟨_, join_some q.1⟩
  | ob C p fs => exact ⟨_, join_some q.1⟩
/-- a value more, not owned -/
theorem Sat.push {v : V} {t : Sl} (h : Sat B F H s G) (k : t.owned = false) (q : ∀ a, SlOk B F H (some v) a t) : Sat B F H (some v :: s) (t :: G) := by
  obtain ⟨ad, h⟩ := h
  refine ⟨fun i => match i with | 0 => 0 | i + 1 => ad i, by simp [h.len], fun i u e => ?_, fun i j u w e1 e2 o1 o2 z => ?_⟩
  · cases i with
    | zero =>
      simp at e
      subst e
      exact q _
    | succ i =>
      simp at e
      simpa using h.ok i u e
  · cases i with
    | zero =>
      simp at e1
      subst e1
      rw [k] at o1
      cases o1
    | succ i =>
      cases j with
      | zero =>
        simp at e2
        subst e2
        rw [k] at o2
        cases o2
      | succ j =>
        simp at e1 e2
        rw [h.inj i j u w e1 e2 o1 o2 z]
theorem Sat.pushD {v : V} {d : PyData} (h : Sat B F H s G) (r : Rp F v d) : Sat B F H (some v :: s) (.dat d :: G) := h.push rfl fun _ => ⟨v, rfl, r⟩
/-- a value more, its own object new -/
theorem Sat.pushO {p : Addr} {t : Sl} (h : Sat B F H s G) (q : SlOk B F H (some (.ref p)) p t) (n : ∀ (i : Nat) (u : Sl) (a : Addr), G[i]? = some u → u.owned = true → s[i]?.join = some (V.ref a) → a ≠ p) : Sat B F H (some (.ref p) :: s) (t :: G) := by
  obtain ⟨ad, h⟩ := h
  refine ⟨fun i => match i with | 0 => p | i + 1 => ad i, by simp [h.len], fun i u e => ?_, fun i j u w e1 e2 o1 o2 z => ?_⟩
  · cases i with
    | zero =>
      simp at e
      subst e
      exact q
    | succ i =>
      simp at e
      simpa using h.ok i u e
  · cases i with
    | zero =>
      cases j with
      | zero => rfl
      | succ j =>
        simp at e2
        exact absurd z.symm (n j w _ e2 o2 ((h.ok j w e2).here o2).1)
    | succ i =>
      cases j with
      | zero =>
        simp at e1
        exact absurd z (n i u _ e1 o1 ((h.ok i u e1).here o1).1)
      | succ j =>
        simp at e1 e2
        rw [h.inj i j u w e1 e2 o1 o2 z]
theorem Sat.pop {o : Option V} {t : Sl} (h : Sat B F H (o :: s) (t :: G)) : Sat B F H s G := by
  obtain ⟨ad, h⟩ := h
  refine ⟨fun i => ad (i + 1), by have := h.len; simpa using this, fun i u e => ?_, fun i j u w e1 e2 o1 o2 z => ?_⟩
  · simpa using h.ok (i + 1) u (by simpa using e)
  · have := h.inj (i + 1) (j + 1) u w (by simpa using e1) (by simpa using e2) o1 o2 z
    omega
theorem Sat.top {o : Option V} {t : Sl} (h : Sat B F H (o :: s) (t :: G)) : ∃ a, SlOk B F H o a t := by
  obtain ⟨ad, h⟩ := h
  exact ⟨_, by simpa using h.ok 0 t (by simp)⟩
theorem Sat.topD {o : Option V} {d : PyData} (h : Sat B F H (o :: s) (.dat d :: G)) : ∃ v, o = some v ∧ Rp F v d := h.top.elim fun _ q => q
/-- it is stored -/
theorem Sat.set {v : V} {t : Sl} {i : Nat} (h : Sat B F H (some v :: s) (t :: G)) : Sat B F H (s.set i (some v)) (G.set i t) := by
  obtain ⟨ad, h⟩ := h
  have hl : G.length = s.length := by have := h.len; simpa using this
  have h0 := h.ok 0 t (by simp)
  refine ⟨fun j => if j = i then ad 0 else ad (j + 1), by simp [hl], fun j u e => ?_, fun j k u w e1 e2 o1 o2 z => ?_⟩
  · by_cases q : j = i
    · subst q
      by_cases hj : j < G.length
      · rw [List.getElem?_set_self hj] at e
        cases e
        rw [List.getElem?_set_self (by omega), if_pos rfl]
        simpa using h0
      · rw [List.getElem?_eq_none (by simp; omega)] at e
        cases e
    · rw [List.getElem?_set_ne (Ne.symm q)] at e ⊢
      rw [if_neg q]
      simpa using h.ok (j + 1) u (by simpa using e)
  · have get : ∀ j u, (G.set i t)[j]? = some u → (t :: G)[if j = i then 0 else j + 1]? = some u := fun j u e => by
      by_cases q : j = i
      · subst q
        by_cases hj : j < G.length
        · rw [List.getElem?_set_self hj] at e
          rw [if_pos rfl]
          simpa using e
        · rw [List.getElem?_eq_none (by simp; omega)] at e
          cases e
      · rw [List.getElem?_set_ne (Ne.symm q)] at e
        rw [if_neg q]
        simpa using e
    have z' : ad (if j = i then 0 else j + 1) = ad (if k = i then 0 else k + 1) := by
      by_cases q : j = i <;> by_cases r : k = i <;> simp only [q, r, if_true, if_false] at z ⊢ <;> exact z
    have r := h.inj _ _ u w (get j u e1) (get k w e2) o1 o2 z'
    by_cases q : j = i <;> by_cases r' : k = i <;> simp only [q, r', if_true, if_false] at r ⊢ <;> omega
/-- words that say less -/
inductive Le : Sl → Sl → Prop
  | refl (t : Sl) : Le t t
  | any (t : Sl) : Le t .any
theorem Sat.le {G' : En} (h : Sat B F H s G) (hl : G'.length = G.length) (le : ∀ (i : Nat) (t u : Sl), G[i]? = some t → G'[i]? = some u → Le t u) : Sat B F H s G' := by
  obtain ⟨ad, h⟩ := h
  have old : ∀ i u, G'[i]? = some u → ∃ t, G[i]? = some t ∧ Le t u := fun i u e => by
    have hi : i < G'.length := (List.getElem?_eq_some_iff.mp e).1
    have hi' : i < G.length := by omega
    exact ⟨G[i], List.getElem?_eq_getElem hi', le i _ _ (List.getElem?_eq_getElem hi') e⟩
  refine ⟨ad, by rw [hl]; exact h.len, fun i u e => ?_, fun i j u w e1 e2 o1 o2 z => ?_⟩
  · obtain ⟨t, e', q⟩ := old i u e
    cases q with
    | refl => exact h.ok i _ e'
    | any => trivial
  · obtain ⟨t, e1', q1⟩ := old i u e1
    obtain ⟨t', e2', q2⟩ := old j w e2
    cases q1 with
    | any => cases o1
    | refl =>
      cases q2 with
      | any => cases o2
      | refl => exact h.inj i j _ _ e1' e2' o1 o2 z
/-- slots that were set aside (not owned ones) come back -/
theorem Sat.back {s2 : L2.St} {G2 : En} (h : Sat B F H s G) (h2 : Sat B F' H' s2 G2) (e : Same F F') (k : ∀ (i : Nat) (t : Sl), G[i]? = some t → t.owned = true → G2[i]? = some t ∧ s2[i]?.join = s[i]?.join) : Sat B F' H' s G := by
  obtain ⟨ad, h⟩ := h
  obtain ⟨ad2, h2⟩ := h2
  have same : ∀ i t, G[i]? = some t → t.owned = true → ad i = ad2 i ∧ SlOk B F' H' (s[i]?.join) (ad i) t := fun i t e1 o => by
    obtain ⟨k1, k2⟩ := k i t e1 o
    have a1 := ((h.ok i t e1).here o).1
    have q := h2.ok i t k1
    rw [k2] at q
    have a2 := (q.here o).1
    rw [a1] at a2
    have a3 : ad i = ad2 i := by
      have z : V.ref (ad i) = V.ref (ad2 i) := Option.some.inj a2
      exact V.ref.inj z
    exact ⟨a3, by rw [a3]; exact q⟩
  refine ⟨ad, h.len, fun i t e1 => ?_, h.inj⟩
  by_cases o : t.owned = true
  · exact (same i t e1 o).2
  · exact (h.ok i t e1).go e fun z => absurd z o
end
end Mk
namespace Mk
open PySem L2

/-! ### an expression's word: from the places G its value is one of P -/
def tE (B : Bs) (G : En) (P : Sl → Prop) : TE := fun s H Q => ∃ F, Good B F H ∧ Sat B F H s G ∧
  ∀ v t F' H', P t → Good B F' H' → Same F F' → Sat B F' H' (some v :: s) (t :: G) → Q v H'
def tT (B : Bs) (G : En) (P : Bool → Prop) : TT := fun s H Q => ∃ F, Good B F H ∧ Sat B F H s G ∧
  ∀ b F' H', P b → Good B F' H' → Same F F' → Sat B F' H' s G → Q b H'
/-- some data each -/
def tA (B : Bs) (G : En) (P : List Sl → Prop) : TA := fun s H Q => ∃ F, Good B F H ∧ Sat B F H s G ∧
  ∀ vs ts F' H', P ts → Good B F' H' → Same F F' → Sat B F' H' (vs.map some ++ s) (ts ++ G) → ts.length = vs.length → Q vs H'
abbrev EE (X : Cx) (B : Bs) (G : En) (e : Expr) (P : Sl → Prop) : Prop := PE X e (tE B G P)
abbrev ET (X : Cx) (B : Bs) (G : En) (e : Expr) (P : Bool → Prop) : Prop := PT X e (tT B G P)
abbrev EA (X : Cx) (B : Bs) (G : En) (es : List Expr) (P : List Sl → Prop) : Prop := PA X es (tA B G P)
/-- just this -/
abbrev is {α : Type} (t : α) : α → Prop := fun u => u = t
/-- just this datum -/
abbrev EV (X : Cx) (B : Bs) (G : En) (e : Expr) (d : PyData) : Prop := EE X B G e (is (.dat d))

theorem PE.weak {X : Cx} {e : Expr} {t t' : TE} (h : PE X e t) (k : ∀ s H Q, t' s H Q → t s H Q) : PE X e t' := ⟨fun pins s σ H Q I q => h.run pins s σ H Q I (k _ _ _ q)⟩
theorem PT.weak {X : Cx} {e : Expr} {t t' : TT} (h : PT X e t) (k : ∀ s H Q, t' s H Q → t s H Q) : PT X e t' := ⟨fun pins s σ H Q I q => h.run pins s σ H Q I (k _ _ _ q)⟩
theorem PA.weak {X : Cx} {e : List Expr} {t t' : TA} (h : PA X e t) (k : ∀ s H Q, t' s H Q → t s H Q) : PA X e t' := ⟨fun pos pins s σ H Q I q => h.run pos pins s σ H Q I (k _ _ _ q)⟩
section
variable {X : Cx} {B : Bs} {G : En} {e a b c : Expr} {P Pa Pb : Sl → Prop} {d d' : PyData} {pos : Pos}

theorem EE.imp (h : EE X B G e P) {P' : Sl → Prop} (k : ∀ t, P t → P' t) : EE X B G e P' := PE.weak h fun s H Q ⟨F, g, w, q⟩ => ⟨F, g, w, fun v t F' H' p => q v t F' H' (k t p)⟩
theorem ET.imp {P P' : Bool → Prop} (h : ET X B G e P) (k : ∀ t, P t → P' t) : ET X B G e P' := PT.weak h fun s H Q ⟨F, g, w, q⟩ => ⟨F, g, w, fun b F' H' p => q b F' H' (k b p)⟩
theorem EV.eq (h : EV X B G e d) (k : d = d') : EV X B G e d' := by rw [← k]; exact h
theorem ET.eq {x y : Bool} (h : ET X B G e (is x)) (k : x = y) : ET X B G e (is y) := by rw [← k]; exact h
/-- from the reading of a rule: a value that leaves the places as they are -/
theorem e_of {te : TE} (h : PE X e te) (k : ∀ s F H Q, Good B F H → Sat B F H s G → (∀ v t F' H', P t → Good B F' H' → Same F F' → Sat B F' H' (some v :: s) (t :: G) → Q v H') → te s H Q) : EE X B G e P :=
  PE.weak h fun s H Q ⟨F, g, w, q⟩ => k s F H Q g w q
theorem e_ofD {te : TE} (h : PE X e te) (k : ∀ s F H Q, Good B F H → Sat B F H s G → (∀ v F' H', Grow F H F' H' → Rp F' v d → Q v H') → te s H Q) : EV X B G e d :=
  e_of h fun s F H Q g w q => k s F H Q g w fun v F' H' gr r => q v _ F' H' rfl (g.grow gr) gr.f ((w.grow gr).pushD r)

/-! ### names, constants -/
theorem e_dat (i : Nat) {x : Str} (hi : G[i]? = some (.dat d) := by rfl) (hN : X.N[i]? = some x := by rfl) (hv : Vis X.env.scope x := by first | exact Or.inl rfl | exact Or.inr (Or.inl rfl) | exact Or.inr (Or.inr rfl))
    (hd : (x == ("__debug__" : Str)) = false := by decide) (hcd : (x == ("__classdict__" : Str)) = false := by decide) : EV X B G (.Name x pos) d :=
  e_of (pe_var hN hv hd hcd) fun s F H Q g w q => by
    obtain ⟨v, h1, h2⟩ := w.dat hi
    exact ⟨v, h1, q v _ F H rfl g (Same.refl _) (w.pushD h2)⟩
theorem e_bk (i : Nat) {x : Str} {C : Addr} {c k : PyData} (hi : G[i]? = some (.bk C c k) := by rfl) (hN : X.N[i]? = some x := by rfl) (hv : Vis X.env.scope x := by first | exact Or.inl rfl | exact Or.inr (Or.inl rfl) | exact Or.inr (Or.inr rfl))
    (hd : (x == ("__debug__" : Str)) = false := by decide) (hcd : (x == ("__classdict__" : Str)) = false := by decide) : EE X B G (.Name x pos) (is (.bk C c k)) :=
  e_of (pe_var hN hv hd hcd) fun s F H Q g w q => by
    obtain ⟨ad, w0⟩ := id w
    obtain ⟨v, h1, h2⟩ := w0.ok i _ hi
    exact ⟨v, join_some h1, q v _ F H rfl g (Same.refl _) (w.push rfl fun _ => ⟨v, rfl, h2⟩)⟩
theorem e_int {i : Int} {j : Nat} : EV X B G (.Constant (.int i) j pos) (.int i) := e_ofD pe_int fun s F H Q g w q => q _ F H (.refl g.h) (.int i)
theorem e_bl {i : Bool} {j : Nat} : EV X B G (.Constant (.bool i) j pos) (.bool i) := e_ofD pe_bl fun s F H Q g w q => q _ F H (.refl g.h) (.bl i)
theorem e_non {j : Nat} : EV X B G (.Constant .none j pos) .none := e_ofD pe_non fun s F H Q g w q => q _ F H (.refl g.h) .non
theorem e_str {x : Str} {j : Nat} : EV X B G (.Constant (.str x) j pos) (.str x) := e_ofD pe_str fun s F H Q g w q => q _ F H (.refl g.h) (.str x)
/-- a number of the module -/
theorem e_globI {x : Str} {i : Int} {tk : Tok} (hm : X.mg x = some (.int i tk)) (hg : Gl X x := by rfl) (hd : (x == ("__debug__" : Str)) = false := by decide) : EV X B G (.Name x pos) (.int i) :=
  e_ofD (pe_glob (v := .int i) hg hm ⟨tk, rfl⟩ hd) fun s F H Q g w q => q _ F H (.refl g.h) (.int i)

/-! ### argument lists, displays -/
theorem a_nil : EA X B G [] (is []) := PA.weak pa_nil fun s H Q ⟨F, g, w, q⟩ => q [] [] F H rfl g (Same.refl _) w rfl
theorem Sat.popsN {F H : Hp} {s : L2.St} : ∀ {ts : List Sl} {vs : List V}, Sat B F H (vs.map some ++ s) (ts ++ G) → ts.length = vs.length → Sat B F H s G
  | [], [], h, _ => h
  | t :: ts, v :: vs, h, e => Sat.popsN (ts := ts) (vs := vs) (Sat.pop h) (by simpa using e)
  | [], _ :: _, _, e => by simp at e
  | _ :: _, [], _, e => by simp at e
/-- what is not owned goes along -/
def Imm (F : Hp) (v : V) : Sl → Prop
  | .dat d => Rp F v d
  | .bk C c k => BkAt C F v c k
  | .adr p => v = .ref p
  | _ => False
theorem Imm.mono {F F' : Hp} {v : V} (e : Same F F') : ∀ {t : Sl}, Imm F v t → Imm F' v t
  | .dat _, h => Rp.mono e h
  | .bk _ _ _, h => BkAt.mono e h
  | .adr _, h => h
  | .any, h => h
  | .own _, h => h
  | .dic _, h => h
  | .box _, h => h
  | .ob _ _ _, h => h
theorem Sat.pushI {F H : Hp} {s : L2.St} {v : V} {t : Sl} (w : Sat B F H s G) (h : Imm F v t) : Sat B F H (some v :: s) (t :: G) := by
  cases t with
  | dat d => exact w.pushD h
  | bk C c k => exact w.push rfl fun _ => ⟨v, rfl, h⟩
  | adr p => exact w.push rfl fun _ => congrArg some h
  | any => exact h.elim
  | own _ => exact h.elim
  | dic _ => exact h.elim
  | box _ => exact h.elim
  | ob _ _ _ => exact h.elim
def Sl.imm : Sl → Bool
  | .dat _ => true
  | .adr _ => true
  | .bk _ _ _ => true
  | _ => false
theorem Sat.topI {F H : Hp} {s : L2.St} {v : V} {t : Sl} (w : Sat B F H (some v :: s) (t :: G)) (h : t.imm = true) : Imm F v t := by
  obtain ⟨a, q⟩ := w.top
  cases t with
  | dat d =>
    obtain ⟨v', e, r⟩ := q
    cases e
    exact r
  | bk C c k =>
    obtain ⟨v', e, r⟩ := q
    cases e
    exact r
  | adr p => exact Option.some.inj q
  | any => cases h
  | own _ => cases h
  | dic _ => cases h
  | box _ => cases h
  | ob _ _ _ => cases h
/-- values of immutable words, all at one -/
def Imms (F : Hp) : List V → List Sl → Prop
  | [], [] => True
  | v :: vs, t :: ts => Imm F v t ∧ Imms F vs ts
  | _, _ => False
theorem Imms.mono {F F' : Hp} (e : Same F F') : ∀ {vs : List V} {ts : List Sl}, Imms F vs ts → Imms F' vs ts
  | [], [], _ => trivial
  | _ :: _, _ :: _, h => ⟨Imm.mono e h.1, Imms.mono e h.2⟩
  | [], _ :: _, h => h.elim
  | _ :: _, [], h => h.elim
theorem Imms.len {F : Hp} : ∀ {vs : List V} {ts : List Sl}, Imms F vs ts → vs.length = ts.length
  | [], [], _ => rfl
  | _ :: _, _ :: _, h => by rw [List.length_cons, List.length_cons, Imms.len h.2]
  | [], _ :: _, h => h.elim
  | _ :: _, [], h => h.elim
theorem Imms.rps {F : Hp} : ∀ {vs : List V} {ds : List PyData}, Imms F vs (ds.map Sl.dat) → Rps F vs ds
  | [], [], _ => .nil
  | _ :: _, _ :: _, h => .cons h.1 (Imms.rps h.2)
  | [], _ :: _, h => h.elim
  | _ :: _, [], h => h.elim
end
/-- arguments, all immutable, each one of P -/
def tAI (B : Bs) (G : En) (P : List Sl → Prop) : TA := fun s H Q => ∃ F, Good B F H ∧ Sat B F H s G ∧
  ∀ vs ts F' H', P ts → Good B F' H' → Same F F' → Sat B F' H' s G → Imms F' vs ts → Q vs H'
abbrev EAI (X : Cx) (B : Bs) (G : En) (es : List Expr) (P : List Sl → Prop) : Prop := PA X es (tAI B G P)
abbrev EVs (X : Cx) (B : Bs) (G : En) (es : List Expr) (ds : List PyData) : Prop := EAI X B G es (is (ds.map Sl.dat))
section
variable {X : Cx} {B : Bs} {G : En} {e a b c : Expr} {es : List Expr} {P Pa Pb : Sl → Prop} {Ps : List Sl → Prop} {d d' : PyData} {ds : List PyData} {pos : Pos}
theorem ai_nil : EAI X B G [] (is []) := PA.weak pa_nil fun s H Q ⟨F, g, w, q⟩ => q [] [] F H rfl g (Same.refl _) w trivial
theorem ai_cons (ha : EE X B G e Pa) (hr : EAI X B G es Ps) {Pr : List Sl → Prop} (hp : ∀ t ts, Pa t → Ps ts → t.imm = true ∧ Pr (t :: ts)) (hs : starEach (e :: es) X.env = (false, eval e X.env) :: starEach es X.env := by rfl) : EAI X B G (e :: es) Pr :=
  PA.weak (pa_cons ha hr hs) fun s H Q ⟨F, g, w, q⟩ => ⟨F, g, w, fun v t F1 H1 p1 g1 e1 w1 => ⟨F1, g1, w1.pop, fun vs ts F2 H2 p2 g2 e2 w2 i2 =>
    q (v :: vs) (t :: ts) F2 H2 (hp t ts p1 p2).2 g2 (e1.trans e2) w2 ⟨Imm.mono e2 (w1.topI (hp t ts p1 p2).1), i2⟩⟩⟩
/-- the data of written items -/
theorem vs_nil : EVs X B G [] [] := ai_nil
theorem vs_cons (ha : EV X B G e d) (hr : EVs X B G es ds) (hs : starEach (e :: es) X.env = (false, eval e X.env) :: starEach es X.env := by rfl) : EVs X B G (e :: es) (d :: ds) :=
  ai_cons ha hr (fun t ts p q => by
    rw [show t = Sl.dat d from p, show ts = ds.map Sl.dat from q]
    exact ⟨rfl, rfl⟩) hs
/-- (a, b, ..) -/
theorem e_tup {kk : Nat} (h : EVs X B G es ds) (hl : ds.length ≤ 100000 := by first | decide | simp) : EV X B G (.Tuple es kk pos) (.tuple ds) :=
  e_of (pe_tup h) fun s F H Q g w q => ⟨F, g, w, fun vs ts F1 H1 p1 g1 e1 w1 i1 => by
    rw [show ts = ds.map Sl.dat from p1] at i1
    have r := i1.rps
    refine ⟨by rw [r.length]; exact Nat.le_trans hl (by decide), fun p hp => ?_⟩
    have gr := Grow.new (o := .tup vs) g1.h hp
    exact q _ _ _ _ rfl (g1.grow gr) (e1.trans gr.f) ((w1.grow gr).pushD (.tup upd_same (r.mono gr.f)))⟩
/-- [a, b, ..] as data -/
theorem e_lst (h : EVs X B G es ds) (hl : ds.length ≤ 100000 := by first | decide | simp) : EV X B G (.List es pos) (.list ds) :=
  e_of (pe_lst h) fun s F H Q g w q => ⟨F, g, w, fun vs ts F1 H1 p1 g1 e1 w1 i1 => by
    rw [show ts = ds.map Sl.dat from p1] at i1
    have r := i1.rps
    refine ⟨by rw [r.length]; exact Nat.le_trans hl (by decide), fun p hp => ?_⟩
    have gr := Grow.new (o := .lst vs) g1.h hp
    exact q _ _ _ _ rfl (g1.grow gr) (e1.trans gr.f) ((w1.grow gr).pushD (.lst upd_same (r.mono gr.f)))⟩
/-- a new list, owned -/
theorem Sat.pushNew {F H : Hp} {s : L2.St} {p : Addr} {vs : List V} (g : Good B F H) (w : Sat B F H s G) (hp : H p = none) (r : Rps F vs ds) : Sat B F (upd H p (.lst vs)) (some (.ref p) :: s) (.own ds :: G) := by
  have gr := Grow.loose (o := .lst vs) g.h hp
  refine (w.grow gr).pushO ⟨rfl, g.h.free hp, g.m.free hp, vs, upd_same, r⟩ fun i u a e1 o1 e2 q => ?_
  obtain ⟨ad, w0⟩ := w
  obtain ⟨h1, _, _, z, h4⟩ := (w0.ok i u e1).here o1
  rw [e2] at h1
  cases h1
  rw [q, hp] at h4
  cases h4
theorem e_lstO (h : EVs X B G es ds) (hl : ds.length ≤ 100000 := by first | decide | simp) : EE X B G (.List es pos) (is (.own ds)) :=
  e_of (pe_lst h) fun s F H Q g w q => ⟨F, g, w, fun vs ts F1 H1 p1 g1 e1 w1 i1 => by
    rw [show ts = ds.map Sl.dat from p1] at i1
    have r := i1.rps
    refine ⟨by rw [r.length]; exact Nat.le_trans hl (by decide), fun p hp => ?_⟩
    exact q _ _ _ _ rfl (g1.grow (Grow.loose g1.h hp)) e1 (Sat.pushNew g1 w1 hp r)⟩
/-- an owned list is taken as a datum -/
theorem Sat.freeze {F H : Hp} {s : L2.St} {v : V} (g : Good B F H) (w : Sat B F H (some v :: s) (.own ds :: G)) : ∃ F', Good B F' H ∧ Same F F' ∧ Sat B F' H (some v :: s) (.dat (.list ds) :: G) := by
  obtain ⟨ad, w0⟩ := id w
  have h0 := w0.ok 0 _ rfl
  obtain ⟨e, h2, h3, vs, h4, h5⟩ := h0
  have e' : v = .ref (ad 0) := Option.some.inj e
  subst e'
  have sf : Same F (upd F (ad 0) (.lst vs)) := same_upd h2
  refine ⟨upd F (ad 0) (.lst vs), ⟨g.f.trans sf, fun b x q => ?_, g.m, fun a o q n => ?_⟩, sf, ?_⟩
  · by_cases z : b = ad 0
    · subst z
      rw [upd_same] at q
      rw [h4]
      exact q
    · rw [upd_ne z] at q
      exact g.h _ _ q
  · by_cases z : a = ad 0
    · rw [z]
      exact .inl h3
    · rw [upd_ne z] at q
      exact g.n _ _ q n
  · have w1 : Sat B (upd F (ad 0) (.lst vs)) H s G := by
      refine ⟨fun i => ad (i + 1), by have := w0.len; simpa using this, fun i u e1 => ?_, fun i j u x e1 e2 o1 o2 z => ?_⟩
      · have q := w0.ok (i + 1) u (by simpa using e1)
        have q' : SlOk B F H (s[i]?.join) (ad (i + 1)) u := by simpa using q
        refine q'.go sf fun o => ⟨rfl, ?_⟩
        rw [upd_ne fun z => ?_]
        · exact (q'.here o).2.1
        · have := w0.inj (i + 1) 0 u _ (by simpa using e1) rfl o rfl z
          omega
      · have := w0.inj (i + 1) (j + 1) u x (by simpa using e1) (by simpa using e2) o1 o2 z
        omega
    exact w1.pushD (.lst upd_same (h5.mono sf))
theorem e_frz (h : EE X B G e (is (.own ds))) : EV X B G e (.list ds) :=
  e_of h fun s F H Q g w q => ⟨F, g, w, fun v t F1 H1 p1 g1 e1 w1 => by
    rw [show t = Sl.own ds from p1] at w1
    obtain ⟨F2, g2, e2, w2⟩ := Sat.freeze g1 w1
    exact q v _ F2 H1 rfl g2 (e1.trans e2) w2⟩

/-! ### operations on data -/
/-- a rule r of two values takes data d and e to d' -/
def DOp (r : R2) (d e : PyData) (d' : PyData) : Prop := ∀ (F H : Hp) (x y : V) (Q : VK), Same F H → Rp F x d → Rp F y e → (∀ v F' H', Grow F H F' H' → Rp F' v d' → Q v H') → r x y H Q
theorem e_op2 {r : R2} {op : Operator} (ho : OpR X (binaryOp op) r) (ha : EE X B G a Pa) (hb : EE X B G b Pb) (hr : ∀ t u, Pa t → Pb u → ∃ d e d', t = .dat d ∧ u = .dat e ∧ DOp r d e d' ∧ P (.dat d')) : EE X B G (.BinOp a op b pos) P :=
  e_of (pe_op ho ha hb) fun s F H Q g w q => ⟨F, g, w, fun x t F1 H1 p1 g1 e1 w1 => ⟨F1, g1, w1.pop, fun y u F2 H2 p2 g2 e2 w2 => by
    obtain ⟨d, e, d', rfl, rfl, D, pp⟩ := hr t u p1 p2
    refine D F2 H2 x y Q g2.h (Rp.mono e2 (w1.topI rfl)) (w2.topI rfl) fun v F3 H3 gr r3 => ?_
    exact q v _ F3 H3 pp (g2.grow gr) ((e1.trans e2).trans gr.f) ((w2.pop.grow gr).pushD r3)⟩⟩
theorem e_op {r : R2} {op : Operator} {d1 d2 : PyData} (D : DOp r d1 d2 d) (ho : OpR X (binaryOp op) r) (ha : EV X B G a d1) (hb : EV X B G b d2) : EV X B G (.BinOp a op b pos) d :=
  e_op2 ho ha hb fun t u p q => ⟨d1, d2, d, p, q, D, rfl⟩
theorem e_cmp2 {r : R2} {op : CmpOp} (ho : OpR X (compareOp op) r) (hm : behindInMarks op b = false) (ha : EE X B G a Pa) (hb : EE X B G b Pb) (hr : ∀ t u, Pa t → Pb u → ∃ d e d', t = .dat d ∧ u = .dat e ∧ DOp r d e d' ∧ P (.dat d')) : EE X B G (.Compare a [op] [b] pos) P :=
  e_of (pe_cmpR ho ha hb hm) fun s F H Q g w q => ⟨F, g, w, fun x t F1 H1 p1 g1 e1 w1 => ⟨F1, g1, w1.pop, fun y u F2 H2 p2 g2 e2 w2 => by
    obtain ⟨d, e, d', rfl, rfl, D, pp⟩ := hr t u p1 p2
    refine D F2 H2 x y Q g2.h (Rp.mono e2 (w1.topI rfl)) (w2.topI rfl) fun v F3 H3 gr r3 => ?_
    exact q v _ F3 H3 pp (g2.grow gr) ((e1.trans e2).trans gr.f) ((w2.pop.grow gr).pushD r3)⟩⟩
theorem e_cmp {r : R2} {op : CmpOp} {d1 d2 : PyData} (D : DOp r d1 d2 d) (ho : OpR X (compareOp op) r) (hm : behindInMarks op b = false) (ha : EV X B G a d1) (hb : EV X B G b d2) : EV X B G (.Compare a [op] [b] pos) d :=
  e_cmp2 ho hm ha hb fun t u p q => ⟨d1, d2, d, p, q, D, rfl⟩
/-- a value as a test -/
theorem t_of {Pb : Bool → Prop} (h : EE X B G e P) (hp : ∀ t, P t → ∃ k, t = .dat (.bool k) ∧ Pb k) (he : ∀ whole, isTrue e X.env whole = (do let v ← whole; standAt e.pos; holding [v] (truthy v)) := by intro _; rfl) : ET X B G e Pb :=
  PT.weak (pt_val h he) fun s H Q ⟨F, g, w, q⟩ => ⟨F, g, w, fun v t F1 H1 p1 g1 e1 w1 => by
    obtain ⟨k, rfl, pk⟩ := hp t p1
    have r : Rp F1 v (.bool k) := w1.topI rfl
    cases r
    exact ⟨k, rfl, q k F1 H1 pk g1 e1 w1.pop⟩⟩
theorem t_val {k : Bool} (h : EV X B G e (.bool k)) (he : ∀ whole, isTrue e X.env whole = (do let v ← whole; standAt e.pos; holding [v] (truthy v)) := by intro _; rfl) : ET X B G e (is k) :=
  t_of h (fun t p => ⟨k, p, rfl⟩) he
theorem tt_cmp2 {te : TE} (h : PT X e (tTest te)) {Pb : Bool → Prop} (k : ∀ s F H Q, Good B F H → Sat B F H s G → (∀ x F' H', Pb x → Good B F' H' → Same F F' → Sat B F' H' s G → Q (.bl x) H') → te s H Q) : ET X B G e Pb :=
  PT.weak h fun s H Q ⟨F, g, w, q⟩ => k s F H _ g w fun x F' H' p g' e' w' => ⟨x, rfl, q x F' H' p g' e' w'⟩
theorem t_cmp2 {r : R2} {op : CmpOp} {Pk : Bool → Prop} (ho : OpR X (compareOp op) r) (hm : behindInMarks op b = false) (ha : EE X B G a Pa) (hb : EE X B G b Pb) (hr : ∀ t u, Pa t → Pb u → ∃ d e k, t = .dat d ∧ u = .dat e ∧ DOp r d e (.bool k) ∧ Pk k) : ET X B G (.Compare a [op] [b] pos) Pk :=
  tt_cmp2 (pt_cmpR ho ha hb hm) fun s F H Q g w q => ⟨F, g, w, fun x t F1 H1 p1 g1 e1 w1 => ⟨F1, g1, w1.pop, fun y u F2 H2 p2 g2 e2 w2 => by
    obtain ⟨d, e, k, rfl, rfl, D, pp⟩ := hr t u p1 p2
    refine D F2 H2 x y Q g2.h (Rp.mono e2 (w1.topI rfl)) (w2.topI rfl) fun v F3 H3 gr r3 => ?_
    cases r3
    exact q k F3 H3 pp (g2.grow gr) ((e1.trans e2).trans gr.f) (w2.pop.grow gr)⟩⟩
theorem t_cmp {r : R2} {op : CmpOp} {d1 d2 : PyData} {k : Bool} (D : DOp r d1 d2 (.bool k)) (ho : OpR X (compareOp op) r) (hm : behindInMarks op b = false) (ha : EV X B G a d1) (hb : EV X B G b d2) : ET X B G (.Compare a [op] [b] pos) (is k) :=
  t_cmp2 ho hm ha hb fun t u p q => ⟨d1, d2, k, p, q, D, rfl⟩
/-- not, and, or -/
theorem t_not {x : Bool} (h : ET X B G e (is x)) : ET X B G (.UnaryOp .Not e pos) (is (!x)) :=
  PT.weak (pt_not h) fun s H Q ⟨F, g, w, q⟩ => ⟨F, g, w, fun b F1 H1 p1 g1 e1 w1 => q _ F1 H1 (by rw [show b = x from p1]) g1 e1 w1⟩
structure EW (X : Cx) (B : Bs) (G : En) (e : Expr) (x : Bool) : Prop where
  w : PW X e (tT B G (is x))
theorem PW.weak {X : Cx} {e : Expr} {t t' : TT} (h : PW X e t) (k : ∀ s H Q, t' s H Q → t s H Q) : PW X e t' := ⟨fun wh pins s σ H Q I q => h.run wh pins s σ H Q I (k _ _ _ q)⟩
theorem w_and1 {x : Bool} (h : ET X B G a (is x)) : EW X B G (.BoolOp .And [a] pos) x := ⟨pw_and1 h⟩
theorem w_or1 {x : Bool} (h : ET X B G a (is x)) : EW X B G (.BoolOp .Or [a] pos) x := ⟨pw_or1 h⟩
theorem w_and {x y : Bool} {rest : List Expr} (h : ET X B G a (is x)) (h2 : x = true → EW X B G (.BoolOp .And (b :: rest) pos) y) : EW X B G (.BoolOp .And (a :: b :: rest) pos) (x && y) := by
  cases x with
  | true => exact ⟨PW.weak (pw_and h (h2 rfl).w) fun s H Q ⟨F, g, w, q⟩ => ⟨F, g, w, fun k F1 H1 p1 g1 e1 w1 => by
      rw [show k = true from p1]
      refine iteT ?_
      exact ⟨F1, g1, w1, fun k2 F2 H2 p2 g2 e2 w2 => q k2 F2 H2 p2 g2 (e1.trans e2) w2⟩⟩⟩
  | false => exact ⟨PW.weak (pw_and h (tB' := fun _ _ _ => False) ⟨fun _ _ _ _ _ _ _ z => z.elim⟩) fun s H Q ⟨F, g, w, q⟩ => ⟨F, g, w, fun k F1 H1 p1 g1 e1 w1 => by
      rw [show k = false from p1]
      refine iteF ?_
      exact q false F1 H1 rfl g1 e1 w1⟩⟩
theorem w_or {x y : Bool} {rest : List Expr} (h : ET X B G a (is x)) (h2 : x = false → EW X B G (.BoolOp .Or (b :: rest) pos) y) : EW X B G (.BoolOp .Or (a :: b :: rest) pos) (x || y) := by
  cases x with
  | false => exact ⟨PW.weak (pw_or h (h2 rfl).w) fun s H Q ⟨F, g, w, q⟩ => ⟨F, g, w, fun k F1 H1 p1 g1 e1 w1 => by
      rw [show k = false from p1]
      refine iteF ?_
      exact ⟨F1, g1, w1, fun k2 F2 H2 p2 g2 e2 w2 => q k2 F2 H2 p2 g2 (e1.trans e2) w2⟩⟩⟩
  | true => exact ⟨PW.weak (pw_or h (tB' := fun _ _ _ => False) ⟨fun _ _ _ _ _ _ _ z => z.elim⟩) fun s H Q ⟨F, g, w, q⟩ => ⟨F, g, w, fun k F1 H1 p1 g1 e1 w1 => by
      rw [show k = true from p1]
      refine iteT ?_
      exact q true F1 H1 rfl g1 e1 w1⟩⟩
theorem t_bool {x : Bool} (h : EW X B G e x) : ET X B G e (is x) := h.w.pt
/-- and, or, not as values -/
theorem e_one {op : BoolOp} (h : EV X B G a d) : EV X B G (.BoolOp op [a] pos) d := PE.weak (pe_one h) fun _ _ _ q => q
theorem e_and {x y : Bool} {rest : List Expr} (h : EV X B G a (.bool x)) (h2 : x = true → EV X B G (.BoolOp .And (b :: rest) pos) (.bool y)) : EV X B G (.BoolOp .And (a :: b :: rest) pos) (.bool (x && y)) := by
  cases x with
  | true => exact PE.weak (pe_and h (h2 rfl)) fun s H Q ⟨F, g, w, q⟩ => ⟨F, g, w, fun v t F1 H1 p1 g1 e1 w1 => by
      rw [show t = Sl.dat (.bool true) from p1] at w1
      have r : Rp F1 v (.bool true) := w1.topI rfl
      cases r
      refine ⟨true, rfl, ?_⟩
      refine iteT ?_
      exact ⟨F1, g1, w1.pop, fun v2 t2 F2 H2 p2 g2 e2 w2 => q v2 t2 F2 H2 p2 g2 (e1.trans e2) w2⟩⟩
  | false => exact PE.weak (pe_and h (tb := fun _ _ _ => False) ⟨fun _ _ _ _ _ _ z => z.elim⟩) fun s H Q ⟨F, g, w, q⟩ => ⟨F, g, w, fun v t F1 H1 p1 g1 e1 w1 => by
      rw [show t = Sl.dat (.bool false) from p1] at w1
      have r : Rp F1 v (.bool false) := w1.topI rfl
      cases r
      refine ⟨false, rfl, ?_⟩
      refine iteF ?_
      exact q _ _ F1 H1 rfl g1 e1 (w1.pop.pushD (.bl false))⟩
theorem e_not {x : Bool} (h : EV X B G e (.bool x)) : EV X B G (.UnaryOp .Not e pos) (.bool (!x)) :=
  e_of (pe_not h) fun s F H Q g w q => ⟨F, g, w, fun v t F1 H1 p1 g1 e1 w1 => by
    rw [show t = Sl.dat (.bool x) from p1] at w1
    have r : Rp F1 v (.bool x) := w1.topI rfl
    cases r
    exact ⟨x, rfl, q _ _ F1 H1 rfl g1 e1 (w1.pop.pushD (.bl _))⟩⟩
/-- a if t else b -/
theorem e_if {x : Bool} (h : ET X B G c (is x)) (ha : x = true → EE X B G a P) (hb : x = false → EE X B G b P) : EE X B G (.IfExp c a b pos) P := by
  cases x with
  | true => exact PE.weak (pe_ifExp h (ha rfl) (tb := fun _ _ _ => False) ⟨fun _ _ _ _ _ _ z => z.elim⟩) fun s H Q ⟨F, g, w, q⟩ => ⟨F, g, w, fun k F1 H1 p1 g1 e1 w1 => by
      rw [show k = true from p1]
      refine iteT ?_
      exact ⟨F1, g1, w1, fun v2 t2 F2 H2 p2 g2 e2 w2 => q v2 t2 F2 H2 p2 g2 (e1.trans e2) w2⟩⟩
  | false => exact PE.weak (pe_ifExp h (ta := fun _ _ _ => False) ⟨fun _ _ _ _ _ _ z => z.elim⟩ (hb rfl)) fun s H Q ⟨F, g, w, q⟩ => ⟨F, g, w, fun k F1 H1 p1 g1 e1 w1 => by
      rw [show k = false from p1]
      refine iteF ?_
      exact ⟨F1, g1, w1, fun v2 t2 F2 H2 p2 g2 e2 w2 => q v2 t2 F2 H2 p2 g2 (e1.trans e2) w2⟩⟩
end
end Mk
namespace Mk
open PySem L2

/-! ### plain data: ints, texts, None, tuples and lists of these -/
mutual
def pl : PyData → Bool
  | .none => true
  | .int _ => true
  | .tuple xs => plAll xs
  | .list xs => plAll xs
  | .bool _ => false
  | .str _ => false
  | .dict _ => false
def plAll : List PyData → Bool
  | [] => true
  | x :: xs => pl x && plAll xs
end
mutual
theorem eqv_iff : ∀ (d e : PyData), pl d = true → pl e = true → (PyData.eqv d e = true ↔ d = e)
  | .none, e, _, h => by cases e <;> simp [PyData.eqv, pl] at *
  | .int i, e, _, h => by cases e <;> simp [PyData.eqv, pl] at *
  | .tuple xs, e, h, h2 => by
    cases e with
    | tuple ys =>
      simp only [PyData.eqv, PyData.tuple.injEq]
      exact eqvAll_iff xs ys (by simpa [pl] using h) (by simpa [pl] using h2)
    | _ => simp [PyData.eqv, pl] at *
  | .list xs, e, h, h2 => by
    cases e with
    | list ys =>
      simp only [PyData.eqv, PyData.list.injEq]
      exact eqvAll_iff xs ys (by simpa [pl] using h) (by simpa [pl] using h2)
    | _ => simp [PyData.eqv, pl] at *
  | .bool _, _, h, _ => by simp [pl] at h
  | .str _, _, h, _ => by simp [pl] at h
  | .dict _, _, h, _ => by simp [pl] at h
theorem eqvAll_iff : ∀ (xs ys : List PyData), plAll xs = true → plAll ys = true → (PyData.eqvAll xs ys = true ↔ xs = ys)
  | [], [], _, _ => by simp [PyData.eqvAll]
  | [], _ :: _, _, _ => by simp [PyData.eqvAll]
  | _ :: _, [], _, _ => by simp [PyData.eqvAll]
  | x :: xs, y :: ys, h, h2 => by
    simp only [plAll, Bool.and_eq_true] at h h2
    simp only [PyData.eqvAll, Bool.and_eq_true, List.cons.injEq]
    rw [eqv_iff x y h.1 h2.1, eqvAll_iff xs ys h.2 h2.2]
end
mutual
theorem pl_lay : ∀ d : PyData, pl d = true → d.canLay0 = true
  | .none, _ => by simp [PyData.canLay0]
  | .int _, _ => by simp [PyData.canLay0]
  | .tuple xs, h => by simpa [PyData.canLay0] using plAll_lay xs (by simpa [pl] using h)
  | .list xs, h => by simpa [PyData.canLay0] using plAll_lay xs (by simpa [pl] using h)
  | .bool _, h => by simp [pl] at h
  | .str _, h => by simp [pl] at h
  | .dict _, h => by simp [pl] at h
theorem plAll_lay : ∀ xs : List PyData, plAll xs = true → PyData.canLayAll0 xs = true
  | [], _ => by simp [PyData.canLayAll0]
  | x :: xs, h => by
    simp only [plAll, Bool.and_eq_true] at h
    simp [PyData.canLayAll0, pl_lay x h.1, plAll_lay xs h.2]
end
/-- plain, of a depth to n -/
structure Fl (n : Nat) (d : PyData) : Prop where
  p : pl d = true
  d : d.depth ≤ n
theorem Fl.sh {n : Nat} {d : PyData} (h : Fl n d) (hn : n ≤ 64 := by decide) : SeqAt.shaped d = true := by
  show (d.canLay0 && decide (d.depth ≤ 64)) = true
  rw [pl_lay d h.p, decide_eq_true (Nat.le_trans h.d hn)]
  rfl
theorem Fl.mono {n m : Nat} {d : PyData} (h : Fl n d) (l : n ≤ m) : Fl m d := ⟨h.p, Nat.le_trans h.d l⟩
theorem fl_int (i : Int) : Fl 0 (.int i) := ⟨by simp [pl], by simp [PyData.depth]⟩
theorem fl_non : Fl 0 .none := ⟨by simp [pl], by simp [PyData.depth]⟩
theorem plAll_of {ds : List PyData} {n : Nat} (h : ∀ d ∈ ds, Fl n d) : plAll ds = true ∧ PyData.depthAll ds ≤ n := by
  induction ds with
  | nil => exact ⟨by simp [plAll], by simp [PyData.depthAll]⟩
  | cons d ds ih =>
    obtain ⟨h1, h2⟩ := ih fun e he => h e (List.mem_cons_of_mem _ he)
    have h0 := h d List.mem_cons_self
    refine ⟨by simp [plAll, h0.p, h1], ?_⟩
    have := h0.d
    simp only [PyData.depthAll]
    omega
theorem fl_tup {ds : List PyData} {n : Nat} (h : ∀ d ∈ ds, Fl n d) : Fl (n + 1) (.tuple ds) := by
  obtain ⟨h1, h2⟩ := plAll_of h
  exact ⟨by simpa [pl] using h1, by simp only [PyData.depth]; omega⟩
theorem fl_lst {ds : List PyData} {n : Nat} (h : ∀ d ∈ ds, Fl n d) : Fl (n + 1) (.list ds) := by
  obtain ⟨h1, h2⟩ := plAll_of h
  exact ⟨by simpa [pl] using h1, by simp only [PyData.depth]; omega⟩
theorem Fl.items {ds : List PyData} {n : Nat} (h : Fl (n + 1) (.list ds)) : plAll ds = true ∧ PyData.depthAll ds ≤ n := ⟨by simpa [pl] using h.p, by have := h.d; simp only [PyData.depth] at this; omega⟩

/-! ### the forms: a row of numbers, a list of rows .. -/
abbrev eI (i : Int) : PyData := .int i
def eT (ns : List Int) : PyData := .tuple (ns.map .int)
def eTs (rs : List (List Int)) : PyData := .tuple (rs.map eT)
def eLs (rs : List (List Int)) : PyData := .list (rs.map eT)
def eLi (ns : List Int) : PyData := .list (ns.map .int)
theorem map_int_inj : ∀ {a b : List Int}, a.map PyData.int = b.map PyData.int → a = b
  | [], [], _ => rfl
  | [], _ :: _, h => by simp at h
  | _ :: _, [], h => by simp at h
  | x :: a, y :: b, h => by
    simp only [List.map_cons, List.cons.injEq, PyData.int.injEq] at h
    rw [h.1, map_int_inj h.2]
theorem eT_inj {a b : List Int} : eT a = eT b ↔ a = b := by
  refine ⟨fun h => ?_, fun h => by rw [h]⟩
  unfold eT at h
  simp only [PyData.tuple.injEq] at h
  exact map_int_inj h
theorem map_eT_inj : ∀ {a b : List (List Int)}, a.map eT = b.map eT → a = b
  | [], [], _ => rfl
  | [], _ :: _, h => by simp at h
  | _ :: _, [], h => by simp at h
  | x :: a, y :: b, h => by
    simp only [List.map_cons, List.cons.injEq] at h
    rw [eT_inj.mp h.1, map_eT_inj h.2]
theorem eTs_inj {a b : List (List Int)} : eTs a = eTs b ↔ a = b := by
  refine ⟨fun h => ?_, fun h => by rw [h]⟩
  unfold eTs at h
  simp only [PyData.tuple.injEq] at h
  exact map_eT_inj h
theorem eLs_inj {a b : List (List Int)} : eLs a = eLs b ↔ a = b := by
  refine ⟨fun h => ?_, fun h => by rw [h]⟩
  unfold eLs at h
  simp only [PyData.list.injEq] at h
  exact map_eT_inj h
theorem fl_eT (ns : List Int) : Fl 1 (eT ns) := fl_tup fun d hd => by
  obtain ⟨i, _, rfl⟩ := List.mem_map.mp hd
  exact fl_int i
theorem fl_eTs (rs : List (List Int)) : Fl 2 (eTs rs) := fl_tup fun d hd => by
  obtain ⟨i, _, rfl⟩ := List.mem_map.mp hd
  exact fl_eT i
theorem fl_eLs (rs : List (List Int)) : Fl 2 (eLs rs) := fl_lst fun d hd => by
  obtain ⟨i, _, rfl⟩ := List.mem_map.mp hd
  exact fl_eT i
theorem fl_eLi (ns : List Int) : Fl 1 (eLi ns) := fl_lst fun d hd => by
  obtain ⟨i, _, rfl⟩ := List.mem_map.mp hd
  exact fl_int i
theorem eqv_of {d e : PyData} {n m : Nat} (h : Fl n d) (h2 : Fl m e) {p : Prop} [Decidable p] (k : d = e ↔ p) : PyData.eqv d e = decide p := by
  have q := (eqv_iff d e h.p h2.p).trans k
  by_cases hp : p
  · rw [decide_eq_true hp]
    exact q.mpr hp
  · rw [decide_eq_false hp]
    cases z : PyData.eqv d e with
    | false => rfl
    | true => exact absurd (q.mp z) hp
theorem any_iff {β : Type} {f : β → PyData} {n : Nat} (hf : ∀ b, Fl n (f b)) (inj : ∀ a b, f a = f b ↔ a = b) (x : β) (bs : List β) : (((bs.map f).any fun z => PyData.eqv z (f x)) = true) ↔ x ∈ bs := by
  rw [List.any_eq_true]
  constructor
  · rintro ⟨z, hz, q⟩
    obtain ⟨b, hb, rfl⟩ := List.mem_map.mp hz
    have e := (inj b x).mp ((eqv_iff _ _ (hf b).p (hf x).p).mp q)
    rw [← e]
    exact hb
  · intro h
    exact ⟨f x, List.mem_map.mpr ⟨x, h, rfl⟩, (eqv_iff _ _ (hf x).p (hf x).p).mpr rfl⟩
theorem bool_of {k : Bool} {p : Prop} [Decidable p] (h : k = true ↔ p) : k = decide p := by
  by_cases hp : p
  · rw [decide_eq_true hp]
    exact h.mpr hp
  · rw [decide_eq_false hp]
    cases k with
    | false => rfl
    | true => exact absurd (h.mp rfl) hp
theorem any_eT (x : List Int) (bs : List (List Int)) : ((bs.map eT).any fun z => PyData.eqv z (eT x)) = decide (x ∈ bs) := bool_of (any_iff fl_eT (fun _ _ => eT_inj) x bs)
theorem any_eI (x : Int) (bs : List Int) : ((bs.map PyData.int).any fun z => PyData.eqv z (.int x)) = decide (x ∈ bs) := bool_of (any_iff fl_int (fun _ _ => by simp) x bs)

/-! ### rules by data -/
theorem dI {g : Int → Int → V} {i j : Int} {d : PyData} (h : ∀ F, Rp F (g i j) d) : DOp (rI0 g) (.int i) (.int j) d := fun F H x y Q hs rx ry q => by
  cases rx
  cases ry
  exact ⟨i, j, rfl, rfl, q _ F H (.refl hs) (h F)⟩
theorem dIc {C : Int → Int → Prop} {g : Int → Int → V} {i j : Int} {d : PyData} (hc : C i j) (h : ∀ F, Rp F (g i j) d) : DOp (rI C g) (.int i) (.int j) d := fun F H x y Q hs rx ry q => by
  cases rx
  cases ry
  exact ⟨i, j, rfl, rfl, hc, q _ F H (.refl hs) (h F)⟩
theorem dEq {K : PySem.W.Frag} {d e : PyData} {n m : Nat} (h1 : Fl n d) (h2 : Fl m e) (l1 : n ≤ 64 := by decide) (l2 : m ≤ 64 := by decide) : DOp (rEqD K) d e (.bool (PyData.eqv d e)) := fun F H x y Q hs rx ry q =>
  ⟨d, e, rx.dp hs, ry.dp hs, h1.sh l1, h2.sh l2, q _ F H (.refl hs) (.bl _)⟩
theorem dNe {K : PySem.W.Frag} {d e : PyData} {n m : Nat} (h1 : Fl n d) (h2 : Fl m e) (l1 : n ≤ 64 := by decide) (l2 : m ≤ 64 := by decide) : DOp (rNeD K) d e (.bool (!PyData.eqv d e)) := fun F H x y Q hs rx ry q =>
  ⟨d, e, rx.dp hs, ry.dp hs, h1.sh l1, h2.sh l2, q _ F H (.refl hs) (.bl _)⟩
theorem dInL {K : PySem.W.Frag} {d : PyData} {ds : List PyData} {n m : Nat} (h1 : Fl n d) (h2 : Fl m (.list ds)) (l1 : n ≤ 64 := by decide) (l2 : m ≤ 64 := by decide) : DOp (rInD K) d (.list ds) (.bool (ds.any fun z => PyData.eqv z d)) := fun F H x y Q hs rx ry q =>
  ⟨d, ds, rx.dp hs, ry.dp hs, h1.sh l1, h2.sh l2, q _ F H (.refl hs) (.bl _)⟩
theorem dNotInL {K : PySem.W.Frag} {d : PyData} {ds : List PyData} {n m : Nat} (h1 : Fl n d) (h2 : Fl m (.list ds)) (l1 : n ≤ 64 := by decide) (l2 : m ≤ 64 := by decide) : DOp (rNotInD K) d (.list ds) (.bool (!ds.any fun z => PyData.eqv z d)) := fun F H x y Q hs rx ry q =>
  ⟨d, ds, rx.dp hs, ry.dp hs, h1.sh l1, h2.sh l2, q _ F H (.refl hs) (.bl _)⟩
/-- x in t, x not in t of a tuple -/
def rInT (K : PySem.W.Frag) (neg : Bool) : R2 := fun x y H Q => ∃ d ds, Dp K H x d ∧ Dp K H y (.tuple ds) ∧ SeqAt.shaped d = true ∧ SeqAt.shaped (.tuple ds) = true ∧ Q (.bl (if neg then !(ds.any fun z => PyData.eqv z d) else ds.any fun z => PyData.eqv z d)) H
theorem op_inT {X : Cx} (hu : X.A.units + 65 < cLine) : OpR X (compareOp .In) (rInT X.K false) := by
  intro pins s σ H x y v u Q I rx ry h
  obtain ⟨d, ds, hd, he, sd, se, q⟩ := h
  obtain ⟨as, r1⟩ := Dp.reads I d x v hd rx
  obtain ⟨bs, r2⟩ := Dp.reads I (.tuple ds) y u he ry
  refine SeqAt.in_tuple_reads r2 r1 ?_ (SeqAt.canLay_of_shaped sd) (PyProof.Rows.room_in_shaped sd hu) ⟨.bl _, H, I, rfl, q⟩
  have := SeqAt.canLay_of_shaped se
  simpa [PyData.canLay0] using this
theorem op_notInT {X : Cx} (hu : X.A.units + 65 < cLine) : OpR X (compareOp .NotIn) (rInT X.K true) := by
  intro pins s σ H x y v u Q I rx ry h
  obtain ⟨d, ds, hd, he, sd, se, q⟩ := h
  obtain ⟨as, r1⟩ := Dp.reads I d x v hd rx
  obtain ⟨bs, r2⟩ := Dp.reads I (.tuple ds) y u he ry
  refine SeqAt.notIn_tuple_reads r2 r1 ?_ (SeqAt.canLay_of_shaped sd) (PyProof.Rows.room_in_shaped sd hu) ⟨.bl _, H, I, rfl, q⟩
  have := SeqAt.canLay_of_shaped se
  simpa [PyData.canLay0] using this
theorem dInT {K : PySem.W.Frag} {d : PyData} {ds : List PyData} {n m : Nat} (h1 : Fl n d) (h2 : Fl m (.tuple ds)) (l1 : n ≤ 64 := by decide) (l2 : m ≤ 64 := by decide) : DOp (rInT K false) d (.tuple ds) (.bool (ds.any fun z => PyData.eqv z d)) := fun F H x y Q hs rx ry q =>
  ⟨d, ds, rx.dp hs, ry.dp hs, h1.sh l1, h2.sh l2, q _ F H (.refl hs) (.bl _)⟩
theorem dNotInT {K : PySem.W.Frag} {d : PyData} {ds : List PyData} {n m : Nat} (h1 : Fl n d) (h2 : Fl m (.tuple ds)) (l1 : n ≤ 64 := by decide) (l2 : m ≤ 64 := by decide) : DOp (rInT K true) d (.tuple ds) (.bool (!ds.any fun z => PyData.eqv z d)) := fun F H x y Q hs rx ry q =>
  ⟨d, ds, rx.dp hs, ry.dp hs, h1.sh l1, h2.sh l2, q _ F H (.refl hs) (.bl _)⟩
/-- a < b of alike data -/
def rLtD (K : PySem.W.Frag) : R2 := fun x y H Q => ∃ d e, Dp K H x d ∧ Dp K H y e ∧ PySem.W.alike d e = true ∧ d ≠ .none ∧ d.depth ≤ 60 ∧ Q (.bl (PySem.W.dataLt d e)) H
theorem op_ltD {X : Cx} (hu : X.A.units + 65 < cLine) : OpR X (compareOp .Lt) (rLtD X.K) := by
  intro pins s σ H x y v u Q I rx ry h
  obtain ⟨d, e, hd, he, al, nn, dp, q⟩ := h
  obtain ⟨as, r1⟩ := Dp.reads I d x v hd rx
  obtain ⟨bs, r2⟩ := Dp.reads I e y u he ry
  exact PySem.W.lt_data r1 r2 al nn (by have := Nat.min_le_left d.depth e.depth; omega) ⟨.bl _, H, I, rfl, q⟩
theorem dLt {K : PySem.W.Frag} {d e : PyData} (al : PySem.W.alike d e = true) (nn : d ≠ .none) (dp : d.depth ≤ 60) : DOp (rLtD K) d e (.bool (PySem.W.dataLt d e)) := fun F H x y Q hs rx ry q =>
  ⟨d, e, rx.dp hs, ry.dp hs, al, nn, dp, q _ F H (.refl hs) (.bl _)⟩
/-- list + list, tuple + tuple -/
theorem dCat {ds es : List PyData} (hl : ds.length + es.length ≤ 100000) : DOp rCat (.list ds) (.list es) (.list (ds ++ es)) := fun F H x y Q hs rx ry q => by
  cases rx with
  | @lst a xs _ h1 r1 =>
    cases ry with
    | @lst b ys _ h2 r2 =>
      refine ⟨_, _, _, _, rfl, rfl, hs _ _ h1, hs _ _ h2, by rw [r1.length, r2.length]; exact Nat.le_trans hl (by decide), fun p hp => ?_⟩
      have gr := Grow.new (o := .lst (xs ++ ys)) hs hp
      exact q _ _ _ gr (.lst upd_same ((r1.append r2).mono gr.f))
theorem dCatT {K : PySem.W.Frag} {ds es : List PyData} (hl : ds.length + es.length ≤ 100000) : DOp (rCatA K) (.tuple ds) (.tuple es) (.tuple (ds ++ es)) := fun F H x y Q hs rx ry q => by
  have rx0 := rx
  have ry0 := ry
  cases rx with
  | @tup a xs _ h1 r1 =>
    cases ry with
    | @tup b ys _ h2 r2 =>
      refine ⟨_, _, _, _, rfl, rfl, SqT.of (hs _ _ h1), SqT.of (hs _ _ h2), by rw [r1.length, r2.length]; exact Nat.le_trans hl (by decide), fun e => ?_, fun n e => ?_, fun n m p hp => ?_⟩
      · subst e
        cases r1
        exact q _ F H (.refl hs) ry0
      · subst e
        cases r2
        rw [List.append_nil] at q
        exact q _ F H (.refl hs) rx0
      · have gr := Grow.new (o := .tup (xs ++ ys)) hs hp
        exact q _ _ _ gr (.tup upd_same ((r1.append r2).mono gr.f))
/-- xs[i], t[i] -/
theorem at_data {F : Hp} {vs : List V} {ds : List PyData} {i : Int} {d : PyData} (r : Rps F vs ds) (h : atI ds i = some d) : ∃ v, atI vs i = some v ∧ Rp F v d := by
  unfold atI at h ⊢
  rw [r.length]
  cases e : ixN ds.length i with
  | none =>
    rw [e] at h
    cases h
  | some j =>
    rw [e] at h
    exact r.at h
theorem dIxL {K : PySem.W.Frag} {ds : List PyData} {i : Int} {d : PyData} (h : atI ds i = some d) : DOp (rIxL K) (.list ds) (.int i) d := fun F H x y Q hs rx ry q => by
  cases ry
  cases rx with
  | lst h1 r1 =>
    obtain ⟨v, h2, h3⟩ := at_data r1 h
    exact ⟨_, _, _, v, rfl, rfl, SqL.of (hs _ _ h1), h2, q v F H (.refl hs) h3⟩
theorem dIxT {K : PySem.W.Frag} {ds : List PyData} {i : Int} {d : PyData} (h : atI ds i = some d) : DOp (rIxT K) (.tuple ds) (.int i) d := fun F H x y Q hs rx ry q => by
  cases ry
  cases rx with
  | tup h1 r1 =>
    obtain ⟨v, h2, h3⟩ := at_data r1 h
    exact ⟨_, _, _, v, rfl, rfl, SqT.of (hs _ _ h1), h2, q v F H (.refl hs) h3⟩
def DUn (r : V → Hp → VK → Prop) (d d' : PyData) : Prop := ∀ (F H : Hp) (x : V) (Q : VK), Same F H → Rp F x d → (∀ v F' H', Grow F H F' H' → Rp F' v d' → Q v H') → r x H Q
/-- a call's rule by data -/
def DCall (r : List V → Hp → VK → Prop) (ds : List PyData) (d : PyData) : Prop := ∀ (F H : Hp) (vs : List V) (Q : VK), Same F H → Rps F vs ds → (∀ v F' H', Grow F H F' H' → Rp F' v d → Q v H') → r vs H Q
/-- a new list of its own -/
def DCallO (r : List V → Hp → VK → Prop) (ds es : List PyData) : Prop := ∀ (F H : Hp) (vs : List V) (Q : VK), Same F H → Rps F vs ds → (∀ p us, H p = none → Rps F us es → Q (.ref p) (upd H p (.lst us))) → r vs H Q
section
variable {X : Cx} {B : Bs} {G : En} {e a b c : Expr} {es : List Expr} {x : Str} {p pos pos2 : Pos} {d d1 d2 : PyData} {ds : List PyData} {r : List V → Hp → VK → Prop} {id : String} {T : String}
theorem e_ixg {r : R2} {d1 d2 : PyData} (D : DOp r d1 d2 d) (hr : IxR X r) (ha : EV X B G a d1) (hb : EV X B G b d2) (hs : PlainIx b := by exact fun _ _ => rfl) : EV X B G (.Subscript a b pos) d :=
  e_of (pe_ix hr ha hb hs) fun s F H Q g w q => ⟨F, g, w, fun x t F1 H1 p1 g1 e1 w1 => ⟨F1, g1, w1.pop, fun y u F2 H2 p2 g2 e2 w2 => by
    rw [show t = Sl.dat d1 from p1] at w1
    rw [show u = Sl.dat d2 from p2] at w2
    refine D F2 H2 x y Q g2.h (Rp.mono e2 (w1.topI rfl)) (w2.topI rfl) fun v F3 H3 gr r3 => ?_
    exact q v _ F3 H3 rfl (g2.grow gr) ((e1.trans e2).trans gr.f) ((w2.pop.grow gr).pushD r3)⟩⟩
theorem e_ixL {i : Int} (h : atI ds i = some d) (ha : EV X B G a (.list ds)) (hb : EV X B G b (.int i)) (hs : PlainIx b := by exact fun _ _ => rfl) : EV X B G (.Subscript a b pos) d := e_ixg (dIxL h) ix_list ha hb hs
theorem e_ixT {i : Int} (h : atI ds i = some d) (ha : EV X B G a (.tuple ds)) (hb : EV X B G b (.int i)) (hs : PlainIx b := by exact fun _ _ => rfl) : EV X B G (.Subscript a b pos) d := e_ixg (dIxT h) ix_tup ha hb hs
/-- slices: xs[lo:], xs[:hi] .. by numbers -/
structure EO (X : Cx) (B : Bs) (G : En) (e : Option Expr) (o : Option Int) : Prop where
  h : PO X e (fun s H Q => ∃ F, Good B F H ∧ Sat B F H s G ∧ ∀ F' H', Good B F' H' → Same F F' → Sat B F' H' s G → Q o H')
theorem o_none : EO X B G none none := ⟨⟨fun pins s σ H Q I ⟨F, g, w, q⟩ => po_none.run pins s σ H Q I (q F H g (Same.refl _) w)⟩⟩
theorem o_some {i : Int} (h : EV X B G e (.int i)) : EO X B G (some e) (some i) := ⟨⟨fun pins s σ H Q I ⟨F, g, w, q⟩ => (po_some h).run pins s σ H Q I ⟨F, g, w, fun v t F1 H1 p1 g1 e1 w1 => by
  rw [show t = Sl.dat (.int i) from p1] at w1
  have r : Rp F1 v (.int i) := w1.topI rfl
  cases r
  exact ⟨i, rfl, q F1 H1 g1 e1 w1.pop⟩⟩⟩⟩
def cutD (xs : List PyData) (lo hi : Option Int) : List PyData := (xs.drop (HT.sIx xs.length 0 lo)).take (HT.sIx xs.length xs.length hi - HT.sIx xs.length 0 lo)
theorem cut_rps {F : Hp} {vs : List V} (r : Rps F vs ds) (lo hi : Option Int) : Rps F (cutV vs lo hi) (cutD ds lo hi) := by
  unfold cutV cutD
  rw [r.length]
  exact (r.drop _).take _
theorem e_slL {lo hi : Option Expr} {l h : Option Int} (ha : EV X B G a (.list ds)) (hl : EO X B G lo l) (hh : EO X B G hi h) : EV X B G (.Subscript a (.Slice lo hi none pos2) pos) (.list (cutD ds l h)) :=
  e_of (pe_slice sl_list ha hl.h hh.h) fun s F H Q g w q => ⟨F, g, w, fun v t F1 H1 p1 g1 e1 w1 => ⟨F1, g1, w1.pop, fun F2 H2 g2 e2 w2 => ⟨F2, g2, w2, fun F3 H3 g3 e3 w3 => by
    rw [show t = Sl.dat _ from p1] at w1
    have r : Rp F1 v (.list ds) := w1.topI rfl
    cases r with
    | @lst ad xs _ h1 r1 =>
      refine ⟨_, _, rfl, SqL.of (g3.h _ _ ((e2.trans e3) _ _ h1)), fun p hp => ?_⟩
      have gr := Grow.new (o := .lst (cutV xs l h)) g3.h hp
      exact q _ _ _ _ rfl (g3.grow gr) (((e1.trans e2).trans e3).trans gr.f) ((w3.grow gr).pushD (.lst upd_same ((cut_rps r1 l h).mono ((e2.trans e3).trans gr.f))))⟩⟩⟩
theorem e_slT {lo hi : Option Expr} {l h : Option Int} (ha : EV X B G a (.tuple ds)) (hl : EO X B G lo l) (hh : EO X B G hi h) : EV X B G (.Subscript a (.Slice lo hi none pos2) pos) (.tuple (cutD ds l h)) :=
  e_of (pe_slice sl_tupA ha hl.h hh.h) fun s F H Q g w q => ⟨F, g, w, fun v t F1 H1 p1 g1 e1 w1 => ⟨F1, g1, w1.pop, fun F2 H2 g2 e2 w2 => ⟨F2, g2, w2, fun F3 H3 g3 e3 w3 => by
    rw [show t = Sl.dat _ from p1] at w1
    have r : Rp F1 v (.tuple ds) := w1.topI rfl
    have r0 := r
    cases r with
    | @tup ad xs _ h1 r1 =>
      refine ⟨_, _, rfl, SqT.of (g3.h _ _ ((e2.trans e3) _ _ h1)), fun z => ?_, fun _ p hp => ?_⟩
      · have e : cutD ds l h = ds := by
          unfold cutD
          rw [← r1.length, z.1, z.2]
          simp [r1.length]
        rw [e] at q
        exact q _ _ F3 H3 rfl g3 ((e1.trans e2).trans e3) (w3.pushD (r0.mono (e2.trans e3)))
      · have gr := Grow.new (o := .tup (cutV xs l h)) g3.h hp
        exact q _ _ _ _ rfl (g3.grow gr) (((e1.trans e2).trans e3).trans gr.f) ((w3.grow gr).pushD (.tup upd_same ((cut_rps r1 l h).mono ((e2.trans e3).trans gr.f))))⟩⟩⟩
/-- built-ins by name -/
theorem e_callB (D : DCall r ds d) (hc : CallR X (.builtin id) r) (hm : X.mg x = none) (hv : bootBuiltins x = some (.builtin id)) (ha : EVs X B G (e :: es) ds) (hg : Gl X x := by rfl) (hn : x ≠ "__name__" := by decide) (hdb : (x == ("__debug__" : Str)) = false := by decide)
    (he : starEach (e :: es) X.env = (false, eval e X.env) :: starEach es X.env := by rfl) (hpl : (backTo pos (starEach es X.env)).any (·.1) = false := by rfl) : EV X B G (.Call (.Name x p) (e :: es) [] pos) d :=
  e_of (pe_callB hc hg hm hv ha hn hdb he hpl) fun s F H Q g w q => ⟨F, g, w, fun vs ts F1 H1 p1 g1 e1 w1 i1 => by
    rw [show ts = ds.map Sl.dat from p1] at i1
    exact D F1 H1 vs Q g1.h i1.rps fun v F2 H2 gr r2 => q v _ F2 H2 rfl (g1.grow gr) (e1.trans gr.f) ((w1.grow gr).pushD r2)⟩
theorem e_callT (D : DCall r ds d) (hc : CallR X (.type T) r) (hm : X.mg x = none) (hv : bootBuiltins x = some (.type T)) (ha : EVs X B G (e :: es) ds) (hg : Gl X x := by rfl) (hn : x ≠ "__name__" := by decide) (hdb : (x == ("__debug__" : Str)) = false := by decide)
    (he : starEach (e :: es) X.env = (false, eval e X.env) :: starEach es X.env := by rfl) (hpl : (backTo pos (starEach es X.env)).any (·.1) = false := by rfl) : EV X B G (.Call (.Name x p) (e :: es) [] pos) d :=
  e_of (pe_callTy hc hg hm hv ha hn hdb he hpl) fun s F H Q g w q => ⟨F, g, w, fun vs ts F1 H1 p1 g1 e1 w1 i1 => by
    rw [show ts = ds.map Sl.dat from p1] at i1
    exact D F1 H1 vs Q g1.h i1.rps fun v F2 H2 gr r2 => q v _ F2 H2 rfl (g1.grow gr) (e1.trans gr.f) ((w1.grow gr).pushD r2)⟩
theorem e_callTO {fs : List PyData} (D : DCallO r ds fs) (hc : CallR X (.type T) r) (hm : X.mg x = none) (hv : bootBuiltins x = some (.type T)) (ha : EVs X B G (e :: es) ds) (hg : Gl X x := by rfl) (hn : x ≠ "__name__" := by decide) (hdb : (x == ("__debug__" : Str)) = false := by decide)
    (he : starEach (e :: es) X.env = (false, eval e X.env) :: starEach es X.env := by rfl) (hpl : (backTo pos (starEach es X.env)).any (·.1) = false := by rfl) : EE X B G (.Call (.Name x p) (e :: es) [] pos) (is (.own fs)) :=
  e_of (pe_callTy hc hg hm hv ha hn hdb he hpl) fun s F H Q g w q => ⟨F, g, w, fun vs ts F1 H1 p1 g1 e1 w1 i1 => by
    rw [show ts = ds.map Sl.dat from p1] at i1
    exact D F1 H1 vs Q g1.h i1.rps fun p us hp r2 => q _ _ F1 _ rfl (g1.grow (Grow.loose g1.h hp)) e1 (Sat.pushNew g1 w1 hp r2)⟩
end
theorem rps1 {F : Hp} {vs : List V} {d : PyData} (r : Rps F vs [d]) : ∃ v, vs = [v] ∧ Rp F v d := by
  cases r with
  | cons h t =>
    cases t
    exact ⟨_, rfl, h⟩
theorem rps2 {F : Hp} {vs : List V} {d e : PyData} (r : Rps F vs [d, e]) : ∃ v u, vs = [v, u] ∧ Rp F v d ∧ Rp F u e := by
  cases r with
  | cons h t =>
    obtain ⟨u, rfl, h2⟩ := rps1 t
    exact ⟨_, u, rfl, h, h2⟩
theorem Rps.ints {F : Hp} : ∀ {vs : List V} {ns : List Int}, Rps F vs (ns.map .int) → vs = ns.map V.int
  | [], [], _ => rfl
  | [], _ :: _, r => by simp only [List.map_cons] at r; cases r
  | _ :: _, [], r => by simp only [List.map_nil] at r; cases r
  | v :: vs, n :: ns, r => by
    simp only [List.map_cons] at r
    cases r with
    | cons h t =>
      cases h
      rw [Rps.ints t]
      rfl
theorem Rps.of_ints {F : Hp} : ∀ ns : List Int, Rps F (ns.map V.int) (ns.map .int)
  | [] => .nil
  | n :: ns => .cons (.int n) (Rps.of_ints ns)
theorem Rps.bls {F : Hp} : ∀ {vs : List V} {ns : List Bool}, Rps F vs (ns.map .bool) → vs = ns.map V.bl
  | [], [], _ => rfl
  | [], _ :: _, r => by simp only [List.map_cons] at r; cases r
  | _ :: _, [], r => by simp only [List.map_nil] at r; cases r
  | v :: vs, n :: ns, r => by
    simp only [List.map_cons] at r
    cases r with
    | cons h t =>
      cases h
      rw [Rps.bls t]
      rfl
theorem dLenL {K : PySem.W.Frag} {ds : List PyData} : DCall (fun xs H Q => ∃ p ys, xs = [V.ref p] ∧ (SqL K H p ys ∨ SqT K H p ys) ∧ Q (.int ys.length) H) [.list ds] (.int ds.length) := fun F H vs Q hs r q => by
  obtain ⟨v, rfl, h⟩ := rps1 r
  cases h with
  | lst h1 r1 => exact ⟨_, _, rfl, .inl (SqL.of (hs _ _ h1)), q _ F H (.refl hs) (by rw [r1.length]; exact .int _)⟩
theorem dLenT {K : PySem.W.Frag} {ds : List PyData} : DCall (fun xs H Q => ∃ p ys, xs = [V.ref p] ∧ (SqL K H p ys ∨ SqT K H p ys) ∧ Q (.int ys.length) H) [.tuple ds] (.int ds.length) := fun F H vs Q hs r q => by
  obtain ⟨v, rfl, h⟩ := rps1 r
  cases h with
  | tup h1 r1 => exact ⟨_, _, rfl, .inr (SqT.of (hs _ _ h1)), q _ F H (.refl hs) (by rw [r1.length]; exact .int _)⟩
theorem dListL {K : PySem.W.Frag} {ds : List PyData} : DCallO (fun xs H Q => ∃ p ys, xs = [V.ref p] ∧ (SqL K H p ys ∨ SqT K H p ys) ∧ ∀ l, H l = none → Q (.ref l) (upd H l (.lst ys))) [.list ds] ds := fun F H vs Q hs r q => by
  obtain ⟨v, rfl, h⟩ := rps1 r
  cases h with
  | lst h1 r1 => exact ⟨_, _, rfl, .inl (SqL.of (hs _ _ h1)), fun l hl => q l _ hl r1⟩
theorem dListT {K : PySem.W.Frag} {ds : List PyData} : DCallO (fun xs H Q => ∃ p ys, xs = [V.ref p] ∧ (SqL K H p ys ∨ SqT K H p ys) ∧ ∀ l, H l = none → Q (.ref l) (upd H l (.lst ys))) [.tuple ds] ds := fun F H vs Q hs r q => by
  obtain ⟨v, rfl, h⟩ := rps1 r
  cases h with
  | tup h1 r1 => exact ⟨_, _, rfl, .inr (SqT.of (hs _ _ h1)), fun l hl => q l _ hl r1⟩
theorem dTupL {K : PySem.W.Frag} {ds : List PyData} : DCall (fun xs H Q => ∃ p ys, xs = [V.ref p] ∧ ((SqL K H p ys ∧ ∀ l, H l = none → Q (.ref l) (upd H l (.tup ys))) ∨ (SqT K H p ys ∧ Q (.ref p) H))) [.list ds] (.tuple ds) := fun F H vs Q hs r q => by
  obtain ⟨v, rfl, h⟩ := rps1 r
  cases h with
  | @lst a xs _ h1 r1 =>
    refine ⟨_, _, rfl, .inl ⟨SqL.of (hs _ _ h1), fun l hl => ?_⟩⟩
    have gr := Grow.new (o := .tup xs) hs hl
    exact q _ _ _ gr (.tup upd_same (r1.mono gr.f))
theorem dTupT {K : PySem.W.Frag} {ds : List PyData} : DCall (fun xs H Q => ∃ p ys, xs = [V.ref p] ∧ ((SqL K H p ys ∧ ∀ l, H l = none → Q (.ref l) (upd H l (.tup ys))) ∨ (SqT K H p ys ∧ Q (.ref p) H))) [.tuple ds] (.tuple ds) := fun F H vs Q hs r q => by
  obtain ⟨v, rfl, h⟩ := rps1 r
  have h0 := h
  cases h with
  | tup h1 r1 => exact ⟨_, _, rfl, .inr ⟨SqT.of (hs _ _ h1), q _ F H (.refl hs) h0⟩⟩
theorem dSum {K : PySem.W.Frag} {ns : List Int} : DCall (rSum K) [.list (ns.map .int)] (.int ns.sum) := fun F H vs Q hs r q => by
  obtain ⟨v, rfl, h⟩ := rps1 r
  cases h with
  | lst h1 r1 =>
    have e := r1.ints
    subst e
    exact ⟨_, ns, rfl, SqL.of (hs _ _ h1), q _ F H (.refl hs) (.int _)⟩
theorem dAll {K : PySem.W.Frag} {bs : List Bool} : DCall (rAll K) [.list (bs.map .bool)] (.bool (bs.all id)) := fun F H vs Q hs r q => by
  obtain ⟨v, rfl, h⟩ := rps1 r
  cases h with
  | lst h1 r1 =>
    have e := r1.bls
    subst e
    exact ⟨_, bs, rfl, SqL.of (hs _ _ h1), q _ F H (.refl hs) (.bl _)⟩
section
variable {X : Cx} {B : Bs} {G : En} {e a b c : Expr} {p pos pos2 : Pos} {d d1 d2 : PyData} {ds es : List PyData} {i j : Int} {x : Str}
theorem e_addI (ha : EV X B G a (.int i)) (hb : EV X B G b (.int j)) : EV X B G (.BinOp a .Add b pos) (.int (i + j)) := e_op (dI fun _ => .int _) op_add ha hb
theorem e_subI (ha : EV X B G a (.int i)) (hb : EV X B G b (.int j)) : EV X B G (.BinOp a .Sub b pos) (.int (i - j)) := e_op (dI fun _ => .int _) op_sub ha hb
theorem e_mulI (ha : EV X B G a (.int i)) (hb : EV X B G b (.int j)) (hc : CMul i j) : EV X B G (.BinOp a .Mult b pos) (.int (i * j)) := e_op (dIc hc fun _ => .int _) op_mul ha hb
theorem e_modI (ha : EV X B G a (.int i)) (hb : EV X B G b (.int j)) (hc : 0 < j) : EV X B G (.BinOp a .Mod b pos) (.int (i % j)) := e_op (dIc (C := fun _ j => 0 < j) hc fun _ => .int _) op_mod ha hb
theorem e_fdivI (ha : EV X B G a (.int i)) (hb : EV X B G b (.int j)) (hc : CDiv i j) : EV X B G (.BinOp a .FloorDiv b pos) (.int (i / j)) := e_op (dIc hc fun _ => .int _) op_fdiv ha hb
theorem e_catL (ha : EV X B G a (.list ds)) (hb : EV X B G b (.list es)) (hl : ds.length + es.length ≤ 100000) : EV X B G (.BinOp a .Add b pos) (.list (ds ++ es)) := e_op (dCat hl) op_cat ha hb
theorem e_catT (ha : EV X B G a (.tuple ds)) (hb : EV X B G b (.tuple es)) (hl : ds.length + es.length ≤ 100000) : EV X B G (.BinOp a .Add b pos) (.tuple (ds ++ es)) := e_op (dCatT hl) op_catA ha hb
theorem e_lt (ha : EV X B G a (.int i)) (hb : EV X B G b (.int j)) : EV X B G (.Compare a [.Lt] [b] pos) (.bool (decide (i < j))) := e_cmp (dI fun _ => .bl _) op_lt (nomark _) ha hb
theorem t_lt (ha : EV X B G a (.int i)) (hb : EV X B G b (.int j)) : ET X B G (.Compare a [.Lt] [b] pos) (is (decide (i < j))) := t_cmp (dI fun _ => .bl _) op_lt (nomark _) ha hb
theorem e_ge (ha : EV X B G a (.int i)) (hb : EV X B G b (.int j)) : EV X B G (.Compare a [.GtE] [b] pos) (.bool (decide (j ≤ i))) := e_cmp (dI fun _ => .bl _) op_ge (nomark _) ha hb
theorem t_gt (ha : EV X B G a (.int i)) (hb : EV X B G b (.int j)) : ET X B G (.Compare a [.Gt] [b] pos) (is (decide (j < i))) := t_cmp (dI fun _ => .bl _) op_gt (nomark _) ha hb
/-- == and != of plain data -/
theorem t_eq {n m : Nat} {q : Prop} [Decidable q] (hu : X.A.units + 64 < cLine) (ha : EV X B G a d1) (hb : EV X B G b d2) (h1 : Fl n d1) (h2 : Fl m d2) (k : d1 = d2 ↔ q) (l1 : n ≤ 64 := by decide) (l2 : m ≤ 64 := by decide) : ET X B G (.Compare a [.Eq] [b] pos) (is (decide q)) :=
  t_cmp (by rw [← eqv_of h1 h2 k]; exact dEq h1 h2 l1 l2) (op_eqD hu) (nomark _) ha hb
theorem t_ne {n m : Nat} {q : Prop} [Decidable q] (hu : X.A.units + 64 < cLine) (ha : EV X B G a d1) (hb : EV X B G b d2) (h1 : Fl n d1) (h2 : Fl m d2) (k : d1 = d2 ↔ q) (l1 : n ≤ 64 := by decide) (l2 : m ≤ 64 := by decide) : ET X B G (.Compare a [.NotEq] [b] pos) (is (!decide q)) :=
  t_cmp (by rw [← eqv_of h1 h2 k]; exact dNe h1 h2 l1 l2) (op_neD hu) (nomark _) ha hb
theorem e_eq {n m : Nat} {q : Prop} [Decidable q] (hu : X.A.units + 64 < cLine) (ha : EV X B G a d1) (hb : EV X B G b d2) (h1 : Fl n d1) (h2 : Fl m d2) (k : d1 = d2 ↔ q) (l1 : n ≤ 64 := by decide) (l2 : m ≤ 64 := by decide) : EV X B G (.Compare a [.Eq] [b] pos) (.bool (decide q)) :=
  e_cmp (by rw [← eqv_of h1 h2 k]; exact dEq h1 h2 l1 l2) (op_eqD hu) (nomark _) ha hb
theorem e_ne {n m : Nat} {q : Prop} [Decidable q] (hu : X.A.units + 64 < cLine) (ha : EV X B G a d1) (hb : EV X B G b d2) (h1 : Fl n d1) (h2 : Fl m d2) (k : d1 = d2 ↔ q) (l1 : n ≤ 64 := by decide) (l2 : m ≤ 64 := by decide) : EV X B G (.Compare a [.NotEq] [b] pos) (.bool (!decide q)) :=
  e_cmp (by rw [← eqv_of h1 h2 k]; exact dNe h1 h2 l1 l2) (op_neD hu) (nomark _) ha hb
/-- in, not in -/
theorem t_inL {n m : Nat} {k : Bool} (hu : X.A.units + 65 < cLine) (ha : EV X B G a d) (hb : EV X B G b (.list ds)) (h1 : Fl n d) (h2 : Fl m (.list ds)) (hk : (ds.any fun z => PyData.eqv z d) = k) (l1 : n ≤ 64 := by decide) (l2 : m ≤ 64 := by decide) (hm : behindInMarks .In b = false := by rfl) : ET X B G (.Compare a [.In] [b] pos) (is k) :=
  t_cmp (by rw [← hk]; exact dInL h1 h2 l1 l2) (op_inD hu) hm ha hb
theorem e_inL {n m : Nat} {k : Bool} (hu : X.A.units + 65 < cLine) (ha : EV X B G a d) (hb : EV X B G b (.list ds)) (h1 : Fl n d) (h2 : Fl m (.list ds)) (hk : (ds.any fun z => PyData.eqv z d) = k) (l1 : n ≤ 64 := by decide) (l2 : m ≤ 64 := by decide) (hm : behindInMarks .In b = false := by rfl) : EV X B G (.Compare a [.In] [b] pos) (.bool k) :=
  e_cmp (by rw [← hk]; exact dInL h1 h2 l1 l2) (op_inD hu) hm ha hb
theorem t_notInL {n m : Nat} {k : Bool} (hu : X.A.units + 65 < cLine) (ha : EV X B G a d) (hb : EV X B G b (.list ds)) (h1 : Fl n d) (h2 : Fl m (.list ds)) (hk : (ds.any fun z => PyData.eqv z d) = k) (l1 : n ≤ 64 := by decide) (l2 : m ≤ 64 := by decide) (hm : behindInMarks .NotIn b = false := by rfl) : ET X B G (.Compare a [.NotIn] [b] pos) (is (!k)) :=
  t_cmp (by rw [← hk]; exact dNotInL h1 h2 l1 l2) (op_notInD hu) hm ha hb
theorem t_inT {n m : Nat} {k : Bool} (hu : X.A.units + 65 < cLine) (ha : EV X B G a d) (hb : EV X B G b (.tuple ds)) (h1 : Fl n d) (h2 : Fl m (.tuple ds)) (hk : (ds.any fun z => PyData.eqv z d) = k) (l1 : n ≤ 64 := by decide) (l2 : m ≤ 64 := by decide) (hm : behindInMarks .In b = false := by rfl) : ET X B G (.Compare a [.In] [b] pos) (is k) :=
  t_cmp (by rw [← hk]; exact dInT h1 h2 l1 l2) (op_inT hu) hm ha hb
theorem t_notInT {n m : Nat} {k : Bool} (hu : X.A.units + 65 < cLine) (ha : EV X B G a d) (hb : EV X B G b (.tuple ds)) (h1 : Fl n d) (h2 : Fl m (.tuple ds)) (hk : (ds.any fun z => PyData.eqv z d) = k) (l1 : n ≤ 64 := by decide) (l2 : m ≤ 64 := by decide) (hm : behindInMarks .NotIn b = false := by rfl) : ET X B G (.Compare a [.NotIn] [b] pos) (is (!k)) :=
  t_cmp (by rw [← hk]; exact dNotInT h1 h2 l1 l2) (op_notInT hu) hm ha hb
/-- is None, is not None -/
theorem e_isN {j : Nat} {pos3 : Pos} (ha : EV X B G a d) {k : Bool} (hk : (match d with | .none => true | _ => false) = k) : EV X B G (.Compare a [.Is] [.Constant .none j pos3] pos) (.bool k) :=
  e_of (pe_cmp (pc_isN ha) rfl) fun s F H Q g w q => ⟨F, g, w, fun v t F1 H1 p1 g1 e1 w1 => by
    rw [show t = Sl.dat d from p1] at w1
    have r : Rp F1 v d := w1.topI rfl
    have e : decide (v = .non) = k := by
      rw [← hk]
      cases r <;> simp
    rw [e]
    exact q _ _ F1 H1 rfl g1 e1 (w1.pop.pushD (.bl k))⟩
theorem e_lenL (hm : X.mg "len" = none) (ha : EV X B G a (.list ds)) (hg : Gl X "len" := by rfl) (he : starEach (a :: []) X.env = (false, eval a X.env) :: starEach [] X.env := by rfl) (hpl : (backTo pos (starEach [] X.env)).any (·.1) = false := by rfl) : EV X B G (.Call (.Name "len" p) [a] [] pos) (.int ds.length) :=
  e_callB dLenL call_len_seq hm PySem.boot_len (vs_cons ha vs_nil he) hg (by decide) (by decide) he hpl
theorem e_lenT (hm : X.mg "len" = none) (ha : EV X B G a (.tuple ds)) (hg : Gl X "len" := by rfl) (he : starEach (a :: []) X.env = (false, eval a X.env) :: starEach [] X.env := by rfl) (hpl : (backTo pos (starEach [] X.env)).any (·.1) = false := by rfl) : EV X B G (.Call (.Name "len" p) [a] [] pos) (.int ds.length) :=
  e_callB dLenT call_len_seq hm PySem.boot_len (vs_cons ha vs_nil he) hg (by decide) (by decide) he hpl
theorem e_tupL (hm : X.mg "tuple" = none) (ha : EV X B G a (.list ds)) (hg : Gl X "tuple" := by rfl) (he : starEach (a :: []) X.env = (false, eval a X.env) :: starEach [] X.env := by rfl) (hpl : (backTo pos (starEach [] X.env)).any (·.1) = false := by rfl) : EV X B G (.Call (.Name "tuple" p) [a] [] pos) (.tuple ds) :=
  e_callT dTupL call_tuple_of hm (by decide +kernel) (vs_cons ha vs_nil he) hg (by decide) (by decide) he hpl
theorem e_tupT (hm : X.mg "tuple" = none) (ha : EV X B G a (.tuple ds)) (hg : Gl X "tuple" := by rfl) (he : starEach (a :: []) X.env = (false, eval a X.env) :: starEach [] X.env := by rfl) (hpl : (backTo pos (starEach [] X.env)).any (·.1) = false := by rfl) : EV X B G (.Call (.Name "tuple" p) [a] [] pos) (.tuple ds) :=
  e_callT dTupT call_tuple_of hm (by decide +kernel) (vs_cons ha vs_nil he) hg (by decide) (by decide) he hpl
theorem e_listLO (hm : X.mg "list" = none) (ha : EV X B G a (.list ds)) (hg : Gl X "list" := by rfl) (he : starEach (a :: []) X.env = (false, eval a X.env) :: starEach [] X.env := by rfl) (hpl : (backTo pos (starEach [] X.env)).any (·.1) = false := by rfl) : EE X B G (.Call (.Name "list" p) [a] [] pos) (is (.own ds)) :=
  e_callTO dListL call_list_of hm (by decide +kernel) (vs_cons ha vs_nil he) hg (by decide) (by decide) he hpl
theorem e_listTO (hm : X.mg "list" = none) (ha : EV X B G a (.tuple ds)) (hg : Gl X "list" := by rfl) (he : starEach (a :: []) X.env = (false, eval a X.env) :: starEach [] X.env := by rfl) (hpl : (backTo pos (starEach [] X.env)).any (·.1) = false := by rfl) : EE X B G (.Call (.Name "list" p) [a] [] pos) (is (.own ds)) :=
  e_callTO dListT call_list_of hm (by decide +kernel) (vs_cons ha vs_nil he) hg (by decide) (by decide) he hpl
theorem e_sum {ns : List Int} (hm : X.mg "sum" = none) (ha : EV X B G a (.list (ns.map .int))) (hc : X.calm = true := by rfl) (hg : Gl X "sum" := by rfl) (he : starEach (a :: []) X.env = (false, eval a X.env) :: starEach [] X.env := by rfl) (hpl : (backTo pos (starEach [] X.env)).any (·.1) = false := by rfl) : EV X B G (.Call (.Name "sum" p) [a] [] pos) (.int ns.sum) :=
  e_callB dSum (cr_sum hc) hm (by decide +kernel) (vs_cons ha vs_nil he) hg (by decide) (by decide) he hpl
theorem e_all {bs : List Bool} (hm : X.mg "all" = none) (ha : EV X B G a (.list (bs.map .bool))) (hc : X.calm = true := by rfl) (hg : Gl X "all" := by rfl) (he : starEach (a :: []) X.env = (false, eval a X.env) :: starEach [] X.env := by rfl) (hpl : (backTo pos (starEach [] X.env)).any (·.1) = false := by rfl) : EV X B G (.Call (.Name "all" p) [a] [] pos) (.bool (bs.all id)) :=
  e_callB dAll (cr_all hc) hm (by decide +kernel) (vs_cons ha vs_nil he) hg (by decide) (by decide) he hpl
end
end Mk
namespace Mk
open PySem L2

/-! ### statements -/
structure Po where
  nx : En → Prop := fun _ => False
  rt : Sl → En → Prop := fun _ _ => False
  bk : En → Prop := fun _ => False
  ct : En → Prop := fun _ => False
def tS (B : Bs) (G : En) (p : Po) : TS := fun D s H => ∃ F, Good B F H ∧ Sat B F H s G ∧
  (∀ G' s' F' H', p.nx G' → Good B F' H' → Same F F' → Sat B F' H' s' G' → D.nx s' H') ∧
  (∀ v t G' s' F' H', p.rt t G' → Good B F' H' → Same F F' → Sat B F' H' (some v :: s') (t :: G') → D.rt v H') ∧
  (∀ G' s' F' H', p.bk G' → Good B F' H' → Same F F' → Sat B F' H' s' G' → D.bk s' H') ∧
  (∀ G' s' F' H', p.ct G' → Good B F' H' → Same F F' → Sat B F' H' s' G' → D.ct s' H')
abbrev S1 (X : Cx) (B : Bs) (G : En) (st : Stmt) (p : Po) : Prop := PS X st (tS B G p)
abbrev SS (X : Cx) (B : Bs) (G : En) (st : List Stmt) (p : Po) : Prop := PSs X st (tS B G p)
theorem PS.weak {X : Cx} {e : Stmt} {t t' : TS} (h : PS X e t) (k : ∀ D s H, t' D s H → t D s H) : PS X e t' := ⟨fun pins s σ H D I q => h.run pins s σ H D I (k _ _ _ q)⟩
theorem PSs.weak {X : Cx} {e : List Stmt} {t t' : TS} (h : PSs X e t) (k : ∀ D s H, t' D s H → t D s H) : PSs X e t' := ⟨fun pins s σ H D I q => h.run pins s σ H D I (k _ _ _ q)⟩
section
variable {X : Cx} {B : Bs} {G G1 : En} {e a b c : Expr} {st : Stmt} {body rest : List Stmt} {p : Po} {P : Sl → Prop} {d : PyData} {pos pos2 : Pos} {x : Str} {t : Sl}
theorem s_nil (h : p.nx G) : SS X B G [] p := PSs.weak pss_nil fun D s H ⟨F, g, w, q, _⟩ => q G s F H h g (Same.refl _) w
theorem s_cons {Mid : En → Prop} (h1 : S1 X B G st { p with nx := Mid }) (h2 : ∀ G', Mid G' → SS X B G' rest p) : SS X B G (st :: rest) p := by
  have hf : PSs X rest (fun D s H => ∃ G', Mid G' ∧ tS B G' p D s H) := ⟨fun pins s σ H D I ⟨G', m, q⟩ => (h2 G' m).run pins s σ H D I q⟩
  refine PSs.weak (pss_cons h1 hf) fun D s H ⟨F, g, w, q1, q2, q3, q4⟩ => ⟨F, g, w, fun G' s' F' H' m g' e' w' => ⟨G', m, F', g', w', ?_, ?_, ?_, ?_⟩, q2, q3, q4⟩
  · exact fun G2 s2 F2 H2 m2 g2 e2 w2 => q1 G2 s2 F2 H2 m2 g2 (e'.trans e2) w2
  · exact fun v t G2 s2 F2 H2 m2 g2 e2 w2 => q2 v t G2 s2 F2 H2 m2 g2 (e'.trans e2) w2
  · exact fun G2 s2 F2 H2 m2 g2 e2 w2 => q3 G2 s2 F2 H2 m2 g2 (e'.trans e2) w2
  · exact fun G2 s2 F2 H2 m2 g2 e2 w2 => q4 G2 s2 F2 H2 m2 g2 (e'.trans e2) w2
theorem s_one (h : S1 X B G st p) : SS X B G [st] p := PSs.weak (pss_one h) fun _ _ _ q => q
/-- from what a statement leaves to what is wanted -/
theorem S1.imp {p' : Po} (h : S1 X B G st p') (k1 : ∀ G', p'.nx G' → p.nx G') (k2 : ∀ t G', p'.rt t G' → p.rt t G') (k3 : ∀ G', p'.bk G' → p.bk G') (k4 : ∀ G', p'.ct G' → p.ct G') : S1 X B G st p :=
  PS.weak h fun D s H ⟨F, g, w, q1, q2, q3, q4⟩ => ⟨F, g, w, fun G' s' F' H' m => q1 G' s' F' H' (k1 _ m), fun v t G' s' F' H' m => q2 v t G' s' F' H' (k2 _ _ m), fun G' s' F' H' m => q3 G' s' F' H' (k3 _ m), fun G' s' F' H' m => q4 G' s' F' H' (k4 _ m)⟩
/-- name = e -/
theorem s_asg (i : Nat) (he : EE X B G e P) (k : ∀ t, P t → p.nx (G.set i t)) (hN : X.N.Nodup) (hi : X.N[i]? = some x := by rfl) (hx : Loc X.env.scope x := by first | exact Or.inl rfl | exact Or.inr rfl)
    (hs : swapsWith e (some (.Name x pos2)) pos.line X.env = pure false := by rfl) (hf : X.fn x = true ∨ X.env.scope.names.lookup x = some .local := by first | exact .inl rfl | exact .inr rfl) : S1 X B G (.Assign [.Name x pos2] e pos) p :=
  PS.weak (ps_set hN hi hx he hs hf) fun D s H ⟨F, g, w, q1, _⟩ => ⟨F, g, w, fun v t F1 H1 p1 g1 e1 w1 => q1 _ _ F1 H1 (k t p1) g1 e1 w1.set⟩
theorem q_asg (i : Nat) (he : EE X B G e (is t)) (k : SS X B (G.set i t) rest p) (hN : X.N.Nodup) (hi : X.N[i]? = some x := by rfl) (hx : Loc X.env.scope x := by first | exact Or.inl rfl | exact Or.inr rfl)
    (hs : swapsWith e (some (.Name x pos2)) pos.line X.env = pure false := by rfl) (hf : X.fn x = true ∨ X.env.scope.names.lookup x = some .local := by first | exact .inl rfl | exact .inr rfl) : SS X B G (.Assign [.Name x pos2] e pos :: rest) p :=
  s_cons (Mid := is (G.set i t)) (s_asg i he (fun u hu => by rw [show u = t from hu]) hN hi hx hs hf) fun G' h => by
    rw [show G' = G.set i t from h]
    exact k
theorem q_asgP (i : Nat) (he : EE X B G e P) (k : ∀ t, P t → SS X B (G.set i t) rest p) (hN : X.N.Nodup) (hi : X.N[i]? = some x := by rfl) (hx : Loc X.env.scope x := by first | exact Or.inl rfl | exact Or.inr rfl)
    (hs : swapsWith e (some (.Name x pos2)) pos.line X.env = pure false := by rfl) (hf : X.fn x = true ∨ X.env.scope.names.lookup x = some .local := by first | exact .inl rfl | exact .inr rfl) : SS X B G (.Assign [.Name x pos2] e pos :: rest) p :=
  s_cons (Mid := fun G' => ∃ t, P t ∧ G' = G.set i t) (s_asg i he (fun u hu => ⟨u, hu, rfl⟩) hN hi hx hs hf) fun G' ⟨t, h1, h2⟩ => by
    rw [h2]
    exact k t h1
/-- return e -/
theorem s_ret (he : EE X B G e P) (k : ∀ t, P t → p.rt t G) : S1 X B G (.Return (some e) pos) p :=
  PS.weak (ps_ret he) fun D s H ⟨F, g, w, _, q2, _⟩ => ⟨F, g, w, fun v t F1 H1 p1 g1 e1 w1 => q2 v t G s F1 H1 (k t p1) g1 e1 w1⟩
theorem q_ret (he : EE X B G e (is t)) (k : p.rt t G) : SS X B G [.Return (some e) pos] p := s_one (s_ret he fun u hu => by rw [show u = t from hu]; exact k)
/-- if -/
theorem s_if {k : Bool} {P : Bool → Prop} (hc : ET X B G c P) (ha : P true → SS X B G body p) (hb : P false → SS X B G rest p) : S1 X B G (.If c body rest pos) p := by
  have h1 : PSs X body (fun D s H => P true ∧ tS B G p D s H) := ⟨fun pins s σ H D I ⟨a, q⟩ => (ha a).run pins s σ H D I q⟩
  have h2 : PSs X rest (fun D s H => P false ∧ tS B G p D s H) := ⟨fun pins s σ H D I ⟨a, q⟩ => (hb a).run pins s σ H D I q⟩
  refine PS.weak (ps_if hc h1 h2) fun D s H ⟨F, g, w, q1, q2, q3, q4⟩ => ⟨F, g, w, fun b F' H' pb g' e' w' => ?_⟩
  have next : tS B G p D s H' := ⟨F', g', w', fun G2 s2 F2 H2 m2 g2 e2 w2 => q1 G2 s2 F2 H2 m2 g2 (e'.trans e2) w2, fun v t G2 s2 F2 H2 m2 g2 e2 w2 => q2 v t G2 s2 F2 H2 m2 g2 (e'.trans e2) w2,
    fun G2 s2 F2 H2 m2 g2 e2 w2 => q3 G2 s2 F2 H2 m2 g2 (e'.trans e2) w2, fun G2 s2 F2 H2 m2 g2 e2 w2 => q4 G2 s2 F2 H2 m2 g2 (e'.trans e2) w2⟩
  cases b with
  | true => exact iteT ⟨pb, next⟩
  | false => exact iteF ⟨pb, next⟩
theorem q_if {k : Bool} {body2 : List Stmt} (hc : ET X B G c (is k)) {Mid : En → Prop} (ha : k = true → SS X B G body { p with nx := Mid }) (hb : k = false → SS X B G body2 { p with nx := Mid }) (hr : ∀ G', Mid G' → SS X B G' rest p) : SS X B G (.If c body body2 pos :: rest) p :=
  s_cons (s_if (k := k) hc (fun h => ha h.symm) (fun h => hb h.symm)) hr
/-- if c: .. (leaves) -/
theorem q_ifRet {k : Bool} (hc : ET X B G c (is k)) (ha : k = true → SS X B G body { p with nx := fun _ => False }) (hr : k = false → SS X B G rest p) : SS X B G (.If c body [] pos :: rest) p :=
  s_cons (Mid := fun G' => k = false ∧ G' = G) (s_if (k := k) hc (fun h => PSs.weak (ha h.symm) fun D s H ⟨F, g, w, q1, q2, q3, q4⟩ => ⟨F, g, w, fun _ _ _ _ z => z.elim, q2, q3, q4⟩) (fun h => s_nil ⟨h.symm, rfl⟩)) fun G' ⟨h, e⟩ => by
    rw [e]
    exact hr h
/-- a way that can't be -/
theorem s_no (h : False) : S1 X B G st p := h.elim
theorem ss_no (h : False) : SS X B G body p := h.elim
theorem s_pass (h : p.nx G) : S1 X B G (.Pass pos) p := PS.weak ps_pass fun D s H ⟨F, g, w, q1, _⟩ => q1 G s F H h g (Same.refl _) w
theorem s_break (h : p.bk G) : S1 X B G (.Break pos) p := PS.weak ps_break fun D s H ⟨F, g, w, _, _, q3, _⟩ => q3 G s F H h g (Same.refl _) w
theorem s_cont (h : p.ct G) : S1 X B G (.Continue pos) p := PS.weak ps_continue fun D s H ⟨F, g, w, _, _, _, q4⟩ => q4 G s F H h g (Same.refl _) w
end

/-! ### a list of one's own: append, extend, pop -/
section
variable {X : Cx} {B : Bs} {G : En} {F H : Hp} {s : L2.St} {ds : List PyData} {e a b : Expr} {p : Po} {rest : List Stmt} {d : PyData} {pos pos2 pos3 pos4 : Pos} {x : Str}
structure OwnAt (B : Bs) (F H : Hp) (s : L2.St) (G : En) (i : Nat) (l : Addr) (vs : List V) : Prop where
  here : s[i]? = some (some (.ref l))
  obj : H l = some (.lst vs)
  put : ∀ us es, Rps F us es → Sat B F (upd H l (.lst us)) s (G.set i (.own es)) ∧ Good B F (upd H l (.lst us))
theorem Sat.own {i : Nat} (g : Good B F H) (w : Sat B F H s G) (hi : G[i]? = some (.own ds)) : ∃ l vs, OwnAt B F H s G i l vs ∧ Rps F vs ds := by
  obtain ⟨ad, w0⟩ := w
  obtain ⟨e1, h2, h3, vs, h4, h5⟩ := w0.ok i _ hi
  refine ⟨ad i, vs, ⟨join_some e1, h4, fun us es r => ⟨⟨ad, by rw [List.length_set]; exact w0.len, fun j t e => ?_, fun j k t u e e' o o' z => ?_⟩, g.f, fun b o q => ?_, fun b o q => ?_, g.n⟩⟩, h5⟩
  · by_cases hj : j = i
    · subst hj
      have hl : j < G.length := (List.getElem?_eq_some_iff.mp hi).1
      rw [List.getElem?_set_self hl] at e
      cases e
      exact ⟨e1, h2, h3, us, upd_same, r⟩
    · rw [List.getElem?_set_ne (Ne.symm hj)] at e
      refine (w0.ok j t e).go (Same.refl _) fun o => ⟨?_, ((w0.ok j t e).here o).2.1⟩
      exact upd_ne fun z => hj (w0.inj j i t _ e hi o rfl z)
  · have get : ∀ {m : Nat} {v : Sl}, (G.set i (.own es))[m]? = some v → v.owned = true → ∃ v', G[m]? = some v' ∧ v'.owned = true := fun {m v} em om => by
      by_cases hm : m = i
      · subst hm
        exact ⟨_, hi, rfl⟩
      · rw [List.getElem?_set_ne (Ne.symm hm)] at em
        exact ⟨v, em, om⟩
    obtain ⟨t', f1, f2⟩ := get e o
    obtain ⟨u', f3, f4⟩ := get e' o'
    exact w0.inj j k t' u' f1 f3 f2 f4 z
  · have z : b ≠ ad i := fun z => by rw [z, h2] at q; cases q
    rw [upd_ne z]
    exact g.h _ _ q
  · have z : b ≠ ad i := fun z => by rw [z, h3] at q; cases q
    rw [upd_ne z]
    exact g.m _ _ q
theorem Sat.at_ {i : Nat} {v : V} (w : Sat B F H s G) (hi : G[i]? = some (.own ds)) (hv : s[i]? = some (some v)) : ∃ l vs, v = .ref l ∧ H l = some (.lst vs) ∧ Rps F vs ds := by
  obtain ⟨ad, w0⟩ := w
  obtain ⟨e1, h2, h3, vs, h4, h5⟩ := w0.ok i _ hi
  rw [join_some e1] at hv
  cases hv
  exact ⟨_, vs, rfl, h4, h5⟩
/-- xs.append(e) -/
theorem s_app (i : Nat) {P : Sl → Prop} (he : EE X B G e P) (k : ∀ t, P t → ∃ d, t = .dat d ∧ p.nx (G.set i (.own (ds ++ [d])))) (hl : ds.length < 100000) (hi : G[i]? = some (.own ds) := by rfl) (hN : X.N[i]? = some x := by rfl)
    (hv : Vis X.env.scope x := by first | exact Or.inl rfl | exact Or.inr (Or.inl rfl) | exact Or.inr (Or.inr rfl)) (hd : (x == ("__debug__" : Str)) = false := by decide) (hcd : (x == ("__classdict__" : Str)) = false := by decide)
    (hs : starEach (e :: []) X.env = (false, eval e X.env) :: starEach [] X.env := by rfl) (hsw : swapsWith (.Call (.Attribute (.Name x pos4) "append" pos3) [e] [] pos2) none pos.line X.env = pure false := by rfl)
    (hb : attributeBase (.Name x pos4) "append" X.env (eval (.Name x pos4) X.env) = eval (.Name x pos4) X.env := by rfl) (hfew : ((backTo pos2 (starEach (e :: []) X.env)).all (fun x => !x.1) && (backToKw pos2 (keywordEach [] X.env)).all (fun x => x.1.isSome)
      && decide ((e :: []).length + ([] : List Keyword).length + (if ([] : List Keyword).isEmpty then 0 else 1) < 30)) = true := by rfl)
    (hend : (pos3.endLine == pos2.line) = true := by rfl) (hpl : (backTo pos2 (starEach [] X.env)).any (·.1) = false := by rfl) :
    S1 X B G (.Expr (.Call (.Attribute (.Name x pos4) "append" pos3) [e] [] pos2) pos) p :=
  PS.weak (ps_expr (pe_bm PySem.F.plainAttrs_list PySem.F.slot_list_append PySem.F.type_list_append mt_append (pe_var hN hv hd hcd) (pa_cons he pa_nil hs) hb hfew hend hs hpl) hsw) fun D s H ⟨F, g, w, q1, _⟩ => by
    obtain ⟨l, vs, O, r⟩ := Sat.own g w hi
    refine ⟨.ref l, O.here, .inl ⟨rfl, vs, SqL.of O.obj⟩, F, g, w, fun v t F1 H1 p1 g1 e1 w1 => ?_⟩
    obtain ⟨d, rfl, kk⟩ := k t p1
    obtain ⟨l1, vs1, O1, r1⟩ := Sat.own g1 w1.pop hi
    have el : l = l1 := by
      have z := O.here.symm.trans O1.here
      cases z
      rfl
    subst el
    obtain ⟨w2, g2⟩ := O1.put (vs1 ++ [v]) (ds ++ [d]) (r1.snoc (w1.topI rfl))
    exact ⟨l, vs1, v, rfl, rfl, O1.obj, by rw [r1.length]; exact Nat.lt_of_lt_of_le hl (by decide), q1 _ _ F1 _ kk g2 e1 w2⟩
/-- xs.extend(ys) -/
theorem s_ext (i : Nat) {es : List PyData} (he : EV X B G e (.list es)) (k : p.nx (G.set i (.own (ds ++ es)))) (hl : ds.length + es.length ≤ 100000) (hi : G[i]? = some (.own ds) := by rfl) (hN : X.N[i]? = some x := by rfl)
    (hv : Vis X.env.scope x := by first | exact Or.inl rfl | exact Or.inr (Or.inl rfl) | exact Or.inr (Or.inr rfl)) (hd : (x == ("__debug__" : Str)) = false := by decide) (hcd : (x == ("__classdict__" : Str)) = false := by decide)
    (hs : starEach (e :: []) X.env = (false, eval e X.env) :: starEach [] X.env := by rfl) (hsw : swapsWith (.Call (.Attribute (.Name x pos4) "extend" pos3) [e] [] pos2) none pos.line X.env = pure false := by rfl)
    (hb : attributeBase (.Name x pos4) "extend" X.env (eval (.Name x pos4) X.env) = eval (.Name x pos4) X.env := by rfl) (hfew : ((backTo pos2 (starEach (e :: []) X.env)).all (fun x => !x.1) && (backToKw pos2 (keywordEach [] X.env)).all (fun x => x.1.isSome)
      && decide ((e :: []).length + ([] : List Keyword).length + (if ([] : List Keyword).isEmpty then 0 else 1) < 30)) = true := by rfl)
    (hend : (pos3.endLine == pos2.line) = true := by rfl) (hpl : (backTo pos2 (starEach [] X.env)).any (·.1) = false := by rfl) :
    S1 X B G (.Expr (.Call (.Attribute (.Name x pos4) "extend" pos3) [e] [] pos2) pos) p :=
  PS.weak (ps_expr (pe_bm PySem.F.plainAttrs_list PySem.F.slot_list_extend PySem.F.type_list_extend mt_extend (pe_var hN hv hd hcd) (pa_cons he pa_nil hs) hb hfew hend hs hpl) hsw) fun D s H ⟨F, g, w, q1, _⟩ => by
    obtain ⟨l, vs, O, r⟩ := Sat.own g w hi
    refine ⟨.ref l, O.here, .inl ⟨rfl, vs, SqL.of O.obj⟩, F, g, w, fun v t F1 H1 p1 g1 e1 w1 => ?_⟩
    rw [show t = Sl.dat (.list es) from p1] at w1
    obtain ⟨l1, vs1, O1, r1⟩ := Sat.own g1 w1.pop hi
    have el : l = l1 := by
      have z := O.here.symm.trans O1.here
      cases z
      rfl
    subst el
    have rv : Rp F1 v (.list es) := w1.topI rfl
    cases rv with
    | @lst a xs _ h1 r2 =>
      obtain ⟨w2, g2⟩ := O1.put (vs1 ++ xs) (ds ++ es) (r1.append r2)
      exact ⟨l, a, vs1, xs, rfl, rfl, O1.obj, g1.h _ _ h1, by rw [r1.length, r2.length]; exact Nat.le_trans hl (by decide), q1 _ _ F1 _ k g2 e1 w2⟩
end
end Mk
namespace Mk
open PySem L2

/-! ### what a loop walks -/
structure WalkD (B : Bs) (J : It) (F : Hp) (ds : List PyData) : Prop where
  goes : ∀ i F1 H1, Same F F1 → Good B F1 H1 → i < ds.length → J.go i H1
  stops : ∀ F1 H1, Same F F1 → Good B F1 H1 → J.stop ds.length H1
  yld : ∀ i F1 H1 x H2, Same F F1 → Good B F1 H1 → i < ds.length → J.yld i H1 x H2 → ∃ F2 d, ds[i]? = some d ∧ Grow F1 H1 F2 H2 ∧ Rp F2 x d
def tI (B : Bs) (G : En) (PD : List PyData → Prop) : TI := fun s H R => ∃ F, Good B F H ∧ Sat B F H s G ∧
  ∀ ds J F' H', PD ds → Good B F' H' → Same F F' → Sat B F' H' s G → WalkD B J F' ds → R J H'
abbrev EI (X : Cx) (B : Bs) (G : En) (tg iter : Expr) (PD : List PyData → Prop) : Prop := PI X tg iter (tI B G PD)
theorem PI.weak {X : Cx} {tg e : Expr} {t t' : TI} (h : PI X tg e t) (k : ∀ s H R, t' s H R → t s H R) : PI X tg e t' := ⟨fun pins s σ H R I q => h.run pins s σ H R I (k _ _ _ q)⟩
section
variable {X : Cx} {B : Bs} {G : En} {e tg a b : Expr} {ds : List PyData} {p pos : Pos}
theorem walk_l {K : PySem.W.Frag} {F : Hp} {ad : Addr} {vs : List V} (h : F ad = some (.lst vs)) (r : Rps F vs ds) : WalkD B (Itl K ad) F ds where
  goes := fun i F1 H1 e1 e2 hi => by
    have hv : i < vs.length := by rw [r.length]; exact hi
    exact ⟨vs, vs[i], SqL.of (e2.h _ _ (e1 _ _ h)), List.getElem?_eq_getElem hv⟩
  stops := fun F1 H1 e1 e2 => ⟨vs, SqL.of (e2.h _ _ (e1 _ _ h)), by rw [r.length]; exact Nat.le_refl _⟩
  yld := fun i F1 H1 x H2 e1 e2 hi y => by
    obtain ⟨rfl, y⟩ := y
    obtain ⟨d, h1, h2⟩ := r.get (y vs (SqL.of (e2.h _ _ (e1 _ _ h))))
    exact ⟨F1, d, h1, .refl e2.h, h2.mono e1⟩
theorem walk_t {K : PySem.W.Frag} {F : Hp} {ad : Addr} {vs : List V} (h : F ad = some (.tup vs)) (r : Rps F vs ds) : WalkD B (Itt K ad) F ds where
  goes := fun i F1 H1 e1 e2 hi => by
    have hv : i < vs.length := by rw [r.length]; exact hi
    exact ⟨vs, vs[i], SqT.of (e2.h _ _ (e1 _ _ h)), List.getElem?_eq_getElem hv⟩
  stops := fun F1 H1 e1 e2 => ⟨vs, SqT.of (e2.h _ _ (e1 _ _ h)), by rw [r.length]; exact Nat.le_refl _⟩
  yld := fun i F1 H1 x H2 e1 e2 hi y => by
    obtain ⟨rfl, y⟩ := y
    obtain ⟨d, h1, h2⟩ := r.get (y vs (SqT.of (e2.h _ _ (e1 _ _ h))))
    exact ⟨F1, d, h1, .refl e2.h, h2.mono e1⟩
theorem i_list (h : EV X B G e (.list ds)) : EI X B G tg e (is ds) :=
  PI.weak (pi_list h) fun s H R ⟨F, g, w, q⟩ => ⟨F, g, w, fun v t F1 H1 p1 g1 e1 w1 => by
    rw [show t = Sl.dat (.list ds) from p1] at w1
    have r : Rp F1 v (.list ds) := w1.topI rfl
    cases r with
    | lst h1 r1 => exact ⟨_, rfl, ⟨_, SqL.of (g1.h _ _ h1)⟩, q ds _ F1 H1 rfl g1 e1 w1.pop (walk_l h1 r1)⟩⟩
theorem i_tup (h : EV X B G e (.tuple ds)) : EI X B G tg e (is ds) :=
  PI.weak (pi_tup h) fun s H R ⟨F, g, w, q⟩ => ⟨F, g, w, fun v t F1 H1 p1 g1 e1 w1 => by
    rw [show t = Sl.dat (.tuple ds) from p1] at w1
    have r : Rp F1 v (.tuple ds) := w1.topI rfl
    cases r with
    | tup h1 r1 => exact ⟨_, rfl, ⟨_, SqT.of (g1.h _ _ h1)⟩, q ds _ F1 H1 rfl g1 e1 w1.pop (walk_t h1 r1)⟩⟩
/-- 0, 1, .. -/
def rgD (n : Nat) : List PyData := (List.range n).map fun (i : Nat) => PyData.int (i : Int)
theorem rgD_len (n : Nat) : (rgD n).length = n := by simp [rgD]
theorem rgD_get {n i : Nat} (h : i < n) : (rgD n)[i]? = some (.int (i : Int)) := by
  unfold rgD
  rw [List.getElem?_map, List.getElem?_eq_getElem (by simpa using h)]
  simp
theorem walk_r {F : Hp} (n : Nat) : WalkD B (Itr 0 n) F (rgD n) where
  goes := fun i _ _ _ _ hi => by rw [rgD_len] at hi; exact hi
  stops := fun _ _ _ _ => by rw [rgD_len]; exact Nat.le_refl _
  yld := fun i F1 H1 x H2 e1 e2 hi y => by
    obtain ⟨rfl, rfl⟩ := y
    rw [rgD_len] at hi
    exact ⟨F1, _, rgD_get hi, .refl e2.h, by rw [Int.zero_add]; exact .int _⟩
theorem i_rangeP {P : Sl → Prop} {PD : List PyData → Prop} (h : EE X B G a P) (k : ∀ t, P t → ∃ n : Nat, t = .dat (.int (n : Int)) ∧ n ≤ 100000 ∧ PD (rgD n)) (hm : X.mg "range" = none) (hg : Gl X "range" := by rfl) (hs : starEach [a] X.env = [(false, eval a X.env)] := by rfl) : EI X B G tg (.Call (.Name "range" p) [a] [] pos) PD :=
  PI.weak (pi_range1 hg hm (pa_cons h pa_nil (by rw [hs]; rfl)) hs) fun s H R ⟨F, g, w, q⟩ => ⟨F, g, w, fun v t F1 H1 p1 g1 e1 w1 => by
    obtain ⟨n, rfl, hn, pd⟩ := k t p1
    have r : Rp F1 v (.int (n : Int)) := w1.topI rfl
    cases r
    have e : ((n : Int)).toNat = n := by omega
    refine ⟨n, rfl, by omega, by omega, ?_⟩
    rw [e]
    exact q _ _ F1 H1 pd g1 e1 w1.pop (walk_r n)⟩
theorem i_range {n : Nat} (h : EV X B G a (.int (n : Int))) (hn : n ≤ 100000) (hm : X.mg "range" = none) (hg : Gl X "range" := by rfl) (hs : starEach [a] X.env = [(false, eval a X.env)] := by rfl) : EI X B G tg (.Call (.Name "range" p) [a] [] pos) (is (rgD n)) :=
  i_rangeP h (fun t ht => ⟨n, ht, hn, rfl⟩) hm hg hs
end

/-! ### targets -/
inductive Tg where
  | one (i : Nat)
  | two (i j : Nat)
  | three (i j k : Nat)
def Tg.g (K : PySem.W.Frag) : Tg → TG
  | .one i => gName i
  | .two i j => gTup K 2 (gCons (gName i) (gCons (gName j) gNil))
  | .three i j k => gTup K 3 (gCons (gName i) (gCons (gName j) (gCons (gName k) gNil)))
def Tg.fits : Tg → PyData → Prop
  | .one _, _ => True
  | .two _ _, d => ∃ a b, d = .tuple [a, b]
  | .three _ _ _, d => ∃ a b c, d = .tuple [a, b, c]
def Tg.to : Tg → PyData → En → En
  | .one i, d, G => G.set i (.dat d)
  | .two i j, .tuple [a, b], G => (G.set i (.dat a)).set j (.dat b)
  | .three i j k, .tuple [a, b, c], G => ((G.set i (.dat a)).set j (.dat b)).set k (.dat c)
  | _, _, G => G
def Tg.sl : Tg → List Nat
  | .one i => [i]
  | .two i j => [i, j]
  | .three i j k => [i, j, k]
/-- slots stored one after another -/
inductive Stores : List Nat → L2.St → L2.St → Prop
  | nil (s : L2.St) : Stores [] s s
  | cons {i : Nat} {l : List Nat} {s s' : L2.St} (v : V) : Stores l (s.set i (some v)) s' → Stores (i :: l) s s'
theorem rps3 {F : Hp} {vs : List V} {d e f : PyData} (r : Rps F vs [d, e, f]) : ∃ v u t, vs = [v, u, t] ∧ Rp F v d ∧ Rp F u e ∧ Rp F t f := by
  cases r with
  | cons h q =>
    obtain ⟨u, t, rfl, h2, h3⟩ := rps2 q
    exact ⟨_, u, t, rfl, h, h2, h3⟩
theorem tg_run {K : PySem.W.Frag} {B : Bs} {F H : Hp} {s : L2.St} {G : En} {v : V} {d : PyData} {Q : L2.St → Hp → Prop} (T : Tg) (g : Good B F H) (w : Sat B F H s G) (r : Rp F v d) (f : T.fits d) (k : ∀ s', Stores T.sl s s' → Sat B F H s' (T.to d G) → Q s' H) : T.g K v s H Q := by
  cases T with
  | one i => exact k _ (.cons v (.nil _)) (w.pushD r).set
  | two i j =>
    obtain ⟨a, b, rfl⟩ := f
    cases r with
    | tup h1 r1 =>
      obtain ⟨v1, v2, rfl, ra, rb⟩ := rps2 r1
      refine ⟨_, _, rfl, SqT.of (g.h _ _ h1), rfl, v1, [v2], rfl, v2, [], rfl, rfl, ?_⟩
      exact k _ (.cons v1 (.cons v2 (.nil _))) (((w.pushD ra).set.pushD rb).set)
  | three i j l =>
    obtain ⟨a, b, c, rfl⟩ := f
    cases r with
    | tup h1 r1 =>
      obtain ⟨v1, v2, v3, rfl, ra, rb, rc⟩ := rps3 r1
      refine ⟨_, _, rfl, SqT.of (g.h _ _ h1), rfl, v1, [v2, v3], rfl, v2, [v3], rfl, v3, [], rfl, rfl, ?_⟩
      exact k _ (.cons v1 (.cons v2 (.cons v3 (.nil _)))) ((((w.pushD ra).set.pushD rb).set.pushD rc).set)
section
variable {X : Cx} {x y z : Str} {pos p1 p2 p3 : Pos} {kk : Nat}
theorem g_one (i : Nat) (hN : X.N.Nodup) (hi : X.N[i]? = some x := by rfl) (hx : Loc X.env.scope x := by first | exact Or.inl rfl | exact Or.inr rfl) (hf : X.fn x = true ∨ X.env.scope.names.lookup x = some .local := by first | exact .inl rfl | exact .inr rfl) : PG X (.Name x pos) ((Tg.one i).g X.K) := pg_name hN hi hx hf
theorem g_two (i j : Nat) (hc : X.calm = true) (hN : X.N.Nodup) (hi : X.N[i]? = some x := by rfl) (hj : X.N[j]? = some y := by rfl) (hx : Loc X.env.scope x := by first | exact Or.inl rfl | exact Or.inr rfl) (hy : Loc X.env.scope y := by first | exact Or.inl rfl | exact Or.inr rfl)
    (hf : X.fn x = true ∨ X.env.scope.names.lookup x = some .local := by first | exact .inl rfl | exact .inr rfl) (hf2 : X.fn y = true ∨ X.env.scope.names.lookup y = some .local := by first | exact .inl rfl | exact .inr rfl)
    (hn : (assignEach [Expr.Name x p1, Expr.Name y p2] X.env).length = 2 := by rfl) (hst : (assignEach [Expr.Name x p1, Expr.Name y p2] X.env).findIdx? (·.1) = none := by rfl)
    (h0 : (assignEach [Expr.Name x p1, Expr.Name y p2] X.env).map (·.2) = assign (.Name x p1) X.env :: (assignEach [Expr.Name y p2] X.env).map (·.2) := by rfl) (h1 : (assignEach [Expr.Name y p2] X.env).map (·.2) = assign (.Name y p2) X.env :: (assignEach [] X.env).map (·.2) := by rfl) : PG X (.Tuple [.Name x p1, .Name y p2] kk pos) ((Tg.two i j).g X.K) :=
  pg_tup hc (pgs_cons (pg_name hN hi hx hf) (pgs_cons (pg_name hN hj hy hf2) pgs_nil h1) h0) hn hst
theorem g_three (i j k : Nat) (hc : X.calm = true) (hN : X.N.Nodup) (hi : X.N[i]? = some x := by rfl) (hj : X.N[j]? = some y := by rfl) (hk : X.N[k]? = some z := by rfl) (hx : Loc X.env.scope x := by first | exact Or.inl rfl | exact Or.inr rfl) (hy : Loc X.env.scope y := by first | exact Or.inl rfl | exact Or.inr rfl) (hz : Loc X.env.scope z := by first | exact Or.inl rfl | exact Or.inr rfl)
    (hf : X.fn x = true ∨ X.env.scope.names.lookup x = some .local := by first | exact .inl rfl | exact .inr rfl) (hf2 : X.fn y = true ∨ X.env.scope.names.lookup y = some .local := by first | exact .inl rfl | exact .inr rfl) (hf3 : X.fn z = true ∨ X.env.scope.names.lookup z = some .local := by first | exact .inl rfl | exact .inr rfl)
    (hn : (assignEach [Expr.Name x p1, Expr.Name y p2, Expr.Name z p3] X.env).length = 3 := by rfl) (hst : (assignEach [Expr.Name x p1, Expr.Name y p2, Expr.Name z p3] X.env).findIdx? (·.1) = none := by rfl)
    (h0 : (assignEach [Expr.Name x p1, Expr.Name y p2, Expr.Name z p3] X.env).map (·.2) = assign (.Name x p1) X.env :: (assignEach [Expr.Name y p2, Expr.Name z p3] X.env).map (·.2) := by rfl) (h1 : (assignEach [Expr.Name y p2, Expr.Name z p3] X.env).map (·.2) = assign (.Name y p2) X.env :: (assignEach [Expr.Name z p3] X.env).map (·.2) := by rfl)
    (h2 : (assignEach [Expr.Name z p3] X.env).map (·.2) = assign (.Name z p3) X.env :: (assignEach [] X.env).map (·.2) := by rfl) : PG X (.Tuple [.Name x p1, .Name y p2, .Name z p3] kk pos) ((Tg.three i j k).g X.K) :=
  pg_tup hc (pgs_cons (pg_name hN hi hx hf) (pgs_cons (pg_name hN hj hy hf2) (pgs_cons (pg_name hN hk hz hf3) pgs_nil h2) h1) h0) hn hst
end

/-! ### for, while -/
section
variable {X : Cx} {B : Bs} {G : En} {e tg iter c : Expr} {body rest : List Stmt} {p : Po} {pos : Pos} {PD : List PyData → Prop}
theorem s_for (T : Tg) (I : List PyData → Nat → En → Prop) (hi : EI X B G tg iter PD) (hg : PG X tg (T.g X.K)) (fit : ∀ ds, PD ds → ∀ d ∈ ds, T.fits d) (h0 : ∀ ds, PD ds → I ds 0 G)
    (hb : ∀ ds i d G1, PD ds → ds[i]? = some d → I ds i G1 → SS X B (T.to d G1) body { nx := I ds (i + 1), ct := I ds (i + 1), bk := p.nx, rt := p.rt }) (hn : ∀ ds G', PD ds → I ds ds.length G' → p.nx G')
    (hp : PassesOwn (model X.prog X.w) X.A X.env X.xe) (hc : X.calm = true) (hs : ∀ x, foldedSetIterable iter X.env x = pure x := by intro _; rfl) : S1 X B G (.For tg iter body [] pos) p := by
  have hbf : PSs X body (fun D s H => ∃ ds i d G1, PD ds ∧ ds[i]? = some d ∧ I ds i G1 ∧ tS B (T.to d G1) { nx := I ds (i + 1), ct := I ds (i + 1), bk := p.nx, rt := p.rt } D s H) :=
    ⟨fun pins s σ H D J ⟨ds, i, d, G1, h1, h2, h3, q⟩ => (hb ds i d G1 h1 h2 h3).run pins s σ H D J q⟩
  refine PS.weak (ps_for hp hc hi hg hbf hs) fun D s H ⟨F, g, w, q1, q2, q3, q4⟩ => ⟨F, g, w, fun ds J F1 H1 pd g1 e1 w1 wk => ?_⟩
  refine ⟨fun i m s' H' => m = ds.length - i ∧ i ≤ ds.length ∧ ∃ F' G', I ds i G' ∧ Good B F' H' ∧ Same F1 F' ∧ Sat B F' H' s' G', ⟨ds.length, by simp, Nat.zero_le _, F1, G, h0 ds pd, g1, Same.refl _, w1⟩, ?_⟩
  rintro i m s' H' ⟨rfl, hle, F', G', ig, g', e', w'⟩
  by_cases hlt : i < ds.length
  · refine .inr ⟨wk.goes i F' H' e' g' hlt, fun s2 H2 => ∃ F2 G2, I ds (i + 1) G2 ∧ Good B F2 H2 ∧ Same F1 F2 ∧ Sat B F2 H2 s2 G2, fun s2 H2 ⟨F2, G2, a1, a2, a3, a4⟩ => ⟨ds.length - (i + 1), by omega, rfl, hlt, F2, G2, a1, a2, a3, a4⟩, fun x H2 y => ?_⟩
    obtain ⟨F2, d, hd, gr, r⟩ := wk.yld i F' H' x H2 e' g' hlt y
    refine tg_run T (g'.grow gr) (w'.grow gr) r (fit ds pd d (List.mem_of_getElem? hd)) fun s3 _ w3 => ?_
    have ee : Same F1 F2 := e'.trans gr.f
    refine ⟨ds, i, d, G', pd, hd, ig, F2, g'.grow gr, w3, ?_, ?_, ?_, ?_⟩
    · exact fun G4 s4 F4 H4 m4 g4 e4 w4 => ⟨F4, G4, m4, g4, ee.trans e4, w4⟩
    · exact fun v t G4 s4 F4 H4 m4 g4 e4 w4 => q2 v t G4 s4 F4 H4 m4 g4 ((e1.trans ee).trans e4) w4
    · exact fun G4 s4 F4 H4 m4 g4 e4 w4 => q1 G4 s4 F4 H4 m4 g4 ((e1.trans ee).trans e4) w4
    · exact fun G4 s4 F4 H4 m4 g4 e4 w4 => ⟨F4, G4, m4, g4, ee.trans e4, w4⟩
  · have ei : i = ds.length := by omega
    subst ei
    exact .inl ⟨wk.stops F' H' e' g', q1 G' s' F' H' (hn ds G' pd ig) g' (e1.trans e') w'⟩
/-- over known items, the places told turn by turn -/
theorem q_for {ds : List PyData} (T : Tg) (Gi : Nat → En) (hi : EI X B G tg iter (is ds)) (hg : PG X tg (T.g X.K)) (fit : ∀ d ∈ ds, T.fits d) (h0 : Gi 0 = G)
    (hb : ∀ i d, ds[i]? = some d → SS X B (T.to d (Gi i)) body { nx := is (Gi (i + 1)), ct := is (Gi (i + 1)), bk := fun _ => False, rt := p.rt }) (hr : SS X B (Gi ds.length) rest p)
    (hp : PassesOwn (model X.prog X.w) X.A X.env X.xe) (hc : X.calm = true) (hs : ∀ x, foldedSetIterable iter X.env x = pure x := by intro _; rfl) : SS X B G (.For tg iter body [] pos :: rest) p :=
  s_cons (Mid := is (Gi ds.length)) (s_for T (fun es i G' => es = ds ∧ G' = Gi i) hi hg (fun es h => by rw [show es = ds from h]; exact fit) (fun es h => ⟨h, h0.symm⟩) (fun es i d G1 h hd ⟨_, e⟩ => by
    rw [show es = ds from h] at hd
    rw [e]
    refine PSs.weak (hb i d hd) fun D s H ⟨F, g, w, q1, q2, q3, q4⟩ => ⟨F, g, w, fun G' s' F' H' m => q1 G' s' F' H' ⟨h, m⟩, q2, fun _ _ _ _ z => z.elim, fun G' s' F' H' m => q4 G' s' F' H' ⟨h, m⟩⟩) (fun es G' h ⟨_, e⟩ => by
    rw [show es = ds from h] at e
    exact e) hp hc hs) fun G' h => by
    rw [show G' = Gi ds.length from h]
    exact hr
/-- while: the places by some state, which falls -/
theorem s_while {β : Type} (Gi : β → En) (m : β → Nat) (b0 : β) (I : β → Prop) (i0 : I b0) (h0 : Gi b0 = G) (k : β → Bool) (ht : ∀ b, I b → ET X B (Gi b) c (is (k b)))
    (hb : ∀ b, I b → k b = true → SS X B (Gi b) body { nx := fun G' => ∃ b', I b' ∧ m b' < m b ∧ G' = Gi b', ct := fun G' => ∃ b', I b' ∧ m b' < m b ∧ G' = Gi b', bk := p.nx, rt := p.rt }) (hn : ∀ b, I b → k b = false → p.nx (Gi b))
    (hp : PassesOwn (model X.prog X.w) X.A X.env X.xe) : S1 X B G (.While c body [] pos) p := by
  have htf : PT X c (fun s H Q => ∃ b, I b ∧ tT B (Gi b) (is (k b)) s H Q) := ⟨fun pins s σ H Q J ⟨b, ib, q⟩ => (ht b ib).run pins s σ H Q J q⟩
  have hbf : PSs X body (fun D s H => ∃ b, I b ∧ k b = true ∧ tS B (Gi b) { nx := fun G' => ∃ b', I b' ∧ m b' < m b ∧ G' = Gi b', ct := fun G' => ∃ b', I b' ∧ m b' < m b ∧ G' = Gi b', bk := p.nx, rt := p.rt } D s H) :=
    ⟨fun pins s σ H D J ⟨b, ib, kb, q⟩ => (hb b ib kb).run pins s σ H D J q⟩
  refine PS.weak (ps_while hp htf hbf) fun D s H ⟨F, g, w, q1, q2, q3, q4⟩ => ?_
  refine ⟨fun n s' H' => ∃ b F', m b = n ∧ I b ∧ Good B F' H' ∧ Same F F' ∧ Sat B F' H' s' (Gi b), ⟨m b0, b0, F, rfl, i0, g, Same.refl _, by rw [h0]; exact w⟩, ?_⟩
  rintro n s' H' ⟨b, F', rfl, ib, g', e', w'⟩
  refine ⟨b, ib, F', g', w', fun x F2 H2 px g2 e2 w2 => ?_⟩
  rw [show x = k b from px]
  have ee : Same F F2 := e'.trans e2
  cases kb : k b with
  | true =>
    refine iteT ⟨fun s3 H3 => ∃ b' F3, m b' < m b ∧ I b' ∧ Good B F3 H3 ∧ Same F F3 ∧ Sat B F3 H3 s3 (Gi b'), fun s3 H3 ⟨b', F3, a1, a2, a3, a4, a5⟩ => ⟨m b', a1, b', F3, rfl, a2, a3, a4, a5⟩, b, ib, kb, F2, g2, w2, ?_, ?_, ?_, ?_⟩
    · rintro G4 s4 F4 H4 ⟨b', i', l', rfl⟩ g4 e4 w4
      exact ⟨b', F4, l', i', g4, ee.trans e4, w4⟩
    · exact fun v t G4 s4 F4 H4 m4 g4 e4 w4 => q2 v t G4 s4 F4 H4 m4 g4 (ee.trans e4) w4
    · exact fun G4 s4 F4 H4 m4 g4 e4 w4 => q1 G4 s4 F4 H4 m4 g4 (ee.trans e4) w4
    · rintro G4 s4 F4 H4 ⟨b', i', l', rfl⟩ g4 e4 w4
      exact ⟨b', F4, l', i', g4, ee.trans e4, w4⟩
  | false => exact iteF (q1 _ s' F2 H2 (hn b ib kb) g2 ee w2)
end
end Mk
namespace Mk
open PySem L2

/-! ### slots set aside -/
def wipeG (G : En) : List Nat → En
  | [] => G
  | v :: vs => (wipeG G vs).set v .any
theorem Sat.drop {B : Bs} {F H : Hp} {s : L2.St} {G : En} {i : Nat} {o : Option V} (w : Sat B F H s G) : Sat B F H (s.set i o) (G.set i .any) := by
  obtain ⟨ad, w0⟩ := w
  refine ⟨ad, by rw [List.length_set, List.length_set]; exact w0.len, fun j t e => ?_, fun j k t u e1 e2 o1 o2 z => ?_⟩
  · by_cases hj : j = i
    · subst hj
      by_cases hl : j < G.length
      · rw [List.getElem?_set_self hl] at e
        cases e
        trivial
      · rw [List.getElem?_eq_none (by simp; omega)] at e
        cases e
    · rw [List.getElem?_set_ne (Ne.symm hj)] at e ⊢
      exact w0.ok j t e
  · have get : ∀ {m : Nat} {v : Sl}, (G.set i .any)[m]? = some v → v.owned = true → G[m]? = some v := fun {m v} em om => by
      by_cases hm : m = i
      · subst hm
        by_cases hl : m < G.length
        · rw [List.getElem?_set_self hl] at em
          cases em
          cases om
        · rw [List.getElem?_eq_none (by simp; omega)] at em
          cases em
      · rw [List.getElem?_set_ne (Ne.symm hm)] at em
        exact em
    exact w0.inj j k t u (get e1 o1) (get e2 o2) o1 o2 z
theorem Sat.wipe {B : Bs} {F H : Hp} {s : L2.St} {G : En} (w : Sat B F H s G) : ∀ vs : List Nat, Sat B F H (wipe s vs) (wipeG G vs)
  | [] => w
  | v :: vs => (Sat.wipe w vs).drop
theorem wipe_at (s : L2.St) (j : Nat) : ∀ vs : List Nat, (wipe s vs)[j]? = if j ∈ vs ∧ j < s.length then some none else s[j]?
  | [] => by simp [wipe]
  | v :: vs => by
    show ((wipe s vs).set v none)[j]? = _
    by_cases h : v = j
    · subst h
      by_cases hl : v < s.length
      · rw [List.getElem?_set_self (by rw [wipe_length]; exact hl), if_pos ⟨by simp, hl⟩]
      · rw [List.getElem?_eq_none (by rw [List.length_set, wipe_length]; omega), if_neg (fun z => hl z.2), List.getElem?_eq_none (by omega)]
    · rw [List.getElem?_set_ne h, wipe_at s j vs]
      have e : (j ∈ v :: vs ∧ j < s.length) ↔ (j ∈ vs ∧ j < s.length) := by
        simp [fun z : j = v => h z.symm]
        intro _ z
        exact absurd z.symm h
      by_cases q : j ∈ vs ∧ j < s.length
      · rw [if_pos q, if_pos (e.mpr q)]
      · rw [if_neg q, if_neg (fun z => q (e.mp z))]
theorem wipe_ext {s t : L2.St} {vs : List Nat} (hl : s.length = t.length) (h : ∀ j, j ∉ vs → s[j]? = t[j]?) : wipe s vs = wipe t vs := by
  apply List.ext_getElem?
  intro j
  rw [wipe_at, wipe_at]
  by_cases q : j ∈ vs
  · by_cases l : j < s.length
    · rw [if_pos ⟨q, l⟩, if_pos ⟨q, by omega⟩]
    · rw [if_neg (fun z => l z.2), if_neg (fun z => l (by omega)), List.getElem?_eq_none (by omega), List.getElem?_eq_none (by omega)]
  · rw [if_neg (fun z => q z.1), if_neg (fun z => q z.1), h j q]
theorem Stores.len : ∀ {l : List Nat} {s s' : L2.St}, Stores l s s' → s'.length = s.length
  | _, _, _, .nil _ => rfl
  | _, _, _, .cons v h => by rw [h.len, List.length_set]
theorem Stores.other : ∀ {l : List Nat} {s s' : L2.St}, Stores l s s' → ∀ j, j ∉ l → s'[j]? = s[j]?
  | _, _, _, .nil _, _, _ => rfl
  | _, _, _, .cons v h, j, hj => by
    rw [List.mem_cons, not_or] at hj
    rw [h.other j hj.2, List.getElem?_set_ne (fun z => hj.1 z.symm)]
theorem Stores.wipe {l vs : List Nat} {s s' : L2.St} (h : Stores l (wipe s vs) s') (hl : ∀ j ∈ l, j ∈ vs) : L2.wipe s' vs = L2.wipe s vs :=
  wipe_ext (by rw [h.len, wipe_length]) fun j hj => by
    rw [h.other j fun z => hj (hl j z), wipe_at, if_neg fun z => hj z.1]
theorem Stores.wipe_other {l vs : List Nat} {s s' : L2.St} (h : Stores l (L2.wipe s vs) s') (hl : ∀ j ∈ l, j ∈ vs) {j : Nat} (hj : j ∉ vs) : s'[j]? = s[j]? := by
  rw [h.other j fun z => hj (hl j z), wipe_at, if_neg fun z => hj z.1]
theorem wipeG_other {G : En} {j : Nat} : ∀ {vs : List Nat}, j ∉ vs → (wipeG G vs)[j]? = G[j]?
  | [], _ => rfl
  | v :: vs, h => by
    rw [List.mem_cons, not_or] at h
    show ((wipeG G vs).set v .any)[j]? = _
    rw [List.getElem?_set_ne (fun z => h.1 z.symm), wipeG_other h.2]
theorem Tg.to_other {T : Tg} {d : PyData} {G : En} {j : Nat} (h : j ∉ T.sl) : (T.to d G)[j]? = G[j]? := by
  cases T with
  | one i =>
    have h' : i ≠ j := fun z => h (by simp [Tg.sl, z])
    exact List.getElem?_set_ne h'
  | two i k =>
    have h1 : i ≠ j := fun z => h (by simp [Tg.sl, z])
    have h2 : k ≠ j := fun z => h (by simp [Tg.sl, z])
    unfold Tg.to
    split
    · rename_i e; cases e
    · rename_i e; cases e
      rw [List.getElem?_set_ne h2, List.getElem?_set_ne h1]
    · rename_i e; cases e
    · rfl
  | three i k l =>
    have h1 : i ≠ j := fun z => h (by simp [Tg.sl, z])
    have h2 : k ≠ j := fun z => h (by simp [Tg.sl, z])
    have h3 : l ≠ j := fun z => h (by simp [Tg.sl, z])
    unfold Tg.to
    split
    · rename_i e; cases e
    · rename_i e; cases e
    · rename_i e; cases e
      rw [List.getElem?_set_ne h3, List.getElem?_set_ne h2, List.getElem?_set_ne h1]
    · rfl
/-- no owned slot is set aside -/
def aside (G : En) (vs : List Nat) : Bool := vs.all fun v => match G[v]? with | some t => !t.owned | none => true
theorem aside_no {G : En} {vs : List Nat} (h : aside G vs = true) {i : Nat} {t : Sl} (e : G[i]? = some t) (o : t.owned = true) : i ∉ vs := fun hm => by
  have q := List.all_eq_true.mp h i hm
  rw [e] at q
  simp [o] at q

/-! ### the base with one list more -/
def Bs.plus (B : Bs) (D : Addr) (o : HO) : Bs := ⟨B.F, upd B.M D o⟩
section
variable {B : Bs} {F H F' H' : Hp} {s : L2.St} {G : En} {D : Addr} {o : HO}
theorem Good.plus (g : Good B F H) (h : H D = some o) (hF : F D = none) : Good (B.plus D o) F H :=
  ⟨g.f, g.h, fun b x e => by
    by_cases z : b = D
    · subst z
      have e' : upd B.M b o b = some x := e
      rw [upd_same] at e'
      rw [h]
      exact e'
    · have e' : upd B.M D o b = some x := e
      rw [upd_ne z] at e'
      exact g.m b x e', fun a x e n => by
    have z : a ≠ D := fun z => by rw [z, hF] at e; cases e
    show TU (upd B.M D o a)
    rw [upd_ne z]
    exact g.n a x e n⟩
theorem Good.minus (g : Good (B.plus D o) F H) (n : B.M D = none) (ho : ∀ xs, o ≠ .tup xs := by intro _ h; cases h) : Good B F H ∧ H D = some o ∧ (B.F D = none → F D = none) := by
  refine ⟨⟨g.f, g.h, fun b x e => ?_, fun a x e q => ?_⟩, g.m D o (show upd B.M D o D = some o from upd_same), fun q => ?_⟩
  · have z : b ≠ D := fun z => by rw [z, n] at e; cases e
    exact g.m b x (show upd B.M D o b = some x by rw [upd_ne z]; exact e)
  · have k : TU (upd B.M D o a) := g.n a x e q
    by_cases z : a = D
    · rw [z]
      exact .inl n
    · rw [upd_ne z] at k
      exact k
  · cases e : F D with
    | none => rfl
    | some x =>
      have k : TU (upd B.M D o D) := g.n D x e q
      rw [upd_same] at k
      rcases k with k | ⟨xs, k⟩
      · cases k
      · exact absurd (Option.some.inj k) (ho xs)
theorem SlOk.plus {t : Sl} {v : Option V} {a : Addr} (h : SlOk B F H v a t) (k : t.owned = true → a ≠ D) : SlOk (B.plus D o) F H v a t := by
  have e : t.owned = true → (B.plus D o).M a = B.M a := fun z => upd_ne (k z)
  cases t with
  | any => trivial
  | adr p => exact h
  | dat d => exact h
  | bk C c k => exact h
  | own ds => exact ⟨h.1, h.2.1, (e rfl).trans h.2.2.1, h.2.2.2⟩
  | dic ks => exact ⟨h.1, h.2.1, (e rfl).trans h.2.2.1, h.2.2.2⟩
  | box p =>
    obtain ⟨h1, rfl, h2, h3, h4⟩ := h
    exact ⟨h1, rfl, h2, (e rfl).trans h3, h4⟩
  | ob C p fs =>
    obtain ⟨h1, rfl, h2, h3, h4⟩ := h
    exact ⟨h1, rfl, h2, (e rfl).trans h3, h4⟩
theorem Sat.plus (w : Sat B F H s G) (h : ∀ (i : Nat) (t : Sl) (a : Addr), G[i]? = some t → t.owned = true → s[i]?.join = some (V.ref a) → a ≠ D) : Sat (B.plus D o) F H s G := by
  obtain ⟨ad, w0⟩ := w
  exact ⟨ad, w0.len, fun i t e => (w0.ok i t e).plus fun z => h i t _ e z ((w0.ok i t e).here z).1, w0.inj⟩
theorem Sat.minus (w : Sat (B.plus D o) F H s G) : Sat B F H s G := by
  obtain ⟨ad, w0⟩ := w
  refine ⟨ad, w0.len, fun i t e => ?_, w0.inj⟩
  have q := w0.ok i t e
  have m : ∀ a, (B.plus D o).M a = none → B.M a = none := fun a k => by
    have k' : upd B.M D o a = none := k
    by_cases z : a = D
    · rw [z, upd_same] at k'
      cases k'
    · rw [upd_ne z] at k'
      exact k'
  cases t with
  | any => trivial
  | adr p => exact q
  | dat d => exact q
  | bk C c k => exact q
  | own ds => exact ⟨q.1, q.2.1, m _ q.2.2.1, q.2.2.2⟩
  | dic ks => exact ⟨q.1, q.2.1, m _ q.2.2.1, q.2.2.2⟩
  | box p =>
    obtain ⟨h1, h2, h3, h4, h5⟩ := q
    exact ⟨h1, h2, h3, m _ h4, h5⟩
  | ob C p fs =>
    obtain ⟨h1, h2, h3, h4, h5⟩ := q
    exact ⟨h1, h2, h3, m _ h4, h5⟩
/-- owned objects stand apart from a thing that they don't hold -/
theorem Sat.apart (w : Sat B F H s G) (n : H D = none) : ∀ (i : Nat) (t : Sl) (a : Addr), G[i]? = some t → t.owned = true → s[i]?.join = some (V.ref a) → a ≠ D := fun i t a e o' k z => by
  obtain ⟨ad, w0⟩ := w
  obtain ⟨h1, _, _, u, h4⟩ := (w0.ok i t e).here o'
  rw [k] at h1
  cases h1
  rw [z, n] at h4
  cases h4
end

/-! ### comprehensions -/
/-- what comes of the items: T d says how the tests may turn out, P d what the element may be -/
inductive LcRel (T : PyData → Bool → Prop) (P : PyData → Sl → Prop) : List PyData → List PyData → Prop
  | nil : LcRel T P [] []
  | no {d : PyData} {ds es : List PyData} : T d false → LcRel T P ds es → LcRel T P (ds ++ [d]) es
  | yes {d e : PyData} {ds es : List PyData} : T d true → P d (.dat e) → LcRel T P ds es → LcRel T P (ds ++ [d]) (es ++ [e])
theorem LcRel.len {T : PyData → Bool → Prop} {P : PyData → Sl → Prop} : ∀ {ds es : List PyData}, LcRel T P ds es → es.length ≤ ds.length
  | _, _, .nil => Nat.le_refl _
  | _, _, .no _ h => by have := h.len; simp; omega
  | _, _, .yes _ _ h => by have := h.len; simp; omega
/-- tests and elements known -/
theorem LcRel.det {f : PyData → Bool} {v : PyData → PyData} {T : PyData → Bool → Prop} {P : PyData → Sl → Prop} {ds es : List PyData} (h : LcRel T P ds es) : (∀ d ∈ ds, ∀ k, T d k → k = f d) → (∀ d ∈ ds, ∀ e, P d (.dat e) → e = v d) → es = (ds.filter f).map v := by
  induction h with
  | nil => intro _ _; rfl
  | @no d ds es t h ih =>
    intro h1 h2
    have e := h1 d (by simp) false t
    rw [List.filter_append, List.map_append, ih (fun x hx => h1 x (by simp [hx])) (fun x hx => h2 x (by simp [hx])), List.filter_cons_of_neg (by rw [← e]; decide)]
    simp
  | @yes d e' ds es t q h ih =>
    intro h1 h2
    have e := h1 d (by simp) true t
    have e2 := h2 d (by simp) e' q
    rw [List.filter_append, List.map_append, ih (fun x hx => h1 x (by simp [hx])) (fun x hx => h2 x (by simp [hx])), List.filter_cons_of_pos (by rw [← e])]
    simp [e2]
abbrev ETs (X : Cx) (B : Bs) (G : En) (ifs : List Expr) (P : Bool → Prop) : Prop := PTs X ifs (tT B G P)
theorem PTs.weak {X : Cx} {e : List Expr} {t t' : TT} (h : PTs X e t) (k : ∀ s H Q, t' s H Q → t s H Q) : PTs X e t' := ⟨fun pins s σ H Q I q => h.run pins s σ H Q I (k _ _ _ q)⟩
theorem ts_nil {X : Cx} {B : Bs} {G : En} : ETs X B G [] (is true) := PTs.weak pts_nil fun s H Q ⟨F, g, w, q⟩ => q true F H rfl g (Same.refl _) w
theorem ts_one {X : Cx} {B : Bs} {G : En} {c : Expr} {P : Bool → Prop} (h : ET X B G c P) : ETs X B G [c] P := pts_one h
section
variable {X : Cx} {B : Bs} {G : En} {elt tg iter : Expr} {ifs : List Expr} {scope : Scope} {own : List (Str × Nat)} {pos : Pos} {PD : List PyData → Prop} {Tt : PyData → Bool → Prop} {P : PyData → Sl → Prop}
theorem lc_read' (T : Tg) (hsl : ∀ j ∈ T.sl, j ∈ own.map (·.2)) (has : aside G (own.map (·.2)) = true) {ds : List PyData} (fit : ∀ d ∈ ds, T.fits d) (hz : ds.length ≤ 100000) {s : L2.St} {F F1 H H1 : Hp} {Q : VK} {J : It} (pd : PD ds) (hP : ∀ d ∈ ds, ∀ t, P d t → ∃ e, t = .dat e)
    (g1 : Good B F1 H1) (w1 : Sat B F1 H1 s G) (wk : WalkD B J F1 ds) (q : ∀ v t F' H', (∃ es, t = .own es ∧ LcRel Tt P ds es) → Good B F' H' → Same F1 F' → Sat B F' H' (some v :: s) (t :: G) → Q v H') :
    tLc (fun _ _ R => R J H1) (T.g X.K) (fun s H Q => ∃ (B' : Bs) (d : PyData) (ds : List PyData), PD ds ∧ d ∈ ds ∧ tT B' (T.to d (wipeG G (own.map (·.2)))) (Tt d) s H Q)
      (fun s H Q => ∃ (B' : Bs) (d : PyData) (ds : List PyData), PD ds ∧ d ∈ ds ∧ Tt d true ∧ tE B' (T.to d (wipeG G (own.map (·.2)))) (P d) s H Q) (own.map (·.2)) s H Q := by
  generalize hvs : own.map (·.2) = vs at hsl has ⊢
  intro D hD
  have hFD : F1 D = none := g1.h.free hD
  have hMD : B.M D = none := g1.m.free hD
  have hBF : B.F D = none := g1.f.free hFD
  have ap : ∀ {F2 H2 : Hp}, Sat B F2 H2 s G → ∀ (i : Nat) (t : Sl) (a : Addr), G[i]? = some t → t.owned = true → s[i]?.join = some (V.ref a) → a ≠ D := by
    intro F2 H2 _ i t a e o k z
    exact Sat.apart w1 hD i t a e o k z
  refine ⟨fun i m H' => m = ds.length - i ∧ i ≤ ds.length ∧ ∃ F' acc es, LcRel Tt P (ds.take i) es ∧ Good B F' H' ∧ Same F1 F' ∧ Sat B F' H' s G ∧ H' D = some (.lst acc) ∧ F' D = none ∧ Rps F' acc es, ⟨ds.length, by simp, Nat.zero_le _, F1, [], [], .nil, g1.grow (Grow.loose g1.h hD), Same.refl _, w1.grow (Grow.loose g1.h hD), upd_same, hFD, .nil⟩, ?_⟩
  rintro i m H' ⟨rfl, hle, F', acc, es, rel, g', e', w', hD', hFD', rp⟩
  by_cases hlt : i < ds.length
  · refine .inr ⟨wk.goes i F' H' e' g' hlt, fun H2 => ∃ F2 acc es, LcRel Tt P (ds.take (i + 1)) es ∧ Good B F2 H2 ∧ Same F1 F2 ∧ Sat B F2 H2 s G ∧ H2 D = some (.lst acc) ∧ F2 D = none ∧ Rps F2 acc es,
      fun H2 ⟨F2, a2, es2, r1, r2, r3, r4, r5, r6, r7⟩ => ⟨ds.length - (i + 1), by omega, rfl, hlt, F2, a2, es2, r1, r2, r3, r4, r5, r6, r7⟩, fun x H2 y => ?_⟩
    obtain ⟨F2, d, hd, gr, r⟩ := wk.yld i F' H' x H2 e' g' hlt y
    have hmem : d ∈ ds := List.mem_of_getElem? hd
    have g2 := g'.grow gr
    have w2 := w'.grow gr
    have hD2 : H2 D = some (.lst acc) := gr.h _ _ hD'
    have hFD2 : F2 D = none := by
      cases z : F2 D with
      | none => rfl
      | some u =>
        have k := gr.n D u z hFD'
        rw [hD'] at k
        rcases k with k | ⟨_, k⟩ <;> cases k
    have tk : ds.take (i + 1) = ds.take i ++ [d] := by rw [List.take_add_one, hd]; rfl
    -- back to the places as they were
    have back : ∀ {s3 : L2.St} {F3 H3 : Hp}, Stores T.sl (wipe s vs) s3 → Same F2 F3 → Sat B F3 H3 s3 (T.to d (wipeG G vs)) → Sat B F3 H3 s G := fun {s3 F3 H3} st e3 w3 =>
      Sat.back w2 w3 e3 fun j t ej oj => by
        have nj := aside_no has ej oj
        refine ⟨?_, by rw [st.wipe_other hsl nj]⟩
        rw [Tg.to_other fun z => nj (hsl j z), wipeG_other nj]
        exact ej
    have ap3 : ∀ {s3 : L2.St}, Stores T.sl (wipe s vs) s3 → ∀ (j : Nat) (t : Sl) (a : Addr), (T.to d (wipeG G vs))[j]? = some t → t.owned = true → s3[j]?.join = some (V.ref a) → a ≠ D := fun {s3} st j t a ej oj k => by
      by_cases nj : j ∈ vs
      · exfalso
        -- a slot of the block's own holds a datum or nothing
        have own_no : ∀ (U : Tg) (Γ : En) (j : Nat) (t : Sl), (∀ u, Γ[j]? = some u → u.owned = false) → (U.to d Γ)[j]? = some t → t.owned = false := fun U Γ j t hΓ e => by
          have set_no : ∀ (Γ : En) (i : Nat) (c : PyData), (∀ u, Γ[j]? = some u → u.owned = false) → ∀ u, (Γ.set i (.dat c))[j]? = some u → u.owned = false := fun Γ i c hΓ u e => by
            by_cases z : i = j
            · subst z
              by_cases l : i < Γ.length
              · rw [List.getElem?_set_self l] at e
                cases e
                rfl
              · rw [List.getElem?_eq_none (by simp; omega)] at e
                cases e
            · rw [List.getElem?_set_ne z] at e
              exact hΓ u e
          revert e
          cases U with
          | one i => exact set_no Γ i d hΓ t
          | two i k =>
            unfold Tg.to
            split
            · rename_i e; cases e
            · rename_i e; cases e
              exact set_no _ _ _ (set_no _ _ _ hΓ) t
            · rename_i e; cases e
            · exact hΓ t
          | three i k l =>
            unfold Tg.to
            split
            · rename_i e; cases e
            · rename_i e; cases e
            · rename_i e; cases e
              exact set_no _ _ _ (set_no _ _ _ (set_no _ _ _ hΓ)) t
            · exact hΓ t
        have z := own_no T (wipeG G vs) j t (fun u eu => by
          have wipe_any : ∀ vs : List Nat, j ∈ vs → ∀ u, (wipeG G vs)[j]? = some u → u = .any := fun vs => by
            induction vs with
            | nil => intro h; simp at h
            | cons v vs ih =>
              intro h u e
              have e' : ((wipeG G vs).set v .any)[j]? = some u := e
              by_cases z : v = j
              · subst z
                by_cases l : v < (wipeG G vs).length
                · rw [List.getElem?_set_self l] at e'
                  cases e'
                  rfl
                · rw [List.getElem?_eq_none (by simp; omega)] at e'
                  cases e'
              · rw [List.getElem?_set_ne z] at e'
                rcases List.mem_cons.mp h with h | h
                · exact absurd h.symm z
                · exact ih h u e'
          rw [wipe_any vs nj u eu]
          rfl) ej
        rw [oj] at z
        cases z
      · have ej' : G[j]? = some t := by
          rw [Tg.to_other fun z => nj (hsl j z), wipeG_other nj] at ej
          exact ej
        rw [st.wipe_other hsl nj] at k
        exact ap w2 j t a ej' oj k
    refine tg_run T g2 (w2.wipe vs) r (fit d hmem) fun s3 st w3 => ⟨st.wipe hsl, B.plus D (.lst acc), d, ds, pd, hmem, F2, g2.plus hD2 hFD2, w3.plus (ap3 st), fun b F3 H3 tb g3 e3 w3' => ?_⟩
    obtain ⟨g3', hD3, hFD3⟩ := g3.minus hMD
    have w3m := w3'.minus
    cases b with
    | false => exact iteF ⟨F3, acc, es, by rw [tk]; exact .no tb rel, g3', (e'.trans gr.f).trans e3, back st e3 w3m, hD3, hFD3 hBF, rp.mono (gr.f.trans e3)⟩
    | true =>
      refine iteT ⟨B.plus D (.lst acc), d, ds, pd, hmem, tb, F3, g3, w3', fun v t F4 H4 pt g4 e4 w4 => ?_⟩
      obtain ⟨e, rfl⟩ := hP d hmem t pt
      obtain ⟨g4', hD4, hFD4⟩ := g4.minus hMD
      have w4m := w4.minus
      have fD := hFD4 hBF
      have rv : Rp F4 v e := w4m.topI rfl
      have sz : acc.length < sizeLine := by
        have h1 := rp.length
        have h2 := rel.len
        have h3 := hz
        rw [List.length_take] at h2
        exact Nat.lt_of_le_of_lt (by omega : acc.length ≤ 100000) (by decide)
      refine ⟨acc, hD4, sz, F4, acc ++ [v], es ++ [e], by rw [tk]; exact .yes tb pt rel, ?_, ((e'.trans gr.f).trans e3).trans e4, ?_, upd_same, fD, (rp.mono ((gr.f.trans e3).trans e4)).snoc rv⟩
      · refine ⟨g4'.f, fun b x q => ?_, fun b x q => ?_, g4'.n⟩
        · have z : b ≠ D := fun z => by rw [z, fD] at q; cases q
          rw [upd_ne z]
          exact g4'.h _ _ q
        · have z : b ≠ D := fun z => by rw [z, hMD] at q; cases q
          rw [upd_ne z]
          exact g4'.m _ _ q
      · have w5 : Sat B F4 H4 s G := back st (e3.trans e4) w4m.pop
        obtain ⟨ad, w0⟩ := w5
        refine ⟨ad, w0.len, fun j t ej => (w0.ok j t ej).go (Same.refl _) fun o => ⟨?_, ((w0.ok j t ej).here o).2.1⟩, w0.inj⟩
        exact upd_ne (ap w2 j t _ ej o ((w0.ok j t ej).here o).1)
  · have ei : i = ds.length := by omega
    subst ei
    refine .inl ⟨wk.stops F' H' e' g', ?_⟩
    rw [List.take_length] at rel
    refine q _ _ F' H' ⟨es, rfl, rel⟩ g' e' ?_
    exact w'.pushO ⟨rfl, hFD', hMD, acc, hD', rp⟩ (ap w')
theorem lc_read (T : Tg) (hsl : ∀ j ∈ T.sl, j ∈ own.map (·.2)) (has : aside G (own.map (·.2)) = true) (fit : ∀ ds, PD ds → ∀ d ∈ ds, T.fits d) (hz : ∀ ds, PD ds → ds.length ≤ 100000) {s : L2.St} {H : Hp} {Q : VK} (hP : ∀ ds, PD ds → ∀ d ∈ ds, ∀ t, P d t → ∃ e, t = .dat e)
    (h : tE B G (fun t => ∃ ds es, PD ds ∧ t = .own es ∧ LcRel Tt P ds es) s H Q) :
    tLc (tI B G PD) (T.g X.K) (fun s H Q => ∃ (B' : Bs) (d : PyData) (ds : List PyData), PD ds ∧ d ∈ ds ∧ tT B' (T.to d (wipeG G (own.map (·.2)))) (Tt d) s H Q)
      (fun s H Q => ∃ (B' : Bs) (d : PyData) (ds : List PyData), PD ds ∧ d ∈ ds ∧ Tt d true ∧ tE B' (T.to d (wipeG G (own.map (·.2)))) (P d) s H Q) (own.map (·.2)) s H Q := by
  obtain ⟨F, g, w, q⟩ := h
  exact ⟨F, g, w, fun ds J F1 H1 pd g1 e1 w1 wk => lc_read' (F := F1) (H := H) T hsl has (fit ds pd) (hz ds pd) pd (hP ds pd) g1 w1 wk fun v t F' H' ⟨es, h1, h2⟩ g' e' w' => q v t F' H' ⟨ds, es, pd, h1, h2⟩ g' (e1.trans e') w'⟩
/-- [elt for tg in iter if ..] : a new list -/
theorem e_lcO (T : Tg) (own : List (Str × Nat)) (hi : EI X B G tg iter PD) (hg : ∀ (s : Shared) (H : Hp) (C : Addr) (cl : List (Str × Addr)) (fp : List Addr), PG (X.blk s H scope (compEnvC scope cl C X.env) fp) tg (T.g X.K))
    (ht : ∀ (s : Shared) (H : Hp) (C : Addr) (cl : List (Str × Addr)) (fp : List Addr) (B' : Bs) ds d, PD ds → d ∈ ds → ETs (X.blk s H scope (compEnvC scope cl C X.env) fp) B' (T.to d (wipeG G (own.map (·.2)))) ifs (Tt d))
    (he : ∀ (s : Shared) (H : Hp) (C : Addr) (cl : List (Str × Addr)) (fp : List Addr) (B' : Bs) ds d, PD ds → d ∈ ds → Tt d true → EE (X.blk s H scope (compEnvC scope cl C X.env) fp) B' (T.to d (wipeG G (own.map (·.2)))) elt (P d))
    (fit : ∀ ds, PD ds → ∀ d ∈ ds, T.fits d) (hz : ∀ ds, PD ds → ds.length ≤ 100000) (hP : ∀ ds, PD ds → ∀ d ∈ ds, ∀ t, P d t → ∃ e, t = .dat e)
    (ok : BlkOk X.N X.env.scope scope own) (hN : X.N.Nodup) (hsl : ∀ j ∈ T.sl, j ∈ own.map (·.2) := by decide) (has : aside G (own.map (·.2)) = true := by rfl) (hc : X.calm = true := by rfl) (hs : ∀ x, foldedSetIterable iter X.env x = pure x := by intro _; rfl) :
    EE X B G (.ListComp elt [⟨tg, iter, ifs, 0⟩] scope pos) (fun t => ∃ ds es, PD ds ∧ t = .own es ∧ LcRel Tt P ds es) :=
  PE.weak (pe_lc hc hN hi ok hg
    (fun s H C cl fp => (⟨fun pins s' σ H' Q I ⟨B', d, ds, h1, h2, q⟩ => (ht s H C cl fp B' ds d h1 h2).run pins s' σ H' Q I q⟩ : PTs _ ifs (fun s H Q => ∃ (B' : Bs) (d : PyData) (ds : List PyData), PD ds ∧ d ∈ ds ∧ tT B' (T.to d (wipeG G (own.map (·.2)))) (Tt d) s H Q)))
    (fun s H C cl fp => (⟨fun pins s' σ H' Q I ⟨B', d, ds, h1, h2, h3, q⟩ => (he s H C cl fp B' ds d h1 h2 h3).run pins s' σ H' Q I q⟩ : PE _ elt (fun s H Q => ∃ (B' : Bs) (d : PyData) (ds : List PyData), PD ds ∧ d ∈ ds ∧ Tt d true ∧ tE B' (T.to d (wipeG G (own.map (·.2)))) (P d) s H Q))) hs)
    fun s H Q h => lc_read T hsl has fit hz hP h
/-- the same where items, tests and elements are known -/
theorem e_lc {ds : List PyData} (T : Tg) (own : List (Str × Nat)) (f : PyData → Bool) (v : PyData → PyData) (hi : EI X B G tg iter (is ds)) (hg : ∀ (s : Shared) (H : Hp) (C : Addr) (cl : List (Str × Addr)) (fp : List Addr), PG (X.blk s H scope (compEnvC scope cl C X.env) fp) tg (T.g X.K))
    (ht : ∀ (s : Shared) (H : Hp) (C : Addr) (cl : List (Str × Addr)) (fp : List Addr) (B' : Bs) d, d ∈ ds → ETs (X.blk s H scope (compEnvC scope cl C X.env) fp) B' (T.to d (wipeG G (own.map (·.2)))) ifs (is (f d)))
    (he : ∀ (s : Shared) (H : Hp) (C : Addr) (cl : List (Str × Addr)) (fp : List Addr) (B' : Bs) d, d ∈ ds → f d = true → EV (X.blk s H scope (compEnvC scope cl C X.env) fp) B' (T.to d (wipeG G (own.map (·.2)))) elt (v d))
    (fit : ∀ d ∈ ds, T.fits d) (hz : ds.length ≤ 100000)
    (ok : BlkOk X.N X.env.scope scope own) (hN : X.N.Nodup) (hsl : ∀ j ∈ T.sl, j ∈ own.map (·.2) := by decide) (has : aside G (own.map (·.2)) = true := by rfl) (hc : X.calm = true := by rfl) (hs : ∀ x, foldedSetIterable iter X.env x = pure x := by intro _; rfl) :
    EE X B G (.ListComp elt [⟨tg, iter, ifs, 0⟩] scope pos) (is (.own ((ds.filter f).map v))) :=
  EE.imp (e_lcO (P := fun d => is (.dat (v d))) (Tt := fun d => is (f d)) T own hi hg (fun s H C cl fp B' es d h1 h2 => by
      rw [show es = ds from h1] at h2
      exact ht s H C cl fp B' d h2) (fun s H C cl fp B' es d h1 h2 h3 => by
      rw [show es = ds from h1] at h2
      exact he s H C cl fp B' d h2 h3.symm)
    (fun es h => by rw [show es = ds from h]; exact fit) (fun es h => by rw [show es = ds from h]; exact hz) (fun _ _ d _ t h => ⟨v d, h⟩) ok hN hsl has hc hs) fun t ⟨es, us, h1, h2, h3⟩ => by
    rw [show es = ds from h1] at h3
    rw [h2, h3.det (f := f) (v := v) (fun d _ k h => h) (fun d _ e h => Sl.dat.inj h)]
end
end Mk
namespace Mk
open PySem PySem.Spec PyProof.Rows L2

/-! ### a def's promise by data -/
abbrev Ct := List Sl → (Sl → Prop) → Prop
def spP (C : Ct) : Sp := fun vs H Q _ => ∃ F ts P, C ts P ∧ Same F H ∧ Imms F vs ts ∧ ∀ v t F' H', P t → t.imm = true → Grow F H F' H' → Imm F' v t → Q v H'
structure Ca (P : Program) (w : World) (K : PySem.W.Frag) (mg : Str → Option Value) (base : Heap) (k : Nat) (x : Str) (C : Ct) : Prop where
  h : ∃ (f : Addr) (fd : FuncData) (ps : List Str), mg x = some (.ref f) ∧ PySem.W.keepIn K (.ref f) = true ∧ Binds K fd ps [] ∧ FnOk P w K mg base CX0 k f fd ps (spP C)
theorem Good.grow_of {F H F' H' : Hp} (g : Good ⟨F, H⟩ F' H') : Grow F H F' H' := ⟨g.f, g.m, g.h, g.n⟩
section
variable {X : Cx} {B : Bs} {G : En} {e : Expr} {es : List Expr} {Ps : List Sl → Prop} {P : Sl → Prop} {x : Str} {p pos : Pos} {C : Ct} {n k : Nat} {t : Sl} {ts : List Sl}
theorem e_call (D : Ca X.prog X.w X.K X.mg X.base k x C) (hr : Room n X.A) (ha : EAI X B G (e :: es) Ps) (hC : ∀ ts, Ps ts → ∃ P', C ts P' ∧ ∀ t, P' t → P t) (hk : k ≤ n := by decide) (hg : Gl X x := by rfl) (hdb : (x == ("__debug__" : Str)) = false := by decide)
    (he : starEach (e :: es) X.env = (false, eval e X.env) :: starEach es X.env := by rfl) (hpl : (backTo pos (starEach es X.env)).any (·.1) = false := by rfl) : EE X B G (.Call (.Name x p) (e :: es) [] pos) P := by
  obtain ⟨f, fd, ps, hm, kp, hb, F⟩ := D.h
  refine e_of (pe_call F (hr.mono hk) hg hm kp hb .nil (pass0 (X := X)) ha hdb he hpl) fun s F H Q g w q => ⟨F, g, w, fun vs ts F1 H1 p1 g1 e1 w1 i1 => ?_⟩
  obtain ⟨P', c, hP⟩ := hC ts p1
  rw [List.append_nil]
  refine ⟨F1, ts, P', c, g1.h, i1, fun v t F2 H2 pt im gr iv => ?_⟩
  exact q v t F2 H2 (hP t pt) (g1.grow gr) (e1.trans gr.f) ((w1.grow gr).pushI iv)
/-- arguments and result known -/
theorem e_callD (D : Ca X.prog X.w X.K X.mg X.base k x C) (hr : Room n X.A) (ha : EAI X B G (e :: es) (is ts)) (hC : C ts (is t)) (hk : k ≤ n := by decide) (hg : Gl X x := by rfl) (hdb : (x == ("__debug__" : Str)) = false := by decide)
    (he : starEach (e :: es) X.env = (false, eval e X.env) :: starEach es X.env := by rfl) (hpl : (backTo pos (starEach es X.env)).any (·.1) = false := by rfl) : EE X B G (.Call (.Name x p) (e :: es) [] pos) (is t) :=
  e_call D hr ha (fun us h => ⟨is t, by rw [show us = ts from h]; exact hC, fun _ h => h⟩) hk hg hdb he hpl
/-- arguments known, the result one of P -/
theorem e_callP (D : Ca X.prog X.w X.K X.mg X.base k x C) (hr : Room n X.A) (ha : EAI X B G (e :: es) (is ts)) (hC : C ts P) (hk : k ≤ n := by decide) (hg : Gl X x := by rfl) (hdb : (x == ("__debug__" : Str)) = false := by decide)
    (he : starEach (e :: es) X.env = (false, eval e X.env) :: starEach es X.env := by rfl) (hpl : (backTo pos (starEach es X.env)).any (·.1) = false := by rfl) : EE X B G (.Call (.Name x p) (e :: es) [] pos) P :=
  e_call D hr ha (fun us h => ⟨P, by rw [show us = ts from h]; exact hC, fun _ h => h⟩) hk hg hdb he hpl
/-- arguments: data and books mixed, known -/
theorem ts_nil' : EAI X B G [] (is []) := ai_nil
theorem as_nil : EAI X B G [] (is []) := ai_nil
theorem as_cons (ha : EE X B G e (is t)) (hr : EAI X B G es (is ts)) (him : t.imm = true := by rfl) (hs : starEach (e :: es) X.env = (false, eval e X.env) :: starEach es X.env := by rfl) : EAI X B G (e :: es) (is (t :: ts)) :=
  ai_cons ha hr (fun u us p q => by
    rw [show u = t from p, show us = ts from q]
    exact ⟨him, rfl⟩) hs
end
/-- the places at the entry -/
theorem sat_start {B : Bs} {F H : Hp} : ∀ {vs : List V} {ts : List Sl} (n : Nat), Imms F vs ts → Sat B F H (vs.map some ++ List.replicate n none) (ts ++ List.replicate n .any)
  | [], [], n, _ => by
    have no : ∀ (i : Nat) (t : Sl), (([] : En) ++ List.replicate n Sl.any)[i]? = some t → t = .any := fun i t e => by
      rw [List.nil_append, List.getElem?_replicate] at e
      split at e
      · cases e
        rfl
      · cases e
    refine ⟨fun _ => 0, by simp, fun i t e => ?_, fun i j t u e _ o _ _ => ?_⟩
    · rw [no i t e]
      trivial
    · rw [no i t e] at o
      cases o
  | v :: vs, t :: ts, n, h => (sat_start (vs := vs) (ts := ts) n h.2).pushI h.1
  | [], _ :: _, _, h => h.elim
  | _ :: _, [], _, h => h.elim
section
variable {P : Program} {w : World} {K : PySem.W.Frag} {mg : Str → Option Value} {base : Heap} {x qual : Str} {st : Stmt} {f : Addr} {fd : FuncData} {N ps : List Str} {k : Nat} {C : Ct}
/-- the context of a body that lets nothing out -/
abbrev cx0 (P : Program) (w : World) (K : PySem.W.Frag) (mg : Str → Option Value) (base : Heap) (N : List Str) (qual : Str) (st : Stmt) (f : Addr) (cdv : Value) (A : Around) (outer : List Env) (s : Shared) (H : Hp) (E : XK) : Cx := (cxOf CX0 P w K mg base N qual (defScope st) f cdv A outer s H E).nox
theorem fn_mk (F : Fun K x qual st f fd) (S : FnScope N ps (defScope st)) (len : ∀ ts P, C ts P → ts.length = ps.length)
    (body : ∀ (cdv : Value) (A : Around) (outer : List Env) (s : Shared) (H : Hp) (E : XK), Room k (A.deeper (envOfC qual (defScope st) s.heap.objs.size f cdv)) → ∀ (B : Bs) (ts : List Sl) (Pr : Sl → Prop), C ts Pr →
      SS (cx0 P w K mg base N qual st f cdv A outer s H E) B (ts ++ List.replicate (N.length - ts.length) .any) (defBody st) { rt := fun t _ => Pr t ∧ t.imm = true, nx := fun _ => Pr (.dat .none) }) : FnOk P w K mg base CX0 (k + 1) f fd ps (spP C) := by
  refine F.ok S (fun vs H Q E h => ?_) (fun cdv A outer s H vs Q E hr h => ?_)
  · obtain ⟨F, ts, P, c, hs, im, _⟩ := h
    rw [im.len]
    exact len ts P c
  · obtain ⟨F0, ts, Pr, c, hs, im, q⟩ := h
    refine ⟨_, body cdv A outer s H E hr ⟨F0, H⟩ ts Pr c, F0, Good.start hs, ?_, fun G' s' F' H' m g' e' w' => ?_, fun v t G' s' F' H' m g' e' w' => ?_, fun _ _ _ _ z => z.elim, fun _ _ _ _ z => z.elim⟩
    · unfold L2.start
      rw [im.len]
      exact sat_start _ im
    · exact q .non (.dat .none) F' H' m rfl g'.grow_of .non
    · exact q v t F' H' m.1 m.2 g'.grow_of (w'.topI m.2)
theorem ca_mk (F : Fun K x qual st f fd) (S : FnScope N ps (defScope st)) (hm : mg x = some (.ref f)) (hb : Binds K fd ps []) (len : ∀ ts P, C ts P → ts.length = ps.length)
    (body : ∀ (cdv : Value) (A : Around) (outer : List Env) (s : Shared) (H : Hp) (E : XK), Room k (A.deeper (envOfC qual (defScope st) s.heap.objs.size f cdv)) → ∀ (B : Bs) (ts : List Sl) (Pr : Sl → Prop), C ts Pr →
      SS (cx0 P w K mg base N qual st f cdv A outer s H E) B (ts ++ List.replicate (N.length - ts.length) .any) (defBody st) { rt := fun t _ => Pr t ∧ t.imm = true, nx := fun _ => Pr (.dat .none) }) : Ca P w K mg base (k + 1) x C :=
  ⟨f, fd, ps, hm, F.kp, hb, fn_mk F S len body⟩
theorem Ca.mono {j : Nat} (D : Ca P w K mg base k x C) (h : k ≤ j) : Ca P w K mg base j x C := by
  obtain ⟨f, fd, ps, hm, kp, hb, F⟩ := D.h
  exact ⟨f, fd, ps, hm, kp, hb, F.mono h⟩
end

/-! ### isinstance -/
def tyN : PyData → String
  | .none => "NoneType"
  | .bool _ => "bool"
  | .int _ => "int"
  | .str _ => "str"
  | .list _ => "list"
  | .tuple _ => "tuple"
  | .dict _ => "dict"
theorem ty_of {K : PySem.W.Frag} {F H : Hp} {v : V} {d : PyData} (hs : Same F H) (r : Rp F v d) : TyX K H v (.type (tyN d)) := by
  cases r with
  | non => exact .base .non
  | bl b => exact .base (.bl b)
  | int i => exact .base (.int i)
  | str x => exact .base (.str x)
  | lst h _ => exact .base (.lst (hs _ _ h))
  | tup h _ => exact .base (.tup (hs _ _ h))
section
variable {X : Cx} {B : Bs} {G : En} {e : Expr} {d : PyData} {p p1 p2 p3 pos : Pos} {b : Bool} {T T2 : String} {y y2 : Str} {kk : Nat}
/-- isinstance(e, T) -/
theorem e_isi (hm : X.mg "isinstance" = none) (ha : EV X B G e d) (hT : X.mg y = none) (hv : bootBuiltins y = some (.type T)) (hk : PySem.W.kitOne X.K (.type (tyN d)) (.type T) = some b) (hg : Gl X "isinstance" := by rfl) (hg2 : Gl X y := by rfl)
    (hn : y ≠ "__name__" := by decide) (hd : (y == ("__debug__" : Str)) = false := by decide)
    (he : starEach [e, .Name y p1] X.env = (false, eval e X.env) :: starEach [.Name y p1] X.env := by rfl) (he2 : starEach [Expr.Name y p1] X.env = (false, eval (.Name y p1) X.env) :: starEach [] X.env := by rfl)
    (hpl : (backTo pos (starEach [Expr.Name y p1] X.env)).any (·.1) = false := by rfl) : EV X B G (.Call (.Name "isinstance" p) [e, .Name y p1] [] pos) (.bool b) :=
  e_of (pe_callB call_isi hg hm (by decide +kernel) (pa_cons ha (pa_cons (pe_bltn (v := .ty T) hg2 hT hv rfl hn hd) pa_nil he2) he) (by decide) (by decide) he hpl) fun s F H Q g w q => ⟨F, g, w, fun v t F1 H1 p1 g1 e1 w1 => by
    rw [show t = Sl.dat d from p1] at w1
    exact ⟨v, .ty T, _, _, b, rfl, .ty T, ty_of g1.h (w1.topI rfl), hk, q _ _ F1 H1 rfl g1 e1 (w1.pop.pushD (.bl b))⟩⟩
/-- isinstance(e, (T, T2)) -/
theorem e_isiT (hm : X.mg "isinstance" = none) (ha : EV X B G e d) (hT : X.mg y = none) (hT2 : X.mg y2 = none) (hv : bootBuiltins y = some (.type T)) (hv2 : bootBuiltins y2 = some (.type T2)) (hk : PySem.W.kitAny X.K (.type (tyN d)) [.type T, .type T2] = some b) (hg : Gl X "isinstance" := by rfl) (hg1 : Gl X y := by rfl) (hg2 : Gl X y2 := by rfl)
    (hn : y ≠ "__name__" := by decide) (hd : (y == ("__debug__" : Str)) = false := by decide) (hn2 : y2 ≠ "__name__" := by decide) (hd2 : (y2 == ("__debug__" : Str)) = false := by decide)
    (he : starEach [e, .Tuple [.Name y p1, .Name y2 p2] kk p3] X.env = (false, eval e X.env) :: starEach [.Tuple [.Name y p1, .Name y2 p2] kk p3] X.env := by rfl)
    (he2 : starEach [Expr.Tuple [.Name y p1, .Name y2 p2] kk p3] X.env = (false, eval (.Tuple [.Name y p1, .Name y2 p2] kk p3) X.env) :: starEach [] X.env := by rfl)
    (he3 : starEach [Expr.Name y p1, .Name y2 p2] X.env = (false, eval (.Name y p1) X.env) :: starEach [.Name y2 p2] X.env := by rfl) (he4 : starEach [Expr.Name y2 p2] X.env = (false, eval (.Name y2 p2) X.env) :: starEach [] X.env := by rfl)
    (hpl : (backTo pos (starEach [Expr.Tuple [.Name y p1, .Name y2 p2] kk p3] X.env)).any (·.1) = false := by rfl) : EV X B G (.Call (.Name "isinstance" p) [e, .Tuple [.Name y p1, .Name y2 p2] kk p3] [] pos) (.bool b) :=
  e_of (pe_callB call_isiT hg hm (by decide +kernel) (pa_cons ha (pa_cons (pe_tup (pa_cons (pe_bltn (v := .ty T) hg1 hT hv rfl hn hd) (pa_cons (pe_bltn (v := .ty T2) hg2 hT2 hv2 rfl hn2 hd2) pa_nil he4) he3)) pa_nil he2) he) (by decide) (by decide) he hpl) fun s F H Q g w q => ⟨F, g, w, fun v t F1 H1 p1 g1 e1 w1 => by
    rw [show t = Sl.dat d from p1] at w1
    refine ⟨(by decide : 2 ≤ sizeLine), fun tp htp => ?_⟩
    have gr := Grow.loose (o := .tup [.ty T, .ty T2]) g1.h htp
    exact ⟨v, tp, [.ty T, .ty T2], _, [.type T, .type T2], b, rfl, upd_same, .cons (.ty T) (.cons (.ty T2) .nil), ty_of gr.i (w1.topI rfl), hk, q _ _ F1 _ rfl (g1.grow gr) e1 ((w1.pop.grow gr).pushD (.bl b))⟩⟩
end
end Mk
namespace Mk
open PySem L2
def topS (i : Nat) : Stmt := PySem.Challenge.pw_makefirst_k23_whole_fewest_rows_added.main.body.getD i (.Pass ⟨0, 0, 0, 0⟩)
abbrev s_BadBook_init : Stmt := inClass (topS 2) 0
abbrev n_BadBook_init : List Str := ["self", "at"]
abbrev p_BadBook_init : List Str := ["self", "at"]
abbrev s_Refused_init : Stmt := inClass (topS 3) 0
abbrev n_Refused_init : List Str := ["self", "at"]
abbrev p_Refused_init : List Str := ["self", "at"]
abbrev s_TooGreat_init : Stmt := inClass (topS 4) 0
abbrev n_TooGreat_init : List Str := ["self", "most"]
abbrev p_TooGreat_init : List Str := ["self", "most"]
abbrev s_NoCheck_init : Stmt := inClass (topS 5) 0
abbrev n_NoCheck_init : List Str := ["self", "check"]
abbrev p_NoCheck_init : List Str := ["self", "check"]
abbrev s_is_integer : Stmt := topS 11
abbrev n_is_integer : List Str := ["value"]
abbrev p_is_integer : List Str := ["value"]
theorem sc_is_integer : FnScope n_is_integer p_is_integer (defScope s_is_integer) := ⟨rfl, rfl, rfl, by decide +kernel, rfl, by decide +kernel, by decide +kernel⟩
abbrev s_is_number : Stmt := topS 12
abbrev n_is_number : List Str := ["value"]
abbrev p_is_number : List Str := ["value"]
theorem sc_is_number : FnScope n_is_number p_is_number (defScope s_is_number) := ⟨rfl, rfl, rfl, by decide +kernel, rfl, by decide +kernel, by decide +kernel⟩
abbrev s_is_below : Stmt := topS 13
abbrev n_is_below : List Str := ["value", "most"]
abbrev p_is_below : List Str := ["value", "most"]
theorem sc_is_below : FnScope n_is_below p_is_below (defScope s_is_below) := ⟨rfl, rfl, rfl, by decide +kernel, rfl, by decide +kernel, by decide +kernel⟩
abbrev s_is_within : Stmt := topS 14
abbrev n_is_within : List Str := ["value", "least", "most"]
abbrev p_is_within : List Str := ["value", "least", "most"]
theorem sc_is_within : FnScope n_is_within p_is_within (defScope s_is_within) := ⟨rfl, rfl, rfl, by decide +kernel, rfl, by decide +kernel, by decide +kernel⟩
abbrev s_is_sequence : Stmt := topS 15
abbrev n_is_sequence : List Str := ["value"]
abbrev p_is_sequence : List Str := ["value"]
theorem sc_is_sequence : FnScope n_is_sequence p_is_sequence (defScope s_is_sequence) := ⟨rfl, rfl, rfl, by decide +kernel, rfl, by decide +kernel, by decide +kernel⟩
abbrev s_check_columns : Stmt := topS 17
abbrev n_check_columns : List Str := ["value", "many"]
abbrev p_check_columns : List Str := ["value"]
theorem sc_check_columns : FnScope n_check_columns p_check_columns (defScope s_check_columns) := ⟨rfl, rfl, rfl, by decide +kernel, rfl, by decide +kernel, by decide +kernel⟩
abbrev s_is_values : Stmt := topS 18
abbrev n_is_values : List Str := ["value", "many", "one", "most"]
abbrev p_is_values : List Str := ["value", "many"]
theorem sc_is_values : FnScope n_is_values p_is_values (defScope s_is_values) := ⟨rfl, rfl, rfl, by decide +kernel, rfl, by decide +kernel, by decide +kernel⟩
abbrev s_is_check : Stmt := topS 19
abbrev n_is_check : List Str := ["columns", "value", "places", "rows", "row", "place"]
abbrev p_is_check : List Str := ["columns", "value"]
theorem sc_is_check : FnScope n_is_check p_is_check (defScope s_is_check) := ⟨rfl, rfl, rfl, by decide +kernel, rfl, by decide +kernel, by decide +kernel⟩
abbrev s_told_check : Stmt := topS 20
abbrev n_told_check : List Str := ["value", "rows", "row"]
abbrev p_told_check : List Str := ["value"]
theorem sc_told_check : FnScope n_told_check p_told_check (defScope s_told_check) := ⟨rfl, rfl, rfl, by decide +kernel, rfl, by decide +kernel, by decide +kernel⟩
abbrev s_Book_init : Stmt := inClass (topS 21) 0
abbrev n_Book_init : List Str := ["self", "columns", "checks", "at", "check"]
abbrev p_Book_init : List Str := ["self", "columns", "checks"]
theorem sc_Book_init : FnScope n_Book_init p_Book_init (defScope s_Book_init) := ⟨rfl, rfl, rfl, by decide +kernel, rfl, by decide +kernel, by decide +kernel⟩
abbrev s_Book_eq : Stmt := inClass (topS 21) 1
abbrev n_Book_eq : List Str := ["self", "other"]
abbrev p_Book_eq : List Str := ["self", "other"]
theorem sc_Book_eq : FnScope n_Book_eq p_Book_eq (defScope s_Book_eq) := ⟨rfl, rfl, rfl, by decide +kernel, rfl, by decide +kernel, by decide +kernel⟩
abbrev s_kinds_of : Stmt := topS 22
abbrev n_kinds_of : List Str := ["book", "found", "column", "many", "old", "new"]
abbrev p_kinds_of : List Str := ["book"]
theorem sc_kinds_of : FnScope n_kinds_of p_kinds_of (defScope s_kinds_of) := ⟨rfl, rfl, rfl, by decide +kernel, rfl, by decide +kernel, by decide +kernel⟩
abbrev s_lots_set : Stmt := topS 24
abbrev n_lots_set : List Str := ["places", "found", "place", "lot"]
abbrev p_lots_set : List Str := ["places"]
theorem sc_lots_set : FnScope n_lots_set p_lots_set (defScope s_lots_set) := ⟨rfl, rfl, rfl, by decide +kernel, rfl, by decide +kernel, by decide +kernel⟩
abbrev s_row_set : Stmt := topS 25
abbrev n_row_set : List Str := ["one", "other", "places", "at", "value"]
abbrev p_row_set : List Str := ["one", "other", "places"]
theorem sc_row_set : FnScope n_row_set p_row_set (defScope s_row_set) := ⟨rfl, rfl, rfl, by decide +kernel, rfl, by decide +kernel, by decide +kernel⟩
abbrev s_places_of : Stmt := topS 26
abbrev n_places_of : List Str := ["places", "one", "other", "kind", "found", "at", "column"]
abbrev p_places_of : List Str := ["places", "one", "other", "kind"]
theorem sc_places_of : FnScope n_places_of p_places_of (defScope s_places_of) := ⟨rfl, rfl, rfl, by decide +kernel, rfl, by decide +kernel, by decide +kernel⟩
abbrev s_barred_lots : Stmt := topS 27
abbrev n_barred_lots : List Str := ["book", "check", "one", "other", "kind", "places", "rows", "some", "lot"]
abbrev p_barred_lots : List Str := ["book", "check", "one", "other", "kind"]
theorem sc_barred_lots : FnScope n_barred_lots p_barred_lots (defScope s_barred_lots) := ⟨rfl, rfl, rfl, by decide +kernel, rfl, by decide +kernel, by decide +kernel⟩
abbrev s_unlike_pairs : Stmt := topS 28
abbrev n_unlike_pairs : List Str := ["book", "check", "kinds", "places", "rows", "told", "found", "one", "other", "ends", "kind", "end"]
abbrev p_unlike_pairs : List Str := ["book", "check", "kinds"]
theorem sc_unlike_pairs : FnScope n_unlike_pairs p_unlike_pairs (defScope s_unlike_pairs) := ⟨rfl, rfl, rfl, by decide +kernel, rfl, by decide +kernel, by decide +kernel⟩
abbrev s_all_unlike : Stmt := topS 29
abbrev n_all_unlike : List Str := ["book", "kinds", "check"]
abbrev p_all_unlike : List Str := ["book", "kinds"]
theorem sc_all_unlike : FnScope n_all_unlike p_all_unlike (defScope s_all_unlike) := ⟨rfl, rfl, rfl, by decide +kernel, rfl, by decide +kernel, by decide +kernel⟩
abbrev s_first_bar : Stmt := topS 30
abbrev n_first_bar : List Str := ["book", "kind", "pairs", "check", "some", "one", "other", "lots"]
abbrev p_first_bar : List Str := ["book", "kind", "pairs"]
theorem sc_first_bar : FnScope n_first_bar p_first_bar (defScope s_first_bar) := ⟨rfl, rfl, rfl, by decide +kernel, rfl, by decide +kernel, by decide +kernel⟩
abbrev s_is_number_row : Stmt := topS 31
abbrev n_is_number_row : List Str := ["value", "bounds", "number", "most"]
abbrev p_is_number_row : List Str := ["value", "bounds"]
theorem sc_is_number_row : FnScope n_is_number_row p_is_number_row (defScope s_is_number_row) := ⟨rfl, rfl, rfl, by decide +kernel, rfl, by decide +kernel, by decide +kernel⟩
abbrev s_tuple_of : Stmt := topS 32
abbrev n_tuple_of : List Str := ["value"]
abbrev p_tuple_of : List Str := ["value"]
theorem sc_tuple_of : FnScope n_tuple_of p_tuple_of (defScope s_tuple_of) := ⟨rfl, rfl, rfl, by decide +kernel, rfl, by decide +kernel, by decide +kernel⟩
abbrev s_order_of : Stmt := topS 34
abbrev n_order_of : List Str := ["book", "value", "kinds", "told", "kind"]
abbrev p_order_of : List Str := ["book", "value"]
theorem sc_order_of : FnScope n_order_of p_order_of (defScope s_order_of) := ⟨rfl, rfl, rfl, by decide +kernel, rfl, by decide +kernel, by decide +kernel⟩
abbrev s_check_order : Stmt := topS 35
abbrev n_check_order : List Str := ["book", "value", "told"]
abbrev p_check_order : List Str := ["book", "value"]
theorem sc_check_order : FnScope n_check_order p_check_order (defScope s_check_order) := ⟨rfl, rfl, rfl, by decide +kernel, rfl, by decide +kernel, by decide +kernel⟩
abbrev s_is_ranking : Stmt := topS 36
abbrev n_is_ranking : List Str := ["book", "value", "told", "at", "kind"]
abbrev p_is_ranking : List Str := ["book", "value"]
theorem sc_is_ranking : FnScope n_is_ranking p_is_ranking (defScope s_is_ranking) := ⟨rfl, rfl, rfl, by decide +kernel, rfl, by decide +kernel, by decide +kernel⟩
abbrev s_stages : Stmt := topS 38
abbrev n_stages : List Str := ["columns", "one", "other", "ranking", "found", "ahead", "kind", "places", "lot"]
abbrev p_stages : List Str := ["columns", "one", "other", "ranking"]
theorem sc_stages : FnScope n_stages p_stages (defScope s_stages) := ⟨rfl, rfl, rfl, by decide +kernel, rfl, by decide +kernel, by decide +kernel⟩
abbrev s_grown : Stmt := topS 39
abbrev n_grown : List Str := ["columns", "rows", "ranking", "found", "waiting", "one", "other", "kind", "lot", "row", "known"]
abbrev p_grown : List Str := ["columns", "rows", "ranking"]
theorem sc_grown : FnScope n_grown p_grown (defScope s_grown) := ⟨rfl, rfl, rfl, by decide +kernel, rfl, by decide +kernel, by decide +kernel⟩
abbrev s_hull_book : Stmt := topS 40
abbrev n_hull_book : List Str := ["book", "ranking", "order", "columns", "rows"]
abbrev p_hull_book : List Str := ["book", "ranking"]
theorem sc_hull_book : FnScope n_hull_book p_hull_book (defScope s_hull_book) := ⟨rfl, rfl, rfl, by decide +kernel, rfl, by decide +kernel, by decide +kernel⟩
abbrev s_added_by : Stmt := topS 41
abbrev n_added_by : List Str := ["book", "order", "columns", "rows"]
abbrev p_added_by : List Str := ["book", "order"]
theorem sc_added_by : FnScope n_added_by p_added_by (defScope s_added_by) := ⟨rfl, rfl, rfl, by decide +kernel, rfl, by decide +kernel, by decide +kernel⟩
abbrev s_fewest_added : Stmt := topS 42
abbrev n_fewest_added : List Str := ["book", "most", "kinds", "least", "looked", "waiting", "order", "found", "kind"]
abbrev p_fewest_added : List Str := ["book", "most"]
theorem sc_fewest_added : FnScope n_fewest_added p_fewest_added (defScope s_fewest_added) := ⟨rfl, rfl, rfl, by decide +kernel, rfl, by decide +kernel, by decide +kernel⟩
abbrev s_l_box : Stmt := topS 44
abbrev n_l_box : List Str := ["_law_script", "_law_k", "_law_cell", "_law_great"]
abbrev p_l_box : List Str := ["_law_script", "_law_k"]
theorem sc_l_box : FnScope n_l_box p_l_box (defScope s_l_box) := ⟨rfl, rfl, rfl, by decide +kernel, rfl, by decide +kernel, by decide +kernel⟩
abbrev s_l_take : Stmt := topS 45
abbrev n_l_take : List Str := ["_law_box_here", "_law_many", "_law_digit", "_law_raw"]
abbrev p_l_take : List Str := ["_law_box_here", "_law_many"]
theorem sc_l_take : FnScope n_l_take p_l_take (defScope s_l_take) := ⟨rfl, rfl, rfl, by decide +kernel, rfl, by decide +kernel, by decide +kernel⟩
abbrev s_l_pick : Stmt := topS 46
abbrev n_l_pick : List Str := ["_law_box_here", "_law_some"]
abbrev p_l_pick : List Str := ["_law_box_here", "_law_some"]
theorem sc_l_pick : FnScope n_l_pick p_l_pick (defScope s_l_pick) := ⟨rfl, rfl, rfl, by decide +kernel, rfl, by decide +kernel, by decide +kernel⟩
abbrev s_l_lots : Stmt := topS 47
abbrev n_l_lots : List Str := ["_law_places", "_law_found", "_law_place", "_law_lot"]
abbrev p_l_lots : List Str := ["_law_places"]
theorem sc_l_lots : FnScope n_l_lots p_l_lots (defScope s_l_lots) := ⟨rfl, rfl, rfl, by decide +kernel, rfl, by decide +kernel, by decide +kernel⟩
abbrev s_l_set : Stmt := topS 48
abbrev n_l_set : List Str := ["_law_one", "_law_other", "_law_lot", "_law_at_here"]
abbrev p_l_set : List Str := ["_law_one", "_law_other", "_law_lot"]
theorem sc_l_set : FnScope n_l_set p_l_set (defScope s_l_set) := ⟨rfl, rfl, rfl, by decide +kernel, rfl, by decide +kernel, by decide +kernel⟩
abbrev s_l_kinds : Stmt := topS 49
abbrev n_l_kinds : List Str := ["_law_columns", "_law_found", "_law_column", "_law_old", "_law_new"]
abbrev p_l_kinds : List Str := ["_law_columns"]
theorem sc_l_kinds : FnScope n_l_kinds p_l_kinds (defScope s_l_kinds) := ⟨rfl, rfl, rfl, by decide +kernel, rfl, by decide +kernel, by decide +kernel⟩
abbrev s_l_at : Stmt := topS 50
abbrev n_l_at : List Str := ["_law_places", "_law_one", "_law_other", "_law_kind", "_law_at_here"]
abbrev p_l_at : List Str := ["_law_places", "_law_one", "_law_other", "_law_kind"]
theorem sc_l_at : FnScope n_l_at p_l_at (defScope s_l_at) := ⟨rfl, rfl, rfl, by decide +kernel, rfl, by decide +kernel, by decide +kernel⟩
abbrev s_l_unlike : Stmt := topS 51
abbrev n_l_unlike : List Str := ["_law_places", "_law_one", "_law_other", "_law_place", "_law_old", "_law_new"]
abbrev p_l_unlike : List Str := ["_law_places", "_law_one", "_law_other"]
theorem sc_l_unlike : FnScope n_l_unlike p_l_unlike (defScope s_l_unlike) := ⟨rfl, rfl, rfl, by decide +kernel, rfl, by decide +kernel, by decide +kernel⟩
abbrev s_l_let : Stmt := topS 52
abbrev n_l_let : List Str := ["_law_checks", "_law_left", "_law_kind", "_law_places", "_law_rows", "_law_one", "_law_other", "_law_lot", "_law_own"]
abbrev p_l_let : List Str := ["_law_checks", "_law_left", "_law_kind"]
theorem sc_l_let : FnScope n_l_let p_l_let (defScope s_l_let) := ⟨rfl, rfl, rfl, by decide +kernel, rfl, by decide +kernel, by decide +kernel⟩
abbrev s_l_layers : Stmt := topS 53
abbrev n_l_layers : List Str := ["_law_checks", "_law_kinds_here", "_law_left", "_law_layers_here", "_law_turn", "_law_layer", "_law_kind"]
abbrev p_l_layers : List Str := ["_law_checks", "_law_kinds_here"]
theorem sc_l_layers : FnScope n_l_layers p_l_layers (defScope s_l_layers) := ⟨rfl, rfl, rfl, by decide +kernel, rfl, by decide +kernel, by decide +kernel⟩
abbrev s_l_way : Stmt := topS 54
abbrev n_l_way : List Str := ["_law_places", "_law_one", "_law_other", "_law_order", "_law_found", "_law_ahead", "_law_kind", "_law_some", "_law_lot"]
abbrev p_l_way : List Str := ["_law_places", "_law_one", "_law_other", "_law_order"]
theorem sc_l_way : FnScope n_l_way p_l_way (defScope s_l_way) := ⟨rfl, rfl, rfl, by decide +kernel, rfl, by decide +kernel, by decide +kernel⟩
abbrev s_l_hull : Stmt := topS 55
abbrev n_l_hull : List Str := ["_law_places", "_law_rows", "_law_order", "_law_found", "_law_turn", "_law_more", "_law_one", "_law_other", "_law_row"]
abbrev p_l_hull : List Str := ["_law_places", "_law_rows", "_law_order"]
theorem sc_l_hull : FnScope n_l_hull p_l_hull (defScope s_l_hull) := ⟨rfl, rfl, rfl, by decide +kernel, rfl, by decide +kernel, by decide +kernel⟩
abbrev s_l_turned : Stmt := topS 56
abbrev n_l_turned : List Str := ["_law_box_here", "_law_things", "_law_found", "_law_left", "_law_turn"]
abbrev p_l_turned : List Str := ["_law_box_here", "_law_things"]
theorem sc_l_turned : FnScope n_l_turned p_l_turned (defScope s_l_turned) := ⟨rfl, rfl, rfl, by decide +kernel, rfl, by decide +kernel, by decide +kernel⟩
abbrev s_l_all_rows : Stmt := topS 57
abbrev n_l_all_rows : List Str := ["_law_columns", "_law_places", "_law_found", "_law_place", "_law_longer", "_law_row", "_law_value"]
abbrev p_l_all_rows : List Str := ["_law_columns", "_law_places"]
theorem sc_l_all_rows : FnScope n_l_all_rows p_l_all_rows (defScope s_l_all_rows) := ⟨rfl, rfl, rfl, by decide +kernel, rfl, by decide +kernel, by decide +kernel⟩
abbrev s_l_book : Stmt := topS 58
abbrev n_l_book : List Str := ["_law_box_here", "_law_most", "_law_places_most", "_law_columns", "_law_order", "_law_checks", "_law_style", "_law_turn", "_law_places", "_law_whole", "_law_share", "_law_rows", "_law_column", "_law_row", "_law_many", "_law_place"]
abbrev p_l_book : List Str := ["_law_box_here", "_law_most", "_law_places_most"]
theorem sc_l_book : FnScope n_l_book p_l_book (defScope s_l_book) := ⟨rfl, rfl, rfl, by decide +kernel, rfl, by decide +kernel, by decide +kernel⟩
abbrev s_l_fault : Stmt := topS 59
abbrev n_l_fault : List Str := ["_law_call", "fault"]
abbrev p_l_fault : List Str := ["_law_call"]
theorem sc_l_fault : FnScope n_l_fault p_l_fault (defScope s_l_fault) := ⟨rfl, rfl, rfl, by decide +kernel, rfl, by decide +kernel, by decide +kernel⟩
abbrev s_l_odd : Stmt := topS 60
abbrev n_l_odd : List Str := ["_law_box_here", "_law_order", "_law_bent", "_law_some", "_law_kind"]
abbrev p_l_odd : List Str := ["_law_box_here", "_law_order"]
theorem sc_l_odd : FnScope n_l_odd p_l_odd (defScope s_l_odd) := ⟨rfl, rfl, rfl, by decide +kernel, rfl, by decide +kernel, by decide +kernel⟩
abbrev s_l_orders : Stmt := topS 61
abbrev n_l_orders : List Str := ["_law_kinds_here", "_law_found", "_law_turn", "_law_longer", "_law_order", "_law_kind"]
abbrev p_l_orders : List Str := ["_law_kinds_here"]
theorem sc_l_orders : FnScope n_l_orders p_l_orders (defScope s_l_orders) := ⟨rfl, rfl, rfl, by decide +kernel, rfl, by decide +kernel, by decide +kernel⟩
abbrev s_l_added : Stmt := topS 62
abbrev n_l_added : List Str := ["_law_checks", "_law_order", "_law_places", "_law_rows"]
abbrev p_l_added : List Str := ["_law_checks", "_law_order"]
theorem sc_l_added : FnScope n_l_added p_l_added (defScope s_l_added) := ⟨rfl, rfl, rfl, by decide +kernel, rfl, by decide +kernel, by decide +kernel⟩
abbrev s_law : Stmt := topS 63
abbrev n_law : List Str := ["_law_script", "_law_k", "_law_box_here", "_law_columns", "_law_checks", "_law_book_here", "_law_orders_here", "_law_order", "_law_due", "_law_told", "_law_least", "_law_odd_here", "_law_few", "fault", "_law_places", "_law_rows", "_law_one", "_law_kind"]
abbrev p_law : List Str := ["_law_script"]
theorem sc_law : FnScope n_law p_law (defScope s_law) := ⟨rfl, rfl, rfl, by decide +kernel, rfl, by decide +kernel, by decide +kernel⟩
end Mk
namespace Mk
open PySem PySem.Spec PyProof.Rows L2
/-! ### an own error's __init__, by what the head looks at -/
abbrev FnI : Type := Option (Str × Str × Arguments × FuncBody × Scope × Addr × List Str × Addr)
def fnI (K : PySem.W.Frag) (f : Addr) : FnI := match K.lookup f with
  | some ⟨_, _, .func fd, _⟩ => some (fd.name, fd.qualname, fd.params, fd.body, fd.scope, fd.globals, fd.closure.map (·.1), fd.builtins)
  | _ => none
def iniV (q : Str) (st : Stmt) : FnI := some ("__init__", q, defArgs st, .stmts (defBody st), defScope st, mainGlobals, ["__class__"], builtinsNs)
/-- the class object -/
def oexB (K : PySem.W.Frag) (C : Addr) : Bool := match K.lookup C with
  | some ⟨.type t, _, .cls cd, sl⟩ => decide (t = "type") && (match cd.mro, sl.toList with
    | .ref C' :: bm, [_, _, _, _, some (.builtin n), _] => decide (C' = C) && (decide (n = "ValueError.__new__") && (!cd.hasDel && (cd.hasDict && PySem.HandSPX.refsVE bm)))
    | _, _ => false)
  | _ => false
/-- the function's code object, its cell -/
def cdB (K : PySem.W.Frag) (C f : Addr) (q file : Str) : Bool := match K.lookup f with
  | some ⟨_, _, .func fd, _⟩ => (match fd.code, fd.closure, fd.defaults with
    | .ref c, [(_, cc)], .none => PySem.W.codeIn K (.ref c) q && ((match K.lookup c with
        | some ⟨_, _, .fields vs, _⟩ => (match (vs[2]? : Option Value) with
          | some (Value.str x _) => x == file && file == x
          | _ => false)
        | _ => false) && (match K.lookup cc with
        | some ⟨_, _, .cell (some (.ref C')), _⟩ => decide (C' = C)
        | _ => false))
    | _, _, _ => false)
  | _ => false
def supX (K : PySem.W.Frag) (C : Addr) (f q file : Str) : Bool := oexB K C && ((cdB K C (He.ma K C "__init__") q file && (He.eqO (PySem.W.findIn K (.ref C) "__setattr__") (some (some (.builtin "object.__setattr__"))) && He.eqO (PySem.W.findIn K (.ref C) f) (some none))) &&
  ((decide (PySem.W.subIn K (.ref C) (.type "BaseException") = some true) && (decide (PySem.W.typeIn K (.ref C) = some (.type "type")) && PySem.W.keepIn K (.ref C))) &&
  ((He.eqO (PySem.W.findIn K (.ref C) "__init__") (some (some (.ref (He.ma K C "__init__")))) && decide (PySem.W.typeIn K (.ref (He.ma K C "__init__")) = some (.type "function"))) &&
  ((He.eqO (PySem.W.ks_superIn K C C "__init__") (some (some (.builtin "ValueError.__init__"))) && decide (PySem.W.subIn K (.ref C) (.type "ValueError") = some true)) &&
  (decide (PySem.W.mroIn K C (.ref C) = some true) && (He.eqO (PySem.W.nsIn K cStatics "thirdparty.any") (some none) && He.eqO (PySem.W.nsIn K mainGlobals "super") (some none)))))))
theorem oexB_ok {K : PySem.W.Frag} {C : Addr} (h : oexB K C = true) : ∃ nm q N bs bm sn sub ab col dd k0 k1 k2 k3 k5, K.lookup C = some (excClassObj nm q C N bs bm true sn sub ab col dd k0 k1 k2 k3 k5 "ValueError.__new__") ∧ PySem.HandSPX.refsVE bm = true := by
  unfold oexB at h
  split at h
  · rename_i t dd cd sl ho
    have ht := (He.ba h).1
    have hz := (He.ba h).2
    clear h
    have et : t = "type" := of_decide_eq_true ht
    subst et
    split at hz
    · rename_i C' bm k0 k1 k2 k3 n k5 hm hs
      obtain ⟨h1, g1⟩ := He.ba hz
      obtain ⟨h2, g2⟩ := He.ba g1
      obtain ⟨h3, g3⟩ := He.ba g2
      obtain ⟨h4, h5⟩ := He.ba g3
      have a1 : C' = C := of_decide_eq_true h1
      have a2 : n = "ValueError.__new__" := of_decide_eq_true h2
      subst a1 a2
      obtain ⟨nm, bs, mro, ns, qn, hd, sn, sub, ab, col, del⟩ := cd
      have e1 : mro = .ref C' :: bm := hm
      have e2 : hd = true := h4
      have e3 : del = false := by simpa using h3
      have e4 : sl = #[k0, k1, k2, k3, some (.builtin "ValueError.__new__"), k5] := by
        rw [← Array.toArray_toList (xs := sl), hs]
      subst e1 e2 e3 e4
      exact ⟨_, _, _, _, _, _, _, _, _, _, _, _, _, _, _, ho, h5⟩
    · cases hz
  · cases h
theorem cdB_ok {K : PySem.W.Frag} {C f : Addr} {q file : Str} {st : Stmt} (e : fnI K f = iniV q st) (h : cdB K C f q file = true) : ∃ (oc : Value) (od : Option Addr) (kV doc pm ct : Value) (an : Option Addr) (cda cc : Addr) (osl : Array (Option Value)),
    K.lookup f = some ⟨oc, od, .func (PySem.W.ksFn "__init__" q (defArgs st) (defBody st) (defScope st) .none kV doc pm an (.ref cda) ct cc), osl⟩ ∧ PySem.W.codeIn K (.ref cda) q = true ∧
      (∃ (cl : Value) (cld : Option Addr) (csl : Array (Option Value)), K.lookup cc = some ⟨cl, cld, .cell (some (.ref C)), csl⟩) ∧
      (∃ (ccl : Value) (cdd : Option Addr) (vs : Array Value) (ccs : Array (Option Value)) (x : Str) (tf : Tok), K.lookup cda = some ⟨ccl, cdd, .fields vs, ccs⟩ ∧ vs[2]? = some (.str x tf) ∧ (file == x) = true) := by
  unfold fnI at e
  unfold cdB at h
  split at h
  · rename_i oc od fd osl lk
    rw [lk] at e
    obtain ⟨n1, n2, n3, n4, n5, n6, n7, n8, n9, n10, n11, n12, n13, n14, n15⟩ := fd
    have e2 : (some (n1, n2, n3, n4, n5, n6, n7.map (·.1), n15) : FnI) = some (("__init__" : Str), q, defArgs st, FuncBody.stmts (defBody st), defScope st, mainGlobals, (["__class__"] : List Str), builtinsNs) := e
    simp only [Option.some.injEq, Prod.mk.injEq] at e2
    obtain ⟨h1, h2, h3, h4, h5, h6, h7, h8⟩ := e2
    subst h1 h2 h3 h4 h5 h6 h8
    split at h
    · rename_i c y cc hc hcl hdv
      have e3 : n13 = .ref c := hc
      have e4 : n7 = [(y, cc)] := hcl
      have e6 : n8 = .none := hdv
      subst e3 e4 e6
      have e5 : y = "__class__" := by
        have h7' : [y] = [("__class__" : Str)] := h7
        injection h7'
      subst e5
      obtain ⟨k1, k⟩ := He.ba h
      obtain ⟨k2, k3⟩ := He.ba k
      refine ⟨oc, od, n9, n10, n11, n14, n12, c, cc, osl, lk, k1, ?_, ?_⟩
      · split at k3
        · rename_i cl cld C' csl q3
          obtain rfl : C' = C := of_decide_eq_true k3
          exact ⟨_, _, _, q3⟩
        · cases k3
      · split at k2
        · rename_i ccl cdd vs ccs q2
          split at k2
          · rename_i x tf q4
            exact ⟨_, _, _, _, _, _, q2, q4, (He.ba k2).2⟩
          · cases k2
        · cases k2
    · cases h
  · cases h
abbrev P0 : Program := (PySem.Challenge.rw_makefirst_k23_whole_fewest_rows_added).prog
theorem sup_top : (P0.main.scope.names.lookup ("super" : Str)).isSome = false := by decide +kernel
section
variable {K : PySem.W.Frag} {C : Addr}
theorem sup_refused (e : fnI K (He.ma K C "__init__") = iniV "Refused.__init__" s_Refused_init) (h : supX K C "at" "Refused.__init__" P0.main.file = true) : SupF P0 K C (He.ma K C "__init__") "at" := by
  obtain ⟨h1, h⟩ := He.ba h
  obtain ⟨h2, h⟩ := He.ba h
  obtain ⟨h2, h3⟩ := He.ba h2
  obtain ⟨h3, h4⟩ := He.ba h3
  obtain ⟨h5, h⟩ := He.ba h
  obtain ⟨h5, h6⟩ := He.ba h5
  obtain ⟨h6, h7⟩ := He.ba h6
  obtain ⟨h8, h⟩ := He.ba h
  obtain ⟨h8, h9⟩ := He.ba h8
  obtain ⟨h10, h⟩ := He.ba h
  obtain ⟨h10, h11⟩ := He.ba h10
  obtain ⟨h12, h⟩ := He.ba h
  obtain ⟨h13, h14⟩ := He.ba h
  refine ⟨⟨oexB_ok h1, He.eqO_ok h3, of_decide_eq_true h5, of_decide_eq_true h6, h7⟩, He.eqO_ok h4, He.eqO_ok h8, of_decide_eq_true h9, He.eqO_ok h10, of_decide_eq_true h11, of_decide_eq_true h12, He.eqO_ok h13, He.eqO_ok h14, sup_top, ?_⟩
  obtain ⟨oc, od, kV, doc, pm, ct, an, cda, cc, osl, k1, k2, k3, k4⟩ := cdB_ok e h2
  exact ⟨oc, od, _, _, _, _, _, _, _, _, _, _, _, _, _, _, _, .none, kV, doc, pm, ct, an, cda, cc, osl, _, k1, k2, k3, k4, rfl, rfl, fun u v => rfl, rfl, rfl, rfl, by decide +kernel, by rfl, by rfl, by rfl, by rfl, by decide, by decide, fun env => ⟨_, rfl⟩, fun env => rfl, fun env => rfl⟩
theorem sup_great (e : fnI K (He.ma K C "__init__") = iniV "TooGreat.__init__" s_TooGreat_init) (h : supX K C "most" "TooGreat.__init__" P0.main.file = true) : SupF P0 K C (He.ma K C "__init__") "most" := by
  obtain ⟨h1, h⟩ := He.ba h
  obtain ⟨h2, h⟩ := He.ba h
  obtain ⟨h2, h3⟩ := He.ba h2
  obtain ⟨h3, h4⟩ := He.ba h3
  obtain ⟨h5, h⟩ := He.ba h
  obtain ⟨h5, h6⟩ := He.ba h5
  obtain ⟨h6, h7⟩ := He.ba h6
  obtain ⟨h8, h⟩ := He.ba h
  obtain ⟨h8, h9⟩ := He.ba h8
  obtain ⟨h10, h⟩ := He.ba h
  obtain ⟨h10, h11⟩ := He.ba h10
  obtain ⟨h12, h⟩ := He.ba h
  obtain ⟨h13, h14⟩ := He.ba h
  refine ⟨⟨oexB_ok h1, He.eqO_ok h3, of_decide_eq_true h5, of_decide_eq_true h6, h7⟩, He.eqO_ok h4, He.eqO_ok h8, of_decide_eq_true h9, He.eqO_ok h10, of_decide_eq_true h11, of_decide_eq_true h12, He.eqO_ok h13, He.eqO_ok h14, sup_top, ?_⟩
  obtain ⟨oc, od, kV, doc, pm, ct, an, cda, cc, osl, k1, k2, k3, k4⟩ := cdB_ok e h2
  exact ⟨oc, od, _, _, _, _, _, _, _, _, _, _, _, _, _, _, _, .none, kV, doc, pm, ct, an, cda, cc, osl, _, k1, k2, k3, k4, rfl, rfl, fun u v => rfl, rfl, rfl, rfl, by decide +kernel, by rfl, by rfl, by rfl, by rfl, by decide, by decide, fun env => ⟨_, rfl⟩, fun env => rfl, fun env => rfl⟩
end
end Mk
set_option maxHeartbeats 0
namespace Mk
open PySem PySem.Spec PyProof.Rows L2
/-! ### what the head looks at -/
def h_is_integer : He.DefD := ⟨("is_integer", none), "is_integer", "is_integer", defArgs s_is_integer, defBody s_is_integer, defScope s_is_integer, [], []⟩
def h_is_number : He.DefD := ⟨("is_number", none), "is_number", "is_number", defArgs s_is_number, defBody s_is_number, defScope s_is_number, [], []⟩
def h_is_below : He.DefD := ⟨("is_below", none), "is_below", "is_below", defArgs s_is_below, defBody s_is_below, defScope s_is_below, [], []⟩
def h_is_within : He.DefD := ⟨("is_within", none), "is_within", "is_within", defArgs s_is_within, defBody s_is_within, defScope s_is_within, [], []⟩
def h_is_sequence : He.DefD := ⟨("is_sequence", none), "is_sequence", "is_sequence", defArgs s_is_sequence, defBody s_is_sequence, defScope s_is_sequence, [], []⟩
def h_check_columns : He.DefD := ⟨("check_columns", none), "check_columns", "check_columns", defArgs s_check_columns, defBody s_check_columns, defScope s_check_columns, [], []⟩
def h_is_values : He.DefD := ⟨("is_values", none), "is_values", "is_values", defArgs s_is_values, defBody s_is_values, defScope s_is_values, [], []⟩
def h_is_check : He.DefD := ⟨("is_check", none), "is_check", "is_check", defArgs s_is_check, defBody s_is_check, defScope s_is_check, [], []⟩
def h_told_check : He.DefD := ⟨("told_check", none), "told_check", "told_check", defArgs s_told_check, defBody s_told_check, defScope s_told_check, [], []⟩
def h_Book_init : He.DefD := ⟨("Book", some "__init__"), "__init__", "Book.__init__", defArgs s_Book_init, defBody s_Book_init, defScope s_Book_init, [.adr (He.dflAt ("Book", some "__init__") 0)], []⟩
def h_Book_eq : He.DefD := ⟨("Book", some "__eq__"), "__eq__", "Book.__eq__", defArgs s_Book_eq, defBody s_Book_eq, defScope s_Book_eq, [], []⟩
def h_kinds_of : He.DefD := ⟨("kinds_of", none), "kinds_of", "kinds_of", defArgs s_kinds_of, defBody s_kinds_of, defScope s_kinds_of, [], []⟩
def h_lots_set : He.DefD := ⟨("lots_set", none), "lots_set", "lots_set", defArgs s_lots_set, defBody s_lots_set, defScope s_lots_set, [], []⟩
def h_row_set : He.DefD := ⟨("row_set", none), "row_set", "row_set", defArgs s_row_set, defBody s_row_set, defScope s_row_set, [], []⟩
def h_places_of : He.DefD := ⟨("places_of", none), "places_of", "places_of", defArgs s_places_of, defBody s_places_of, defScope s_places_of, [], []⟩
def h_barred_lots : He.DefD := ⟨("barred_lots", none), "barred_lots", "barred_lots", defArgs s_barred_lots, defBody s_barred_lots, defScope s_barred_lots, [], []⟩
def h_unlike_pairs : He.DefD := ⟨("unlike_pairs", none), "unlike_pairs", "unlike_pairs", defArgs s_unlike_pairs, defBody s_unlike_pairs, defScope s_unlike_pairs, [], []⟩
def h_all_unlike : He.DefD := ⟨("all_unlike", none), "all_unlike", "all_unlike", defArgs s_all_unlike, defBody s_all_unlike, defScope s_all_unlike, [], []⟩
def h_first_bar : He.DefD := ⟨("first_bar", none), "first_bar", "first_bar", defArgs s_first_bar, defBody s_first_bar, defScope s_first_bar, [], []⟩
def h_is_number_row : He.DefD := ⟨("is_number_row", none), "is_number_row", "is_number_row", defArgs s_is_number_row, defBody s_is_number_row, defScope s_is_number_row, [], []⟩
def h_tuple_of : He.DefD := ⟨("tuple_of", none), "tuple_of", "tuple_of", defArgs s_tuple_of, defBody s_tuple_of, defScope s_tuple_of, [], []⟩
def h_order_of : He.DefD := ⟨("order_of", none), "order_of", "order_of", defArgs s_order_of, defBody s_order_of, defScope s_order_of, [], []⟩
def h_check_order : He.DefD := ⟨("check_order", none), "check_order", "check_order", defArgs s_check_order, defBody s_check_order, defScope s_check_order, [], []⟩
def h_is_ranking : He.DefD := ⟨("is_ranking", none), "is_ranking", "is_ranking", defArgs s_is_ranking, defBody s_is_ranking, defScope s_is_ranking, [], []⟩
def h_stages : He.DefD := ⟨("stages", none), "stages", "stages", defArgs s_stages, defBody s_stages, defScope s_stages, [], []⟩
def h_grown : He.DefD := ⟨("grown", none), "grown", "grown", defArgs s_grown, defBody s_grown, defScope s_grown, [], []⟩
def h_hull_book : He.DefD := ⟨("hull_book", none), "hull_book", "hull_book", defArgs s_hull_book, defBody s_hull_book, defScope s_hull_book, [], []⟩
def h_added_by : He.DefD := ⟨("added_by", none), "added_by", "added_by", defArgs s_added_by, defBody s_added_by, defScope s_added_by, [], []⟩
def h_fewest_added : He.DefD := ⟨("fewest_added", none), "fewest_added", "fewest_added", defArgs s_fewest_added, defBody s_fewest_added, defScope s_fewest_added, [], []⟩
def h_l_box : He.DefD := ⟨("_law_box", none), "_law_box", "_law_box", defArgs s_l_box, defBody s_l_box, defScope s_l_box, [], []⟩
def h_l_take : He.DefD := ⟨("_law_take", none), "_law_take", "_law_take", defArgs s_l_take, defBody s_l_take, defScope s_l_take, [], []⟩
def h_l_pick : He.DefD := ⟨("_law_pick", none), "_law_pick", "_law_pick", defArgs s_l_pick, defBody s_l_pick, defScope s_l_pick, [], []⟩
def h_l_lots : He.DefD := ⟨("_law_lots", none), "_law_lots", "_law_lots", defArgs s_l_lots, defBody s_l_lots, defScope s_l_lots, [], []⟩
def h_l_set : He.DefD := ⟨("_law_set", none), "_law_set", "_law_set", defArgs s_l_set, defBody s_l_set, defScope s_l_set, [], []⟩
def h_l_kinds : He.DefD := ⟨("_law_kinds", none), "_law_kinds", "_law_kinds", defArgs s_l_kinds, defBody s_l_kinds, defScope s_l_kinds, [], []⟩
def h_l_at : He.DefD := ⟨("_law_at", none), "_law_at", "_law_at", defArgs s_l_at, defBody s_l_at, defScope s_l_at, [], []⟩
def h_l_unlike : He.DefD := ⟨("_law_unlike", none), "_law_unlike", "_law_unlike", defArgs s_l_unlike, defBody s_l_unlike, defScope s_l_unlike, [], []⟩
def h_l_let : He.DefD := ⟨("_law_let", none), "_law_let", "_law_let", defArgs s_l_let, defBody s_l_let, defScope s_l_let, [], []⟩
def h_l_layers : He.DefD := ⟨("_law_layers", none), "_law_layers", "_law_layers", defArgs s_l_layers, defBody s_l_layers, defScope s_l_layers, [], []⟩
def h_l_way : He.DefD := ⟨("_law_way", none), "_law_way", "_law_way", defArgs s_l_way, defBody s_l_way, defScope s_l_way, [], []⟩
def h_l_hull : He.DefD := ⟨("_law_hull", none), "_law_hull", "_law_hull", defArgs s_l_hull, defBody s_l_hull, defScope s_l_hull, [], []⟩
def h_l_turned : He.DefD := ⟨("_law_turned", none), "_law_turned", "_law_turned", defArgs s_l_turned, defBody s_l_turned, defScope s_l_turned, [], []⟩
def h_l_all_rows : He.DefD := ⟨("_law_all_rows", none), "_law_all_rows", "_law_all_rows", defArgs s_l_all_rows, defBody s_l_all_rows, defScope s_l_all_rows, [], []⟩
def h_l_book : He.DefD := ⟨("_law_book", none), "_law_book", "_law_book", defArgs s_l_book, defBody s_l_book, defScope s_l_book, [], []⟩
def h_l_fault : He.DefD := ⟨("_law_fault", none), "_law_fault", "_law_fault", defArgs s_l_fault, defBody s_l_fault, defScope s_l_fault, [], []⟩
def h_l_odd : He.DefD := ⟨("_law_odd", none), "_law_odd", "_law_odd", defArgs s_l_odd, defBody s_l_odd, defScope s_l_odd, [], []⟩
def h_l_orders : He.DefD := ⟨("_law_orders", none), "_law_orders", "_law_orders", defArgs s_l_orders, defBody s_l_orders, defScope s_l_orders, [], []⟩
def h_l_added : He.DefD := ⟨("_law_added", none), "_law_added", "_law_added", defArgs s_l_added, defBody s_l_added, defScope s_l_added, [], []⟩
def h_law : He.DefD := ⟨("law", none), "law", "law", defArgs s_law, defBody s_law, defScope s_law, [], []⟩
def fnM : List He.DefD := [h_is_integer, h_is_number, h_is_below, h_is_within, h_is_sequence, h_check_columns, h_is_values, h_is_check, h_told_check, h_Book_init, h_Book_eq, h_kinds_of, h_lots_set, h_row_set, h_places_of, h_barred_lots, h_unlike_pairs, h_all_unlike, h_first_bar, h_is_number_row, h_tuple_of, h_order_of, h_check_order, h_is_ranking, h_stages, h_grown, h_hull_book, h_added_by, h_fewest_added, h_l_box, h_l_take, h_l_pick, h_l_lots, h_l_set, h_l_kinds, h_l_at, h_l_unlike, h_l_let, h_l_layers, h_l_way, h_l_hull, h_l_turned, h_l_all_rows, h_l_book, h_l_fault, h_l_odd, h_l_orders, h_l_added, h_law]
def faM : List He.Fa := [.glo "is_integer", .glo "is_number", .glo "is_below", .glo "is_within", .glo "is_sequence", .glo "check_columns", .glo "is_values", .glo "is_check", .glo "told_check", .glo "kinds_of", .glo "lots_set", .glo "row_set", .glo "places_of", .glo "barred_lots", .glo "unlike_pairs", .glo "all_unlike", .glo "first_bar", .glo "is_number_row", .glo "tuple_of", .glo "order_of", .glo "check_order", .glo "is_ranking", .glo "stages", .glo "grown", .glo "hull_book", .glo "added_by", .glo "fewest_added", .glo "_law_box", .glo "_law_take", .glo "_law_pick", .glo "_law_lots", .glo "_law_set", .glo "_law_kinds", .glo "_law_at", .glo "_law_unlike", .glo "_law_let", .glo "_law_layers", .glo "_law_way", .glo "_law_hull", .glo "_law_turned", .glo "_law_all_rows", .glo "_law_book", .glo "_law_fault", .glo "_law_odd", .glo "_law_orders", .glo "_law_added", .glo "law", .glo "BatchError", .glo "Refused", .glo "TooGreat", .glo "Book", .free "isinstance", .free "int", .free "bool", .free "list", .free "tuple", .free "len", .free "all", .free "sum", .free "range", .free "sorted", .free "zip", .free "enumerate", .free "reversed", .free "min", .free "repr", .free "abs", .free "set", .int "MOST_COLUMNS" 4, .int "MOST_VALUES" 4, .int "MOST_CHECKS" 6, .int "MOST_PLACES" 3, .cls "Book", .noat "Book" "columns", .noat "Book" "checks", .meth "Book" "__eq__", .mkr "Book", .noat "Refused" "at", .noat "TooGreat" "most", .exm "Refused" "Refused" true, .exm "TooGreat" "TooGreat" true]
/-- the rest -/
def exM (K : PySem.W.Frag) : Bool := (supX K (He.ga K "Refused") "at" "Refused.__init__" P0.main.file && supX K (He.ga K "TooGreat") "most" "TooGreat.__init__" P0.main.file) && ((xfB K (He.ga K "Refused") && xfB K (He.ga K "TooGreat")) && (PySem.W.isIn K (.ref (He.ga K "Refused")) (He.ga K "BatchError") &&
  ((He.eqO (PySem.W.findIn K (.ref (He.ga K "Book")) "__ne__") (some (some (.builtin "object.__ne__"))) && decide (PySem.W.mroIn K (He.ga K "Book") (.type "object") = some true)) &&
  (He.eqO (PySem.W.findIn K (.ref (He.ga K "Book")) "__class__") (some (some (.builtin "object.__class__"))) && (He.eqO (PySem.W.specialIn K (.builtin "object.__class__") "__get__") (some (some (.builtin "getset_descriptor.__get__"))) && decide (PySem.W.takesIn K (.builtin "object.__class__") = some true))))))
abbrev lawC (K : PySem.W.Frag) : Addr := He.codeOf K ("law", none)
abbrev lawP (K : PySem.W.Frag) : Addr := He.tabOf K (lawC K)
def tabB (g : Addr → Option Obj) (K : PySem.W.Frag) : Bool := PySem.W.codeHdIn K (lawC K) (lawP K) && (match g (lawP K) with
  | some o => He.emptyTab o
  | none => false)
def kM (g : Addr → Option Obj) : PySem.W.Frag := He.frT g (cStatics :: He.asD g 4)
abbrev AlM : Type := He.AlD × Bool × FnI × FnI
def lookM (g : Addr → Option Obj) (K : PySem.W.Frag) : AlM := (He.obsD faM fnM K, exM K && tabB g K, fnI K (He.ma K (He.ga K "Refused") "__init__"), fnI K (He.ma K (He.ga K "TooGreat") "__init__"))
def obsM (g : Addr → Option Obj) : AlM := lookM g (kM g)
def valM : AlM := (He.valD fnM, true, iniV "Refused.__init__" s_Refused_init, iniV "TooGreat.__init__" s_TooGreat_init)
/-- what is told -/
structure SaysM (h : Heap) (K : PySem.W.Frag) : Prop where
  d : He.SaysD faM fnM K
  ex : exM K = true
  iR : fnI K (He.ma K (He.ga K "Refused") "__init__") = iniV "Refused.__init__" s_Refused_init
  iT : fnI K (He.ma K (He.ga K "TooGreat") "__init__") = iniV "TooGreat.__init__" s_TooGreat_init
  hd : PySem.W.codeHdIn K (lawC K) (lawP K) = true
  out : K.lookup (lawP K) = none
  empty : h.get? (lawP K) = some { cls := .none, data := .fields #[] }
theorem saysM_of {h : Heap} (e : obsM h.get? = valM) : SaysM h (kM h.get?) := by
  have e1 : He.obsD faM fnM (kM h.get?) = He.valD fnM := congrArg (fun z : AlM => z.1) e
  have e2 : (exM (kM h.get?) && tabB h.get? (kM h.get?)) = true := congrArg (fun z : AlM => z.2.1) e
  have e3 := congrArg (fun z : AlM => z.2.2.1) e
  have e4 := congrArg (fun z : AlM => z.2.2.2) e
  obtain ⟨h1, h2⟩ := He.ba e2
  obtain ⟨h3, h4⟩ := He.ba h2
  cases q : h.get? (lawP (kM h.get?)) with
  | none =>
    rw [q] at h4
    cases h4
  | some o =>
    rw [q] at h4
    exact ⟨e1, h1, e3, e4, h3, He.frT_none q h4, by rw [q, He.emptyTab_eq h4]⟩
def hkM : PySem.W.Hook where
  α := AlM
  obs := fun s => obsM s.heap.get?
  val := fun _ => valM
  says := fun _ h => ∃ K : PySem.W.Frag, K.In h ∧ SaysM h K
  of := fun _ _ e => ⟨_, He.frT_in, saysM_of e⟩
  keeps := fun _ _ _ ⟨K, hK, c⟩ k => ⟨K, PySem.W.Frag.In.keeps hK k, ⟨c.d, c.ex, c.iR, c.iT, c.hd, c.out, k _ _ c.empty⟩⟩
def obM (s : PySem.W.SharedT) : AlM := obsM (HandSHeadRun.getT s)
theorem obM_eq (s : PySem.W.SharedT) : obM s = hkM.obs s.abs := by
  have e : HandSHeadRun.getT s = s.abs.heap.get? := funext (HandSHeadRun.getT_eq s)
  unfold obM
  rw [e] <;> rfl
abbrev R0 : PySem.W.OpenRow := PySem.W.OpenLaw.row PySem.Challenge.rw_makefirst_k23_whole_fewest_rows_added
def names1 : List PySem.Str := ["BatchError", "BadBook", "Refused", "TooGreat", "NoCheck", "MOST_COLUMNS", "MOST_VALUES", "MOST_CHECKS", "MOST_PLACES", "is_integer", "is_number", "is_below", "is_within", "is_sequence", "check_columns", "is_values", "is_check", "told_check", "Book", "kinds_of", "lots_set", "row_set", "places_of", "barred_lots", "unlike_pairs", "all_unlike", "first_bar", "is_number_row", "tuple_of"]
def names2 : List PySem.Str := ["order_of", "check_order", "is_ranking", "stages", "grown", "hull_book", "added_by", "fewest_added", "_law_box", "_law_take", "_law_pick", "_law_lots", "_law_set", "_law_kinds", "_law_at", "_law_unlike", "_law_let", "_law_layers", "_law_way", "_law_hull", "_law_turned", "_law_all_rows", "_law_book", "_law_fault", "_law_odd", "_law_orders", "_law_added"]
def names0 : List PySem.Str := names1 ++ names2
theorem runM (w : World) : HandSHeadRun.RunEq R0 (PySem.W.view R0.prog [63]) hkM obM 20000 names0 w := by
  intro os
  kernel_rfl
end Mk
set_option maxHeartbeats 2000000
namespace Mk
open PySem PySem.Spec PyProof.Rows L2
/-- C(e) of such a class: the error's own dict is new -/
def tMkS (C : Addr) (f : Str) (ta : TA) : L2.St → Hp → XK → Prop := fun σ H Q => ta σ H fun vs H1 => ∃ v, vs = [v] ∧ ∀ d, H1 d = none → Q (.ref C) (some d) (upd H1 d (.xd [(f, v)]))
theorem sup_un {P : Program} {w : World} {fs : List Addr} {H : Hp} {hp h' : Heap} {a C dx t1 : Addr} {f : Str} {y : V} {u : Value} (hok : HOk P w H hp) (e : H a = some (exo a C none)) (ry : RelV y u)
    (k : ∀ b o, b ≠ a → hp.get? b = some o → h'.get? b = some o) (dn : hp.objs.size ≤ dx) (dne : dx ≠ a) (hx : h'.get? a = some { cls := .ref C, dict := some dx, data := .fields #[.ref t1, .none, .none, .none, .bool false, .none] })
    (hn : h'.Ns1 dx (fun z => if z = f then some u else none)) :
    H dx = none ∧ Un fs [] H (upd (upd H dx (exd dx [(f, y)])) a (exo a C (some dx))) hp h' ∧ HOk P w (upd (upd H dx (exd dx [(f, y)])) a (exo a C (some dx))) h' := by
  have hnd : H dx = none := hok.fresh dn
  have nd : ∀ {b : Addr} {o : Obj}, hp.get? b = some o → b ≠ dx := fun {b o} q => Nat.ne_of_lt (Nat.lt_of_lt_of_le (Heap.lt_size q) dn)
  have na : ∀ {b : Addr}, H b = none → b ≠ a := fun {b} n z => by
    rw [z, e] at n
    cases n
  refine ⟨hnd, ⟨fun b o q n _ _ => k b o (na n) q, fun b o q n _ _ => ⟨o.slots, k b o (na n) q⟩, fun b o q n _ => by rw [upd_ne (na n), upd_ne (nd q)]; exact n, fun b o q _ => ?_,
    fun b xs q => by rw [upd_ne (at_ne e q exo_tup), upd_ne (ne_of_none q hnd)]; exact q, fun b o v q => by rw [upd_ne (at_ne e q exo_frz), upd_ne (ne_of_none q hnd)]; exact q, fun b ps q => ⟨#[], by rw [upd_ne (at_ne e q exo_tbl), upd_ne (ne_of_none q hnd), q]; simp⟩⟩, fun b o q => ?_⟩
  · by_cases hb : b = a
    · exact ⟨_, by rw [hb]; exact hx⟩
    · exact ⟨o, k b o hb q⟩
  · by_cases hb : b = a
    · subst hb
      rw [upd_same] at q
      cases q
      exact exo_ok hx
    · rw [upd_ne hb] at q
      by_cases hd : b = dx
      · subst hd
        rw [upd_same] at q
        cases q
        exact exd_ok hn (relO_put (fs := []) ry fun g => True.intro)
      · rw [upd_ne hd] at q
        exact (hok b o q).stay (fun c v hc z => k c v (by
            rcases hc with hc | hc
            · rw [hc]
              exact hb
            · exact at_ne e hc exo_own) z)
          (fun c hc => by rw [upd_ne (at_ne e hc exo_own), upd_ne (ne_of_none hc hnd)]; exact hc) (fun c xs hc => by rw [upd_ne (at_ne e hc exo_tup), upd_ne (ne_of_none hc hnd)]; exact hc)
section
variable {X : Cx} {e : Expr} {ta : TA} {x f : Str} {C fI : Addr} {p pos : Pos} {n : Nat}
theorem pmk_sup (S : SupF X.prog X.K C fI f) (hr : Room (n + 2) X.A) (hg : Gl X x) (hm : X.mg x = some (.ref C)) (ha : PA X [e] ta)
    (hdb : (x == ("__debug__" : Str)) = false := by decide) (he : starEach [e] X.env = (false, eval e X.env) :: starEach [] X.env := by rfl) (hpl : (backTo pos (starEach [] X.env)).any (·.1) = false := by rfl) :
    PMk X (.Call (.Name x p) [e] [] pos) (tMkS C f ta) := by
  intro pins s σ H Q I h
  obtain ⟨nm, q, N, bs, bm, sn, sub, ab, col, dd, k0, k1, k2, k3, k5, hC, hbm⟩ := S.cls.cls
  refine wpAny_Call_Name_kw (ld_glob I hg hm ?_ hdb)
  refine PySem.W.callWith_K (h₀ := X.base) I.ok.mod.kin S.cls.kC (thn (ha.run pos pins s σ H _ I h) fun us s1 ⟨vs, H1, I1, r1, v, ev, q1⟩ => ⟨I1.kIn, ?_⟩) he hpl
  show wpAny _ _ (call (.ref C) us) _ _ _
  subst ev
  cases r1 with
  | @cons _ u _ ur ru rr =>
    cases rr
    obtain ⟨hp, g, dr, tk, os⟩ := s1
    have hsz : hp.objs.size ≤ hp.objs.size + 1 := Nat.le_succ _
    have hn : H1 (hp.objs.size + 1) = none := I1.hok.fresh hsz
    have kk : ∀ b o, hp.get? b = some o → ((hp.push (PySem.W.kdv_tup [u])).push (PySem.HandSPX.excO C hp.objs.size)).get? b = some o := fun b o e => Heap.get?_push_of_some _ (Heap.get?_push_of_some _ e)
    have hget : ((hp.push (PySem.W.kdv_tup [u])).push (PySem.HandSPX.excO C hp.objs.size)).get? (hp.objs.size + 1) = some (PySem.HandSPX.excO C hp.objs.size) := by heap_get
    have I2 : Inv X pins σ (upd H1 (hp.objs.size + 1) (exo (hp.objs.size + 1) C none)) ⟨(hp.push (PySem.W.kdv_tup [u])).push (PySem.HandSPX.excO C hp.objs.size), g, dr, tk, os⟩ :=
      I1.laid (t' := tk) (a := hp.objs.size + 1) (o := exo (hp.objs.size + 1) C none) (h' := (hp.push (PySem.W.kdv_tup [u])).push (PySem.HandSPX.excO C hp.objs.size)) kk hsz (exo_ok hget)
    have hKx : X.K.lookup (hp.objs.size + 1) = none := by
      cases z : X.K.lookup (hp.objs.size + 1) with
      | none => rfl
      | some o => exact absurd (Heap.lt_size (I1.kIn _ _ z)) (Nat.not_lt.mpr hsz)
    have hus : [u].length ≤ sizeLine := by show 1 ≤ sizeLine; decide
    obtain ⟨mb, hb1, hb2⟩ := I2.ok.mod.blt
    refine wpAny_call (PySem.HandSPX.call_own F.excBase_ValueError (fun Y => PySem.HandSPX.refsVE_contains Y bm hbm) (I1.kIn _ _ hC) (PySem.W.looks_findIn I1.kIn S.iC) (fun self => PySem.W.bind_fn I1.kIn self S.tI) hus
      (sup_init S I2.kIn I2.nolimit (I2.ok.mod.glob.keeps I2.bk) ⟨mb, hb1.keeps I2.bk, hb2⟩ (hr.make C [u] []).depth hget hKx fun h' tk' dx t1 k dn dne hx hn' => ?_))
    obtain ⟨hd1, un, hok⟩ := sup_un (fs := frs X.stack) (y := v) I2.hok upd_same ru k dn dne hx hn'
    have hd0 : H1 dx = none := by
      rw [upd_ne dne] at hd1
      exact hd1
    refine ⟨rfl, mk_end (fs := [(f, v)]) (raises_own S.cls.exC S.cls.tyC) I1 hsz kk un hok rfl I1.bare upd_same (by rw [upd_ne dne, upd_same]) hd0 ?_⟩
    have e2 : upd (del (upd (upd (upd H1 (hp.objs.size + 1) (exo (hp.objs.size + 1) C none)) dx (exd dx [(f, v)])) (hp.objs.size + 1) (exo (hp.objs.size + 1) C (some dx))) (hp.objs.size + 1)) dx (.xd [(f, v)]) = upd H1 dx (.xd [(f, v)]) := by
      funext b
      by_cases h1 : b = dx
      · rw [h1, upd_same, upd_same]
      · rw [upd_ne h1, upd_ne h1]
        by_cases h2 : b = hp.objs.size + 1
        · rw [h2, del_same, hn]
        · rw [del_ne h2, upd_ne h2, upd_ne h1, upd_ne h2]
    rw [e2]
    exact q1 dx hd0
end
end Mk
/-! enumerate and zip over lists and tuples in any mix -/
namespace PySem
open Sem (wp)
set_option maxHeartbeats 1000000 in
theorem mk_enum_new {v : Value} {o : Obj} {H : Heap → Prop} (B : Begins v o H) :
    Meets (Builtin.«enumerate.__new__» ⟨[.type "enumerate", v], []⟩) (fun _ R s => H s.heap ∧
      R (.ok (.ret (.ref (s.heap.push o).objs.size))) { s with heap := (s.heap.push o).push { cls := .type "enumerate", data := .fields #[.none, .bool false, .ref s.heap.objs.size, rawInt 0, .none, .none] } }) :=
  .of_wp fun prog w A R s h => by
    obtain ⟨hp, g, d, tk, os⟩ := s
    obtain ⟨h1, h⟩ := h
    have hsub := sub_enumerate
    have it1 : ∀ {A' : Around} {E : Value → Shared → Prop} {Q : Value → Shared → Prop}, Q (.ref hp.objs.size) ⟨hp.push o, g, d, tk, os⟩ → wpAny (model prog w) A' (pyIter v) Q E ⟨hp, g, d, tk, os⟩ :=
      fun q => B.iter prog w _ _ ⟨hp, g, d, tk, os⟩ _ h1 q
    wp_walk using it1
    refine wpAny_stack_any fun st => wpAny_pure ?_
    split
    · rename_i c _ _ _ _ _
      cases (c == Value.type "enumerate")
      · wp_walk using it1
        exact ⟨_, rfl, h⟩
      · wp_walk using it1
        exact ⟨_, rfl, h⟩
    · wp_walk using it1
      exact ⟨_, rfl, h⟩
section
variable {prog : Program} {w : World} {A : Around} {E : Value → Shared → Prop} {s : Shared}
theorem mk_enum_begins {v : Value} {o : Obj} {H : Heap → Prop} {Q : Value → Shared → Prop} (B : Begins v o H) (h1 : H s.heap)
    (h : ∀ h', IsEnum h' (s.heap.objs.size + 1) s.heap.objs.size 0 .none → h'.get? s.heap.objs.size = some o → (∀ b o, s.heap.get? b = some o → h'.get? b = some o) → Q (.ref (s.heap.objs.size + 1)) { s with heap := h' }) :
    wpAny (model prog w) A (call (.type "enumerate") [v]) Q E s := by
  refine callType_new F.called_enumerate (by decide) (F.typeCall_enumerate_1 _) (F.newCall_enumerate_1 _) (fun obj => F.args_object_init_2 obj _) F.entry_enumerate_new (mk_enum_new B) ⟨h1, ?_⟩
  have hz : (s.heap.push o).objs.size = s.heap.objs.size + 1 := Heap.size_push ..
  show _ ∧ _
  rw [hz]
  have e2 := Heap.get?_push_size (s.heap.push o) (o := { cls := .type "enumerate", data := .fields #[.none, .bool false, .ref s.heap.objs.size, rawInt 0, .none, .none] }) rfl
  rw [hz] at e2
  exact ⟨⟨_, e2, rfl⟩, h _ e2 (Heap.get?_push_of_some _ (Heap.get?_push_size _ B.free)) fun b u x => Heap.get?_push_of_some _ (Heap.get?_push_of_some _ x)⟩
end
end PySem
namespace Mk
open PySem PySem.Spec PyProof.Rows L2

/-! ### a source: a list (false) or a tuple (true) -/
def SqS (b : Bool) (K : PySem.W.Frag) (H : Hp) (a : Addr) (xs : List V) : Prop := if b = true then SqT K H a xs else SqL K H a xs
def hpS (b : Bool) (h : Heap) (a : Addr) (its : Array Value) : Prop := if b = true then h.IsTuple a its else h.IsList a its
def itS (b : Bool) (h : Heap) (it a : Addr) (i : Nat) : Prop := if b = true then h.IsTupleIter it a i else h.IsListIter it a i
def obS (b : Bool) (a : Addr) : Obj := if b = true then { cls := .type "tuple_iterator", data := .fields #[.ref a, .int 0 0] } else { cls := .type "list_iterator", data := .fields #[.ref a, .int 0 0] }
theorem src_of {X : Cx} {pins : List (Addr × Obj)} {σ : L2.St} {H : Hp} {s : Shared} {b : Bool} {a : Addr} {xs : List V} (I : Inv X pins σ H s) (h : SqS b X.K H a xs) : ∃ its : List Value, Vals xs its ∧ hpS b s.heap a its.toArray ∧ xs.length ≤ sizeLine := by
  cases b with
  | true =>
    obtain ⟨its, r, p, z⟩ := I.tuple (show SqT X.K H a xs from h)
    exact ⟨its, r, show s.heap.IsTuple a its.toArray from p, z⟩
  | false =>
    obtain ⟨its, r, p, z⟩ := I.list (show SqL X.K H a xs from h)
    exact ⟨its, r, show s.heap.IsList a its.toArray from p.isList, z⟩
theorem src_inj {X : Cx} {pins : List (Addr × Obj)} {σ : L2.St} {H : Hp} {s : Shared} {b : Bool} {a : Addr} {xs ys : List V} (I : Inv X pins σ H s) (h : SqS b X.K H a xs) (h' : SqS b X.K H a ys) : xs = ys := by
  cases b with
  | true => exact I.tuple_inj (show SqT X.K H a xs from h) h'
  | false => exact I.list_inj (show SqL X.K H a xs from h) h'
theorem draws_of {prog : Program} {w : World} {A : Around} (hh : A.handled = none) (b : Bool) (it a : Addr) (hne : a ≠ it) (items : Array Value) : Draws prog w A it [it, a] items.size (fun i v => items[i]? = some v) (fun i h => itS b h it a i ∧ hpS b h a items) := by
  cases b with
  | true => exact Draws.tuple hh it a hne items
  | false => exact Draws.list hh it a hne items
theorem begins_of (b : Bool) (a : Addr) (items : Array Value) : Begins (.ref a) (obS b a) (fun h => hpS b h a items) := by
  cases b with
  | true => exact begins_tuple a items
  | false => exact begins_list a items
theorem itS_new {b : Bool} {h : Heap} {it a : Addr} (e : h.get? it = some (obS b a)) : itS b h it a 0 := by
  cases b with
  | true => exact ⟨_, e, rfl, rfl⟩
  | false => exact ⟨_, e, rfl, rfl⟩
theorem itS_obj {b : Bool} {h : Heap} {it a : Addr} {i : Nat} (e : itS b h it a i) : ∃ o, h.get? it = some o ∧ ∀ v, o.data ≠ .cell v := by
  cases b with
  | true =>
    obtain ⟨o, h1, _, h2⟩ := (show h.IsTupleIter it a i from e)
    exact ⟨o, h1, fun v z => by rw [h2] at z; cases z⟩
  | false =>
    obtain ⟨o, h1, _, h2⟩ := (show h.IsListIter it a i from e)
    exact ⟨o, h1, fun v z => by rw [h2] at z; cases z⟩
theorem itS_at {b : Bool} {h h' : Heap} {it a : Addr} {i : Nat} (e : itS b h it a i) (k : ∀ o, h.get? it = some o → h'.get? it = some o) : itS b h' it a i := by
  cases b with
  | true => exact (show h.IsTupleIter it a i from e).at k
  | false => exact (show h.IsListIter it a i from e).at k
theorem hpS_lt {b : Bool} {h : Heap} {a : Addr} {its : Array Value} (e : hpS b h a its) : a < h.objs.size := by
  cases b with
  | true =>
    obtain ⟨o, h1, _⟩ := (show h.IsTuple a its from e)
    exact Heap.lt_size h1
  | false =>
    obtain ⟨o, h1, _⟩ := (show h.IsList a its from e)
    exact Heap.lt_size h1

/-! ### enumerate -/
def ItE (b : Bool) (K : PySem.W.Frag) (a : Addr) : It :=
  ⟨fun i H => ∃ (xs : List V) (x : V), SqS b K H a xs ∧ xs[i]? = some x, fun i H v H' => ∃ T x, v = .ref T ∧ H T = none ∧ H' = upd H T (.tup [.int (i : Nat), x]) ∧ ∀ xs, SqS b K H a xs → xs[i]? = some x, fun i H => ∃ xs : List V, SqS b K H a xs ∧ xs.length = i⟩
theorem turn_enumS {P : Program} {w : World} {K : PySem.W.Frag} {elts : List Expr} {kk : Nat} {tpos : Pos} (b : Bool) (a e it : Addr) (hei : e ≠ it) (hae : a ≠ e) (hai : a ≠ it) :
    Turn P w K (.Tuple elts kk tpos) (ItE b K a) [e, it] e (fun i h => (∃ old, IsEnum h e it ((0 : Int) + (i : Int)) old) ∧ itS b h it a i) where
  mem := by simp
  obj := fun i h st c hc => by
    obtain ⟨⟨old, he⟩, hi⟩ := st
    rcases List.mem_cons.mp hc with z | hc
    · rw [z]
      exact ⟨_, he, fun v q => nomatch q⟩
    · rw [List.mem_singleton.mp hc]
      exact itS_obj hi
  keep := fun i h h' st k => by
    obtain ⟨⟨old, he⟩, hi⟩ := st
    exact ⟨⟨old, k e (by simp) _ he⟩, itS_at hi fun o q => k it (by simp) o q⟩
  item := by
    intro X hP hw hK hc i pins s σ H E I hf st hg
    subst hP hw hK
    obtain ⟨he, hit⟩ := st
    obtain ⟨xs, x, hq, hx⟩ := hg
    obtain ⟨its, rv, p, hz⟩ := src_of I hq
    have hlt : i < its.toArray.size := by
      have h1 := (List.getElem?_eq_some_iff.mp hx).1
      have h2 := rv.length
      simp only [List.size_toArray]
      omega
    have hh : X.A.in1.handled = none := I.ok.hd hc
    have W := GoesN.enumFrom (prog := X.prog) (w := X.w) (A := X.A) (elts := elts) (x1 := kk) (pos := tpos) 0 (draws_of hh b it a hai its.toArray) e hei (by simp [hei, Ne.symm hae]) (by simp)
    refine W.goes i s _ _ hlt ⟨he, hit, p⟩ fun v h' tk hY st' hk htk => ?_
    obtain ⟨T, t, u, rfl, hT, hu, hTu⟩ := hY
    obtain ⟨he', hit', _⟩ := st'
    obtain ⟨u', hu', ru⟩ := rv.get hx
    have eu : u = u' := by
      have z : its[i]? = some u := by simpa using hu
      rw [hu'] at z
      exact (Option.some.inj z).symm
    subst eu
    have new : ObjOk X.prog X.w (upd H T (.tup [.int (i : Nat), x])) h' T (.tup [.int (i : Nat), x]) := by
      obtain ⟨o, h1, h2, n, h3⟩ := hTu
      refine ⟨by show 2 ≤ sizeLine; decide, [.int (0 + (i : Int)) t, u], .cons ⟨t, by rw [Int.zero_add]⟩ (.cons ru .nil), ⟨o, h1, h2, n, h3⟩⟩
    have I1 : Inv X pins σ (upd H T (.tup [.int (i : Nat), x])) { s with heap := h', toks := tk } := I.turnedNew (ch := [e, it]) (fun c ob hb q => hk c ob hb q) hf hT new
    refine ⟨.ref T, _, I1, rfl, ⟨T, x, rfl, I.hok.fresh hT, rfl, fun ys hy => by rw [src_inj I hy hq]; exact hx⟩, ⟨he', hit'⟩, fun c hcm => ?_⟩
    have hlt' : c < s.heap.objs.size := by
      rcases List.mem_cons.mp hcm with z | hcm
      · obtain ⟨old, q⟩ := he
        rw [z]
        exact Heap.lt_size q
      · obtain ⟨o, q, _⟩ := itS_obj hit
        rw [List.mem_singleton.mp hcm]
        exact Heap.lt_size q
    rw [upd_ne (Nat.ne_of_lt (Nat.lt_of_lt_of_le hlt' hT))]
    exact (hf c hcm).1
  done := by
    intro X hP hw hK hc i pins s σ H E I hf st hg
    subst hP hw hK
    obtain ⟨he, hit⟩ := st
    obtain ⟨xs, hq, hx⟩ := hg
    obtain ⟨its, rv, p, hz⟩ := src_of I hq
    have hh : X.A.in1.handled = none := I.ok.hd hc
    have W := GoesN.enumFrom (prog := X.prog) (w := X.w) (A := X.A) (elts := elts) (x1 := kk) (pos := tpos) 0 (draws_of hh b it a hai its.toArray) e hei (by simp [hei, Ne.symm hae]) (by simp)
    have ei : i = its.toArray.size := by
      have h2 := rv.length
      simp only [List.size_toArray]
      omega
    subst ei
    refine thn (W.stops s (fun s1 => Inv X pins σ H s1) _ ⟨he, hit, p⟩ fun h' tk hk htk => ?_) fun r s1 h => h
    exact I.turnedL (ch := [e, it]) (fun c ob hb q => hk c ob hb q) hf
  self := fun A i s Q E st h => by
    obtain ⟨⟨_, he⟩, _⟩ := st
    exact wpAny_pyIter_enum he h
def iEnumS (b : Bool) (K : PySem.W.Frag) (ta : TA) : TI := fun σ H R => ta σ H fun vs H1 => ∃ a xs, vs = [.ref a] ∧ SqS b K H1 a xs ∧ R (ItE b K a) H1
theorem pi_enumS {X : Cx} (b : Bool) {e : Expr} {ta : TA} {p pos tpos : Pos} {elts : List Expr} {kk : Nat} (hg : Gl X "enumerate") (hm : X.mg "enumerate" = none) (ha : PA X [e] ta) (hs : starEach [e] X.env = [(false, eval e X.env)] := by rfl) :
    PI X (.Tuple elts kk tpos) (.Call (.Name "enumerate" p) [e] [] pos) (iEnumS b X.K ta) := by
  refine ⟨fun pins s σ H R I h => ?_⟩
  refine Call_ (ld_blt I hg hm boot_enumerate (PyProof.Rows.callWith_type1 (thn (ha.run pos pins s σ H _ I h) fun us s1 ⟨vs, H1, I1, r1, q1⟩ => ?_) hs rfl))
  obtain ⟨a, xs, ex, hq, q⟩ := q1
  subst ex
  cases r1 with
  | cons r rr =>
    cases rr
    cases r
    obtain ⟨its, rv, p', hz⟩ := src_of I1 hq
    have hal := hpS_lt p'
    refine mk_enum_begins (begins_of b a its.toArray) p' fun h' he hit hk => wpAny_pyIter_enum he ?_
    have I2 : Inv X pins σ H1 { s1 with heap := h' } := I1.kept (t' := s1.toks) hk
    refine ⟨s1.heap.objs.size + 1, [s1.heap.objs.size + 1, s1.heap.objs.size], _, _, H1, rfl, I2, turn_enumS b a (s1.heap.objs.size + 1) s1.heap.objs.size (Nat.succ_ne_self _) (Nat.ne_of_lt (Nat.lt_succ_of_lt hal)) (Nat.ne_of_lt hal), ⟨⟨.none, he⟩, itS_new hit⟩, fun c hcm => ?_, q⟩
    have hle : s1.heap.objs.size ≤ c := by
      rcases List.mem_cons.mp hcm with z | hcm
      · rw [z]; exact Nat.le_add_right _ _
      · rw [List.mem_singleton.mp hcm]; exact Nat.le_refl _
    exact I1.fpOk hle (I1.hok.fresh hle)

/-! ### zip of two -/
def ItZ (b1 b2 : Bool) (K : PySem.W.Frag) (a1 a2 : Addr) : It :=
  ⟨fun i H => ∃ (xs ys : List V) (x y : V), SqS b1 K H a1 xs ∧ SqS b2 K H a2 ys ∧ xs[i]? = some x ∧ ys[i]? = some y, fun i H v H' => ∃ T x y, v = .ref T ∧ H T = none ∧ H' = upd H T (.tup [x, y]) ∧ (∀ xs, SqS b1 K H a1 xs → xs[i]? = some x) ∧ ∀ ys, SqS b2 K H a2 ys → ys[i]? = some y,
    fun i H => ∃ xs ys : List V, SqS b1 K H a1 xs ∧ SqS b2 K H a2 ys ∧ min xs.length ys.length = i⟩
theorem turn_zipS {P : Program} {w : World} {K : PySem.W.Frag} {elts : List Expr} {kk : Nat} {tpos : Pos} (b1 b2 : Bool) (a1 a2 z TI TO i1 i2 : Addr) (S : ZipSep2 z TI TO i1 i2 [i1, a1] [i2, a2]) (h1 : a1 ≠ i1) (h2 : a2 ≠ i2) :
    Turn P w K (.Tuple elts kk tpos) (ItZ b1 b2 K a1 a2) [z, TI, TO, i1, i2] z (fun i h => IsZip h z TI TO .none ∧ IsTupOf2 h TI (.ref i1) (.ref i2) ∧ (∃ c d, IsTupOf2 h TO c d) ∧ itS b1 h i1 a1 i ∧ itS b2 h i2 a2 i) where
  mem := by simp
  obj := fun i h st c hc => by
    obtain ⟨hz, hTI, ⟨x, y, hTO⟩, q1, q2⟩ := st
    have tup : ∀ {t x y}, IsTupOf2 h t x y → ∃ o, h.get? t = some o ∧ ∀ v, o.data ≠ .cell v := fun {t x y} e => ⟨_, e, fun v q => nomatch q⟩
    simp only [List.mem_cons, List.not_mem_nil, or_false] at hc
    rcases hc with q | q | q | q | q
    · rw [q]
      exact ⟨_, hz, fun v q => nomatch q⟩
    · rw [q]
      exact tup hTI
    · rw [q]
      exact tup hTO
    · rw [q]
      exact itS_obj q1
    · rw [q]
      exact itS_obj q2
  keep := fun i h h' st k => by
    obtain ⟨hz, hTI, ⟨x, y, hTO⟩, q1, q2⟩ := st
    exact ⟨k z (by simp) _ hz, k TI (by simp) _ hTI, ⟨x, y, k TO (by simp) _ hTO⟩, itS_at q1 fun o q => k i1 (by simp) o q, itS_at q2 fun o q => k i2 (by simp) o q⟩
  item := by
    intro X hP hw hK hc i pins s σ H E I hf st hg
    subst hP hw hK
    obtain ⟨hz, hTI, hTO, q1, q2⟩ := st
    obtain ⟨xs, ys, x, y, hqx, hqy, hx, hy⟩ := hg
    obtain ⟨its, rv, p, _⟩ := src_of I hqx
    obtain ⟨its2, rv2, p2, _⟩ := src_of I hqy
    have hh : X.A.in1.handled = none := I.ok.hd hc
    have hlt : i < min its.toArray.size its2.toArray.size := by
      have e1 := (List.getElem?_eq_some_iff.mp hx).1
      have e2 := (List.getElem?_eq_some_iff.mp hy).1
      have e3 := rv.length
      have e4 := rv2.length
      simp only [List.size_toArray]
      omega
    have W := GoesN.zip2 (prog := X.prog) (w := X.w) (A := X.A) (elts := elts) (x1 := kk) (pos := tpos) S (draws_of hh b1 i1 a1 h1 its.toArray) (draws_of hh b2 i2 a2 h2 its2.toArray)
    refine W.goes i s _ _ hlt ⟨hz, hTI, hTO, ⟨q1, p⟩, ⟨q2, p2⟩⟩ fun v h' tk hY st' hk htk => ?_
    obtain ⟨T, u, u2, rfl, hT, hu, hu2, hTu⟩ := hY
    obtain ⟨hz', hTI', hTO', ⟨q1', _⟩, q2', _⟩ := st'
    obtain ⟨v1, hv1, ru⟩ := rv.get hx
    obtain ⟨v2, hv2, ru2⟩ := rv2.get hy
    have e1 : u = v1 := by
      have z : its[i]? = some u := by simpa using hu
      rw [hv1] at z
      exact (Option.some.inj z).symm
    have e2 : u2 = v2 := by
      have z : its2[i]? = some u2 := by simpa using hu2
      rw [hv2] at z
      exact (Option.some.inj z).symm
    subst e1
    subst e2
    have new : ObjOk X.prog X.w (upd H T (.tup [x, y])) h' T (.tup [x, y]) := by
      obtain ⟨o, k1, k2, n, k3⟩ := hTu
      exact ⟨by show 2 ≤ sizeLine; decide, [u, u2], .cons ru (.cons ru2 .nil), ⟨o, k1, k2, n, k3⟩⟩
    have hk' : ∀ c ob, c ∉ [z, TI, TO, i1, i2] → s.heap.get? c = some ob → h'.get? c = some ob := fun c ob hb q => hk c ob (fun m => hb (by simp only [List.mem_cons, List.not_mem_nil, or_false] at m ⊢; rcases m with m | m | m | m <;> simp [m])) q
    have I1 : Inv X pins σ (upd H T (.tup [x, y])) { s with heap := h', toks := tk } := I.turnedNew (ch := [z, TI, TO, i1, i2]) hk' hf hT new
    refine ⟨.ref T, _, I1, rfl, ⟨T, x, y, rfl, I.hok.fresh hT, rfl, fun zs hzs => by rw [src_inj I hzs hqx]; exact hx, fun zs hzs => by rw [src_inj I hzs hqy]; exact hy⟩, ⟨hz', hTI', hTO', q1', q2'⟩, fun c hcm => ?_⟩
    have hlt' : c < s.heap.objs.size := by
      obtain ⟨x0, y0, hTO0⟩ := hTO
      obtain ⟨o1, w1, _⟩ := itS_obj q1
      obtain ⟨o2, w2, _⟩ := itS_obj q2
      simp only [List.mem_cons, List.not_mem_nil, or_false] at hcm
      rcases hcm with q | q | q | q | q
      · rw [q]; exact Heap.lt_size hz
      · rw [q]; exact Heap.lt_size hTI
      · rw [q]; exact Heap.lt_size hTO0
      · rw [q]; exact Heap.lt_size w1
      · rw [q]; exact Heap.lt_size w2
    rw [upd_ne (Nat.ne_of_lt (Nat.lt_of_lt_of_le hlt' hT))]
    exact (hf c hcm).1
  done := by
    intro X hP hw hK hc i pins s σ H E I hf st hg
    subst hP hw hK
    obtain ⟨hz, hTI, hTO, q1, q2⟩ := st
    obtain ⟨xs, ys, hqx, hqy, hx⟩ := hg
    obtain ⟨its, rv, p, _⟩ := src_of I hqx
    obtain ⟨its2, rv2, p2, _⟩ := src_of I hqy
    have hh : X.A.in1.handled = none := I.ok.hd hc
    have W := GoesN.zip2 (prog := X.prog) (w := X.w) (A := X.A) (elts := elts) (x1 := kk) (pos := tpos) S (draws_of hh b1 i1 a1 h1 its.toArray) (draws_of hh b2 i2 a2 h2 its2.toArray)
    have ei : i = min its.toArray.size its2.toArray.size := by
      have e3 := rv.length
      have e4 := rv2.length
      simp only [List.size_toArray]
      omega
    subst ei
    refine thn (W.stops s (fun s1 => Inv X pins σ H s1) _ ⟨hz, hTI, hTO, ⟨q1, p⟩, ⟨q2, p2⟩⟩ fun h' tk hk htk => ?_) fun r s1 h => h
    exact I.turnedL (ch := [z, TI, TO, i1, i2]) (fun c ob hb q => hk c ob (fun m => hb (by simp only [List.mem_cons, List.not_mem_nil, or_false] at m ⊢; rcases m with m | m | m | m <;> simp [m])) q) hf
  self := fun A i s Q E st h => wpAny_pyIter_zip st.1 h
def iZipS (b1 b2 : Bool) (K : PySem.W.Frag) (ta : TA) : TI := fun σ H R => ta σ H fun vs H1 => ∃ a1 a2 xs ys, vs = [.ref a1, .ref a2] ∧ SqS b1 K H1 a1 xs ∧ SqS b2 K H1 a2 ys ∧ R (ItZ b1 b2 K a1 a2) H1
theorem pi_zipS {X : Cx} (b1 b2 : Bool) {e e2 : Expr} {ta : TA} {p pos tpos : Pos} {elts : List Expr} {kk : Nat} (hg : Gl X "zip") (hm : X.mg "zip" = none) (ha : PA X [e, e2] ta)
    (hs : starEach [e, e2] X.env = (false, eval e X.env) :: starEach [e2] X.env := by rfl) (hpl : (backTo pos (starEach [e2] X.env)).any (·.1) = false := by rfl) :
    PI X (.Tuple elts kk tpos) (.Call (.Name "zip" p) [e, e2] [] pos) (iZipS b1 b2 X.K ta) := by
  refine ⟨fun pins s σ H R I h => ?_⟩
  refine Call_ (ld_blt I hg hm PyProof.Rows.boot_zip (PyProof.Rows.callWith_type1 (thn (ha.run pos pins s σ H _ I h) fun us s1 ⟨vs, H1, I1, r1, q1⟩ => ?_) hs hpl))
  obtain ⟨a1, a2, xs, ys, ex, hqx, hqy, q⟩ := q1
  subst ex
  cases r1 with
  | cons r rr =>
    cases rr with
    | cons r' rr =>
      cases rr
      cases r
      cases r'
      obtain ⟨its, rv, p1, _⟩ := src_of I1 hqx
      obtain ⟨its2, rv2, p2, _⟩ := src_of I1 hqy
      have l1 := hpS_lt p1
      have l2 := hpS_lt p2
      refine zip_begins2 (begins_of b1 a1 its.toArray) (begins_of b2 a2 its2.toArray) p1 p2 fun h' hz hTI hTO h1 h2 hsz hk => wpAny_pyIter_zip hz ?_
      have I2 : Inv X pins σ H1 { s1 with heap := h' } := I1.kept (t' := s1.toks) hk
      refine ⟨s1.heap.objs.size + 4, [s1.heap.objs.size + 4, s1.heap.objs.size + 2, s1.heap.objs.size + 3, s1.heap.objs.size, s1.heap.objs.size + 1], _, _, H1, rfl, I2,
        turn_zipS b1 b2 a1 a2 (s1.heap.objs.size + 4) (s1.heap.objs.size + 2) (s1.heap.objs.size + 3) s1.heap.objs.size (s1.heap.objs.size + 1) (zip_sep2 (fp1 := [a1]) (fp2 := [a2]) (fun c hc => by rw [List.mem_singleton.mp hc]; exact l1) (fun c hc => by rw [List.mem_singleton.mp hc]; exact l2)) (Nat.ne_of_lt l1) (Nat.ne_of_lt (Nat.lt_succ_of_lt l2)),
        ⟨hz, hTI, ⟨_, _, hTO⟩, itS_new h1, itS_new h2⟩, fun c hcm => ?_, q⟩
      have hle : s1.heap.objs.size ≤ c := by
        simp only [List.mem_cons, List.not_mem_nil, or_false] at hcm
        rcases hcm with z | z | z | z | z
        · rw [z]; exact Nat.le_add_right _ _
        · rw [z]; exact Nat.le_add_right _ _
        · rw [z]; exact Nat.le_add_right _ _
        · rw [z]; exact Nat.le_refl _
        · rw [z]; exact Nat.le_add_right _ _
      exact I1.fpOk hle (I1.hok.fresh hle)

/-! ### the same by data -/
section
variable {X : Cx} {B : Bs} {G : En} {e e2 : Expr} {ds es : List PyData} {p pos tpos : Pos} {elts : List Expr} {kk : Nat}
/-- a datum of items: a tuple or a list -/
def dS (b : Bool) (ds : List PyData) : PyData := if b = true then .tuple ds else .list ds
theorem rp_src {K : PySem.W.Frag} {b : Bool} {F H : Hp} {v : V} (r : Rp F v (dS b ds)) (hs : Same F H) : ∃ a xs, v = .ref a ∧ SqS b K H a xs ∧ Rps F xs ds ∧ ∀ F1 H1, Same F F1 → Same F1 H1 → SqS b K H1 a xs := by
  cases b with
  | true =>
    have r' : Rp F v (.tuple ds) := r
    cases r' with
    | tup h1 r1 => exact ⟨_, _, rfl, SqT.of (hs _ _ h1), r1, fun F1 H1 e1 e2 => SqT.of (e2 _ _ (e1 _ _ h1))⟩
  | false =>
    have r' : Rp F v (.list ds) := r
    cases r' with
    | lst h1 r1 => exact ⟨_, _, rfl, SqL.of (hs _ _ h1), r1, fun F1 H1 e1 e2 => SqL.of (e2 _ _ (e1 _ _ h1))⟩
/-- (0, a), (1, b), .. -/
def enD (ds : List PyData) : List PyData := ds.mapIdx fun i d => .tuple [.int (i : Int), d]
theorem enD_len : (enD ds).length = ds.length := by simp [enD]
theorem enD_get {i : Nat} {d : PyData} (h : ds[i]? = some d) : (enD ds)[i]? = some (.tuple [.int (i : Int), d]) := by simp [enD, h]
theorem i_enum (b : Bool) (hm : X.mg "enumerate" = none) (ha : EV X B G e (dS b ds)) (hg : Gl X "enumerate" := by rfl) (hs : starEach [e] X.env = [(false, eval e X.env)] := by rfl) : EI X B G (.Tuple elts kk tpos) (.Call (.Name "enumerate" p) [e] [] pos) (is (enD ds)) :=
  PI.weak (pi_enumS b hg hm (pa_cons ha pa_nil (by rw [hs]; rfl)) hs) fun s H R ⟨F, g, w, q⟩ => ⟨F, g, w, fun v t F1 H1 p1 g1 e1 w1 => by
    rw [show t = Sl.dat (dS b ds) from p1] at w1
    obtain ⟨a, xs, rfl, h1, h2, h3⟩ := rp_src (K := X.K) (w1.topI rfl) g1.h
    refine ⟨a, xs, rfl, h1, q _ _ F1 H1 rfl g1 e1 w1.pop ⟨fun i F2 H2 e2 e3 hi => ?_, fun F2 H2 e2 e3 => ?_, fun i F2 H2 x H3 e2 e3 hi y => ?_⟩⟩
    · rw [enD_len, ← h2.length] at hi
      exact ⟨xs, xs[i], h3 F2 H2 e2 e3.h, List.getElem?_eq_getElem hi⟩
    · exact ⟨xs, h3 F2 H2 e2 e3.h, by rw [enD_len, h2.length]⟩
    · obtain ⟨T, u, rfl, hT, rfl, hu⟩ := y
      obtain ⟨d, hd, rd⟩ := h2.get (hu xs (h3 F2 H2 e2 e3.h))
      have gr := Grow.new (o := .tup [.int (i : Nat), u]) e3.h hT
      exact ⟨_, _, enD_get hd, gr, .tup upd_same (.cons (.int _) (.cons ((rd.mono e2).mono gr.f) .nil))⟩⟩
def zpD (ds es : List PyData) : List PyData := List.zipWith (fun d e => .tuple [d, e]) ds es
theorem i_zip (b1 b2 : Bool) (hm : X.mg "zip" = none) (ha : EV X B G e (dS b1 ds)) (hb : EV X B G e2 (dS b2 es)) (hg : Gl X "zip" := by rfl) (hs : starEach [e, e2] X.env = (false, eval e X.env) :: starEach [e2] X.env := by rfl) (hs2 : starEach [e2] X.env = (false, eval e2 X.env) :: starEach [] X.env := by rfl)
    (hpl : (backTo pos (starEach [e2] X.env)).any (·.1) = false := by rfl) : EI X B G (.Tuple elts kk tpos) (.Call (.Name "zip" p) [e, e2] [] pos) (is (zpD ds es)) :=
  PI.weak (pi_zipS b1 b2 hg hm (pa_cons ha (pa_cons hb pa_nil hs2) hs) hs hpl) fun s H R ⟨F, g, w, q⟩ => ⟨F, g, w, fun v t F1 H1 p1 g1 e1 w1 => ⟨F1, g1, w1.pop, fun v2 t2 F2 H2 p2 g2 e2 w2 => by
    rw [show t = Sl.dat (dS b1 ds) from p1] at w1
    rw [show t2 = Sl.dat (dS b2 es) from p2] at w2
    obtain ⟨a, xs, rfl, h1, h2, h3⟩ := rp_src (K := X.K) ((w1.topI rfl : Rp F1 v (dS b1 ds)).mono e2) g2.h
    obtain ⟨a2, ys, rfl, k1, k2, k3⟩ := rp_src (K := X.K) (w2.topI rfl : Rp F2 v2 (dS b2 es)) g2.h
    refine ⟨a, a2, xs, ys, rfl, h1, k1, q _ _ F2 H2 rfl g2 (e1.trans e2) w2.pop ⟨fun i F3 H3 e3 e4 hi => ?_, fun F3 H3 e3 e4 => ?_, fun i F3 H3 x H4 e3 e4 hi y => ?_⟩⟩
    · have hi' : i < xs.length ∧ i < ys.length := by
        simp only [zpD, List.length_zipWith] at hi
        rw [h2.length, k2.length]
        omega
      exact ⟨xs, ys, xs[i]'hi'.1, ys[i]'hi'.2, h3 F3 H3 e3 e4.h, k3 F3 H3 e3 e4.h, List.getElem?_eq_getElem hi'.1, List.getElem?_eq_getElem hi'.2⟩
    · exact ⟨xs, ys, h3 F3 H3 e3 e4.h, k3 F3 H3 e3 e4.h, by rw [h2.length, k2.length]; simp [zpD]⟩
    · obtain ⟨T, u, u2, rfl, hT, rfl, hu, hu2⟩ := y
      obtain ⟨d, hd, rd⟩ := h2.get (hu xs (h3 F3 H3 e3 e4.h))
      obtain ⟨d2, hd2, rd2⟩ := k2.get (hu2 ys (k3 F3 H3 e3 e4.h))
      have gr := Grow.new (o := .tup [u, u2]) e4.h hT
      refine ⟨_, .tuple [d, d2], ?_, gr, .tup upd_same (.cons ((rd.mono e3).mono gr.f) (.cons ((rd2.mono e3).mono gr.f) .nil))⟩
      simp [zpD, List.getElem?_zipWith, hd, hd2]⟩⟩
end
end Mk
namespace Mk
open PySem PySem.Spec PyProof.Rows L2

/-! ### a <= b <= c -/
section
variable {X : Cx} {B : Bs} {G : En} {a b c e : Expr} {pos : Pos} {i j k : Int}
theorem chain_read {e : Expr} {ta : TE} (h : PE X e ta) (hta : ta = tChain (rI0 fun i j => .bl (decide (i ≤ j))) (rI0 fun i j => .bl (decide (i ≤ j))) (tE B G (is (.dat (.int i)))) (tE B G (is (.dat (.int j)))) (tE B G (is (.dat (.int k))))) : EV X B G e (.bool (decide (i ≤ j) && decide (j ≤ k))) :=
  e_of h fun s F H Q g w q => by
    subst hta
    refine ⟨F, g, w, fun v t F1 H1 p1 g1 e1 w1 => ⟨F1, g1, w1.pop, fun v2 t2 F2 H2 p2 g2 e2 w2 => ?_⟩⟩
    rw [show t = Sl.dat (.int i) from p1] at w1
    rw [show t2 = Sl.dat (.int j) from p2] at w2
    have r1 : Rp F1 v (.int i) := w1.topI rfl
    have r2 : Rp F2 v2 (.int j) := w2.topI rfl
    cases r1
    cases r2
    refine ⟨i, j, rfl, rfl, decide (i ≤ j), rfl, ?_⟩
    cases hd : decide (i ≤ j) with
    | false =>
      refine iteF (q _ _ F2 H2 ?_ g2 (e1.trans e2) (w2.pop.pushD (.bl false)))
      rw [hd]
      rfl
    | true =>
      refine iteT ⟨F2, g2, w2.pop, fun v3 t3 F3 H3 p3 g3 e3 w3 => ?_⟩
      rw [show t3 = Sl.dat (.int k) from p3] at w3
      have r3 : Rp F3 v3 (.int k) := w3.topI rfl
      cases r3
      refine ⟨j, k, rfl, rfl, q _ _ F3 H3 ?_ g3 ((e1.trans e2).trans e3) (w3.pop.pushD (.bl _))⟩
      rw [hd]
      rfl
theorem e_chain (ha : EV X B G a (.int i)) (hb : EV X B G b (.int j)) (hc : EV X B G c (.int k)) (hm : lastMarks [.LtE, .LtE] [b, c] = false := by with_unfolding_all rfl) : EV X B G (.Compare a [.LtE, .LtE] [b, c] pos) (.bool (decide (i ≤ j) && decide (j ≤ k))) :=
  chain_read (pe_chain op_le op_le ha hb hc hm) rfl
theorem t_chain (ha : EV X B G a (.int i)) (hb : EV X B G b (.int j)) (hc : EV X B G c (.int k)) (hm : lastMarks [.LtE, .LtE] [b, c] = false := by with_unfolding_all rfl) : ET X B G (.Compare a [.LtE, .LtE] [b, c] pos) (is (decide (i ≤ j) && decide (j ≤ k))) :=
  PT.weak (pt_chain op_le op_le ha hb hc hm) fun s H Q ⟨F, g, w, q⟩ => by
    refine ⟨F, g, w, fun v t F1 H1 p1 g1 e1 w1 => ⟨F1, g1, w1.pop, fun v2 t2 F2 H2 p2 g2 e2 w2 => ?_⟩⟩
    rw [show t = Sl.dat (.int i) from p1] at w1
    rw [show t2 = Sl.dat (.int j) from p2] at w2
    have r1 : Rp F1 v (.int i) := w1.topI rfl
    have r2 : Rp F2 v2 (.int j) := w2.topI rfl
    cases r1
    cases r2
    refine ⟨i, j, rfl, rfl, decide (i ≤ j), rfl, ?_⟩
    cases hd : decide (i ≤ j) with
    | false =>
      refine iteF ⟨false, rfl, q _ F2 H2 ?_ g2 (e1.trans e2) w2.pop⟩
      rw [hd]
      rfl
    | true =>
      refine iteT ⟨F2, g2, w2.pop, fun v3 t3 F3 H3 p3 g3 e3 w3 => ?_⟩
      rw [show t3 = Sl.dat (.int k) from p3] at w3
      have r3 : Rp F3 v3 (.int k) := w3.topI rfl
      cases r3
      refine ⟨j, k, rfl, rfl, decide (j ≤ k), rfl, q _ F3 H3 ?_ g3 ((e1.trans e2).trans e3) w3.pop⟩
      rw [hd]
      rfl
end

/-! ### name = [..], name a local: the store within the comprehension -/
section
variable {X : Cx} {B : Bs} {G : En} {elt tg iter : Expr} {ifs : List Expr} {scope : Scope} {pos spos py : Pos} {PD : List PyData → Prop} {Tt : PyData → Bool → Prop} {P : PyData → Sl → Prop} {p : Po} {y : Str} {rest : List Stmt}
theorem s_lcO (i : Nat) (T : Tg) (own : List (Str × Nat)) (hi : EI X B G tg iter PD) (hg : ∀ (s : Shared) (H : Hp) (C : Addr) (cl : List (Str × Addr)) (fp : List Addr), PG (X.blk s H scope (compEnvC scope cl C X.env) fp) tg (T.g X.K))
    (ht : ∀ (s : Shared) (H : Hp) (C : Addr) (cl : List (Str × Addr)) (fp : List Addr) (B' : Bs) ds d, PD ds → d ∈ ds → ETs (X.blk s H scope (compEnvC scope cl C X.env) fp) B' (T.to d (wipeG G (own.map (·.2)))) ifs (Tt d))
    (he : ∀ (s : Shared) (H : Hp) (C : Addr) (cl : List (Str × Addr)) (fp : List Addr) (B' : Bs) ds d, PD ds → d ∈ ds → Tt d true → EE (X.blk s H scope (compEnvC scope cl C X.env) fp) B' (T.to d (wipeG G (own.map (·.2)))) elt (P d))
    (fit : ∀ ds, PD ds → ∀ d ∈ ds, T.fits d) (hz : ∀ ds, PD ds → ds.length ≤ 100000) (hP : ∀ ds, PD ds → ∀ d ∈ ds, ∀ t, P d t → ∃ e, t = .dat e)
    (k : ∀ ds es, PD ds → LcRel Tt P ds es → p.nx (G.set i (.own es)) ∨ p.nx (G.set i (.dat (.list es))))
    (ok : BlkOk X.N X.env.scope scope own) (hN : X.N.Nodup) (hiy : X.N[i]? = some y := by rfl) (hyl : X.env.scope.names.lookup y = some .local := by rfl) (hsw : swapsWith (.ListComp elt [⟨tg, iter, ifs, 0⟩] scope pos) (some (.Name y py)) spos.line X.env = pure true := by exact sw_true rfl rfl rfl (by decide +kernel))
    (hsl : ∀ j ∈ T.sl, j ∈ own.map (·.2) := by decide) (has : aside G (own.map (·.2)) = true := by rfl) (hc : X.calm = true := by rfl) (hs : ∀ x, foldedSetIterable iter X.env x = pure x := by intro _; rfl) :
    S1 X B G (.Assign [.Name y py] (.ListComp elt [⟨tg, iter, ifs, 0⟩] scope pos) spos) p :=
  PS.weak (ps_setLc hc hN hiy hyl hsw hi ok hg
    (fun s H C cl fp => (⟨fun pins s' σ H' Q I ⟨B', d, ds, h1, h2, q⟩ => (ht s H C cl fp B' ds d h1 h2).run pins s' σ H' Q I q⟩ : PTs _ ifs (fun s H Q => ∃ (B' : Bs) (d : PyData) (ds : List PyData), PD ds ∧ d ∈ ds ∧ tT B' (T.to d (wipeG G (own.map (·.2)))) (Tt d) s H Q)))
    (fun s H C cl fp => (⟨fun pins s' σ H' Q I ⟨B', d, ds, h1, h2, h3, q⟩ => (he s H C cl fp B' ds d h1 h2 h3).run pins s' σ H' Q I q⟩ : PE _ elt (fun s H Q => ∃ (B' : Bs) (d : PyData) (ds : List PyData), PD ds ∧ d ∈ ds ∧ Tt d true ∧ tE B' (T.to d (wipeG G (own.map (·.2)))) (P d) s H Q))) hs)
    fun D s H ⟨F, g, w, q1, _⟩ => lc_read T hsl has fit hz hP ⟨F, g, w, fun v t F1 H1 ⟨ds, es, pd, et, rel⟩ g1 e1 w1 => by
      rw [et] at w1
      rcases k ds es pd rel with kk | kk
      · exact q1 _ _ F1 H1 kk g1 e1 w1.set
      · obtain ⟨F2, g2, e2, w2⟩ := Sat.freeze g1 w1
        exact q1 _ _ F2 H1 kk g2 (e1.trans e2) w2.set⟩
theorem q_lc {ds : List PyData} (i : Nat) (T : Tg) (own : List (Str × Nat)) (f : PyData → Bool) (v : PyData → PyData) (hi : EI X B G tg iter (is ds)) (hg : ∀ (s : Shared) (H : Hp) (C : Addr) (cl : List (Str × Addr)) (fp : List Addr), PG (X.blk s H scope (compEnvC scope cl C X.env) fp) tg (T.g X.K))
    (ht : ∀ (s : Shared) (H : Hp) (C : Addr) (cl : List (Str × Addr)) (fp : List Addr) (B' : Bs) d, d ∈ ds → ETs (X.blk s H scope (compEnvC scope cl C X.env) fp) B' (T.to d (wipeG G (own.map (·.2)))) ifs (is (f d)))
    (he : ∀ (s : Shared) (H : Hp) (C : Addr) (cl : List (Str × Addr)) (fp : List Addr) (B' : Bs) d, d ∈ ds → f d = true → EV (X.blk s H scope (compEnvC scope cl C X.env) fp) B' (T.to d (wipeG G (own.map (·.2)))) elt (v d))
    (fit : ∀ d ∈ ds, T.fits d) (hz : ds.length ≤ 100000) (k : SS X B (G.set i (.dat (.list ((ds.filter f).map v)))) rest p)
    (ok : BlkOk X.N X.env.scope scope own) (hN : X.N.Nodup) (hiy : X.N[i]? = some y := by rfl) (hyl : X.env.scope.names.lookup y = some .local := by rfl) (hsw : swapsWith (.ListComp elt [⟨tg, iter, ifs, 0⟩] scope pos) (some (.Name y py)) spos.line X.env = pure true := by exact sw_true rfl rfl rfl (by decide +kernel))
    (hsl : ∀ j ∈ T.sl, j ∈ own.map (·.2) := by decide) (has : aside G (own.map (·.2)) = true := by rfl) (hc : X.calm = true := by rfl) (hs : ∀ x, foldedSetIterable iter X.env x = pure x := by intro _; rfl) :
    SS X B G (.Assign [.Name y py] (.ListComp elt [⟨tg, iter, ifs, 0⟩] scope pos) spos :: rest) p :=
  s_cons (Mid := is (G.set i (.dat (.list ((ds.filter f).map v))))) (s_lcO (P := fun d => is (.dat (v d))) (Tt := fun d => is (f d)) i T own hi hg (fun s H C cl fp B' es d h1 h2 => by
      rw [show es = ds from h1] at h2
      exact ht s H C cl fp B' d h2) (fun s H C cl fp B' es d h1 h2 h3 => by
      rw [show es = ds from h1] at h2
      exact he s H C cl fp B' d h2 h3.symm)
    (fun es h => by rw [show es = ds from h]; exact fit) (fun es h => by rw [show es = ds from h]; exact hz) (fun _ _ d _ t h => ⟨v d, h⟩)
    (fun es us h1 h3 => .inr (by
      rw [show es = ds from h1] at h3
      rw [h3.det (f := f) (v := v) (fun d _ k h => h) (fun d _ e h => Sl.dat.inj h)])) ok hN hiy hyl hsw hsl has hc hs) fun G' h => by
    rw [show G' = _ from h]
    exact k
end

/-! ### t += u of tuples -/
theorem noI_tuple : typeLookup (.type "tuple") (dunderI "add") = pure none := by rw [typeLookup_type, builtinLookup_eq_fast]; kernel_rfl
theorem icat_tup {prog : Program} {w : World} {A : Around} {E : Value → Shared → Prop} {s : Shared} {t b : Addr} {ws us : List Value} {Q : Value → Shared → Prop} (ht : IsTup s.heap t ws.toArray) (hb : IsTup s.heap b us.toArray) (h0 : ws = [] → Q (.ref b) s) (h1 : ws ≠ [] → us = [] → Q (.ref t) s)
    (h2 : ws ≠ [] → us ≠ [] → Q (.ref s.heap.objs.size) { s with heap := s.heap.push { cls := .type "tuple", data := .seq (ws ++ us).toArray } }) (hsz : ws.length + us.length ≤ sizeLine) : wpAny (model prog w) A (inplaceOp .Add (.ref t) (.ref b)) Q E s := by
  obtain ⟨⟨cls, dd, data, sl⟩, ho, hc, n, hd⟩ := id ht
  obtain ⟨⟨cls2, dd2, data2, sl2⟩, ho2, hc2, n2, hd2⟩ := id hb
  simp only at hc hd hc2 hd2
  subst hc hd hc2 hd2
  have e : (ws ++ us).toArray = ws.toArray ++ us.toArray := by simp
  by_cases hv : ws = []
  · exact inplaceOp_concat ⟨_, ho, rfl⟩ ⟨_, ho2, rfl⟩ noI_tuple noFill_tuple_add seq_tuple_add (call_meets PySem.F.slot_tuple_add ⟨_, ho, rfl⟩ PySem.F.entry_tuple_add (PySem.F.args_tuple_add_2 _ _) (tuple_addW0 t b ws.toArray us.toArray n n2 dd dd2 sl sl2 (by simp [hv])) ⟨ho, ho2, h0 hv⟩)
  · by_cases hw : us = []
    · exact inplaceOp_concat ⟨_, ho, rfl⟩ ⟨_, ho2, rfl⟩ noI_tuple noFill_tuple_add seq_tuple_add (call_meets PySem.F.slot_tuple_add ⟨_, ho, rfl⟩ PySem.F.entry_tuple_add (PySem.F.args_tuple_add_2 _ _) (tuple_addW1 t b ws.toArray us.toArray n n2 dd dd2 sl sl2 (by simpa using hv) (by simp [hw])) ⟨ho, ho2, h1 hv hw⟩)
    · refine inplaceOp_concat ⟨_, ho, rfl⟩ ⟨_, ho2, rfl⟩ noI_tuple noFill_tuple_add seq_tuple_add (call_meets PySem.F.slot_tuple_add ⟨_, ho, rfl⟩ PySem.F.entry_tuple_add (PySem.F.args_tuple_add_2 _ _) (tuple_addW2 t b ws.toArray us.toArray n n2 dd dd2 sl sl2 (by simpa using hv) (by simpa using hw) (by rw [List.size_toArray, List.size_toArray]; exact hsz)) ⟨ho, ho2, ?_⟩)
      have z := h2 hv hw
      rw [e] at z
      exact z
theorem ip_catT {X : Cx} : PIp X .Add (rCatA X.K) := by
  intro pins s σ H x y v u Q I rx ry h
  obtain ⟨a, b, xs, ys, rfl, rfl, ha, hb, hz, q0, q1, q2⟩ := h
  cases rx
  cases ry
  obtain ⟨its, r1, p1, _⟩ := I.tuple ha
  obtain ⟨its2, r2, p2, _⟩ := I.tuple hb
  refine icat_tup p1 p2 (fun z => ⟨.ref b, H, I, rfl, q0 (r1.nil_iff.mp z)⟩) (fun z z2 => ⟨.ref a, H, I, rfl, q1 (fun k => z (r1.nil_iff.mpr k)) (r2.nil_iff.mp z2)⟩) (fun z z2 => ?_) (by rw [← r1.length, ← r2.length]; exact hz)
  refine ⟨.ref s.heap.objs.size, _, I.laid (t' := s.toks) (o := .tup (xs ++ ys)) (fun b ob q => Heap.get?_push_of_some _ q) (Nat.le_refl _) ?_, rfl, q2 (fun k => z (r1.nil_iff.mpr k)) (fun k => z2 (r2.nil_iff.mpr k)) _ (I.hok.fresh (Nat.le_refl _))⟩
  exact ⟨by rw [List.length_append]; exact hz, _, r1.append r2, IsTup.new _ _⟩
section
variable {X : Cx} {B : Bs} {G : En} {e : Expr} {p : Po} {rest : List Stmt} {pos pos2 : Pos} {x : Str} {ds es : List PyData}
theorem s_augD {t : TIp} {op : Operator} {d d1 d2 : PyData} (D : DOp t d1 d2 d) (ho : PIp X op t) (i : Nat) (he : EV X B G e d2) (k : p.nx (G.set i (.dat d))) (hi : G[i]? = some (.dat d1)) (hN : X.N.Nodup) (hx0 : X.N[i]? = some x) (hx : Loc X.env.scope x)
    (hf : X.fn x = true ∨ X.env.scope.names.lookup x = some .local) : S1 X B G (.AugAssign (.Name x pos2) op e pos) p :=
  PS.weak (ps_aug hN hx0 hx he ho hf) fun D' s H ⟨F, g, w, q1, _⟩ => by
    obtain ⟨v, hv, rv⟩ := w.dat hi
    refine ⟨v, hv, F, g, w, fun y t F1 H1 p1 g1 e1 w1 => ?_⟩
    rw [show t = Sl.dat d2 from p1] at w1
    refine D F1 H1 v y _ g1.h (rv.mono e1) (w1.topI rfl) fun z F2 H2 gr rz => ?_
    exact q1 _ _ F2 H2 k (g1.grow gr) (e1.trans gr.f) ((w1.pop.grow gr).pushD rz).set
/-- x += e of ints, of tuples -/
theorem q_augI {a b : Int} (i : Nat) (he : EV X B G e (.int b)) (k : SS X B (G.set i (.dat (.int (a + b)))) rest p) (hN : X.N.Nodup) (hi : G[i]? = some (.dat (.int a)) := by rfl) (hx0 : X.N[i]? = some x := by rfl) (hx : Loc X.env.scope x := by first | exact Or.inl rfl | exact Or.inr rfl)
    (hf : X.fn x = true ∨ X.env.scope.names.lookup x = some .local := by first | exact .inl rfl | exact .inr rfl) : SS X B G (.AugAssign (.Name x pos2) .Add e pos :: rest) p :=
  s_cons (Mid := is (G.set i (.dat (.int (a + b))))) (s_augD (t := ipI fun i j => i + j) (fun F H x y Q hs rx ry q => by cases rx; cases ry; exact ⟨a, b, rfl, rfl, q _ F H (.refl hs) (.int _)⟩) ip_add i he rfl hi hN hx0 hx hf) fun G' h => by rw [show G' = _ from h]; exact k
theorem q_augT (i : Nat) (he : EV X B G e (.tuple es)) (hl : ds.length + es.length ≤ 100000) (k : SS X B (G.set i (.dat (.tuple (ds ++ es)))) rest p) (hN : X.N.Nodup) (hi : G[i]? = some (.dat (.tuple ds)) := by rfl) (hx0 : X.N[i]? = some x := by rfl) (hx : Loc X.env.scope x := by first | exact Or.inl rfl | exact Or.inr rfl)
    (hf : X.fn x = true ∨ X.env.scope.names.lookup x = some .local := by first | exact .inl rfl | exact .inr rfl) : SS X B G (.AugAssign (.Name x pos2) .Add e pos :: rest) p :=
  s_cons (Mid := is (G.set i (.dat (.tuple (ds ++ es))))) (s_augD (dCatT hl) ip_catT i he rfl hi hN hx0 hx hf) fun G' h => by rw [show G' = _ from h]; exact k
/-- a, b = e of a tuple (or a, b, c) -/
theorem s_unp (T : Tg) {d : PyData} {tg : Expr} (he : EV X B G e d) (hg : PG X tg (T.g X.K)) (fit : T.fits d) (k : p.nx (T.to d G)) (hs : swapsWithSole [tg] e pos.line X.env = pure false := by rfl) (hw : swappedStores [tg] e X.env = pure none := by rfl)
    (h1 : (assignEach [tg] X.env).map (·.2) = [assign tg X.env] := by rfl) : S1 X B G (.Assign [tg] e pos) p :=
  PS.weak (ps_asg he hg hs hw h1) fun D s H ⟨F, g, w, q1, _⟩ => ⟨F, g, w, fun v t F1 H1 p1 g1 e1 w1 => by
    rw [show t = Sl.dat d from p1] at w1
    exact tg_run T g1 w1.pop (w1.topI rfl) fit fun s' _ w2 => q1 _ s' F1 H1 k g1 e1 w2⟩
theorem q_unp (T : Tg) {d : PyData} {tg : Expr} (he : EV X B G e d) (hg : PG X tg (T.g X.K)) (fit : T.fits d) (k : SS X B (T.to d G) rest p) (hs : swapsWithSole [tg] e pos.line X.env = pure false := by rfl) (hw : swappedStores [tg] e X.env = pure none := by rfl)
    (h1 : (assignEach [tg] X.env).map (·.2) = [assign tg X.env] := by rfl) : SS X B G (.Assign [tg] e pos :: rest) p :=
  s_cons (Mid := is (T.to d G)) (s_unp T he hg fit rfl hs hw h1) fun G' h => by rw [show G' = _ from h]; exact k
end
end Mk
namespace Mk
open PySem PySem.Spec PyProof.Rows L2

/-! ### places that tell less -/
def GLe : En → En → Prop
  | [], [] => True
  | t :: G, u :: A => (u = .any ∨ t = u) ∧ GLe G A
  | _, _ => False
theorem GLe.refl : ∀ G : En, GLe G G
  | [] => trivial
  | _ :: G => ⟨.inr rfl, GLe.refl G⟩
theorem GLe.len : ∀ {G A : En}, GLe G A → A.length = G.length
  | [], [], _ => rfl
  | _ :: _, _ :: _, h => by rw [List.length_cons, List.length_cons, GLe.len h.2]
  | [], _ :: _, h => h.elim
  | _ :: _, [], h => h.elim
theorem GLe.at : ∀ {G A : En}, GLe G A → ∀ (i : Nat) (t u : Sl), G[i]? = some t → A[i]? = some u → Le t u
  | [], [], _, _, _, _, h, _ => by simp at h
  | t0 :: _, u0 :: _, h, 0, t, u, h1, h2 => by
    simp at h1 h2
    subst h1
    subst h2
    rcases h.1 with e | e
    · rw [e]
      exact .any _
    · rw [e]
      exact .refl _
  | _ :: _, _ :: _, h, i + 1, t, u, h1, h2 => GLe.at h.2 i t u (by simpa using h1) (by simpa using h2)
  | [], _ :: _, h, _, _, _, _, _ => h.elim
  | _ :: _, [], h, _, _, _, _, _ => h.elim
theorem Sat.wk {B : Bs} {F H : Hp} {s : L2.St} {G A : En} (w : Sat B F H s G) (h : GLe G A) : Sat B F H s A := w.le h.len h.at
abbrev wk (A : En) : En → Prop := fun G => GLe G A
section
variable {X : Cx} {B : Bs} {G : En} {st : Stmt} {body rest : List Stmt} {p : Po} {tg iter c : Expr} {pos : Pos} {PD : List PyData → Prop}
theorem ss_wk {A : En} {q : Po} (h : SS X B G body { q with nx := wk A }) : SS X B G body { q with nx := is A } :=
  PSs.weak h fun D s H ⟨F, g, w, q1, q2, q3, q4⟩ => ⟨F, g, w, fun G' s' F' H' m g' e' w' => q1 A s' F' H' rfl g' e' (w'.wk m), q2, q3, q4⟩
theorem ss_wk2 {A : En} {q : Po} (h : SS X B G body { q with nx := wk A, ct := wk A }) : SS X B G body { q with nx := is A, ct := is A } :=
  PSs.weak h fun D s H ⟨F, g, w, q1, q2, q3, q4⟩ => ⟨F, g, w, fun G' s' F' H' m g' e' w' => q1 A s' F' H' rfl g' e' (w'.wk m), q2, q3, fun G' s' F' H' m g' e' w' => q4 A s' F' H' rfl g' e' (w'.wk m)⟩
/-- fewer words at the start -/
theorem ss_le {A : En} (h : GLe G A) (k : SS X B A body p) : SS X B G body p := PSs.weak k fun D s H ⟨F, g, w, q⟩ => ⟨F, g, w.wk h, q⟩
/-- for over known items: behind each turn the places of the next one, at least -/
theorem q_forW {ds : List PyData} (T : Tg) (Gi : Nat → En) (h0 : GLe G (Gi 0)) (hi : EI X B (Gi 0) tg iter (is ds)) (hg : PG X tg (T.g X.K)) (fit : ∀ d ∈ ds, T.fits d)
    (hb : ∀ i d, ds[i]? = some d → SS X B (T.to d (Gi i)) body { nx := wk (Gi (i + 1)), ct := wk (Gi (i + 1)), bk := fun _ => False, rt := p.rt }) (hr : SS X B (Gi ds.length) rest p)
    (hp : PassesOwn (model X.prog X.w) X.A X.env X.xe) (hc : X.calm = true := by rfl) (hs : ∀ x, foldedSetIterable iter X.env x = pure x := by intro _; rfl) : SS X B G (.For tg iter body [] pos :: rest) p :=
  ss_le h0 (q_for T Gi hi hg fit rfl (fun i d hd => ss_wk2 (q := { bk := fun _ => False, rt := p.rt }) (hb i d hd)) hr hp hc hs)
end
end Mk
namespace Mk
open PySem PySem.Spec PyProof.Rows L2

/-! ### what is read of the text's top: built-ins that are not hidden, numbers -/
structure Bi (K : PySem.W.Frag) (mg : Str → Option Value) : Prop where
  isi : mg "isinstance" = none
  int : mg "int" = none
  bool : mg "bool" = none
  list : mg "list" = none
  tuple : mg "tuple" = none
  len : mg "len" = none
  all : mg "all" = none
  sum : mg "sum" = none
  range : mg "range" = none
  sorted : mg "sorted" = none
  zip : mg "zip" = none
  enum : mg "enumerate" = none
  rev : mg "reversed" = none
  min : mg "min" = none
  repr : mg "repr" = none
  abs : mg "abs" = none
  set : mg "set" = none

theorem kb_ii : kitB "int" "int" = some true := by decide +kernel
theorem kb_ib : kitB "int" "bool" = some false := by decide +kernel
theorem kb_bi : kitB "bool" "int" = some true := by decide +kernel
theorem kb_bb : kitB "bool" "bool" = some true := by decide +kernel
theorem ka_no {K : PySem.W.Frag} {x : String} (h1 : kitB x "list" = some false) (h2 : kitB x "tuple" = some false) : PySem.W.kitAny K (.type x) [.type "list", .type "tuple"] = some false := by
  have e1 : PySem.W.kitOne K (.type x) (.type "list") = some false := kit_ty h1
  have e2 : PySem.W.kitOne K (.type x) (.type "tuple") = some false := kit_ty h2
  simp only [PySem.W.kitAny, e1, e2]
theorem ka_list {K : PySem.W.Frag} : PySem.W.kitAny K (.type "list") [.type "list", .type "tuple"] = some true := by
  have e1 : PySem.W.kitOne K (.type "list") (.type "list") = some true := kit_ty (by decide +kernel)
  simp only [PySem.W.kitAny, e1]
theorem ka_tup {K : PySem.W.Frag} : PySem.W.kitAny K (.type "tuple") [.type "list", .type "tuple"] = some true := by
  have e1 : PySem.W.kitOne K (.type "tuple") (.type "list") = some false := kit_ty (by decide +kernel)
  have e2 : PySem.W.kitOne K (.type "tuple") (.type "tuple") = some true := kit_ty (by decide +kernel)
  simp only [PySem.W.kitAny, e1, e2]

section
variable {P : Program} {w : World} {K : PySem.W.Frag} {mg : Str → Option Value} {base : Heap}

/-! ### words -/
/-- an int or a bool: whether it is an int that is none of the two -/
def isInt : PyData → Option Bool
  | .int _ => some true
  | .bool _ => some false
  | _ => none
def c_is_integer : Ct := fun ts P => ∃ d b, ts = [.dat d] ∧ isInt d = some b ∧ P = is (.dat (.bool b))
theorem ca_is_integer {f : Addr} {fd : FuncData} (T : Bi K mg) (F : Fun K "is_integer" "is_integer" s_is_integer f fd) (hm : mg "is_integer" = some (.ref f)) (hb : Binds K fd ["value"] []) : Ca P w K mg base 1 "is_integer" c_is_integer := by
  refine ca_mk F sc_is_integer hm hb (fun ts P ⟨d, b, h, _⟩ => by rw [h]; rfl) (fun cdv A outer s H E hr B ts Pr c => ?_)
  obtain ⟨d, b, rfl, hd, rfl⟩ := c
  refine q_ret (t := .dat (.bool b)) ?_ ⟨rfl, rfl⟩
  cases d with
  | int i =>
    cases hd
    exact e_and (x := true) (y := true) (e_isi (d := .int i) (T := "int") T.isi (e_dat 0) T.int (by decide +kernel) (kit_ty kb_ii)) fun _ => e_one (e_not (x := false) (e_isi (d := .int i) (T := "bool") T.isi (e_dat 0) T.bool (by decide +kernel) (kit_ty kb_ib)))
  | bool i =>
    cases hd
    exact e_and (x := true) (y := false) (e_isi (d := .bool i) (T := "int") T.isi (e_dat 0) T.int (by decide +kernel) (kit_ty kb_bi)) fun _ => e_one (e_not (x := true) (e_isi (d := .bool i) (T := "bool") T.isi (e_dat 0) T.bool (by decide +kernel) (kit_ty kb_bb)))
  | none => cases hd
  | str _ => cases hd
  | list _ => cases hd
  | tuple _ => cases hd
  | dict _ => cases hd

def isNum : PyData → Option Bool
  | .int i => some (decide (0 ≤ i))
  | .bool _ => some false
  | _ => none
def c_is_number : Ct := fun ts P => ∃ d b, ts = [.dat d] ∧ isNum d = some b ∧ P = is (.dat (.bool b))
theorem ca_is_number {f : Addr} {fd : FuncData} (F : Fun K "is_number" "is_number" s_is_number f fd) (hm : mg "is_number" = some (.ref f)) (hb : Binds K fd ["value"] []) (D1 : Ca P w K mg base 1 "is_integer" c_is_integer) : Ca P w K mg base 2 "is_number" c_is_number := by
  refine ca_mk F sc_is_number hm hb (fun ts P ⟨d, b, h, _⟩ => by rw [h]; rfl) (fun cdv A outer s H E hr B ts Pr c => ?_)
  obtain ⟨d, b, rfl, hd, rfl⟩ := c
  refine q_ret (t := .dat (.bool b)) ?_ ⟨rfl, rfl⟩
  cases d with
  | int i =>
    cases hd
    exact e_and (x := true) (y := decide (0 ≤ i)) (e_callD D1 hr (as_cons (e_dat 0) as_nil) ⟨_, _, rfl, rfl, rfl⟩) fun _ => e_one (e_ge (e_dat 0) e_int)
  | bool i =>
    cases hd
    exact e_and (x := false) (y := false) (e_callD D1 hr (as_cons (e_dat 0) as_nil) ⟨_, _, rfl, rfl, rfl⟩) (fun h => nomatch h)
  | none => cases hd
  | str _ => cases hd
  | list _ => cases hd
  | tuple _ => cases hd
  | dict _ => cases hd

def isBel (n : Int) : PyData → Option Bool
  | .int i => some (decide (0 ≤ i ∧ i < n))
  | .bool _ => some false
  | _ => none
def c_is_below : Ct := fun ts P => ∃ d n b, ts = [.dat d, .dat (.int n)] ∧ isBel n d = some b ∧ P = is (.dat (.bool b))
theorem ca_is_below {f : Addr} {fd : FuncData} (F : Fun K "is_below" "is_below" s_is_below f fd) (hm : mg "is_below" = some (.ref f)) (hb : Binds K fd ["value", "most"] []) (D1 : Ca P w K mg base 2 "is_number" c_is_number) : Ca P w K mg base 3 "is_below" c_is_below := by
  refine ca_mk F sc_is_below hm hb (fun ts P ⟨d, n, b, h, _⟩ => by rw [h]; rfl) (fun cdv A outer s H E hr B ts Pr c => ?_)
  obtain ⟨d, n, b, rfl, hd, rfl⟩ := c
  refine q_ret (t := .dat (.bool b)) ?_ ⟨rfl, rfl⟩
  cases d with
  | int i =>
    cases hd
    have e : decide (0 ≤ i ∧ i < n) = (decide (0 ≤ i) && decide (i < n)) := by simp
    rw [e]
    exact e_and (e_callD D1 hr (as_cons (e_dat 0) as_nil) ⟨_, _, rfl, rfl, rfl⟩) fun _ => e_one (e_lt (e_dat 0) (e_dat 1))
  | bool i =>
    cases hd
    exact e_and (x := false) (y := false) (e_callD D1 hr (as_cons (e_dat 0) as_nil) ⟨_, _, rfl, rfl, rfl⟩) (fun h => nomatch h)
  | none => cases hd
  | str _ => cases hd
  | list _ => cases hd
  | tuple _ => cases hd
  | dict _ => cases hd

def isSeq : PyData → Bool
  | .list _ => true
  | .tuple _ => true
  | _ => false
def c_is_sequence : Ct := fun ts P => ∃ d, ts = [.dat d] ∧ (∀ kv, d ≠ .dict kv) ∧ P = is (.dat (.bool (isSeq d)))
theorem ca_is_sequence {f : Addr} {fd : FuncData} (T : Bi K mg) (F : Fun K "is_sequence" "is_sequence" s_is_sequence f fd) (hm : mg "is_sequence" = some (.ref f)) (hb : Binds K fd ["value"] []) : Ca P w K mg base 1 "is_sequence" c_is_sequence := by
  refine ca_mk F sc_is_sequence hm hb (fun ts P ⟨d, h, _⟩ => by rw [h]; rfl) (fun cdv A outer s H E hr B ts Pr c => ?_)
  obtain ⟨d, rfl, hd, rfl⟩ := c
  refine q_ret (e_isiT (T := "list") (T2 := "tuple") T.isi (e_dat 0) T.list T.tuple (by decide +kernel) (by decide +kernel) ?_) ⟨rfl, rfl⟩
  cases d with
  | none => exact ka_no (x := "NoneType") (by decide +kernel) (by decide +kernel)
  | int i => exact ka_no (x := "int") (by decide +kernel) (by decide +kernel)
  | bool i => exact ka_no (x := "bool") (by decide +kernel) (by decide +kernel)
  | str i => exact ka_no (x := "str") (by decide +kernel) (by decide +kernel)
  | list _ => exact ka_list
  | tuple _ => exact ka_tup
  | dict kv => exact absurd rfl (hd kv)
end
end Mk
namespace Mk
open PySem PySem.Spec PyProof.Rows L2

section
variable {X : Cx} {B : Bs} {G : En} {e a elt tg iter : Expr} {scope : Scope} {p pos : Pos} {ds : List PyData}
/-- [elt for tg in iter], no tests -/
theorem e_map (T : Tg) (own : List (Str × Nat)) (v : PyData → PyData) (hi : EI X B G tg iter (is ds)) (hg : ∀ (s : Shared) (H : Hp) (C : Addr) (cl : List (Str × Addr)) (fp : List Addr), PG (X.blk s H scope (compEnvC scope cl C X.env) fp) tg (T.g X.K))
    (he : ∀ (s : Shared) (H : Hp) (C : Addr) (cl : List (Str × Addr)) (fp : List Addr) (B' : Bs) d, d ∈ ds → EV (X.blk s H scope (compEnvC scope cl C X.env) fp) B' (T.to d (wipeG G (own.map (·.2)))) elt (v d))
    (fit : ∀ d ∈ ds, T.fits d) (hz : ds.length ≤ 100000)
    (ok : BlkOk X.N X.env.scope scope own) (hN : X.N.Nodup) (hsl : ∀ j ∈ T.sl, j ∈ own.map (·.2) := by decide) (has : aside G (own.map (·.2)) = true := by rfl) (hc : X.calm = true := by rfl) (hs : ∀ x, foldedSetIterable iter X.env x = pure x := by intro _; rfl) :
    EV X B G (.ListComp elt [⟨tg, iter, [], 0⟩] scope pos) (.list (ds.map v)) := by
  have h := e_lc (ifs := []) (pos := pos) T own (fun _ => true) v hi hg (fun _ _ _ _ _ _ _ _ => ts_nil) (fun s H C cl fp B' d hd _ => he s H C cl fp B' d hd) fit hz ok hN hsl has hc hs
  rw [List.filter_eq_self.mpr (fun _ _ => rfl)] at h
  exact e_frz h
theorem e_allD {g : PyData → Bool} (hm : X.mg "all" = none) (ha : EV X B G a (.list (ds.map fun d => .bool (g d)))) (hc : X.calm = true := by rfl) (hg : Gl X "all" := by rfl) (he : starEach (a :: []) X.env = (false, eval a X.env) :: starEach [] X.env := by rfl) (hpl : (backTo pos (starEach [] X.env)).any (·.1) = false := by rfl) : EV X B G (.Call (.Name "all" p) [a] [] pos) (.bool (ds.all g)) := by
  have e1 : (ds.map fun d => PyData.bool (g d)) = (ds.map g).map .bool := by simp
  have h := e_all (X := X) (B := B) (G := G) (p := p) (pos := pos) (bs := ds.map g) hm (by rw [← e1]; exact ha) hc hg he hpl
  exact h.eq (by rw [List.all_map]; rfl)
end
/-- numbers of the top -/
structure Nu (mg : Str → Option Value) : Prop where
  mc : ∃ tk, mg "MOST_COLUMNS" = some (.int 4 tk)
  mv : ∃ tk, mg "MOST_VALUES" = some (.int 4 tk)
  mch : ∃ tk, mg "MOST_CHECKS" = some (.int 6 tk)
  mp : ∃ tk, mg "MOST_PLACES" = some (.int 3 tk)
theorem all_dint {ns : List Int} {f : PyData → Bool} (g : Int → Bool) (h : ∀ n ∈ ns, f (.int n) = g n) : (ns.map PyData.int).all f = ns.all g := by
  induction ns with
  | nil => rfl
  | cons n ns ih =>
    rw [List.map_cons, List.all_cons, List.all_cons, h n List.mem_cons_self, ih fun m hm => h m (List.mem_cons_of_mem _ hm)]

section
variable {P : Program} {w : World} {K : PySem.W.Frag} {mg : Str → Option Value} {base : Heap}
def c_is_within : Ct := fun ts P => ∃ i a b : Int, ts = [.dat (.int i), .dat (.int a), .dat (.int b)] ∧ P = is (.dat (.bool (decide (a ≤ i) && decide (i ≤ b))))
theorem ca_is_within {f : Addr} {fd : FuncData} (F : Fun K "is_within" "is_within" s_is_within f fd) (hm : mg "is_within" = some (.ref f)) (hb : Binds K fd ["value", "least", "most"] []) (D1 : Ca P w K mg base 1 "is_integer" c_is_integer) : Ca P w K mg base 2 "is_within" c_is_within := by
  refine ca_mk F sc_is_within hm hb (fun ts P ⟨i, a, b, h, _⟩ => by rw [h]; rfl) (fun cdv A outer s H E hr B ts Pr c => ?_)
  obtain ⟨i, a, b, rfl, rfl⟩ := c
  refine q_ret (t := .dat (.bool (decide (a ≤ i) && decide (i ≤ b)))) ?_ ⟨rfl, rfl⟩
  exact e_and (x := true) (e_callD D1 hr (as_cons (e_dat 0) as_nil) ⟨_, _, rfl, rfl, rfl⟩) fun _ => e_one (e_chain (e_dat 1) (e_dat 0) (e_dat 2))

def okCols (cs : List Int) : Prop := 1 ≤ cs.length ∧ cs.length ≤ 4 ∧ ∀ c ∈ cs, 1 ≤ c ∧ c ≤ 4
def c_check_columns : Ct := fun ts P => ∃ cs, okCols cs ∧ ts = [.dat (eT cs)] ∧ P = is (.dat (eT cs))
theorem ca_check_columns {f : Addr} {fd : FuncData} (T : Bi K mg) (U : Nu mg) (F : Fun K "check_columns" "check_columns" s_check_columns f fd) (hm : mg "check_columns" = some (.ref f)) (hb : Binds K fd ["value"] []) (D1 : Ca P w K mg base 1 "is_sequence" c_is_sequence) (D2 : Ca P w K mg base 2 "is_within" c_is_within) : Ca P w K mg base 3 "check_columns" c_check_columns := by
  refine ca_mk F sc_check_columns hm hb (fun ts P ⟨cs, _, h, _⟩ => by rw [h]; rfl) (fun cdv A outer s H E hr B ts Pr c => ?_)
  obtain ⟨cs, ⟨h1, h2, h3⟩, rfl, rfl⟩ := c
  obtain ⟨t1, m1⟩ := U.mc
  obtain ⟨t2, m2⟩ := U.mv
  have nd := sc_check_columns.nd
  have hl : (decide ((1 : Int) ≤ ((cs.map PyData.int).length : Int)) && decide (((cs.map PyData.int).length : Int) ≤ 4)) = true := by
    rw [List.length_map]
    simp
    omega
  refine q_ifRet (k := false) (t_bool (w_or (x := false) (y := false) (t_not (x := true) (t_val (e_callD D1 hr (as_cons (e_dat 0) as_nil) ⟨eT cs, rfl, (fun kv h => by unfold eT at h; cases h), rfl⟩))) fun _ => w_or1 (t_not (x := true) ((t_chain e_int (e_lenT T.len (e_dat 0)) (e_globI m1)).eq hl)))) (fun h => nomatch h) fun _ => ?_
  refine q_ifRet (k := false) (t_not (x := true) (t_val (EV.eq (e_allD (g := fun _ => true) T.all (e_map (.one 1) [("many", 1)] (fun _ => .bool true) (i_tup (e_dat 0)) (fun _ _ _ _ _ => g_one 1 nd) (fun s' H' C cl fp B' d hd => ?_) (fun _ _ => trivial) (by rw [List.length_map]; omega) (blkOk_by (N := n_check_columns) (sc := defScope s_check_columns) (by decide +kernel)) nd)) (by simp)))) (fun h => nomatch h) fun _ => ?_
  · obtain ⟨c, hc, rfl⟩ := List.mem_map.mp hd
    have e1 : (decide ((1 : Int) ≤ c) && decide (c ≤ 4)) = true := by
      have := h3 c hc
      simp
      omega
    exact EV.eq (e_callD D2 hr (as_cons (e_dat 1) (as_cons e_int (as_cons (e_globI m2) as_nil))) ⟨c, 1, 4, rfl, rfl⟩) (by rw [e1])
  · exact q_ret (e_tupT T.tuple (e_dat 0)) ⟨rfl, rfl⟩
end
end Mk
namespace Mk
open PySem PySem.Spec PyProof.Rows L2

/-! ### plain things as data, and back -/
structure Cod (β : Type) where
  e : β → PyData
  d : PyData → β
  l : ∀ x, d (e x) = x
def unI : PyData → Int
  | .int i => i
  | _ => 0
def unB : PyData → Bool
  | .bool i => i
  | _ => false
def unL : PyData → List PyData
  | .list xs => xs
  | .tuple xs => xs
  | _ => []
abbrev cI : Cod Int := ⟨.int, unI, fun _ => rfl⟩
abbrev cB : Cod Bool := ⟨.bool, unB, fun _ => rfl⟩
theorem map_left {β : Type} {e : β → PyData} {d : PyData → β} (l : ∀ x, d (e x) = x) (xs : List β) : (xs.map e).map d = xs := by
  rw [List.map_map]
  induction xs with
  | nil => rfl
  | cons x xs ih => rw [List.map_cons, ih, Function.comp, l]
abbrev cTu {β : Type} (c : Cod β) : Cod (List β) := ⟨fun xs => .tuple (xs.map c.e), fun d => (unL d).map c.d, fun xs => map_left c.l xs⟩
abbrev cLi {β : Type} (c : Cod β) : Cod (List β) := ⟨fun xs => .list (xs.map c.e), fun d => (unL d).map c.d, fun xs => map_left c.l xs⟩
abbrev cPr {β γ : Type} (c : Cod β) (k : Cod γ) : Cod (β × γ) := ⟨fun x => .tuple [c.e x.1, k.e x.2], fun d => match unL d with | [a, b] => (c.d a, k.d b) | _ => (c.d .none, k.d .none), fun x => by simp [unL, c.l, k.l]⟩
abbrev cTr {β γ δ : Type} (c : Cod β) (k : Cod γ) (m : Cod δ) : Cod (β × γ × δ) := ⟨fun x => .tuple [c.e x.1, k.e x.2.1, m.e x.2.2], fun d => match unL d with | [a, b, g] => (c.d a, k.d b, m.d g) | _ => (c.d .none, k.d .none, m.d .none), fun x => by simp [unL, c.l, k.l, m.l]⟩
abbrev cD : Cod PyData := ⟨id, id, fun _ => rfl⟩
theorem Cod.inj {β : Type} (c : Cod β) {x y : β} : c.e x = c.e y ↔ x = y := ⟨fun h => by rw [← c.l x, h, c.l], fun h => by rw [h]⟩
/-- rows, lots, kinds: tuples of numbers -/
abbrev cR : Cod (List Int) := cTu cI
/-- an order: a tuple of kinds -/
abbrev cO : Cod (List (List Int)) := cTu cR
/-- a check: places, rows -/
abbrev cC : Cod (List Int × List (List Int)) := cPr cR cO

theorem get_map {β γ : Type} {xs : List β} {e : β → γ} {i : Nat} {d : γ} (h : (xs.map e)[i]? = some d) : ∃ x, xs[i]? = some x ∧ d = e x := by
  rw [List.getElem?_map] at h
  cases q : xs[i]? with
  | none => rw [q] at h; cases h
  | some x =>
    rw [q] at h
    cases h
    exact ⟨x, rfl, rfl⟩
theorem filter_map {β : Type} (c : Cod β) (f : β → Bool) (xs : List β) : (xs.map c.e).filter (fun d => f (c.d d)) = (xs.filter f).map c.e := by
  induction xs with
  | nil => rfl
  | cons x xs ih =>
    rw [List.map_cons]
    by_cases h : f x = true
    · rw [List.filter_cons_of_pos (by rw [c.l]; exact h), List.filter_cons_of_pos h, ih, List.map_cons]
    · rw [List.filter_cons_of_neg (by rw [c.l]; exact h), List.filter_cons_of_neg h, ih]
theorem map_map_l {β γ : Type} (c : Cod β) (v : β → γ) (xs : List β) : (xs.map c.e).map (fun d => v (c.d d)) = xs.map v := by
  rw [List.map_map]
  apply List.map_congr_left
  intro x _
  show v (c.d (c.e x)) = v x
  rw [c.l]
def rgI (n : Nat) : List Int := (List.range n).map fun (i : Nat) => (i : Int)
theorem rgD_eq (n : Nat) : rgD n = (rgI n).map cI.e := by
  unfold rgD rgI
  rw [List.map_map]
  rfl
theorem rgI_len (n : Nat) : (rgI n).length = n := by simp [rgI]
theorem mem_rgI {n : Nat} {i : Int} : i ∈ rgI n ↔ 0 ≤ i ∧ i < n := by
  unfold rgI
  rw [List.mem_map]
  constructor
  · rintro ⟨k, hk, rfl⟩
    have := List.mem_range.mp hk
    omega
  · rintro ⟨h1, h2⟩
    exact ⟨i.toNat, List.mem_range.mpr (by omega), by omega⟩
def enP {β : Type} (xs : List β) : List (Int × β) := xs.mapIdx fun i x => ((i : Int), x)
theorem enD_eq {β : Type} (c : Cod β) (xs : List β) : enD (xs.map c.e) = (enP xs).map (cPr cI c).e := by
  unfold enD enP
  apply List.ext_getElem?
  intro i
  simp only [List.getElem?_mapIdx, List.getElem?_map, Option.map_map]
  rfl
theorem enP_get {β : Type} {xs : List β} {i : Nat} {z : Int × β} (h : (enP xs)[i]? = some z) : z.1 = (i : Int) ∧ xs[i]? = some z.2 := by
  unfold enP at h
  rw [List.getElem?_mapIdx] at h
  cases q : xs[i]? with
  | none => rw [q] at h; cases h
  | some x =>
    rw [q] at h
    cases h
    exact ⟨rfl, rfl⟩
theorem enP_mem {β : Type} {xs : List β} {z : Int × β} (h : z ∈ enP xs) : ∃ i : Nat, z.1 = (i : Int) ∧ xs[i]? = some z.2 := by
  obtain ⟨i, hi⟩ := List.mem_iff_getElem?.mp h
  exact ⟨i, enP_get hi⟩
theorem enP_len {β : Type} (xs : List β) : (enP xs).length = xs.length := by simp [enP]
def zpP {β γ : Type} (xs : List β) (ys : List γ) : List (β × γ) := xs.zip ys
theorem zpD_eq {β γ : Type} (c : Cod β) (k : Cod γ) : ∀ (xs : List β) (ys : List γ), zpD (xs.map c.e) (ys.map k.e) = (zpP xs ys).map (cPr c k).e
  | [], _ => rfl
  | _ :: _, [] => rfl
  | x :: xs, y :: ys => by
    have := zpD_eq c k xs ys
    unfold zpD zpP at this ⊢
    simp only [List.map_cons, List.zipWith_cons_cons, List.zip_cons_cons, this]

/-! ### comprehensions, for-loops over coded things -/
section
variable {β : Type} {X : Cx} {B : Bs} {G : En} {e a elt tg iter : Expr} {ifs : List Expr} {body rest : List Stmt} {p : Po} {scope : Scope} {pos pos2 spos py : Pos} {xs : List β} {y : Str}
theorem e_lcM (c : Cod β) (T : Tg) (own : List (Str × Nat)) (f : β → Bool) (v : β → PyData) (hi : EI X B G tg iter (is (xs.map c.e))) (hg : ∀ (s : Shared) (H : Hp) (C : Addr) (cl : List (Str × Addr)) (fp : List Addr), PG (X.blk s H scope (compEnvC scope cl C X.env) fp) tg (T.g X.K))
    (ht : ∀ (s : Shared) (H : Hp) (C : Addr) (cl : List (Str × Addr)) (fp : List Addr) (B' : Bs) x, x ∈ xs → ETs (X.blk s H scope (compEnvC scope cl C X.env) fp) B' (T.to (c.e x) (wipeG G (own.map (·.2)))) ifs (is (f x)))
    (he : ∀ (s : Shared) (H : Hp) (C : Addr) (cl : List (Str × Addr)) (fp : List Addr) (B' : Bs) x, x ∈ xs → f x = true → EV (X.blk s H scope (compEnvC scope cl C X.env) fp) B' (T.to (c.e x) (wipeG G (own.map (·.2)))) elt (v x))
    (fit : ∀ x ∈ xs, T.fits (c.e x)) (hz : xs.length ≤ 100000)
    (ok : BlkOk X.N X.env.scope scope own) (hN : X.N.Nodup) (hsl : ∀ j ∈ T.sl, j ∈ own.map (·.2) := by decide) (has : aside G (own.map (·.2)) = true := by rfl) (hc : X.calm = true := by rfl) (hs : ∀ x, foldedSetIterable iter X.env x = pure x := by intro _; rfl) :
    EE X B G (.ListComp elt [⟨tg, iter, ifs, 0⟩] scope pos) (is (.own ((xs.filter f).map v))) := by
  have h := e_lc (pos := pos) T own (fun d => f (c.d d)) (fun d => v (c.d d)) hi hg (fun s H C cl fp B' d hd => by
      obtain ⟨x, hx, rfl⟩ := List.mem_map.mp hd
      rw [c.l]
      exact ht s H C cl fp B' x hx) (fun s H C cl fp B' d hd hf => by
      obtain ⟨x, hx, rfl⟩ := List.mem_map.mp hd
      rw [c.l] at hf ⊢
      exact he s H C cl fp B' x hx hf) (fun d hd => by
      obtain ⟨x, hx, rfl⟩ := List.mem_map.mp hd
      exact fit x hx) (by rw [List.length_map]; exact hz) ok hN hsl has hc hs
  rw [filter_map, map_map_l] at h
  exact h
theorem e_mapM (c : Cod β) (T : Tg) (own : List (Str × Nat)) (v : β → PyData) (hi : EI X B G tg iter (is (xs.map c.e))) (hg : ∀ (s : Shared) (H : Hp) (C : Addr) (cl : List (Str × Addr)) (fp : List Addr), PG (X.blk s H scope (compEnvC scope cl C X.env) fp) tg (T.g X.K))
    (he : ∀ (s : Shared) (H : Hp) (C : Addr) (cl : List (Str × Addr)) (fp : List Addr) (B' : Bs) x, x ∈ xs → EV (X.blk s H scope (compEnvC scope cl C X.env) fp) B' (T.to (c.e x) (wipeG G (own.map (·.2)))) elt (v x))
    (fit : ∀ x ∈ xs, T.fits (c.e x)) (hz : xs.length ≤ 100000)
    (ok : BlkOk X.N X.env.scope scope own) (hN : X.N.Nodup) (hsl : ∀ j ∈ T.sl, j ∈ own.map (·.2) := by decide) (has : aside G (own.map (·.2)) = true := by rfl) (hc : X.calm = true := by rfl) (hs : ∀ x, foldedSetIterable iter X.env x = pure x := by intro _; rfl) :
    EV X B G (.ListComp elt [⟨tg, iter, [], 0⟩] scope pos) (.list (xs.map v)) := by
  have h := e_lcM (ifs := []) (pos := pos) c T own (fun _ => true) v hi hg (fun _ _ _ _ _ _ _ _ => ts_nil) (fun s H C cl fp B' d hd _ => he s H C cl fp B' d hd) fit hz ok hN hsl has hc hs
  rw [List.filter_eq_self.mpr (fun _ _ => rfl)] at h
  exact e_frz h
/-- all([.. for x in xs]) -/
theorem e_allM (c : Cod β) (T : Tg) (own : List (Str × Nat)) (g : β → Bool) (hm : X.mg "all" = none) (hi : EI X B G tg iter (is (xs.map c.e))) (hg : ∀ (s : Shared) (H : Hp) (C : Addr) (cl : List (Str × Addr)) (fp : List Addr), PG (X.blk s H scope (compEnvC scope cl C X.env) fp) tg (T.g X.K))
    (he : ∀ (s : Shared) (H : Hp) (C : Addr) (cl : List (Str × Addr)) (fp : List Addr) (B' : Bs) x, x ∈ xs → EV (X.blk s H scope (compEnvC scope cl C X.env) fp) B' (T.to (c.e x) (wipeG G (own.map (·.2)))) elt (.bool (g x)))
    (fit : ∀ x ∈ xs, T.fits (c.e x)) (hz : xs.length ≤ 100000)
    (ok : BlkOk X.N X.env.scope scope own) (hN : X.N.Nodup) (hsl : ∀ j ∈ T.sl, j ∈ own.map (·.2) := by decide) (has : aside G (own.map (·.2)) = true := by rfl) (hc : X.calm = true := by rfl) (hs : ∀ x, foldedSetIterable iter X.env x = pure x := by intro _; rfl)
    (hgl : Gl X "all" := by rfl) (hes : starEach (Expr.ListComp elt [⟨tg, iter, [], 0⟩] scope pos :: []) X.env = (false, eval (.ListComp elt [⟨tg, iter, [], 0⟩] scope pos) X.env) :: starEach [] X.env := by rfl) (hpl : (backTo pos2 (starEach [] X.env)).any (·.1) = false := by rfl) :
    EV X B G (.Call (.Name "all" py) [.ListComp elt [⟨tg, iter, [], 0⟩] scope pos] [] pos2) (.bool (xs.all g)) := by
  have e1 : (xs.map fun x => PyData.bool (g x)) = (xs.map g).map .bool := by simp
  have h := e_all (X := X) (B := B) (G := G) (p := py) (pos := pos2) (bs := xs.map g) hm (by rw [← e1]; exact e_mapM c T own (fun x => .bool (g x)) hi hg he fit hz ok hN hsl has hc hs) hc hgl hes hpl
  exact h.eq (by rw [List.all_map]; rfl)
theorem q_lcM (c : Cod β) (i : Nat) (T : Tg) (own : List (Str × Nat)) (f : β → Bool) (v : β → PyData) (hi : EI X B G tg iter (is (xs.map c.e))) (hg : ∀ (s : Shared) (H : Hp) (C : Addr) (cl : List (Str × Addr)) (fp : List Addr), PG (X.blk s H scope (compEnvC scope cl C X.env) fp) tg (T.g X.K))
    (ht : ∀ (s : Shared) (H : Hp) (C : Addr) (cl : List (Str × Addr)) (fp : List Addr) (B' : Bs) x, x ∈ xs → ETs (X.blk s H scope (compEnvC scope cl C X.env) fp) B' (T.to (c.e x) (wipeG G (own.map (·.2)))) ifs (is (f x)))
    (he : ∀ (s : Shared) (H : Hp) (C : Addr) (cl : List (Str × Addr)) (fp : List Addr) (B' : Bs) x, x ∈ xs → f x = true → EV (X.blk s H scope (compEnvC scope cl C X.env) fp) B' (T.to (c.e x) (wipeG G (own.map (·.2)))) elt (v x))
    (fit : ∀ x ∈ xs, T.fits (c.e x)) (hz : xs.length ≤ 100000) (k : SS X B (G.set i (.dat (.list ((xs.filter f).map v)))) rest p)
    (ok : BlkOk X.N X.env.scope scope own) (hN : X.N.Nodup) (hiy : X.N[i]? = some y := by rfl) (hyl : X.env.scope.names.lookup y = some .local := by rfl) (hsw : swapsWith (.ListComp elt [⟨tg, iter, ifs, 0⟩] scope pos) (some (.Name y py)) spos.line X.env = pure true := by exact sw_true rfl rfl rfl (by decide +kernel))
    (hsl : ∀ j ∈ T.sl, j ∈ own.map (·.2) := by decide) (has : aside G (own.map (·.2)) = true := by rfl) (hc : X.calm = true := by rfl) (hs : ∀ x, foldedSetIterable iter X.env x = pure x := by intro _; rfl) :
    SS X B G (.Assign [.Name y py] (.ListComp elt [⟨tg, iter, ifs, 0⟩] scope pos) spos :: rest) p := by
  refine q_lc (p := p) i T own (fun d => f (c.d d)) (fun d => v (c.d d)) hi hg (fun s H C cl fp B' d hd => by
      obtain ⟨x, hx, rfl⟩ := List.mem_map.mp hd
      rw [c.l]
      exact ht s H C cl fp B' x hx) (fun s H C cl fp B' d hd hf => by
      obtain ⟨x, hx, rfl⟩ := List.mem_map.mp hd
      rw [c.l] at hf ⊢
      exact he s H C cl fp B' x hx hf) (fun d hd => by
      obtain ⟨x, hx, rfl⟩ := List.mem_map.mp hd
      exact fit x hx) (by rw [List.length_map]; exact hz) ?_ ok hN hiy hyl hsw hsl has hc hs
  rw [filter_map, map_map_l]
  exact k
/-- for over coded things -/
theorem q_forM (c : Cod β) (T : Tg) (Gi : Nat → En) (h0 : GLe G (Gi 0)) (hi : EI X B (Gi 0) tg iter (is (xs.map c.e))) (hg : PG X tg (T.g X.K)) (fit : ∀ x ∈ xs, T.fits (c.e x))
    (hb : ∀ i x, xs[i]? = some x → SS X B (T.to (c.e x) (Gi i)) body { nx := wk (Gi (i + 1)), ct := wk (Gi (i + 1)), bk := fun _ => False, rt := p.rt }) (hr : SS X B (Gi xs.length) rest p)
    (hp : PassesOwn (model X.prog X.w) X.A X.env X.xe) (hc : X.calm = true := by rfl) (hs : ∀ x, foldedSetIterable iter X.env x = pure x := by intro _; rfl) : SS X B G (.For tg iter body [] pos :: rest) p :=
  q_forW T Gi h0 hi hg (fun d hd => by
    obtain ⟨x, hx, rfl⟩ := List.mem_map.mp hd
    exact fit x hx) (fun i d hd => by
    obtain ⟨x, hx, rfl⟩ := get_map hd
    exact hb i x hx) (by rw [List.length_map]; exact hr) hp hc hs
theorem i_rangeM {n : Nat} (h : EV X B G a (.int (n : Int))) (hn : n ≤ 100000) (hm : X.mg "range" = none) (hg : Gl X "range" := by rfl) (hs : starEach [a] X.env = [(false, eval a X.env)] := by rfl) : EI X B G tg (.Call (.Name "range" py) [a] [] pos) (is ((rgI n).map cI.e)) := by
  rw [← rgD_eq]
  exact i_range h hn hm hg hs
end
/-- a fold, one item more -/
theorem fold_take {β γ : Type} {f : γ → β → γ} {b : γ} {xs : List β} {i : Nat} {x : β} (h : xs[i]? = some x) : (xs.take (i + 1)).foldl f b = f ((xs.take i).foldl f b) x := by
  rw [List.take_succ, h]
  simp
theorem fold_all {β γ : Type} {f : γ → β → γ} {b : γ} {xs : List β} : (xs.take xs.length).foldl f b = xs.foldl f b := by rw [List.take_length]
end Mk
namespace Mk
open PySem PySem.Spec PyProof.Rows L2

/-! ### plain: lots, sets, kinds -/
def lotsStep (f : List (List Int)) (p : Int) : List (List Int) := f ++ f.map (· ++ [p])
def lotsUp (ps : List Int) : List (List Int) := ps.foldl lotsStep [[]]
theorem lotsUp_len (ps : List Int) : (lotsUp ps).length = 2 ^ ps.length := by
  suffices h : ∀ (b : List (List Int)), (ps.foldl lotsStep b).length = b.length * 2 ^ ps.length by
    have := h [[]]
    unfold lotsUp
    simpa using this
  induction ps with
  | nil => intro b; simp
  | cons p ps ih =>
    intro b
    rw [List.foldl_cons, ih]
    simp [lotsStep, Nat.pow_succ]
    rw [Nat.mul_comm (2 ^ ps.length) 2, ← Nat.mul_assoc]
    congr 1
    omega
def lots (ps : List Int) : List (List Int) := (lotsUp ps).tail
def rowSet (one other lot : List Int) : List Int := (rgI one.length).map fun i => if i ∈ lot then other.getD i.toNat 0 else one.getD i.toNat 0
theorem lots_short {ps : List Int} : ∀ l ∈ lotsUp ps, l.length ≤ ps.length := by
  suffices h : ∀ (b : List (List Int)) (n : Nat), (∀ l ∈ b, l.length ≤ n) → ∀ l ∈ ps.foldl lotsStep b, l.length ≤ n + ps.length by
    have := h [[]] 0 (by simp)
    unfold lotsUp
    simpa using this
  induction ps with
  | nil => intro b n hb l hl; exact hb l hl
  | cons p ps ih =>
    intro b n hb l hl
    have := ih (lotsStep b p) (n + 1) (fun l hl => by
      unfold lotsStep at hl
      rcases List.mem_append.mp hl with h | h
      · have := hb l h; omega
      · obtain ⟨m, hm, rfl⟩ := List.mem_map.mp h
        have := hb m hm
        simp; omega) l hl
    simp only [List.length_cons]
    omega
theorem rowSet_len {one other lot : List Int} : (rowSet one other lot).length = one.length := by simp [rowSet, rgI]
theorem atI_int {xs : List Int} {i : Int} (h0 : 0 ≤ i) (h1 : i < xs.length) : atI (xs.map PyData.int) i = some (.int (xs.getD i.toNat 0)) := by
  have h : i.toNat < xs.length := by omega
  unfold atI ixN
  rw [if_pos h0, if_pos (by rw [List.length_map]; exact h1)]
  simp [h]
theorem atI_enc {β : Type} {e : β → PyData} {xs : List β} {i : Nat} {x : β} (h : xs[i]? = some x) : atI (xs.map e) (i : Int) = some (e x) := by
  have hl : i < xs.length := (List.getElem?_eq_some_iff.mp h).1
  unfold atI ixN
  rw [if_pos (by omega), if_pos (by rw [List.length_map]; omega)]
  simp [h]
theorem cut_from (ds : List PyData) (k : Nat) : cutD ds (some (k : Int)) none = ds.drop k := by
  unfold cutD
  rw [HT.sIx_nat, HT.sIx_none]
  by_cases h : k ≤ ds.length
  · rw [Nat.min_eq_left h, List.take_of_length_le (by rw [List.length_drop]; exact Nat.le_refl _)]
  · rw [Nat.min_eq_right (by omega), Nat.sub_self, List.take_zero, List.drop_eq_nil_of_le (by omega)]
theorem cut_one {β : Type} (e : β → PyData) (xs : List β) : cutD (xs.map e) (some 1) none = xs.tail.map e := by
  rw [show (1 : Int) = ((1 : Nat) : Int) from rfl, cut_from, List.drop_one, List.map_tail]
theorem fl_cR (ns : List Int) : Fl 1 (cR.e ns) := fl_eT ns

section
variable {P : Program} {w : World} {K : PySem.W.Frag} {mg : Str → Option Value} {base : Heap}
def c_l_lots : Ct := fun ts P => ∃ ps : List Int, ps.length ≤ 8 ∧ ts = [.dat (.list (ps.map cI.e))] ∧ P = is (.dat (.list ((lots ps).map cR.e)))
theorem ca_l_lots {f : Addr} {fd : FuncData} (T : Bi K mg) (F : Fun K "_law_lots" "_law_lots" s_l_lots f fd) (hm : mg "_law_lots" = some (.ref f)) (hb : Binds K fd ["_law_places"] []) : Ca P w K mg base 1 "_law_lots" c_l_lots := by
  refine ca_mk F sc_l_lots hm hb (fun ts P ⟨_, _, h, _⟩ => by rw [h]; rfl) (fun cdv A outer s H E hr B ts Pr c => ?_)
  obtain ⟨ps, hps, rfl, rfl⟩ := c
  have nd := sc_l_lots.nd
  have small : ∀ i, ((ps.take i).foldl lotsStep [[]]).length ≤ 256 := fun i => by
    have := lotsUp_len (ps.take i)
    unfold lotsUp at this
    rw [this]
    exact Nat.pow_le_pow_right (j := 8) (by decide) (Nat.le_trans (List.length_take_le' _ _) hps)
  refine q_asg (t := .dat (.list ([[]].map cR.e))) 1 (e_lst (ds := [.tuple []]) (vs_cons (e_tup (ds := []) vs_nil (by decide)) vs_nil) (by decide)) ?_ nd
  refine q_forM (xs := ps) cI (.one 2) (fun i => [.dat (.list (ps.map cI.e)), .dat (.list (((ps.take i).foldl lotsStep [[]]).map cR.e)), .any, .any]) ⟨.inr rfl, .inr rfl, .inr rfl, .inr rfl, trivial⟩ (i_list (e_dat 0)) (g_one 2 nd) (fun _ _ => trivial) (fun i x hx => ?_) ?_ PassesOwn.never
  · refine q_asg (t := .dat (.list (((ps.take (i + 1)).foldl lotsStep [[]]).map cR.e))) 1 ?_ (s_nil ⟨.inr rfl, .inr rfl, .inl rfl, .inr rfl, trivial⟩) nd
    refine EV.eq (e_catL (e_dat 1) (e_mapM cR (.one 3) [("_law_lot", 3)] (fun lot => cR.e (lot ++ [x])) (i_list (e_dat 1)) (fun _ _ _ _ _ => g_one 3 nd) (fun s' H' C cl fp B' lot hl => ?_) (fun _ _ => trivial) (by have := small i; omega) (blkOk_by (N := n_l_lots) (sc := defScope s_l_lots) (by decide +kernel)) nd) ?_) ?_
    · have hlen : lot.length ≤ 8 := Nat.le_trans (lots_short (ps := ps.take i) lot hl) (Nat.le_trans (List.length_take_le' _ _) hps)
      exact EV.eq (e_catT (ds := lot.map PyData.int) (es := [.int x]) (e_dat 3) (e_tup (vs_cons (e_dat 2) vs_nil) (by simp)) (by simp; omega)) (by simp [cTu])
    · have := small i
      simp; omega
    · rw [fold_take hx]
      simp [lotsStep]
  · rw [fold_all]
    exact q_ret (EV.eq (e_slL (l := some 1) (h := none) (e_dat 1) (o_some e_int) o_none) (by rw [cut_one]; rfl)) ⟨rfl, rfl⟩
end
end Mk
namespace Mk
open PySem PySem.Spec PyProof.Rows L2
theorem u65 {k : Nat} {A : Around} (r : Room k A) : A.units + 65 < cLine := by have := r.un; omega
theorem u64 {k : Nat} {A : Around} (r : Room k A) : A.units + 64 < cLine := r.units
theorem fl_cO (rs : List (List Int)) : Fl 2 (cO.e rs) := fl_eTs rs
section
variable {β : Type} {X : Cx} {B : Bs} {G : En} {a b : Expr} {pos : Pos} {xs : List β} {x y : β} {n : Nat}
theorem any_cod (c : Cod β) (fl : ∀ x, Fl n (c.e x)) (x : β) (xs : List β) [Decidable (x ∈ xs)] : ((xs.map c.e).any fun z => PyData.eqv z (c.e x)) = decide (x ∈ xs) := bool_of (any_iff fl (fun _ _ => c.inj) x xs)
theorem t_inM [Decidable (x ∈ xs)] (c : Cod β) (k : Bool) (fl : ∀ x, Fl n (c.e x)) (hu : X.A.units + 65 < cLine) (ha : EV X B G a (c.e x)) (hb : EV X B G b (dS k (xs.map c.e))) (l1 : n ≤ 60 := by decide) (hm : behindInMarks .In b = false := by rfl) : ET X B G (.Compare a [.In] [b] pos) (is (decide (x ∈ xs))) := by
  have fi : ∀ d ∈ xs.map c.e, Fl n d := fun d hd => by
    obtain ⟨z, _, rfl⟩ := List.mem_map.mp hd
    exact fl z
  cases k with
  | true => exact t_inT hu ha hb (fl x) (fl_tup fi) (any_cod c fl x xs) (by omega) (by omega) hm
  | false => exact t_inL hu ha hb (fl x) (fl_lst fi) (any_cod c fl x xs) (by omega) (by omega) hm
theorem t_notInM [Decidable (x ∈ xs)] (c : Cod β) (k : Bool) (fl : ∀ x, Fl n (c.e x)) (hu : X.A.units + 65 < cLine) (ha : EV X B G a (c.e x)) (hb : EV X B G b (dS k (xs.map c.e))) (l1 : n ≤ 60 := by decide) (hm : behindInMarks .NotIn b = false := by rfl) : ET X B G (.Compare a [.NotIn] [b] pos) (is (!decide (x ∈ xs))) := by
  have fi : ∀ d ∈ xs.map c.e, Fl n d := fun d hd => by
    obtain ⟨z, _, rfl⟩ := List.mem_map.mp hd
    exact fl z
  cases k with
  | true => exact t_notInT hu ha hb (fl x) (fl_tup fi) (any_cod c fl x xs) (by omega) (by omega) hm
  | false => exact t_notInL hu ha hb (fl x) (fl_lst fi) (any_cod c fl x xs) (by omega) (by omega) hm
theorem e_inM [Decidable (x ∈ xs)] (c : Cod β) (k : Bool) (fl : ∀ x, Fl n (c.e x)) (hu : X.A.units + 65 < cLine) (ha : EV X B G a (c.e x)) (hb : EV X B G b (dS k (xs.map c.e))) (l1 : n ≤ 60 := by decide) (hm : behindInMarks .In b = false := by rfl) : EV X B G (.Compare a [.In] [b] pos) (.bool (decide (x ∈ xs))) := by
  have fi : ∀ d ∈ xs.map c.e, Fl n d := fun d hd => by
    obtain ⟨z, _, rfl⟩ := List.mem_map.mp hd
    exact fl z
  cases k with
  | true => exact e_cmp (by rw [← any_cod c fl x xs]; exact dInT (fl x) (fl_tup fi) (by omega) (by omega)) (op_inT hu) hm ha hb
  | false => exact e_inL hu ha hb (fl x) (fl_lst fi) (any_cod c fl x xs) (by omega) (by omega) hm
theorem t_eqM [Decidable (x = y)] (c : Cod β) (fl : ∀ x, Fl n (c.e x)) (hu : X.A.units + 64 < cLine) (ha : EV X B G a (c.e x)) (hb : EV X B G b (c.e y)) (l1 : n ≤ 64 := by decide) : ET X B G (.Compare a [.Eq] [b] pos) (is (decide (x = y))) := t_eq hu ha hb (fl x) (fl y) c.inj l1 l1
theorem e_eqM [Decidable (x = y)] (c : Cod β) (fl : ∀ x, Fl n (c.e x)) (hu : X.A.units + 64 < cLine) (ha : EV X B G a (c.e x)) (hb : EV X B G b (c.e y)) (l1 : n ≤ 64 := by decide) : EV X B G (.Compare a [.Eq] [b] pos) (.bool (decide (x = y))) := e_eq hu ha hb (fl x) (fl y) c.inj l1 l1
theorem t_neM [Decidable (x = y)] (c : Cod β) (fl : ∀ x, Fl n (c.e x)) (hu : X.A.units + 64 < cLine) (ha : EV X B G a (c.e x)) (hb : EV X B G b (c.e y)) (l1 : n ≤ 64 := by decide) : ET X B G (.Compare a [.NotEq] [b] pos) (is (!decide (x = y))) := t_ne hu ha hb (fl x) (fl y) c.inj l1 l1
theorem e_neM [Decidable (x = y)] (c : Cod β) (fl : ∀ x, Fl n (c.e x)) (hu : X.A.units + 64 < cLine) (ha : EV X B G a (c.e x)) (hb : EV X B G b (c.e y)) (l1 : n ≤ 64 := by decide) : EV X B G (.Compare a [.NotEq] [b] pos) (.bool (!decide (x = y))) := e_ne hu ha hb (fl x) (fl y) c.inj l1 l1
end
section
variable {β : Type} {X : Cx} {B : Bs} {G : En} {a b : Expr} {pos : Pos} {xs : List β} {x y : β} {i : Nat} {ns : List Int} {j : Int}
/-- t[i], xs[i] of coded things -/
theorem e_ixTM (c : Cod β) (h : xs[i]? = some x) (ha : EV X B G a (.tuple (xs.map c.e))) (hb : EV X B G b (.int (i : Int))) (hs : PlainIx b := by exact fun _ _ => rfl) : EV X B G (.Subscript a b pos) (c.e x) := e_ixT (atI_enc h) ha hb hs
theorem e_ixLM (c : Cod β) (h : xs[i]? = some x) (ha : EV X B G a (.list (xs.map c.e))) (hb : EV X B G b (.int (i : Int))) (hs : PlainIx b := by exact fun _ _ => rfl) : EV X B G (.Subscript a b pos) (c.e x) := e_ixL (atI_enc h) ha hb hs
theorem e_ixTI (h0 : 0 ≤ j) (h1 : j < ns.length) (ha : EV X B G a (cR.e ns)) (hb : EV X B G b (.int j)) (hs : PlainIx b := by exact fun _ _ => rfl) : EV X B G (.Subscript a b pos) (.int (ns.getD j.toNat 0)) := e_ixT (atI_int h0 h1) ha hb hs
theorem e_ixLI (h0 : 0 ≤ j) (h1 : j < ns.length) (ha : EV X B G a (.list (ns.map cI.e))) (hb : EV X B G b (.int j)) (hs : PlainIx b := by exact fun _ _ => rfl) : EV X B G (.Subscript a b pos) (.int (ns.getD j.toNat 0)) := e_ixL (atI_int h0 h1) ha hb hs
end

/-! ### plain: kinds, places -/
def kindsOne (c m o : Int) : List (List Int) := ((rgI m.toNat).filter fun n => !decide (n = o)).map fun n => [c, o, n]
def kindsCol (z : Int × Int) : List (List Int) := (rgI z.2.toNat).flatMap fun o => kindsOne z.1 z.2 o
def kinds (cs : List Int) : List (List Int) := (enP cs).flatMap kindsCol
def placesOf (ps one other kind : List Int) : List Int := (rgI ps.length).filter fun i => decide ([ps.getD i.toNat 0, one.getD i.toNat 0, other.getD i.toNat 0] = kind)
def unlike (ps one other : List Int) : List (List Int) := ((zpP ps (zpP one other)).filter fun z => !decide (z.2.1 = z.2.2)).map fun z => [z.1, z.2.1, z.2.2]

section
variable {P : Program} {w : World} {K : PySem.W.Frag} {mg : Str → Option Value} {base : Heap}
def c_l_set : Ct := fun ts P => ∃ (one other lot : List Int) (b : Bool), one.length ≤ 8 ∧ other.length = one.length ∧ lot.length ≤ 100 ∧ ts = [.dat (cR.e one), .dat (cR.e other), .dat (dS b (lot.map cI.e))] ∧ P = is (.dat (cR.e (rowSet one other lot)))
theorem ca_l_set {f : Addr} {fd : FuncData} (T : Bi K mg) (F : Fun K "_law_set" "_law_set" s_l_set f fd) (hm : mg "_law_set" = some (.ref f)) (hb : Binds K fd ["_law_one", "_law_other", "_law_lot"] []) : Ca P w K mg base 1 "_law_set" c_l_set := by
  refine ca_mk F sc_l_set hm hb (fun ts P ⟨_, _, _, _, _, _, _, h, _⟩ => by rw [h]; rfl) (fun cdv A outer s H E hr B ts Pr c => ?_)
  obtain ⟨one, other, lot, b, h1, h2, h3, rfl, rfl⟩ := c
  have nd := sc_l_set.nd
  refine q_ret (t := .dat (cR.e (rowSet one other lot))) ?_ ⟨rfl, rfl⟩
  refine EV.eq (e_tupL T.tuple (e_mapM cI (.one 3) [("_law_at_here", 3)] (fun i => .int (if i ∈ lot then other.getD i.toNat 0 else one.getD i.toNat 0)) (i_rangeM (n := one.length) (EV.eq (e_lenT T.len (e_dat 0)) (by rw [List.length_map])) (by omega) T.range) (fun _ _ _ _ _ => g_one 3 nd) (fun s' H' C cl fp B' i hi => ?_) (fun _ _ => trivial) (by rw [rgI_len]; omega) (blkOk_by (N := n_l_set) (sc := defScope s_l_set) (by decide +kernel)) nd)) ?_
  · obtain ⟨hi0, hi1⟩ := mem_rgI.mp hi
    refine e_if (x := decide (i ∈ lot)) (t_inM cI b fl_int (u65 hr) (e_dat 3) (e_dat 2)) (fun h => ?_) (fun h => ?_)
    · rw [if_pos (of_decide_eq_true h)]
      exact e_ixTI hi0 (by omega) (e_dat 1) (e_dat 3)
    · rw [if_neg (of_decide_eq_false h)]
      exact e_ixTI hi0 hi1 (e_dat 0) (e_dat 3)
  · unfold rowSet
    show _ = PyData.tuple (List.map PyData.int _)
    rw [List.map_map]
    rfl

def c_l_at : Ct := fun ts P => ∃ (ps one other kind : List Int), ps.length ≤ 8 ∧ one.length = ps.length ∧ other.length = ps.length ∧ ts = [.dat (cR.e ps), .dat (cR.e one), .dat (cR.e other), .dat (cR.e kind)] ∧ P = is (.dat (.list ((placesOf ps one other kind).map cI.e)))
theorem ca_l_at {f : Addr} {fd : FuncData} (T : Bi K mg) (F : Fun K "_law_at" "_law_at" s_l_at f fd) (hm : mg "_law_at" = some (.ref f)) (hb : Binds K fd ["_law_places", "_law_one", "_law_other", "_law_kind"] []) : Ca P w K mg base 1 "_law_at" c_l_at := by
  refine ca_mk F sc_l_at hm hb (fun ts P ⟨_, _, _, _, _, _, _, h, _⟩ => by rw [h]; rfl) (fun cdv A outer s H E hr B ts Pr c => ?_)
  obtain ⟨ps, one, other, kind, h1, h2, h3, rfl, rfl⟩ := c
  have nd := sc_l_at.nd
  refine q_ret (t := .dat (.list ((placesOf ps one other kind).map cI.e))) ?_ ⟨rfl, rfl⟩
  refine e_frz (e_lcM cI (.one 4) [("_law_at_here", 4)] (fun i => decide ([ps.getD i.toNat 0, one.getD i.toNat 0, other.getD i.toNat 0] = kind)) cI.e (i_rangeM (n := ps.length) (EV.eq (e_lenT T.len (e_dat 0)) (by rw [List.length_map])) (by omega) T.range) (fun _ _ _ _ _ => g_one 4 nd) (fun s' H' C cl fp B' i hi => ts_one ?_) (fun s' H' C cl fp B' i hi _ => e_dat 4) (fun _ _ => trivial) (by rw [rgI_len]; omega) (blkOk_by (N := n_l_at) (sc := defScope s_l_at) (by decide +kernel)) nd)
  obtain ⟨hi0, hi1⟩ := mem_rgI.mp hi
  exact t_eqM cR fl_cR (u64 hr) (e_tup (ds := [.int _, .int _, .int _]) (vs_cons (e_ixTI hi0 hi1 (e_dat 0) (e_dat 4)) (vs_cons (e_ixTI hi0 (by omega) (e_dat 1) (e_dat 4)) (vs_cons (e_ixTI hi0 (by omega) (e_dat 2) (e_dat 4)) vs_nil))) (by simp)) (e_dat 3)

def c_l_kinds : Ct := fun ts P => ∃ (cs : List Int) (b : Bool), cs.length ≤ 4 ∧ (∀ c ∈ cs, 0 ≤ c ∧ c ≤ 4) ∧ ts = [.dat (dS b (cs.map cI.e))] ∧ P = is (.dat (.list ((kinds cs).map cR.e)))
end
end Mk
namespace Mk
open PySem PySem.Spec PyProof.Rows L2

/-! ### zip of three tuples -/
def ItZ3 (K : PySem.W.Frag) (a1 a2 a3 : Addr) : It :=
  ⟨fun i H => ∃ (xs ys zs : List V) (x y z : V), SqT K H a1 xs ∧ SqT K H a2 ys ∧ SqT K H a3 zs ∧ xs[i]? = some x ∧ ys[i]? = some y ∧ zs[i]? = some z, fun i H v H' => ∃ T x y z, v = .ref T ∧ H T = none ∧ H' = upd H T (.tup [x, y, z]) ∧ (∀ xs, SqT K H a1 xs → xs[i]? = some x) ∧ (∀ ys, SqT K H a2 ys → ys[i]? = some y) ∧ ∀ zs, SqT K H a3 zs → zs[i]? = some z,
    fun i H => ∃ xs ys zs : List V, SqT K H a1 xs ∧ SqT K H a2 ys ∧ SqT K H a3 zs ∧ min (min xs.length ys.length) zs.length = i⟩
theorem six_of {c z TI TO i1 i2 i3 a1 a2 a3 : Addr} (m : c ∈ z :: TI :: TO :: ([i1, a1] ++ [i2, a2] ++ [i3, a3])) : c = z ∨ c = TI ∨ c = TO ∨ c = i1 ∨ c = a1 ∨ c = i2 ∨ c = a2 ∨ c = i3 ∨ c = a3 := by simpa using m
theorem turn_zip3 {P : Program} {w : World} {K : PySem.W.Frag} {elts : List Expr} {kk : Nat} {tpos : Pos} (a1 a2 a3 z TI TO i1 i2 i3 : Addr) (S : ZipSep3 z TI TO i1 i2 i3 [i1, a1] [i2, a2] [i3, a3]) (h1 : a1 ≠ i1) (h2 : a2 ≠ i2) (h3 : a3 ≠ i3) :
    Turn P w K (.Tuple elts kk tpos) (ItZ3 K a1 a2 a3) [z, TI, TO, i1, i2, i3] z (fun i h => IsZip h z TI TO .none ∧ IsTupOf3 h TI (.ref i1) (.ref i2) (.ref i3) ∧ (∃ c d e, IsTupOf3 h TO c d e) ∧ itS true h i1 a1 i ∧ itS true h i2 a2 i ∧ itS true h i3 a3 i) where
  mem := by simp
  obj := fun i h st c hc => by
    obtain ⟨hz, hTI, ⟨x, y, u, hTO⟩, q1, q2, q3⟩ := st
    have tup : ∀ {t x y u}, IsTupOf3 h t x y u → ∃ o, h.get? t = some o ∧ ∀ v, o.data ≠ .cell v := fun {t x y u} e => ⟨_, e, fun v q => nomatch q⟩
    simp only [List.mem_cons, List.not_mem_nil, or_false] at hc
    rcases hc with q | q | q | q | q | q
    · rw [q]
      exact ⟨_, hz, fun v q => nomatch q⟩
    · rw [q]
      exact tup hTI
    · rw [q]
      exact tup hTO
    · rw [q]
      exact itS_obj q1
    · rw [q]
      exact itS_obj q2
    · rw [q]
      exact itS_obj q3
  keep := fun i h h' st k => by
    obtain ⟨hz, hTI, ⟨x, y, u, hTO⟩, q1, q2, q3⟩ := st
    exact ⟨k z (by simp) _ hz, k TI (by simp) _ hTI, ⟨x, y, u, k TO (by simp) _ hTO⟩, itS_at q1 fun o q => k i1 (by simp) o q, itS_at q2 fun o q => k i2 (by simp) o q, itS_at q3 fun o q => k i3 (by simp) o q⟩
  item := by
    intro X hP hw hK hc i pins s σ H E I hf st hg
    subst hP hw hK
    obtain ⟨hz, hTI, hTO, q1, q2, q3⟩ := st
    obtain ⟨xs, ys, zs, x, y, u, hqx, hqy, hqz, hx, hy, hu⟩ := hg
    obtain ⟨its, rv, p, _⟩ := src_of (b := true) I hqx
    obtain ⟨its2, rv2, p2, _⟩ := src_of (b := true) I hqy
    obtain ⟨its3, rv3, p3, _⟩ := src_of (b := true) I hqz
    have hh : X.A.in1.handled = none := I.ok.hd hc
    have hlt : i < min (min its.toArray.size its2.toArray.size) its3.toArray.size := by
      have e1 := (List.getElem?_eq_some_iff.mp hx).1
      have e2 := (List.getElem?_eq_some_iff.mp hy).1
      have e3 := (List.getElem?_eq_some_iff.mp hu).1
      have e4 := rv.length
      have e5 := rv2.length
      have e6 := rv3.length
      simp only [List.size_toArray]
      omega
    have W := GoesN.zip3 (prog := X.prog) (w := X.w) (A := X.A) (elts := elts) (x1 := kk) (pos := tpos) S (draws_of hh true i1 a1 h1 its.toArray) (draws_of hh true i2 a2 h2 its2.toArray) (draws_of hh true i3 a3 h3 its3.toArray)
    refine W.goes i s _ _ hlt ⟨hz, hTI, hTO, ⟨q1, p⟩, ⟨q2, p2⟩, ⟨q3, p3⟩⟩ fun v h' tk hY st' hk htk => ?_
    obtain ⟨T, v1, v2, v3, rfl, hT, hv1, hv2, hv3, hTu⟩ := hY
    obtain ⟨hz', hTI', hTO', ⟨q1', _⟩, ⟨q2', _⟩, q3', _⟩ := st'
    obtain ⟨w1, hw1, ru⟩ := rv.get hx
    obtain ⟨w2, hw2, ru2⟩ := rv2.get hy
    obtain ⟨w3, hw3, ru3⟩ := rv3.get hu
    have e1 : v1 = w1 := by
      have z : its[i]? = some v1 := by simpa using hv1
      rw [hw1] at z
      exact (Option.some.inj z).symm
    have e2 : v2 = w2 := by
      have z : its2[i]? = some v2 := by simpa using hv2
      rw [hw2] at z
      exact (Option.some.inj z).symm
    have e3 : v3 = w3 := by
      have z : its3[i]? = some v3 := by simpa using hv3
      rw [hw3] at z
      exact (Option.some.inj z).symm
    subst e1 e2 e3
    have new : ObjOk X.prog X.w (upd H T (.tup [x, y, u])) h' T (.tup [x, y, u]) := by
      obtain ⟨o, k1, k2, n, k3⟩ := hTu
      exact ⟨by show 3 ≤ sizeLine; decide, [v1, v2, v3], .cons ru (.cons ru2 (.cons ru3 .nil)), ⟨o, k1, k2, n, k3⟩⟩
    have hk' : ∀ c ob, c ∉ [z, TI, TO, i1, i2, i3] → s.heap.get? c = some ob → h'.get? c = some ob := fun c ob hb q => hk c ob (fun m => hb (by simp only [List.mem_cons, List.not_mem_nil, or_false] at m ⊢; rcases m with m | m | m | m | m <;> simp [m])) q
    have I1 : Inv X pins σ (upd H T (.tup [x, y, u])) { s with heap := h', toks := tk } := I.turnedNew (ch := [z, TI, TO, i1, i2, i3]) hk' hf hT new
    refine ⟨.ref T, _, I1, rfl, ⟨T, x, y, u, rfl, I.hok.fresh hT, rfl, fun zs hzs => by rw [I.tuple_inj hzs hqx]; exact hx, fun zs hzs => by rw [I.tuple_inj hzs hqy]; exact hy, fun zs hzs => by rw [I.tuple_inj hzs hqz]; exact hu⟩, ⟨hz', hTI', hTO', q1', q2', q3'⟩, fun c hcm => ?_⟩
    have hlt' : c < s.heap.objs.size := by
      obtain ⟨x0, y0, u0, hTO0⟩ := hTO
      obtain ⟨o1, w1, _⟩ := itS_obj q1
      obtain ⟨o2, w2, _⟩ := itS_obj q2
      obtain ⟨o3, w3, _⟩ := itS_obj q3
      simp only [List.mem_cons, List.not_mem_nil, or_false] at hcm
      rcases hcm with q | q | q | q | q | q
      · rw [q]; exact Heap.lt_size hz
      · rw [q]; exact Heap.lt_size hTI
      · rw [q]; exact Heap.lt_size hTO0
      · rw [q]; exact Heap.lt_size w1
      · rw [q]; exact Heap.lt_size w2
      · rw [q]; exact Heap.lt_size w3
    rw [upd_ne (Nat.ne_of_lt (Nat.lt_of_lt_of_le hlt' hT))]
    exact (hf c hcm).1
  done := by
    intro X hP hw hK hc i pins s σ H E I hf st hg
    subst hP hw hK
    obtain ⟨hz, hTI, hTO, q1, q2, q3⟩ := st
    obtain ⟨xs, ys, zs, hqx, hqy, hqz, hx⟩ := hg
    obtain ⟨its, rv, p, _⟩ := src_of (b := true) I hqx
    obtain ⟨its2, rv2, p2, _⟩ := src_of (b := true) I hqy
    obtain ⟨its3, rv3, p3, _⟩ := src_of (b := true) I hqz
    have hh : X.A.in1.handled = none := I.ok.hd hc
    have W := GoesN.zip3 (prog := X.prog) (w := X.w) (A := X.A) (elts := elts) (x1 := kk) (pos := tpos) S (draws_of hh true i1 a1 h1 its.toArray) (draws_of hh true i2 a2 h2 its2.toArray) (draws_of hh true i3 a3 h3 its3.toArray)
    have ei : i = min (min its.toArray.size its2.toArray.size) its3.toArray.size := by
      have e4 := rv.length
      have e5 := rv2.length
      have e6 := rv3.length
      simp only [List.size_toArray]
      omega
    subst ei
    refine thn (W.stops s (fun s1 => Inv X pins σ H s1) _ ⟨hz, hTI, hTO, ⟨q1, p⟩, ⟨q2, p2⟩, ⟨q3, p3⟩⟩ fun h' tk hk htk => ?_) fun r s1 h => h
    exact I.turnedL (ch := [z, TI, TO, i1, i2, i3]) (fun c ob hb q => hk c ob (fun m => hb (by simp only [List.mem_cons, List.not_mem_nil, or_false] at m ⊢; rcases m with m | m | m | m | m <;> simp [m])) q) hf
  self := fun A i s Q E st h => wpAny_pyIter_zip st.1 h
def iZip3 (K : PySem.W.Frag) (ta : TA) : TI := fun σ H R => ta σ H fun vs H1 => ∃ a1 a2 a3 xs ys zs, vs = [.ref a1, .ref a2, .ref a3] ∧ SqT K H1 a1 xs ∧ SqT K H1 a2 ys ∧ SqT K H1 a3 zs ∧ R (ItZ3 K a1 a2 a3) H1
theorem pi_zip3 {X : Cx} {e e2 e3 : Expr} {ta : TA} {p pos tpos : Pos} {elts : List Expr} {kk : Nat} (hg : Gl X "zip") (hm : X.mg "zip" = none) (ha : PA X [e, e2, e3] ta)
    (hs : starEach [e, e2, e3] X.env = (false, eval e X.env) :: starEach [e2, e3] X.env := by rfl) (hpl : (backTo pos (starEach [e2, e3] X.env)).any (·.1) = false := by rfl) :
    PI X (.Tuple elts kk tpos) (.Call (.Name "zip" p) [e, e2, e3] [] pos) (iZip3 X.K ta) := by
  refine ⟨fun pins s σ H R I h => ?_⟩
  refine Call_ (ld_blt I hg hm PyProof.Rows.boot_zip (PyProof.Rows.callWith_type1 (thn (ha.run pos pins s σ H _ I h) fun us s1 ⟨vs, H1, I1, r1, q1⟩ => ?_) hs hpl))
  obtain ⟨a1, a2, a3, xs, ys, zs, ex, hqx, hqy, hqz, q⟩ := q1
  subst ex
  cases r1 with
  | cons r rr =>
    cases rr with
    | cons r' rr =>
      cases rr with
      | cons r'' rr =>
        cases rr
        cases r
        cases r'
        cases r''
        obtain ⟨its, rv, p1, _⟩ := src_of (b := true) I1 hqx
        obtain ⟨its2, rv2, p2, _⟩ := src_of (b := true) I1 hqy
        obtain ⟨its3, rv3, p3, _⟩ := src_of (b := true) I1 hqz
        have l1 := hpS_lt p1
        have l2 := hpS_lt p2
        have l3 := hpS_lt p3
        refine zip_begins3 (begins_of true a1 its.toArray) (begins_of true a2 its2.toArray) (begins_of true a3 its3.toArray) p1 p2 p3 fun h' hz hTI hTO h1 h2 h3 hsz hk => wpAny_pyIter_zip hz ?_
        have I2 : Inv X pins σ H1 { s1 with heap := h' } := I1.kept (t' := s1.toks) hk
        refine ⟨s1.heap.objs.size + 5, [s1.heap.objs.size + 5, s1.heap.objs.size + 3, s1.heap.objs.size + 4, s1.heap.objs.size, s1.heap.objs.size + 1, s1.heap.objs.size + 2], _, _, H1, rfl, I2,
          turn_zip3 a1 a2 a3 (s1.heap.objs.size + 5) (s1.heap.objs.size + 3) (s1.heap.objs.size + 4) s1.heap.objs.size (s1.heap.objs.size + 1) (s1.heap.objs.size + 2) (zip_sep3 (fp1 := [a1]) (fp2 := [a2]) (fp3 := [a3]) (fun c hc => by rw [List.mem_singleton.mp hc]; exact l1) (fun c hc => by rw [List.mem_singleton.mp hc]; exact l2) (fun c hc => by rw [List.mem_singleton.mp hc]; exact l3)) (Nat.ne_of_lt l1) (Nat.ne_of_lt (Nat.lt_succ_of_lt l2)) (Nat.ne_of_lt (Nat.lt_succ_of_lt (Nat.lt_succ_of_lt l3))),
          ⟨hz, hTI, ⟨_, _, _, hTO⟩, itS_new h1, itS_new h2, itS_new h3⟩, fun c hcm => ?_, q⟩
        have hle : s1.heap.objs.size ≤ c := by
          simp only [List.mem_cons, List.not_mem_nil, or_false] at hcm
          rcases hcm with z | z | z | z | z | z
          · rw [z]; exact Nat.le_add_right _ _
          · rw [z]; exact Nat.le_add_right _ _
          · rw [z]; exact Nat.le_add_right _ _
          · rw [z]; exact Nat.le_refl _
          · rw [z]; exact Nat.le_add_right _ _
          · rw [z]; exact Nat.le_add_right _ _
        exact I1.fpOk hle (I1.hok.fresh hle)
def zp3 : List PyData → List PyData → List PyData → List PyData
  | a :: as, b :: bs, c :: cs => .tuple [a, b, c] :: zp3 as bs cs
  | _, _, _ => []
theorem zp3_len : ∀ {as bs cs : List PyData}, (zp3 as bs cs).length = min (min as.length bs.length) cs.length
  | a :: as, b :: bs, c :: cs => by
    have := zp3_len (as := as) (bs := bs) (cs := cs)
    simp only [zp3, List.length_cons, this]
    omega
  | [], _, _ => by simp [zp3]
  | _ :: _, [], _ => by simp [zp3]
  | _ :: _, _ :: _, [] => by simp [zp3]
theorem zp3_get : ∀ {as bs cs : List PyData} {i : Nat} {a b c : PyData}, as[i]? = some a → bs[i]? = some b → cs[i]? = some c → (zp3 as bs cs)[i]? = some (.tuple [a, b, c])
  | _ :: _, _ :: _, _ :: _, 0, a, b, c, h1, h2, h3 => by
    simp at h1 h2 h3
    simp [zp3, h1, h2, h3]
  | _ :: as, _ :: bs, _ :: cs, i + 1, a, b, c, h1, h2, h3 => by
    simp only [List.getElem?_cons_succ] at h1 h2 h3
    simp only [zp3, List.getElem?_cons_succ]
    exact zp3_get h1 h2 h3
  | [], _, _, _, _, _, _, h1, _, _ => by simp at h1
  | _ :: _, [], _, _, _, _, _, _, h2, _ => by simp at h2
  | _ :: _, _ :: _, [], _, _, _, _, _, _, h3 => by simp at h3
def zpP3 {α β γ : Type} : List α → List β → List γ → List (α × β × γ)
  | a :: as, b :: bs, c :: cs => (a, b, c) :: zpP3 as bs cs
  | _, _, _ => []
theorem zp3_eq {α β γ : Type} (c1 : Cod α) (c2 : Cod β) (c3 : Cod γ) : ∀ (as : List α) (bs : List β) (cs : List γ), zp3 (as.map c1.e) (bs.map c2.e) (cs.map c3.e) = (zpP3 as bs cs).map (cTr c1 c2 c3).e
  | a :: as, b :: bs, c :: cs => by
    have := zp3_eq c1 c2 c3 as bs cs
    simp only [zp3, zpP3, List.map_cons, this]
  | [], _, _ => rfl
  | _ :: _, [], _ => rfl
  | _ :: _, _ :: _, [] => rfl
section
variable {X : Cx} {B : Bs} {G : En} {e e2 e3 : Expr} {ds es fs : List PyData} {p pos tpos : Pos} {elts : List Expr} {kk : Nat}
theorem i_zip3 (hm : X.mg "zip" = none) (ha : EV X B G e (.tuple ds)) (hb : EV X B G e2 (.tuple es)) (hc : EV X B G e3 (.tuple fs)) (hg : Gl X "zip" := by rfl) (hs : starEach [e, e2, e3] X.env = (false, eval e X.env) :: starEach [e2, e3] X.env := by rfl) (hs2 : starEach [e2, e3] X.env = (false, eval e2 X.env) :: starEach [e3] X.env := by rfl)
    (hs3 : starEach [e3] X.env = (false, eval e3 X.env) :: starEach [] X.env := by rfl) (hpl : (backTo pos (starEach [e2, e3] X.env)).any (·.1) = false := by rfl) : EI X B G (.Tuple elts kk tpos) (.Call (.Name "zip" p) [e, e2, e3] [] pos) (is (zp3 ds es fs)) :=
  PI.weak (pi_zip3 hg hm (pa_cons ha (pa_cons hb (pa_cons hc pa_nil hs3) hs2) hs) hs hpl) fun s H R ⟨F, g, w, q⟩ => ⟨F, g, w, fun v t F1 H1 p1 g1 e1 w1 => ⟨F1, g1, w1.pop, fun v2 t2 F2 H2 p2 g2 e2 w2 => ⟨F2, g2, w2.pop, fun v3 t3 F3 H3 p3 g3 e3 w3 => by
    rw [show t = Sl.dat (.tuple ds) from p1] at w1
    rw [show t2 = Sl.dat (.tuple es) from p2] at w2
    rw [show t3 = Sl.dat (.tuple fs) from p3] at w3
    have r1 : Rp F3 v (.tuple ds) := (w1.topI rfl : Rp F1 v (.tuple ds)).mono (e2.trans e3)
    have r2 : Rp F3 v2 (.tuple es) := (w2.topI rfl : Rp F2 v2 (.tuple es)).mono e3
    have r3 : Rp F3 v3 (.tuple fs) := w3.topI rfl
    cases r1 with
    | @tup a1 xs _ h1 l1 =>
    cases r2 with
    | @tup a2 ys _ h2 l2 =>
    cases r3 with
    | @tup a3 zs _ h3 l3 =>
    refine ⟨a1, a2, a3, xs, ys, zs, rfl, SqT.of (g3.h _ _ h1), SqT.of (g3.h _ _ h2), SqT.of (g3.h _ _ h3), q _ _ F3 H3 rfl g3 ((e1.trans e2).trans e3) w3.pop ⟨fun i F4 H4 e4 e5 hi => ?_, fun F4 H4 e4 e5 => ?_, fun i F4 H4 x H5 e4 e5 hi y => ?_⟩⟩
    · have hi' : i < xs.length ∧ i < ys.length ∧ i < zs.length := by
        rw [zp3_len] at hi
        rw [l1.length, l2.length, l3.length]
        omega
      exact ⟨xs, ys, zs, xs[i]'hi'.1, ys[i]'hi'.2.1, zs[i]'hi'.2.2, SqT.of (e5.h _ _ (e4 _ _ h1)), SqT.of (e5.h _ _ (e4 _ _ h2)), SqT.of (e5.h _ _ (e4 _ _ h3)), List.getElem?_eq_getElem hi'.1, List.getElem?_eq_getElem hi'.2.1, List.getElem?_eq_getElem hi'.2.2⟩
    · exact ⟨xs, ys, zs, SqT.of (e5.h _ _ (e4 _ _ h1)), SqT.of (e5.h _ _ (e4 _ _ h2)), SqT.of (e5.h _ _ (e4 _ _ h3)), by rw [l1.length, l2.length, l3.length, zp3_len]⟩
    · obtain ⟨T, u, u2, u3, rfl, hT, rfl, hu, hu2, hu3⟩ := y
      obtain ⟨d, hd, rd⟩ := l1.get (hu xs (SqT.of (e5.h _ _ (e4 _ _ h1))))
      obtain ⟨d2, hd2, rd2⟩ := l2.get (hu2 ys (SqT.of (e5.h _ _ (e4 _ _ h2))))
      obtain ⟨d3, hd3, rd3⟩ := l3.get (hu3 zs (SqT.of (e5.h _ _ (e4 _ _ h3))))
      have gr := Grow.new (o := .tup [u, u2, u3]) e5.h hT
      exact ⟨_, .tuple [d, d2, d3], zp3_get hd hd2 hd3, gr, .tup upd_same (.cons ((rd.mono e4).mono gr.f) (.cons ((rd2.mono e4).mono gr.f) (.cons ((rd3.mono e4).mono gr.f) .nil)))⟩⟩⟩⟩
end
end Mk
namespace Mk
open PySem PySem.Spec PyProof.Rows L2

/-! ### an owned list is held while something else is computed -/
section
variable {B : Bs} {F H F' H' : Hp} {s : L2.St} {G : En} {ds : List PyData} {v : V}
/-- the list on top is set aside -/
theorem Sat.hold (g : Good B F H) (w : Sat B F H (some v :: s) (.own ds :: G)) : ∃ a vs, v = .ref a ∧ B.F a = none ∧ B.M a = none ∧ Rps F vs ds ∧ Good (B.plus a (.lst vs)) F H ∧ Sat (B.plus a (.lst vs)) F H s G := by
  obtain ⟨ad, w0⟩ := id w
  obtain ⟨e, h2, h3, vs, h4, h5⟩ := w0.ok 0 _ rfl
  have e' : v = .ref (ad 0) := Option.some.inj e
  refine ⟨ad 0, vs, e', g.f.free h2, h3, h5, g.plus h4 h2, Sat.plus w.pop fun i t a hi o k z => ?_⟩
  obtain ⟨h6, _, _, _⟩ := (w0.ok (i + 1) t (by simpa using hi)).here o
  have h7 : s[i]?.join = some (V.ref (ad (i + 1))) := by simpa using h6
  rw [k] at h7
  cases h7
  have := w0.inj (i + 1) 0 t _ (by simpa using hi) rfl o rfl z
  omega
/-- and comes back -/
theorem Sat.join {a : Addr} {vs : List V} (hF : B.F a = none) (hM : B.M a = none) (g : Good (B.plus a (.lst vs)) F H) (w : Sat (B.plus a (.lst vs)) F H s G) (r : Rps F vs ds) : Good B F H ∧ Sat B F H (some (.ref a) :: s) (.own ds :: G) := by
  obtain ⟨g1, h1, h2⟩ := g.minus hM
  refine ⟨g1, (Sat.minus w).pushO ⟨rfl, h2 hF, hM, vs, h1, r⟩ fun i t b hi o k z => ?_⟩
  obtain ⟨ad, w0⟩ := w
  obtain ⟨k1, _, k3, _⟩ := (w0.ok i t hi).here o
  rw [k] at k1
  cases k1
  have k4 : upd B.M a (.lst vs) (ad i) = none := k3
  rw [z, upd_same] at k4
  cases k4
theorem Sat.set2 {v1 v2 : V} {t1 t2 : Sl} {i j : Nat} (w : Sat B F H (some v2 :: some v1 :: s) (t2 :: t1 :: G)) (h : i ≠ j) : Sat B F H ((s.set i (some v1)).set j (some v2)) ((G.set i t1).set j t2) := by
  have w1 := Sat.set (i := j + 1) w
  rw [List.set_cons_succ, List.set_cons_succ] at w1
  have w2 := Sat.set (i := i) w1
  rw [List.set_comm _ _ h.symm, List.set_comm _ _ h.symm] at w2
  exact w2
end

/-! ### two values -/
def tP2 (B : Bs) (G : En) (P : Sl → Sl → Prop) : TA := fun s H Q => ∃ F, Good B F H ∧ Sat B F H s G ∧ ∀ v1 v2 t1 t2 F' H', P t1 t2 → Good B F' H' → Same F F' → Sat B F' H' (some v2 :: some v1 :: s) (t2 :: t1 :: G) → Q [v1, v2] H'
abbrev EP2 (X : Cx) (B : Bs) (G : En) (a b : Expr) (P : Sl → Sl → Prop) : Prop := PA X [a, b] (tP2 B G P)
section
variable {X : Cx} {B : Bs} {G : En} {a b c : Expr} {P1 P2 P3 : Sl → Prop} {ds : List PyData} {p : Po} {rest : List Stmt} {pos px py pt pt2 : Pos} {kt k2 : Nat} {x y z : Str} {P : Sl → Sl → Prop}
theorem p2_imm (ha : EE X B G a P1) (hb : EE X B G b P2) (hi : ∀ t, P1 t → t.imm = true) (hs : starEach [a, b] X.env = (false, eval a X.env) :: starEach [b] X.env := by rfl) (hs2 : starEach [b] X.env = (false, eval b X.env) :: starEach [] X.env := by rfl) : EP2 X B G a b (fun t u => P1 t ∧ P2 u) :=
  PA.weak (pa_cons ha (pa_cons hb pa_nil hs2) hs) fun s H Q ⟨F, g, w, q⟩ => ⟨F, g, w, fun v t F1 H1 p1 g1 e1 w1 => ⟨F1, g1, w1.pop, fun v2 t2 F2 H2 p2 g2 e2 w2 => by
    have i1 : Imm F2 v t := Imm.mono e2 (w1.topI (hi t p1))
    have w3 : Sat B F2 H2 (some v :: s) (t :: G) := w2.pop.pushI i1
    refine q v v2 t t2 F2 H2 ⟨p1, p2⟩ g2 (e1.trans e2) ?_
    -- the second above the first
    obtain ⟨ad, w0⟩ := w2
    have im := hi t p1
    have no : t.owned = false := by cases t <;> first | rfl | (cases im)
    refine ⟨fun i => match i with | 0 => ad 0 | 1 => 0 | i + 2 => ad (i + 1), by have := w0.len; simpa using this, fun i u e => ?_, fun i j u x e1 e2 o1 o2 z => ?_⟩
    · match i with
      | 0 =>
        have := w0.ok 0 u (by simpa using e)
        simpa using this
      | 1 =>
        simp at e
        subst e
        cases t with
        | dat d => exact ⟨v, rfl, i1⟩
        | bk C c k => exact ⟨v, rfl, i1⟩
        | adr p => exact congrArg some i1
        | any => cases im
        | own _ => cases im
        | dic _ => cases im
        | box _ => cases im
        | ob _ _ _ => cases im
      | i + 2 =>
        have := w0.ok (i + 1) u (by simpa using e)
        simpa using this
    · have key : ∀ i u, (t2 :: t :: G)[i]? = some u → u.owned = true → ∃ i', (t2 :: G)[i']? = some u ∧ (match i with | 0 => ad 0 | 1 => 0 | i + 2 => ad (i + 1)) = ad i' ∧ i = (if i' = 0 then 0 else i' + 1) := fun i u e o => by
        match i with
        | 0 => exact ⟨0, by simpa using e, rfl, rfl⟩
        | 1 =>
          simp at e
          subst e
          rw [no] at o
          cases o
        | i + 2 => exact ⟨i + 1, by simpa using e, rfl, by simp⟩
      obtain ⟨i', a1, a2, a3⟩ := key i u e1 o1
      obtain ⟨j', b1, b2, b3⟩ := key j x e2 o2
      have := w0.inj i' j' u x a1 b1 o1 o2 (by rw [← a2, ← b2]; exact z)
      rw [a3, b3, this]⟩⟩
theorem p2_own (ha : EE X B G a (is (.own ds))) (hb : ∀ B', EE X B' G b P2) (hs : starEach [a, b] X.env = (false, eval a X.env) :: starEach [b] X.env := by rfl) (hs2 : starEach [b] X.env = (false, eval b X.env) :: starEach [] X.env := by rfl) : EP2 X B G a b (fun t u => t = .own ds ∧ P2 u) := by
  have hbf : PE X b (fun s H Q => ∃ B', tE B' G P2 s H Q) := ⟨fun pins s σ H Q I ⟨B', q⟩ => (hb B').run pins s σ H Q I q⟩
  refine PA.weak (pa_cons ha (pa_cons hbf pa_nil hs2) hs) fun s H Q ⟨F, g, w, q⟩ => ⟨F, g, w, fun v t F1 H1 p1 g1 e1 w1 => ?_⟩
  rw [show t = Sl.own ds from p1] at w1
  obtain ⟨ad, vs, rfl, hF, hM, r, g1', w1'⟩ := Sat.hold g1 w1
  refine ⟨B.plus ad (.lst vs), F1, g1', w1', fun v2 t2 F2 H2 p2 g2 e2 w2 => ?_⟩
  obtain ⟨g3, w3⟩ := Sat.join (ds := ds) hF hM g2 w2 (r.mono e2)
  refine q _ v2 (.own ds) t2 F2 H2 ⟨rfl, p2⟩ g3 (e1.trans e2) ?_
  -- swap the two on top
  obtain ⟨ad3, w0⟩ := w3
  refine ⟨fun i => match i with | 0 => ad3 1 | 1 => ad3 0 | i + 2 => ad3 (i + 2), by have := w0.len; simpa using this, fun i u e => ?_, fun i j u x e1 e2 o1 o2 z => ?_⟩
  · match i with
    | 0 =>
      have := w0.ok 1 u (by simpa using e)
      simpa using this
    | 1 =>
      have := w0.ok 0 u (by simpa using e)
      simpa using this
    | i + 2 =>
      have := w0.ok (i + 2) u (by simpa using e)
      simpa using this
  · have key : ∀ i u, (t2 :: Sl.own ds :: G)[i]? = some u → ∃ i', (Sl.own ds :: t2 :: G)[i']? = some u ∧ (match i with | 0 => ad3 1 | 1 => ad3 0 | i + 2 => ad3 (i + 2)) = ad3 i' ∧ i = (match i' with | 0 => 1 | 1 => 0 | i + 2 => i + 2) := fun i u e => by
      match i with
      | 0 => exact ⟨1, by simpa using e, rfl, rfl⟩
      | 1 => exact ⟨0, by simpa using e, rfl, rfl⟩
      | i + 2 => exact ⟨i + 2, by simpa using e, rfl, rfl⟩
    obtain ⟨i', a1, a2, a3⟩ := key i u e1
    obtain ⟨j', b1, b2, b3⟩ := key j x e2
    have := w0.inj i' j' u x a1 b1 o1 o2 (by rw [← a2, ← b2]; exact z)
    rw [a3, b3, this]
/-- a, b = x, y with plain locals -/
theorem s_par2 (i j : Nat) (h : EP2 X B G a b P) (k : ∀ t u, P t u → p.nx ((G.set i t).set j u)) (hN : X.N.Nodup) (hij : i ≠ j := by decide) (hi : X.N[i]? = some x := by rfl) (hj : X.N[j]? = some y := by rfl) (hx : X.env.scope.names.lookup x = some .local := by rfl) (hy : X.env.scope.names.lookup y = some .local := by rfl)
    (hw : swappedStores [.Tuple [.Name x px, .Name y py] kt pt] (.Tuple [a, b] k2 pt2) X.env = pure (some [x, y])) (hc : X.calm = true := by rfl) (hs : swapsWithSole [.Tuple [.Name x px, .Name y py] kt pt] (.Tuple [a, b] k2 pt2) pos.line X.env = pure false := by rfl) :
    S1 X B G (.Assign [.Tuple [.Name x px, .Name y py] kt pt] (.Tuple [a, b] k2 pt2) pos) p :=
  PS.weak (ps_par hc hN hi hj hij hx hy h hw hs) fun D s H ⟨F, g, w, q1, _⟩ => ⟨F, g, w, fun v1 v2 t1 t2 F1 H1 p1 g1 e1 w1 => ⟨v1, v2, rfl, q1 _ _ F1 H1 (k t1 t2 p1) g1 e1 (w1.set2 hij)⟩⟩
theorem q_par2 (i j : Nat) (h : EP2 X B G a b P) (k : ∀ t u, P t u → SS X B ((G.set i t).set j u) rest p) (hN : X.N.Nodup) (hij : i ≠ j := by decide) (hi : X.N[i]? = some x := by rfl) (hj : X.N[j]? = some y := by rfl) (hx : X.env.scope.names.lookup x = some .local := by rfl) (hy : X.env.scope.names.lookup y = some .local := by rfl)
    (hw : swappedStores [.Tuple [.Name x px, .Name y py] kt pt] (.Tuple [a, b] k2 pt2) X.env = pure (some [x, y]) := by with_unfolding_all rfl) (hc : X.calm = true := by rfl) (hs : swapsWithSole [.Tuple [.Name x px, .Name y py] kt pt] (.Tuple [a, b] k2 pt2) pos.line X.env = pure false := by rfl) :
    SS X B G (.Assign [.Tuple [.Name x px, .Name y py] kt pt] (.Tuple [a, b] k2 pt2) pos :: rest) p :=
  s_cons (Mid := fun G' => ∃ t u, P t u ∧ G' = (G.set i t).set j u) (s_par2 i j h (fun t u h => ⟨t, u, h, rfl⟩) hN hij hi hj hx hy hw hc hs) fun G' ⟨t, u, h, e⟩ => by rw [e]; exact k t u h
/-- a, b = x, y where one is a cell: a pair is made -/
theorem s_unp2 (i j : Nat) (h : EP2 X B G a b P) (hg : PG X (.Tuple [.Name x px, .Name y py] kt pt) ((Tg.two i j).g X.K)) (k : ∀ t u, P t u → p.nx ((G.set i t).set j u)) (hij : i ≠ j := by decide)
    (hs : swapsWithSole [.Tuple [.Name x px, .Name y py] kt pt] (.Tuple [a, b] k2 pt2) pos.line X.env = pure false := by rfl) (hw : swappedStores [.Tuple [.Name x px, .Name y py] kt pt] (.Tuple [a, b] k2 pt2) X.env = pure none := by rfl)
    (h1 : (assignEach [.Tuple [.Name x px, .Name y py] kt pt] X.env).map (·.2) = [assign (.Tuple [.Name x px, .Name y py] kt pt) X.env] := by rfl) : S1 X B G (.Assign [.Tuple [.Name x px, .Name y py] kt pt] (.Tuple [a, b] k2 pt2) pos) p :=
  PS.weak (ps_asg (pe_tup h) hg hs hw h1) fun D s H ⟨F, g, w, q1, _⟩ => ⟨F, g, w, fun v1 v2 t1 t2 F1 H1 p1 g1 e1 w1 => ⟨(by decide : 2 ≤ sizeLine), fun ad had => by
    have gr := Grow.loose (o := .tup [v1, v2]) g1.h had
    refine ⟨ad, [v1, v2], rfl, SqT.of upd_same, rfl, v1, [v2], rfl, v2, [], rfl, rfl, ?_⟩
    exact q1 _ _ F1 _ (k t1 t2 p1) (g1.grow gr) e1 ((w1.grow gr).set2 hij)⟩⟩
theorem q_unp2 (i j : Nat) (h : EP2 X B G a b P) (hg : PG X (.Tuple [.Name x px, .Name y py] kt pt) ((Tg.two i j).g X.K)) (k : ∀ t u, P t u → SS X B ((G.set i t).set j u) rest p) (hij : i ≠ j := by decide)
    (hs : swapsWithSole [.Tuple [.Name x px, .Name y py] kt pt] (.Tuple [a, b] k2 pt2) pos.line X.env = pure false := by rfl) (hw : swappedStores [.Tuple [.Name x px, .Name y py] kt pt] (.Tuple [a, b] k2 pt2) X.env = pure none := by rfl)
    (h1 : (assignEach [.Tuple [.Name x px, .Name y py] kt pt] X.env).map (·.2) = [assign (.Tuple [.Name x px, .Name y py] kt pt) X.env] := by rfl) : SS X B G (.Assign [.Tuple [.Name x px, .Name y py] kt pt] (.Tuple [a, b] k2 pt2) pos :: rest) p :=
  s_cons (Mid := fun G' => ∃ t u, P t u ∧ G' = (G.set i t).set j u) (s_unp2 i j h hg (fun t u h => ⟨t, u, h, rfl⟩) hij hs hw h1) fun G' ⟨t, u, h, e⟩ => by rw [e]; exact k t u h
/-- a, b = e of a list of two -/
theorem q_unpL (i j : Nat) {Pq : PyData → PyData → Prop} (he : EE X B G c (fun t => ∃ d1 d2, t = .dat (.list [d1, d2]) ∧ Pq d1 d2)) (k : ∀ d1 d2, Pq d1 d2 → SS X B ((G.set i (.dat d1)).set j (.dat d2)) rest p) (hN : X.N.Nodup) (hi : X.N[i]? = some x := by rfl) (hj : X.N[j]? = some y := by rfl)
    (hx : Loc X.env.scope x := by first | exact Or.inl rfl | exact Or.inr rfl) (hy : Loc X.env.scope y := by first | exact Or.inl rfl | exact Or.inr rfl)
    (hf : X.fn x = true ∨ X.env.scope.names.lookup x = some .local := by first | exact .inl rfl | exact .inr rfl) (hf2 : X.fn y = true ∨ X.env.scope.names.lookup y = some .local := by first | exact .inl rfl | exact .inr rfl)
    (hn : (assignEach [Expr.Name x px, Expr.Name y py] X.env).length = 2 := by rfl) (hst : (assignEach [Expr.Name x px, Expr.Name y py] X.env).findIdx? (·.1) = none := by rfl)
    (h0 : (assignEach [Expr.Name x px, Expr.Name y py] X.env).map (·.2) = assign (.Name x px) X.env :: (assignEach [Expr.Name y py] X.env).map (·.2) := by rfl) (h1 : (assignEach [Expr.Name y py] X.env).map (·.2) = assign (.Name y py) X.env :: (assignEach [] X.env).map (·.2) := by rfl)
    (hs : swapsWithSole [.Tuple [.Name x px, .Name y py] kt pt] c pos.line X.env = pure false := by rfl) (hw : swappedStores [.Tuple [.Name x px, .Name y py] kt pt] c X.env = pure none := by rfl)
    (h2 : (assignEach [.Tuple [.Name x px, .Name y py] kt pt] X.env).map (·.2) = [assign (.Tuple [.Name x px, .Name y py] kt pt) X.env] := by rfl) (hc : X.calm = true := by rfl) : SS X B G (.Assign [.Tuple [.Name x px, .Name y py] kt pt] c pos :: rest) p :=
  s_cons (Mid := fun G' => ∃ d1 d2, Pq d1 d2 ∧ G' = (G.set i (.dat d1)).set j (.dat d2)) (PS.weak (ps_asg he (pg_unl hc (pgs_cons (pg_name hN hi hx hf) (pgs_cons (pg_name hN hj hy hf2) pgs_nil h1) h0) hn hst) hs hw h2) fun D s H ⟨F, g, w, q1, _⟩ => ⟨F, g, w, fun v t F1 H1 p1 g1 e1 w1 => by
    obtain ⟨d1, d2, rfl, pq⟩ := p1
    have r : Rp F1 v (.list [d1, d2]) := w1.topI rfl
    cases r with
    | lst h1 r1 =>
      obtain ⟨v1, v2, rfl, ra, rb⟩ := rps2 r1
      refine ⟨_, _, rfl, SqL.of (g1.h _ _ h1), rfl, v1, [v2], rfl, v2, [], rfl, rfl, ?_⟩
      exact q1 _ _ F1 H1 ⟨d1, d2, pq, rfl⟩ g1 e1 (((w1.pop.pushD ra).set.pushD rb).set)⟩) fun G' ⟨d1, d2, h, e⟩ => by rw [e]; exact k d1 d2 h
/-- x, y, z = a, b, c with plain locals: a datum, a list of one's own, a datum -/
theorem q_par3 (i j l : Nat) (ha : EE X B G a P1) (hb : EE X B G b (is (.own ds))) (hc3 : ∀ B', EE X B' G c P3) (h1i : ∀ t, P1 t → t.imm = true) (h3i : ∀ t, P3 t → t.imm = true) {pz : Pos} (k : ∀ t u, P1 t → P3 u → SS X B (((G.set i t).set j (.own ds)).set l u) rest p) (hN : X.N.Nodup)
    (hij : i ≠ j := by decide) (hil : i ≠ l := by decide) (hjl : j ≠ l := by decide) (hi : X.N[i]? = some x := by rfl) (hj : X.N[j]? = some y := by rfl) (hl : X.N[l]? = some z := by rfl) (hx : X.env.scope.names.lookup x = some .local := by rfl) (hy : X.env.scope.names.lookup y = some .local := by rfl) (hz : X.env.scope.names.lookup z = some .local := by rfl)
    (hw : swappedStores [.Tuple [.Name x px, .Name y py, .Name z pz] kt pt] (.Tuple [a, b, c] k2 pt2) X.env = pure (some [x, y, z]) := by with_unfolding_all rfl) (hc : X.calm = true := by rfl) (hs : swapsWithSole [.Tuple [.Name x px, .Name y py, .Name z pz] kt pt] (.Tuple [a, b, c] k2 pt2) pos.line X.env = pure false := by rfl)
    (hs1 : starEach [a, b, c] X.env = (false, eval a X.env) :: starEach [b, c] X.env := by rfl) (hs2 : starEach [b, c] X.env = (false, eval b X.env) :: starEach [c] X.env := by rfl) (hs3 : starEach [c] X.env = (false, eval c X.env) :: starEach [] X.env := by rfl) :
    SS X B G (.Assign [.Tuple [.Name x px, .Name y py, .Name z pz] kt pt] (.Tuple [a, b, c] k2 pt2) pos :: rest) p := by
  have hcf : PE X c (fun s H Q => ∃ B', tE B' G P3 s H Q) := ⟨fun pins s σ H Q I ⟨B', q⟩ => (hc3 B').run pins s σ H Q I q⟩
  refine s_cons (Mid := fun G' => ∃ t u, P1 t ∧ P3 u ∧ G' = ((G.set i t).set j (.own ds)).set l u) (PS.weak (ps_par3 hc hN hi hj hl hij hil hjl hx hy hz (pa_cons ha (pa_cons hb (pa_cons hcf pa_nil hs3) hs2) hs1) hw hs) fun D s H ⟨F, g, w, q1, _⟩ => ⟨F, g, w, fun v t F1 H1 p1 g1 e1 w1 => ⟨F1, g1, w1.pop, fun v2 t2 F2 H2 p2 g2 e2 w2 => ?_⟩⟩) fun G' ⟨t, u, h, h2, e⟩ => by rw [e]; exact k t u h h2
  rw [show t2 = Sl.own ds from p2] at w2
  obtain ⟨ad, vs, rfl, hF, hM, r, g2', w2'⟩ := Sat.hold g2 w2
  refine ⟨B.plus ad (.lst vs), F2, g2', w2', fun v3 t3 F3 H3 p3 g3 e3 w3 => ⟨v, .ref ad, v3, rfl, ?_⟩⟩
  have i1 : Imm F3 v t := Imm.mono (e2.trans e3) (w1.topI (h1i t p1))
  have i3 : Imm F3 v3 t3 := w3.topI (h3i t3 p3)
  obtain ⟨g4, w4⟩ := Sat.join (ds := ds) hF hM g3 w3.pop (r.mono e3)
  have w5 := (((Sat.set (i := j) w4).pushI i1).set (i := i)).pushI i3
  have w6 := w5.set (i := l)
  rw [List.set_comm _ _ hij.symm, List.set_comm _ _ hij.symm] at w6
  exact q1 _ _ F3 H3 ⟨t, t3, p1, p3, rfl⟩ g4 ((e1.trans e2).trans e3) w6
end
end Mk
namespace Mk
open PySem PySem.Spec PyProof.Rows L2

theorem flat_take {β γ : Type} {f : β → List γ} {xs : List β} {i : Nat} {x : β} (h : xs[i]? = some x) : (xs.take (i + 1)).flatMap f = (xs.take i).flatMap f ++ f x := by
  rw [List.take_succ, h]
  simp
theorem flat_len {β γ : Type} {f : β → List γ} {k : Nat} : ∀ {xs : List β}, (∀ x ∈ xs, (f x).length ≤ k) → (xs.flatMap f).length ≤ k * xs.length
  | [], _ => by simp
  | x :: xs, h => by
    have h1 := flat_len (xs := xs) fun y hy => h y (List.mem_cons_of_mem _ hy)
    have h2 := h x List.mem_cons_self
    rw [List.flatMap_cons, List.length_append, List.length_cons, Nat.mul_succ]
    omega
theorem map_flat {β γ δ : Type} (g : γ → δ) (f : β → List γ) (xs : List β) : (xs.flatMap f).map g = xs.flatMap fun x => (f x).map g := by
  induction xs with
  | nil => rfl
  | cons x xs ih => rw [List.flatMap_cons, List.flatMap_cons, List.map_append, ih]
theorem take_all {β : Type} (xs : List β) : xs.take xs.length = xs := List.take_length
theorem rgI_get {n i : Nat} {x : Int} (h : (rgI n)[i]? = some x) : x = (i : Int) ∧ i < n := by
  unfold rgI at h
  rw [List.getElem?_map] at h
  by_cases hi : i < n
  · rw [List.getElem?_range hi] at h
    cases h
    exact ⟨rfl, hi⟩
  · rw [List.getElem?_eq_none (by simp; omega)] at h
    cases h
section
variable {X : Cx} {B : Bs} {G : En} {a b : Expr} {pos : Pos} {ns : List Int} {j : Int} {p : Pos}
theorem e_ixSI (k : Bool) (h0 : 0 ≤ j) (h1 : j < ns.length) (ha : EV X B G a (dS k (ns.map cI.e))) (hb : EV X B G b (.int j)) (hs : PlainIx b := by exact fun _ _ => rfl) : EV X B G (.Subscript a b pos) (.int (ns.getD j.toNat 0)) := by
  cases k with
  | true => exact e_ixTI h0 h1 ha hb hs
  | false => exact e_ixLI h0 h1 ha hb hs
theorem e_lenS (k : Bool) {ds : List PyData} (hm : X.mg "len" = none) (ha : EV X B G a (dS k ds)) (hg : Gl X "len" := by rfl) (he : starEach (a :: []) X.env = (false, eval a X.env) :: starEach [] X.env := by rfl) (hpl : (backTo pos (starEach [] X.env)).any (·.1) = false := by rfl) : EV X B G (.Call (.Name "len" p) [a] [] pos) (.int ds.length) := by
  cases k with
  | true => exact e_lenT hm ha hg he hpl
  | false => exact e_lenL hm ha hg he hpl
end
theorem i_dS {X : Cx} {B : Bs} {G : En} {e tg : Expr} {ds : List PyData} (k : Bool) (h : EV X B G e (dS k ds)) : EI X B G tg e (is ds) := by
  cases k with
  | true => exact i_tup h
  | false => exact i_list h
theorem kindsOne_len (c m o : Int) : (kindsOne c m o).length ≤ m.toNat := by
  unfold kindsOne
  rw [List.length_map]
  exact Nat.le_trans (List.length_filter_le _ _) (by rw [rgI_len]; exact Nat.le_refl _)

/-! ### orders, all rows, ways -/
def ordStep (ks : List (List Int)) (f : List (List (List Int))) : List (List (List Int)) := f.flatMap fun o => (ks.filter fun k => !decide (k ∈ o)).map fun k => o ++ [k]
def ordN (ks : List (List Int)) : Nat → List (List (List Int))
  | 0 => [[]]
  | i + 1 => ordStep ks (ordN ks i)
def orders (ks : List (List Int)) : List (List (List Int)) := ordN ks ks.length
theorem ordN_len (ks : List (List Int)) : ∀ i, (ordN ks i).length ≤ ks.length ^ i
  | 0 => by simp [ordN]
  | i + 1 => by
    unfold ordN ordStep
    have h := flat_len (k := ks.length) (xs := ordN ks i) (f := fun o => (ks.filter fun k => !decide (k ∈ o)).map fun k => o ++ [k]) fun x _ => by
      rw [List.length_map]
      exact List.length_filter_le _ _
    refine Nat.le_trans h ?_
    rw [Nat.pow_succ, Nat.mul_comm]
    exact Nat.mul_le_mul (ordN_len ks i) (Nat.le_refl _)
theorem ordN_each (ks : List (List Int)) : ∀ i, ∀ o ∈ ordN ks i, o.length = i
  | 0, o, h => by simp [ordN] at h; rw [h]; rfl
  | i + 1, o, h => by
    obtain ⟨o', h1, h2⟩ := List.mem_flatMap.mp h
    obtain ⟨k, _, rfl⟩ := List.mem_map.mp h2
    rw [List.length_append, ordN_each ks i o' h1]
    rfl
def rowStep (cs : List Int) (f : List (List Int)) (p : Int) : List (List Int) := f.flatMap fun r => (rgI (cs.getD p.toNat 0).toNat).map fun v => r ++ [v]
def allRows (cs ps : List Int) : List (List Int) := ps.foldl (rowStep cs) [[]]
theorem allRows_len {cs : List Int} {m : Nat} : ∀ {ps : List Int}, (∀ p ∈ ps, (cs.getD p.toNat 0).toNat ≤ m) → (allRows cs ps).length ≤ m ^ ps.length ∧ ∀ r ∈ allRows cs ps, r.length = ps.length := by
  suffices h : ∀ (ps : List Int) (b : List (List Int)) (n : Nat), (∀ p ∈ ps, (cs.getD p.toNat 0).toNat ≤ m) → (∀ r ∈ b, r.length = n) → (ps.foldl (rowStep cs) b).length ≤ m ^ ps.length * b.length ∧ ∀ r ∈ ps.foldl (rowStep cs) b, r.length = n + ps.length by
    intro ps hp
    have := h ps [[]] 0 hp (by simp)
    unfold allRows
    simpa using this
  intro ps
  induction ps with
  | nil => intro b n _ hb; exact ⟨by simp, hb⟩
  | cons p ps ih =>
    intro b n hp hb
    have e1 : (rowStep cs b p).length ≤ m * b.length := flat_len fun x _ => by
      rw [List.length_map, rgI_len]
      exact hp p List.mem_cons_self
    have e2 : ∀ r ∈ rowStep cs b p, r.length = n + 1 := fun r hr => by
      obtain ⟨r', h1, h2⟩ := List.mem_flatMap.mp hr
      obtain ⟨v, _, rfl⟩ := List.mem_map.mp h2
      rw [List.length_append, hb r' h1]
      rfl
    obtain ⟨h1, h2⟩ := ih (rowStep cs b p) (n + 1) (fun q hq => hp q (List.mem_cons_of_mem _ hq)) e2
    rw [List.foldl_cons]
    refine ⟨Nat.le_trans h1 ?_, fun r hr => by rw [h2 r hr, List.length_cons]; omega⟩
    rw [List.length_cons, Nat.pow_succ, Nat.mul_assoc]
    exact Nat.mul_le_mul (Nat.le_refl _) e1
/-- what a pair's way brings: rows, from the kinds done before on -/
def wayAhead (ps one other : List Int) (o : List (List Int)) : List Int := o.flatMap fun k => placesOf ps one other k
def wayAt (ps one other ahead : List Int) (k : List Int) : List (List Int) := (lots (placesOf ps one other k)).map fun l => rowSet one other (ahead ++ l)
def wayStep (ps one other : List Int) (z : List (List Int) × List Int) (k : List Int) : List (List Int) × List Int := (z.1 ++ wayAt ps one other z.2 k, z.2 ++ placesOf ps one other k)
def way (ps one other : List Int) (o : List (List Int)) : List (List Int) := (o.foldl (wayStep ps one other) ([], [])).1
theorem placesOf_len (ps one other k : List Int) : (placesOf ps one other k).length ≤ ps.length := Nat.le_trans (List.length_filter_le _ _) (by rw [rgI_len]; exact Nat.le_refl _)
theorem lots_len (ps : List Int) : (lots ps).length ≤ 2 ^ ps.length := by
  unfold lots
  have := lotsUp_len ps
  rw [List.length_tail, this]
  omega

section
variable {P : Program} {w : World} {K : PySem.W.Frag} {mg : Str → Option Value} {base : Heap}
theorem ca_l_kinds {f : Addr} {fd : FuncData} (T : Bi K mg) (F : Fun K "_law_kinds" "_law_kinds" s_l_kinds f fd) (hm : mg "_law_kinds" = some (.ref f)) (hb : Binds K fd ["_law_columns"] []) : Ca P w K mg base 1 "_law_kinds" c_l_kinds := by
  refine ca_mk F sc_l_kinds hm hb (fun ts P ⟨_, _, _, _, h, _⟩ => by rw [h]; rfl) (fun cdv A outer s H E hr B ts Pr c => ?_)
  obtain ⟨cs, b, h1, h2, rfl, rfl⟩ := c
  have nd := sc_l_kinds.nd
  have big : ∀ i j (z : Int × Int), z.2 ≤ 4 → (((enP cs).take i).flatMap kindsCol ++ ((rgI z.2.toNat).take j).flatMap (kindsOne z.1 z.2)).length ≤ 1000 := fun i j z hz => by
    have e1 : (((enP cs).take i).flatMap kindsCol).length ≤ 16 * ((enP cs).take i).length := flat_len fun y hy => by
      have hy' := List.mem_of_mem_take hy
      obtain ⟨k, _, hk⟩ := enP_mem hy'
      have hm := h2 y.2 (List.mem_of_getElem? hk)
      have e2 : (kindsCol y).length ≤ y.2.toNat * (rgI y.2.toNat).length := flat_len fun o _ => kindsOne_len _ _ _
      rw [rgI_len] at e2
      exact Nat.le_trans e2 (Nat.mul_le_mul (show y.2.toNat ≤ 4 by omega) (show y.2.toNat ≤ 4 by omega))
    have e2 : (((rgI z.2.toNat).take j).flatMap (kindsOne z.1 z.2)).length ≤ z.2.toNat * ((rgI z.2.toNat).take j).length := flat_len fun o _ => kindsOne_len _ _ _
    have e3 : ((enP cs).take i).length ≤ 4 := by rw [List.length_take, enP_len]; omega
    have e4 : ((rgI z.2.toNat).take j).length ≤ 4 := by rw [List.length_take, rgI_len]; omega
    have e5 : z.2.toNat * ((rgI z.2.toNat).take j).length ≤ 4 * 4 := Nat.mul_le_mul (by omega) e4
    rw [List.length_append]
    omega
  refine q_asg (t := .dat (.list (([] : List (List Int)).map cR.e))) 1 (e_lst (ds := []) vs_nil (by decide)) ?_ nd
  refine q_forM (xs := rgI cs.length) cI (.one 2) (fun i => [.dat (dS b (cs.map cI.e)), .dat (.list ((((enP cs).take i).flatMap kindsCol).map cR.e)), .any, .any, .any]) ⟨.inr rfl, .inr rfl, .inr rfl, .inr rfl, .inr rfl, trivial⟩ (i_rangeM (EV.eq (e_lenS b T.len (e_dat 0)) (by rw [List.length_map])) (by omega) T.range) (g_one 2 nd) (fun _ _ => trivial) (fun i x hx => ?_) ?_ PassesOwn.never
  · obtain ⟨rfl, hi⟩ := rgI_get hx
    obtain ⟨c, hc⟩ : ∃ c, cs[i]? = some c := ⟨cs[i], List.getElem?_eq_getElem hi⟩
    have hg : cs.getD i 0 = c := by simp [List.getD, hc]
    have hb2 := h2 c (List.mem_of_getElem? hc)
    have hen : (enP cs)[i]? = some ((i : Int), c) := by unfold enP; rw [List.getElem?_mapIdx, hc]; rfl
    have col : ∀ {X : Cx} {B : Bs} {G : En} {ea eb : Expr} {pos : Pos}, EV X B G ea (dS b (cs.map cI.e)) → EV X B G eb (.int (i : Int)) → PlainIx eb → EV X B G (.Subscript ea eb pos) (.int ((c.toNat : Nat) : Int)) := fun ha hb hs =>
      EV.eq (e_ixSI b (by omega) (by omega) ha hb hs) (by rw [Int.toNat_natCast, hg]; congr 1; omega)
    refine q_forM (xs := rgI c.toNat) cI (.one 3) (fun j => [.dat (dS b (cs.map cI.e)), .dat (.list (((((enP cs).take i).flatMap kindsCol) ++ ((rgI c.toNat).take j).flatMap (kindsOne i c)).map cR.e)), .dat (.int i), .any, .any]) ⟨.inr rfl, .inr (by simp), .inr rfl, .inr rfl, .inr rfl, trivial⟩ (i_rangeM (col (e_dat 0) (e_dat 2) (fun _ _ => rfl)) (by omega) T.range) (g_one 3 nd) (fun _ _ => trivial) (fun j o ho => ?_) ?_ PassesOwn.never
    · have hmem := List.mem_of_getElem? ho
      refine q_asg (t := .dat (.list (((((enP cs).take i).flatMap kindsCol) ++ ((rgI c.toNat).take (j + 1)).flatMap (kindsOne i c)).map cR.e))) 1 ?_ (s_nil ⟨.inr rfl, .inr rfl, .inr rfl, .inl rfl, .inr rfl, trivial⟩) nd
      have hz := big i (j + 1) ((i : Int), c) (by omega)
      refine EV.eq (e_catL (e_dat 1) (e_frz (e_lcM cI (.one 4) [("_law_new", 4)] (fun n => !decide (n = o)) (fun n => cR.e [(i : Int), o, n]) (i_rangeM (col (e_dat 0) (e_dat 2) (fun _ _ => rfl)) (by omega) T.range) (fun _ _ _ _ _ => g_one 4 nd) (fun s' H' C cl fp B' n hn => ts_one (t_neM cI fl_int (u64 hr) (e_dat 4) (e_dat 3))) (fun s' H' C cl fp B' n hn _ => e_tup (vs_cons (e_dat 2) (vs_cons (e_dat 3) (vs_cons (e_dat 4) vs_nil))) (by simp)) (fun _ _ => trivial) (by rw [rgI_len]; omega) (blkOk_by (N := n_l_kinds) (sc := defScope s_l_kinds) (by decide +kernel)) nd)) ?_) ?_
      · rw [flat_take ho] at hz
        simp only [List.length_append, List.length_map, kindsOne] at hz ⊢
        omega
      · have e : (kindsOne i c o).map cR.e = ((rgI c.toNat).filter fun n => !decide (n = o)).map fun n => cR.e [(i : Int), o, n] := by
          unfold kindsOne
          rw [List.map_map]
          rfl
        rw [flat_take ho, ← List.append_assoc, List.map_append (l₂ := kindsOne i c o), e]
    · rw [take_all, show (((enP cs).take i).flatMap kindsCol) ++ (rgI c.toNat).flatMap (kindsOne i c) = ((enP cs).take (i + 1)).flatMap kindsCol by rw [flat_take hen]; rfl]
      exact s_nil ⟨.inr rfl, .inr rfl, .inl rfl, .inr rfl, .inr rfl, trivial⟩
  · rw [rgI_len, ← enP_len, take_all]
    exact q_ret (e_dat 1) ⟨rfl, rfl⟩
end
end Mk
namespace Mk
open PySem PySem.Spec PyProof.Rows L2

/-- places, one, other side by side: the kinds in which two rows differ -/
def unlikeP (ps one other : List Int) : List (List Int) := ((zpP3 ps one other).filter fun z => !decide (z.2.1 = z.2.2)).map fun z => [z.1, z.2.1, z.2.2]
theorem zpP3_len {α β γ : Type} : ∀ (as : List α) (bs : List β) (cs : List γ), (zpP3 as bs cs).length = min (min as.length bs.length) cs.length
  | a :: as, b :: bs, c :: cs => by
    have := zpP3_len as bs cs
    simp only [zpP3, List.length_cons, this]
    omega
  | [], _, _ => by simp [zpP3]
  | _ :: _, [], _ => by simp [zpP3]
  | _ :: _, _ :: _, [] => by simp [zpP3]
section
variable {P : Program} {w : World} {K : PySem.W.Frag} {mg : Str → Option Value} {base : Heap}
def c_l_unlike : Ct := fun ts P => ∃ (ps one other : List Int), ps.length ≤ 8 ∧ ts = [.dat (cR.e ps), .dat (cR.e one), .dat (cR.e other)] ∧ P = is (.dat (.list ((unlikeP ps one other).map cR.e)))
theorem ca_l_unlike {f : Addr} {fd : FuncData} (T : Bi K mg) (F : Fun K "_law_unlike" "_law_unlike" s_l_unlike f fd) (hm : mg "_law_unlike" = some (.ref f)) (hb : Binds K fd ["_law_places", "_law_one", "_law_other"] []) : Ca P w K mg base 1 "_law_unlike" c_l_unlike := by
  refine ca_mk F sc_l_unlike hm hb (fun ts P ⟨_, _, _, _, h, _⟩ => by rw [h]; rfl) (fun cdv A outer s H E hr B ts Pr c => ?_)
  obtain ⟨ps, one, other, h1, rfl, rfl⟩ := c
  have nd := sc_l_unlike.nd
  refine q_ret (t := .dat (.list ((unlikeP ps one other).map cR.e))) ?_ ⟨rfl, rfl⟩
  refine EV.eq (e_frz (e_lcM (xs := zpP3 ps one other) (cTr cI cI cI) (.three 3 4 5) [("_law_place", 3), ("_law_old", 4), ("_law_new", 5)] (fun z => !decide (z.2.1 = z.2.2)) (fun z => cR.e [z.1, z.2.1, z.2.2]) (by rw [← zp3_eq]; exact i_zip3 T.zip (e_dat 0) (e_dat 1) (e_dat 2)) (fun _ _ _ _ _ => g_three 3 4 5 rfl nd) (fun s' H' C cl fp B' z hz => ts_one (t_neM cI fl_int (u64 hr) (e_dat 4) (e_dat 5))) (fun s' H' C cl fp B' z hz _ => e_tup (ds := [.int z.1, .int z.2.1, .int z.2.2]) (vs_cons (e_dat 3) (vs_cons (e_dat 4) (vs_cons (e_dat 5) vs_nil))) (by simp)) (fun _ _ => ⟨_, _, _, rfl⟩) (by rw [zpP3_len]; omega) (blkOk_by (N := n_l_unlike) (sc := defScope s_l_unlike) (by decide +kernel)) nd)) ?_
  unfold unlikeP
  rw [List.map_map]
  rfl

def c_l_orders : Ct := fun ts P => ∃ (ks : List (List Int)), ks.length ≤ 4 ∧ ts = [.dat (.list (ks.map cR.e))] ∧ P = is (.dat (.list ((orders ks).map cO.e)))
theorem ca_l_orders {f : Addr} {fd : FuncData} (T : Bi K mg) (F : Fun K "_law_orders" "_law_orders" s_l_orders f fd) (hm : mg "_law_orders" = some (.ref f)) (hb : Binds K fd ["_law_kinds_here"] []) : Ca P w K mg base 1 "_law_orders" c_l_orders := by
  refine ca_mk F sc_l_orders hm hb (fun ts P ⟨_, _, h, _⟩ => by rw [h]; rfl) (fun cdv A outer s H E hr B ts Pr c => ?_)
  obtain ⟨ks, h1, rfl, rfl⟩ := c
  have nd := sc_l_orders.nd
  have small : ∀ i, i ≤ ks.length → (ordN ks i).length ≤ 256 := fun i hi => Nat.le_trans (ordN_len ks i) (Nat.le_trans (Nat.pow_le_pow_left h1 i) (Nat.pow_le_pow_right (n := 4) (j := 4) (by decide) (by omega)))
  refine q_asg (t := .dat (.list (([[]] : List (List (List Int))).map cO.e))) 1 (e_lst (ds := [.tuple []]) (vs_cons (e_tup (ds := []) vs_nil (by decide)) vs_nil) (by decide)) ?_ nd
  refine q_forM (xs := rgI ks.length) cI (.one 2) (fun i => [.dat (.list (ks.map cR.e)), .dat (.list ((ordN ks i).map cO.e)), .any, .any, .any, .any]) ⟨.inr rfl, .inr rfl, .inr rfl, .inr rfl, .inr rfl, .inr rfl, trivial⟩ (i_rangeM (EV.eq (e_lenL T.len (e_dat 0)) (by rw [List.length_map])) (by omega) T.range) (g_one 2 nd) (fun _ _ => trivial) (fun i x hx => ?_) ?_ PassesOwn.never
  · obtain ⟨rfl, hi⟩ := rgI_get hx
    refine q_asg (t := .dat (.list (([] : List (List (List Int))).map cO.e))) 3 (e_lst (ds := []) vs_nil (by decide)) ?_ nd
    refine q_forM (xs := ordN ks i) cO (.one 4) (fun j => [.dat (.list (ks.map cR.e)), .dat (.list ((ordN ks i).map cO.e)), .any, .dat (.list ((ordStep ks ((ordN ks i).take j)).map cO.e)), .any, .any]) ⟨.inr rfl, .inr rfl, .inl rfl, .inr rfl, .inr rfl, .inr rfl, trivial⟩ (i_list (e_dat 1)) (g_one 4 nd) (fun _ _ => trivial) (fun j o ho => ?_) ?_ PassesOwn.never
    · refine q_asg (t := .dat (.list ((ordStep ks ((ordN ks i).take (j + 1))).map cO.e))) 3 ?_ (s_nil ⟨.inr rfl, .inr rfl, .inr rfl, .inr rfl, .inl rfl, .inr rfl, trivial⟩) nd
      have ol : o.length = i := ordN_each ks i o (List.mem_of_getElem? ho)
      have e : ((ks.filter fun k => !decide (k ∈ o)).map fun k => o ++ [k]).map cO.e = (ks.filter fun k => !decide (k ∈ o)).map fun k => cO.e (o ++ [k]) := by rw [List.map_map]; rfl
      refine EV.eq (e_catL (e_dat 3) (e_frz (e_lcM cR (.one 5) [("_law_kind", 5)] (fun k => !decide (k ∈ o)) (fun k => cO.e (o ++ [k])) (i_list (e_dat 0)) (fun _ _ _ _ _ => g_one 5 nd) (fun s' H' C cl fp B' k hk => ts_one (t_notInM cR true fl_cR (u65 hr) (e_dat 5) (e_dat 4))) (fun s' H' C cl fp B' k hk _ => EV.eq (e_catT (ds := o.map cR.e) (es := [cR.e k]) (e_dat 4) (e_tup (vs_cons (e_dat 5) vs_nil) (by simp)) (by simp; omega)) (by simp [cTu])) (fun _ _ => trivial) (by omega) (blkOk_by (N := n_l_orders) (sc := defScope s_l_orders) (by decide +kernel)) nd)) ?_) ?_
      · have h2 : (ordStep ks ((ordN ks i).take j)).length ≤ 4 * ((ordN ks i).take j).length := flat_len fun y _ => by
          rw [List.length_map]
          exact Nat.le_trans (List.length_filter_le _ _) h1
        have h3 := List.length_take_le j (ordN ks i)
        have h4 := small i (by omega)
        have h5 := List.length_filter_le (fun k => !decide (k ∈ o)) ks
        have h6 := List.length_take_le' j (ordN ks i)
        simp only [List.length_map]
        omega
      · unfold ordStep
        rw [flat_take ho, List.map_append, e]
    · rw [take_all]
      exact q_asg (t := .dat (.list ((ordN ks (i + 1)).map cO.e))) 1 (e_dat 3) (s_nil ⟨.inr rfl, .inr rfl, .inr rfl, .inl rfl, .inr rfl, .inr rfl, trivial⟩) nd
  · rw [rgI_len]
    exact q_ret (e_dat 1) ⟨rfl, rfl⟩

def c_l_all_rows : Ct := fun ts P => ∃ (cs ps : List Int), cs.length ≤ 4 ∧ ps.length ≤ 4 ∧ (∀ c ∈ cs, 0 ≤ c ∧ c ≤ 4) ∧ (∀ p ∈ ps, 0 ≤ p ∧ p < cs.length) ∧ ts = [.dat (.list (cs.map cI.e)), .dat (cR.e ps)] ∧ P = is (.dat (.list ((allRows cs ps).map cR.e)))
theorem ca_l_all_rows {f : Addr} {fd : FuncData} (T : Bi K mg) (F : Fun K "_law_all_rows" "_law_all_rows" s_l_all_rows f fd) (hm : mg "_law_all_rows" = some (.ref f)) (hb : Binds K fd ["_law_columns", "_law_places"] []) : Ca P w K mg base 1 "_law_all_rows" c_l_all_rows := by
  refine ca_mk F sc_l_all_rows hm hb (fun ts P ⟨_, _, _, _, _, _, h, _⟩ => by rw [h]; rfl) (fun cdv A outer s H E hr B ts Pr c => ?_)
  obtain ⟨cs, ps, h1, h2, h3, h4, rfl, rfl⟩ := c
  have nd := sc_l_all_rows.nd
  have colv : ∀ p ∈ ps, 0 ≤ cs.getD p.toNat 0 ∧ cs.getD p.toNat 0 ≤ 4 := fun p hp => by
    obtain ⟨p0, p1⟩ := h4 p hp
    have hl : p.toNat < cs.length := by omega
    have e : cs.getD p.toNat 0 = cs[p.toNat] := by simp [List.getD, List.getElem?_eq_getElem hl]
    rw [e]
    exact h3 _ (List.getElem_mem hl)
  have small : ∀ i, (allRows cs (ps.take i)).length ≤ 256 ∧ ∀ r ∈ allRows cs (ps.take i), r.length = (ps.take i).length := fun i => by
    have h := allRows_len (cs := cs) (m := 4) (ps := ps.take i) fun p hp => by
      have := colv p (List.mem_of_mem_take hp)
      omega
    refine ⟨Nat.le_trans h.1 (Nat.pow_le_pow_right (n := 4) (j := 4) (by decide) ?_), h.2⟩
    have := List.length_take_le' i ps
    omega
  refine q_asg (t := .dat (.list (([[]] : List (List Int)).map cR.e))) 2 (e_lst (ds := [.tuple []]) (vs_cons (e_tup (ds := []) vs_nil (by decide)) vs_nil) (by decide)) ?_ nd
  refine q_forM (xs := ps) cI (.one 3) (fun i => [.dat (.list (cs.map cI.e)), .dat (cR.e ps), .dat (.list ((allRows cs (ps.take i)).map cR.e)), .any, .any, .any, .any]) ⟨.inr rfl, .inr rfl, .inr rfl, .inr rfl, .inr rfl, .inr rfl, .inr rfl, trivial⟩ (i_tup (e_dat 1)) (g_one 3 nd) (fun _ _ => trivial) (fun i p hp => ?_) ?_ PassesOwn.never
  · have hpm := List.mem_of_getElem? hp
    obtain ⟨p0, p1⟩ := h4 p hpm
    have cv := colv p hpm
    refine q_asg (t := .dat (.list (([] : List (List Int)).map cR.e))) 4 (e_lst (ds := []) vs_nil (by decide)) ?_ nd
    refine q_forM (xs := allRows cs (ps.take i)) cR (.one 5) (fun j => [.dat (.list (cs.map cI.e)), .dat (cR.e ps), .dat (.list ((allRows cs (ps.take i)).map cR.e)), .dat (.int p), .dat (.list ((rowStep cs ((allRows cs (ps.take i)).take j) p).map cR.e)), .any, .any]) ⟨.inr rfl, .inr rfl, .inr rfl, .inr rfl, .inr rfl, .inr rfl, .inr rfl, trivial⟩ (i_list (e_dat 2)) (g_one 5 nd) (fun _ _ => trivial) (fun j r hrr => ?_) ?_ PassesOwn.never
    · refine q_asg (t := .dat (.list ((rowStep cs ((allRows cs (ps.take i)).take (j + 1)) p).map cR.e))) 4 ?_ (s_nil ⟨.inr rfl, .inr rfl, .inr rfl, .inr rfl, .inr rfl, .inl rfl, .inr rfl, trivial⟩) nd
      have rl : r.length ≤ 4 := by
        rw [(small i).2 r (List.mem_of_getElem? hrr)]
        have := List.length_take_le' i ps
        omega
      have e : ((rgI (cs.getD p.toNat 0).toNat).map fun v => r ++ [v]).map cR.e = (rgI (cs.getD p.toNat 0).toNat).map fun v => cR.e (r ++ [v]) := by rw [List.map_map]; rfl
      refine EV.eq (e_catL (e_dat 4) (e_mapM cI (.one 6) [("_law_value", 6)] (fun v => cR.e (r ++ [v])) (i_rangeM (n := (cs.getD p.toNat 0).toNat) (EV.eq (e_ixLI p0 p1 (e_dat 0) (e_dat 3)) (by congr 1; omega)) (by omega) T.range) (fun _ _ _ _ _ => g_one 6 nd) (fun s' H' C cl fp B' v hv => EV.eq (e_catT (ds := r.map cI.e) (es := [cI.e v]) (e_dat 5) (e_tup (vs_cons (e_dat 6) vs_nil) (by simp)) (by simp; omega)) (by simp [cTu])) (fun _ _ => trivial) (by rw [rgI_len]; omega) (blkOk_by (N := n_l_all_rows) (sc := defScope s_l_all_rows) (by decide +kernel)) nd) ?_) ?_
      · have h5 : (rowStep cs ((allRows cs (ps.take i)).take j) p).length ≤ 4 * ((allRows cs (ps.take i)).take j).length := flat_len fun y _ => by
          rw [List.length_map, rgI_len]
          omega
        have h6 := List.length_take_le' j (allRows cs (ps.take i))
        have h7 := (small i).1
        simp only [List.length_map, rgI_len]
        omega
      · unfold rowStep
        rw [flat_take hrr, List.map_append, e]
    · rw [take_all]
      refine q_asg (t := .dat (.list ((allRows cs (ps.take (i + 1))).map cR.e))) 2 (EV.eq (e_dat 4) ?_) (s_nil ⟨.inr rfl, .inr rfl, .inr rfl, .inl rfl, .inl rfl, .inr rfl, .inr rfl, trivial⟩) nd
      unfold allRows
      rw [fold_take hp]
  · rw [take_all]
    exact q_ret (e_dat 2) ⟨rfl, rfl⟩

theorem wayStep_take {ps one other : List Int} {o : List (List Int)} {i : Nat} {k : List Int} (h : o[i]? = some k) : (o.take (i + 1)).foldl (wayStep ps one other) ([], []) = wayStep ps one other ((o.take i).foldl (wayStep ps one other) ([], [])) k := fold_take h
theorem way_len (ps one other : List Int) (hp : ps.length ≤ 3) (o : List (List Int)) : (o.foldl (wayStep ps one other) ([], [])).1.length ≤ 8 * o.length ∧ (o.foldl (wayStep ps one other) ([], [])).2.length ≤ 3 * o.length := by
  suffices h : ∀ (z : List (List Int) × List Int), (o.foldl (wayStep ps one other) z).1.length ≤ z.1.length + 8 * o.length ∧ (o.foldl (wayStep ps one other) z).2.length ≤ z.2.length + 3 * o.length by
    simpa using h ([], [])
  induction o with
  | nil => intro z; simp
  | cons k o ih =>
    intro z
    obtain ⟨h1, h2⟩ := ih (wayStep ps one other z k)
    have e1 : (wayAt ps one other z.2 k).length ≤ 8 := by
      unfold wayAt
      rw [List.length_map]
      exact Nat.le_trans (lots_len _) (Nat.pow_le_pow_right (n := 2) (j := 3) (by decide) (Nat.le_trans (placesOf_len _ _ _ _) hp))
    have e2 := placesOf_len ps one other k
    simp only [wayStep, List.length_append, List.foldl_cons, List.length_cons] at h1 h2 ⊢
    constructor <;> omega
def c_l_way : Ct := fun ts P => ∃ (ps one other : List Int) (o : List (List Int)) (b : Bool), ps.length ≤ 3 ∧ one.length = ps.length ∧ other.length = ps.length ∧ o.length ≤ 4 ∧ ts = [.dat (cR.e ps), .dat (cR.e one), .dat (cR.e other), .dat (dS b (o.map cR.e))] ∧ P = is (.dat (.list ((way ps one other o).map cR.e)))
theorem ca_l_way {f : Addr} {fd : FuncData} (T : Bi K mg) (F : Fun K "_law_way" "_law_way" s_l_way f fd) (hm : mg "_law_way" = some (.ref f)) (hb : Binds K fd ["_law_places", "_law_one", "_law_other", "_law_order"] [])
    (D1 : Ca P w K mg base 1 "_law_at" c_l_at) (D2 : Ca P w K mg base 1 "_law_lots" c_l_lots) (D3 : Ca P w K mg base 1 "_law_set" c_l_set) : Ca P w K mg base 2 "_law_way" c_l_way := by
  refine ca_mk F sc_l_way hm hb (fun ts P ⟨_, _, _, _, _, _, _, _, _, h, _⟩ => by rw [h]; rfl) (fun cdv A outer s H E hr B ts Pr c => ?_)
  obtain ⟨ps, one, other, o, b, h1, h2, h3, h4, rfl, rfl⟩ := c
  have nd := sc_l_way.nd
  have small : ∀ i, ((o.take i).foldl (wayStep ps one other) ([], [])).1.length ≤ 32 ∧ ((o.take i).foldl (wayStep ps one other) ([], [])).2.length ≤ 12 := fun i => by
    have h := way_len ps one other h1 (o.take i)
    have := List.length_take_le' i o
    omega
  refine q_unp (.two 4 5) (d := .tuple [.list [], .list []]) (e_tup (vs_cons (e_lst (ds := []) vs_nil (by decide)) (vs_cons (e_lst (ds := []) vs_nil (by decide)) vs_nil)) (by decide)) (g_two 4 5 rfl nd) ⟨_, _, rfl⟩ ?_
  refine q_forM (xs := o) cR (.one 6) (fun i => [.dat (cR.e ps), .dat (cR.e one), .dat (cR.e other), .dat (dS b (o.map cR.e)), .dat (.list (((o.take i).foldl (wayStep ps one other) ([], [])).1.map cR.e)), .dat (.list (((o.take i).foldl (wayStep ps one other) ([], [])).2.map cI.e)), .any, .any, .any]) ⟨.inr rfl, .inr rfl, .inr rfl, .inr rfl, .inr rfl, .inr rfl, .inr rfl, .inr rfl, .inr rfl, trivial⟩ (i_dS b (e_dat 3)) (g_one 6 nd) (fun _ _ => trivial) (fun i k hk => ?_) ?_ PassesOwn.never
  · refine q_asg (t := .dat (.list ((placesOf ps one other k).map cI.e))) 7 (e_callD D1 hr (as_cons (e_dat 0) (as_cons (e_dat 1) (as_cons (e_dat 2) (as_cons (e_dat 6) as_nil)))) ⟨ps, one, other, k, by omega, h2, h3, rfl, rfl⟩) ?_ nd
    have e1 := placesOf_len ps one other k
    have e2 := lots_len (placesOf ps one other k)
    have e3 : 2 ^ (placesOf ps one other k).length ≤ 8 := Nat.pow_le_pow_right (n := 2) (j := 3) (by decide) (by omega)
    have sm := small i
    refine q_asg (t := .dat (.list (((o.take (i + 1)).foldl (wayStep ps one other) ([], [])).1.map cR.e))) 4 ?_ ?_ nd
    · refine EV.eq (e_catL (e_dat 4) (e_mapM cR (.one 8) [("_law_lot", 8)] (fun l => cR.e (rowSet one other (((o.take i).foldl (wayStep ps one other) ([], [])).2 ++ l))) (i_list (e_callD D2 hr (as_cons (e_dat 7) as_nil) ⟨placesOf ps one other k, by omega, rfl, rfl⟩)) (fun _ _ _ _ _ => g_one 8 nd) (fun s' H' C cl fp B' l hl => ?_) (fun _ _ => trivial) (by omega) (blkOk_by (N := n_l_way) (sc := defScope s_l_way) (by decide +kernel)) nd) ?_) ?_
      · have ll : l.length ≤ 3 := Nat.le_trans (lots_short (ps := placesOf ps one other k) l (List.mem_of_mem_tail hl)) (by omega)
        exact e_callD D3 hr (as_cons (e_dat 1) (as_cons (e_dat 2) (as_cons (e_catL (ds := (((o.take i).foldl (wayStep ps one other) ([], [])).2).map cI.e) (es := l.map cI.e) (e_dat 5) (e_frz (e_listTO T.list (e_dat 8))) (by simp only [List.length_map]; omega)) as_nil))) ⟨one, other, _, false, by omega, by omega, by rw [List.length_append]; omega, by simp [dS], rfl⟩
      · simp only [List.length_map]
        omega
      · rw [wayStep_take hk]
        simp only [wayStep, wayAt, List.map_append, List.map_map]
        rfl
    · refine q_asg (t := .dat (.list (((o.take (i + 1)).foldl (wayStep ps one other) ([], [])).2.map cI.e))) 5 (EV.eq (e_catL (e_dat 5) (e_dat 7) ?_) ?_) (s_nil ⟨.inr rfl, .inr rfl, .inr rfl, .inr rfl, .inr rfl, .inr rfl, .inl rfl, .inl rfl, .inr rfl, trivial⟩) nd
      · simp only [List.length_map]
        omega
      · rw [wayStep_take hk]
        simp only [wayStep, List.map_append]
  · rw [take_all]
    exact q_ret (e_dat 4) ⟨rfl, rfl⟩
end
end Mk
namespace Mk
open PySem PySem.Spec PyProof.Rows L2

/-! ### loops that keep a word, may return, may break -/
abbrev wkI (A : En) (I : Prop) : En → Prop := fun G => GLe G A ∧ I
section
variable {β : Type} {X : Cx} {B : Bs} {G : En} {tg iter : Expr} {body rest : List Stmt} {p : Po} {pos : Pos} {xs : List β} {bkP : En → Prop}
theorem q_forB (c : Cod β) (T : Tg) (Gi : Nat → En) (I : Nat → Prop) (i0 : I 0) (h0 : GLe G (Gi 0)) (hi : EI X B (Gi 0) tg iter (is (xs.map c.e))) (hg : PG X tg (T.g X.K)) (fit : ∀ x ∈ xs, T.fits (c.e x))
    (hb : ∀ i x, xs[i]? = some x → I i → SS X B (T.to (c.e x) (Gi i)) body { nx := wkI (Gi (i + 1)) (I (i + 1)), ct := wkI (Gi (i + 1)) (I (i + 1)), bk := bkP, rt := p.rt }) (hr : I xs.length → SS X B (Gi xs.length) rest p) (hrb : ∀ G', bkP G' → SS X B G' rest p)
    (hp : PassesOwn (model X.prog X.w) X.A X.env X.xe) (hc : X.calm = true := by rfl) (hs : ∀ x, foldedSetIterable iter X.env x = pure x := by intro _; rfl) : SS X B G (.For tg iter body [] pos :: rest) p := by
  refine ss_le h0 ?_
  refine s_cons (Mid := fun G' => (G' = Gi xs.length ∧ I xs.length) ∨ bkP G') (s_for T (fun es i G' => es = xs.map c.e ∧ G' = Gi i ∧ I i) hi hg (fun es h d hd => by
      rw [show es = xs.map c.e from h] at hd
      obtain ⟨x, hx, rfl⟩ := List.mem_map.mp hd
      exact fit x hx) (fun es h => ⟨h, rfl, i0⟩) (fun es i d G1 h hd ⟨_, e, ii⟩ => ?_) (fun es G' h ⟨_, e, ii⟩ => ?_) hp hc hs) (fun G' h => ?_)
  · rw [show es = xs.map c.e from h] at hd
    obtain ⟨x, hx, rfl⟩ := get_map hd
    rw [e]
    refine PSs.weak (hb i x hx ii) fun D s H ⟨F, g, w, q1, q2, q3, q4⟩ => ⟨F, g, w, fun G' s' F' H' m g' e' w' => q1 (Gi (i + 1)) s' F' H' ⟨h, rfl, m.2⟩ g' e' (w'.wk m.1), q2, fun G' s' F' H' m => q3 G' s' F' H' (.inr m), fun G' s' F' H' m g' e' w' => q4 (Gi (i + 1)) s' F' H' ⟨h, rfl, m.2⟩ g' e' (w'.wk m.1)⟩
  · rw [show es = xs.map c.e from h, List.length_map] at e ii
    exact .inl ⟨e, ii⟩
  · rcases h with ⟨e, ii⟩ | h
    · rw [e]
      exact hr ii
    · exact hrb G' h
theorem q_forI (c : Cod β) (T : Tg) (Gi : Nat → En) (I : Nat → Prop) (i0 : I 0) (h0 : GLe G (Gi 0)) (hi : EI X B (Gi 0) tg iter (is (xs.map c.e))) (hg : PG X tg (T.g X.K)) (fit : ∀ x ∈ xs, T.fits (c.e x))
    (hb : ∀ i x, xs[i]? = some x → I i → SS X B (T.to (c.e x) (Gi i)) body { nx := wkI (Gi (i + 1)) (I (i + 1)), ct := wkI (Gi (i + 1)) (I (i + 1)), bk := fun _ => False, rt := p.rt }) (hr : I xs.length → SS X B (Gi xs.length) rest p)
    (hp : PassesOwn (model X.prog X.w) X.A X.env X.xe) (hc : X.calm = true := by rfl) (hs : ∀ x, foldedSetIterable iter X.env x = pure x := by intro _; rfl) : SS X B G (.For tg iter body [] pos :: rest) p :=
  q_forB c T Gi I i0 h0 hi hg fit hb hr (fun _ h => h.elim) hp hc hs
end
/-- all of the first i, and the next -/
theorem all_take {β : Type} {p : β → Prop} {xs : List β} {i : Nat} {x : β} (h : xs[i]? = some x) (a : ∀ y ∈ xs.take i, p y) (b : p x) : ∀ y ∈ xs.take (i + 1), p y := fun y hy => by
  rw [List.take_succ, h] at hy
  rcases List.mem_append.mp hy with z | z
  · exact a y z
  · simp at z
    rw [z]
    exact b

/-! ### a check: places, rows -/
structure CkOk (c : List Int × List (List Int)) : Prop where
  pl : c.1.length ≤ 3
  rl : c.2.length ≤ 8
  el : ∀ r ∈ c.2, r.length = c.1.length
/-- what kind k may bring a pair: the lots' rows -/
def LetPair (ps : List Int) (rows : List (List Int)) (left : List (List Int)) (k one other : List Int) : Prop := (∀ u ∈ unlikeP ps one other, u ∈ left) → ∀ l ∈ lots (placesOf ps one other k), rowSet one other l ∈ rows
def LetC (left : List (List Int)) (k : List Int) (c : List Int × List (List Int)) : Prop := ∀ one ∈ c.2, ∀ other ∈ c.2, LetPair c.1 c.2 left k one other
def LetP (checks : List (List Int × List (List Int))) (left : List (List Int)) (k : List Int) : Prop := ∀ c ∈ checks, LetC left k c
section
variable {P : Program} {w : World} {K : PySem.W.Frag} {mg : Str → Option Value} {base : Heap}
def c_l_let : Ct := fun ts P => ∃ (cs : List (List Int × List (List Int))) (left : List (List Int)) (k : List Int) (b : Bool), (∀ c ∈ cs, CkOk c) ∧ left.length ≤ 100 ∧ (b = true ↔ LetP cs left k) ∧ ts = [.dat (.tuple (cs.map cC.e)), .dat (.list (left.map cR.e)), .dat (cR.e k)] ∧ P = is (.dat (.bool b))
theorem ca_l_let {f : Addr} {fd : FuncData} (T : Bi K mg) (F : Fun K "_law_let" "_law_let" s_l_let f fd) (hm : mg "_law_let" = some (.ref f)) (hb : Binds K fd ["_law_checks", "_law_left", "_law_kind"] [])
    (D1 : Ca P w K mg base 1 "_law_at" c_l_at) (D2 : Ca P w K mg base 1 "_law_lots" c_l_lots) (D3 : Ca P w K mg base 1 "_law_set" c_l_set) (D4 : Ca P w K mg base 1 "_law_unlike" c_l_unlike) : Ca P w K mg base 2 "_law_let" c_l_let := by
  refine ca_mk F sc_l_let hm hb (fun ts P ⟨_, _, _, _, _, _, _, h, _⟩ => by rw [h]; rfl) (fun cdv A outer s H E hr B ts Pr c => ?_)
  obtain ⟨cs, left, k, b, h1, h2, h3, rfl, rfl⟩ := c
  have nd := sc_l_let.nd
  let base9 : En := [.dat (.tuple (cs.map cC.e)), .dat (.list (left.map cR.e)), .dat (cR.e k), .any, .any, .any, .any, .any, .any]
  refine q_forI (xs := cs) cC (.two 3 4) (fun i => base9) (fun i => ∀ c ∈ cs.take i, LetC left k c) (by simp) (GLe.refl _) (i_tup (e_dat 0)) (g_two 3 4 rfl nd) (fun _ _ => ⟨_, _, rfl⟩) (fun i c hc hi => ?_) (fun hi => ?_) PassesOwn.never
  · have hcm := List.mem_of_getElem? hc
    have ok := h1 c hcm
    refine q_forI (xs := c.2) cR (.one 5) (fun i => [.dat (.tuple (cs.map cC.e)), .dat (.list (left.map cR.e)), .dat (cR.e k), .dat (cR.e c.1), .dat (cO.e c.2), .any, .any, .any, .any]) (fun i => ∀ one ∈ c.2.take i, ∀ other ∈ c.2, LetPair c.1 c.2 left k one other) (by simp) (GLe.refl _) (i_tup (e_dat 4)) (g_one 5 nd) (fun _ _ => trivial) (fun i1 one ho hi1 => ?_) (fun hi1 => ?_) PassesOwn.never
    · have hom := List.mem_of_getElem? ho
      have l1 := ok.el one hom
      refine q_forI (xs := c.2) cR (.one 6) (fun i => [.dat (.tuple (cs.map cC.e)), .dat (.list (left.map cR.e)), .dat (cR.e k), .dat (cR.e c.1), .dat (cO.e c.2), .dat (cR.e one), .any, .any, .any]) (fun i => ∀ other ∈ c.2.take i, LetPair c.1 c.2 left k one other) (by simp) (GLe.refl _) (i_tup (e_dat 4)) (g_one 6 nd) (fun _ _ => trivial) (fun i2 other ho2 hi2 => ?_) (fun hi2 => ?_) PassesOwn.never
      · have hom2 := List.mem_of_getElem? ho2
        have l2 := ok.el other hom2
        have pl := ok.pl
        have zl := zpP3_len c.1 one other
        have ul : (unlikeP c.1 one other).length ≤ 3 := by
          unfold unlikeP
          rw [List.length_map]
          exact Nat.le_trans (List.length_filter_le _ _) (by omega)
        refine s_one (s_if (k := true) (P := is ((unlikeP c.1 one other).all fun u => decide (u ∈ left))) (t_val (e_allM cR (.one 8) [("_law_own", 8)] (fun u => decide (u ∈ left)) T.all (i_list (e_callD D4 hr (as_cons (e_dat 3) (as_cons (e_dat 5) (as_cons (e_dat 6) as_nil))) ⟨c.1, one, other, by omega, rfl, rfl⟩)) (fun _ _ _ _ _ => g_one 8 nd) (fun s' H' C cl fp B' u hu => e_inM cR false fl_cR (u65 hr) (e_dat 8) (e_dat 1)) (fun _ _ => trivial) (by omega) (blkOk_by (N := n_l_let) (sc := defScope s_l_let) (by decide +kernel)) nd)) (fun ht => ?_) (fun hf => ?_))
        · have hsub : ∀ u ∈ unlikeP c.1 one other, u ∈ left := fun u hu => of_decide_eq_true (List.all_eq_true.mp ht.symm u hu)
          have e1 := placesOf_len c.1 one other k
          refine q_forI (xs := lots (placesOf c.1 one other k)) cR (.one 7) (fun i => [.dat (.tuple (cs.map cC.e)), .dat (.list (left.map cR.e)), .dat (cR.e k), .dat (cR.e c.1), .dat (cO.e c.2), .dat (cR.e one), .dat (cR.e other), .any, .any]) (fun i => ∀ l ∈ (lots (placesOf c.1 one other k)).take i, rowSet one other l ∈ c.2) (by simp) (GLe.refl _) (i_list (e_callD D2 hr (as_cons (e_callD D1 hr (as_cons (e_dat 3) (as_cons (e_dat 5) (as_cons (e_dat 6) (as_cons (e_dat 2) as_nil)))) ⟨c.1, one, other, k, by omega, l1, l2, rfl, rfl⟩) as_nil) ⟨placesOf c.1 one other k, by omega, rfl, rfl⟩)) (g_one 7 nd) (fun _ _ => trivial) (fun i3 l hl hi3 => ?_) (fun hi3 => ?_) PassesOwn.never
          · have ll : l.length ≤ 3 := Nat.le_trans (lots_short (ps := placesOf c.1 one other k) l (List.mem_of_mem_tail (List.mem_of_getElem? hl))) (by omega)
            refine s_one (s_if (k := true) (P := is (!decide (rowSet one other l ∈ c.2))) (t_notInM cR true fl_cR (u65 hr) (e_callD D3 hr (as_cons (e_dat 5) (as_cons (e_dat 6) (as_cons (e_dat 7) as_nil))) ⟨one, other, l, true, by omega, by omega, by omega, rfl, rfl⟩) (e_dat 4)) (fun ht => ?_) (fun hf => ?_))
            · have no : rowSet one other l ∉ c.2 := by
                have z : (!decide (rowSet one other l ∈ c.2)) = true := ht.symm
                simpa using z
              have bf : b = false := by
                cases b with
                | false => rfl
                | true => exact absurd (h3.mp rfl c hcm one hom other hom2 hsub l (List.mem_of_getElem? hl)) no
              exact q_ret (t := .dat (.bool false)) e_bl ⟨by rw [bf], rfl⟩
            · have yes : rowSet one other l ∈ c.2 := by
                have z : (!decide (rowSet one other l ∈ c.2)) = false := hf.symm
                simpa using z
              exact s_nil ⟨⟨.inr rfl, .inr rfl, .inr rfl, .inr rfl, .inr rfl, .inr rfl, .inr rfl, .inl rfl, .inr rfl, trivial⟩, all_take hl hi3 yes⟩
          · rw [take_all] at hi3
            exact s_nil ⟨⟨.inr rfl, .inr rfl, .inr rfl, .inr rfl, .inr rfl, .inr rfl, .inl rfl, .inr rfl, .inr rfl, trivial⟩, all_take ho2 hi2 fun _ => hi3⟩
        · have no : ¬ ∀ u ∈ unlikeP c.1 one other, u ∈ left := fun z => by
            have e : ((unlikeP c.1 one other).all fun u => decide (u ∈ left)) = true := List.all_eq_true.mpr fun u hu => decide_eq_true (z u hu)
            rw [e] at hf
            cases hf
          exact s_nil ⟨⟨.inr rfl, .inr rfl, .inr rfl, .inr rfl, .inr rfl, .inr rfl, .inl rfl, .inr rfl, .inr rfl, trivial⟩, all_take ho2 hi2 fun z => absurd z no⟩
      · rw [take_all] at hi2
        exact s_nil ⟨⟨.inr rfl, .inr rfl, .inr rfl, .inr rfl, .inr rfl, .inl rfl, .inr rfl, .inr rfl, .inr rfl, trivial⟩, all_take ho hi1 hi2⟩
    · rw [take_all] at hi1
      exact s_nil ⟨⟨.inr rfl, .inr rfl, .inr rfl, .inl rfl, .inl rfl, .inr rfl, .inr rfl, .inr rfl, .inr rfl, trivial⟩, all_take hc hi hi1⟩
  · rw [take_all] at hi
    exact q_ret (t := .dat (.bool true)) e_bl ⟨by rw [h3.mpr hi], rfl⟩
end
end Mk
namespace PySem.W
open PySem PySem.Calls PyProof.Rows
section
variable {prog : Program} {w : World} {A : Around} {E : Value → Shared → Prop} {s : Shared}
/-- tuples, the first of them empty: they are compared by tuple's own order -/
theorem oneLt_tup {xs ys : List PyData} {a b : Value} {as bs : List Addr} {Q : Bool → Shared → Prop} (ra : Reads s.heap a (.tuple xs) as) (rb : Reads s.heap b (.tuple ys) bs) (hal : alikeAll xs ys = true)
    (hu : A.units + min (PyData.tuple xs).depth (PyData.tuple ys).depth < cLine) (hq : Q (dataLt (.tuple xs) (.tuple ys)) s) : wpAny (model prog w) A (oneLt' true a b) Q E s := by
  cases ra with
  | @tuple l o vs n _ as₁ h1 h2 h3 h4 =>
    cases rb with
    | @tuple l' o' vs' n' _ bs₁ k1 k2 k3 k4 =>
      have n1 : vs.size = xs.length := by simpa using SeqAt.ReadsAll.length _ _ _ h4
      have n2 : vs'.size = ys.length := by simpa using SeqAt.ReadsAll.length _ _ _ k4
      have ir : A.units + 1 + min (PyData.depthAll xs) (PyData.depthAll ys) < cLine := SeqAt.room_in hu
      have rh : A.units < cLine := SeqAt.room_here hu
      rw [dataLt_tuple, ← firstLt_toks xs ys hal, ← n1, ← n2] at hq
      rw [oneLt'_eq]
      simp only [if_true]
      refine wpAny_bind (wpAny_cRoomFor rh ?_)
      obtain ⟨⟨cls, dd, data, sl⟩, ho, hc, m, hd⟩ : s.heap.IsTuple l vs := ⟨_, h1, h2, _, h3⟩
      obtain ⟨⟨cls2, dd2, data2, sl2⟩, ho2, hc2, m2, hd2⟩ : s.heap.IsTuple l' vs' := ⟨_, k1, k2, _, k3⟩
      simp only at hc hd hc2 hd2
      subst hc hd hc2 hd2
      refine wpAny_bind (wpAny_callSpecialIfBound?_slot (T := "tuple") ⟨_, ho, rfl⟩ F.slot_tuple_lt (call_meets F.slot_tuple_lt ⟨_, ho, rfl⟩ F.entry_tuple_lt (F.args_tuple_lt_2 _ _) (SeqAt.tuple_ltAt l l' vs vs' m m2 dd dd2 sl sl2 (SeqAt.pairEq xs ys) (fun j => dataLt (xs.getD j .none) (ys.getD j .none))) ⟨ho, ho2, fun j j1 j2 => ?_, fun j j1 j2 hj => ?_, ?_⟩))
      · have := eqAt_alikeAll xs ys A.in1 s vs.toList vs'.toList _ _ h4 k4 hal ir j (by simpa using j1) (by simpa using j2)
        simpa using this
      · have := rcLt_alikeAll xs ys A.in1 s vs.toList vs'.toList _ _ h4 k4 hal ir j (by simpa using j1) (by simpa using j2) hj
        simpa using this
      · exact wpAny_truthy_bool hq
/-- the first item of a tuple, if any -/
theorem first_tup {M : Model} {A : Around} {E : Value → Shared → Prop} {v : Value} {xs : List PyData} {as : List Addr} (r : Reads s.heap v (.tuple xs) as) : ∃ f, (xs = [] → f = none) ∧ ∀ Q' : Option Value → Shared → Prop, Q' f s → wpAny M A (firstOfTuple' v) Q' E s := by
  cases r with
  | @tuple l o vs n _ _ h1 h2 h3 h4 =>
    refine ⟨vs[0]?, fun e => ?_, fun Q' h => ?_⟩
    · subst e
      have n1 : vs.size = ([] : List PyData).length := by simpa using SeqAt.ReadsAll.length _ _ _ h4
      exact Array.getElem?_eq_none (by rw [n1]; exact Nat.le_refl _)
    · rw [kas_first_eq]
      refine wpAny_bind (Looks.here (show Looks M s.heap (typeOf (.ref l)) o.cls from (Looks.ld h1).andThen .now) ?_)
      rw [h2, if_neg (by first | decide | simp)]
      exact wpAny_bind (listItems_at h1 h3 (wpAny_pure h))
theorem firsts_tup {M : Model} {A : Around} {E : Value → Shared → Prop} : ∀ {vs : List Value} {ds : List PyData}, EachIs (fun v d => ∃ as, Reads s.heap v d as) vs ds → (∀ d ∈ ds, ∃ xs, d = .tuple xs) →
    ∃ fs : List (Option Value), (∀ rest, ds = .tuple [] :: rest → ∃ fr, fs = none :: fr) ∧ ∀ Q : List (Option Value) → Shared → Prop, Q fs s → wpAny M A (vs.mapM firstOfTuple') Q E s
  | _, _, .nil, _ => ⟨[], fun rest e => (by cases e), fun Q h => by rw [List.mapM_nil]; exact wpAny_pure h⟩
  | _, _, .cons (b := d) ⟨as, r⟩ t, ht => by
    obtain ⟨fs, _, h2⟩ := firsts_tup (M := M) (A := A) (E := E) t fun d hd => ht d (List.mem_cons_of_mem _ hd)
    obtain ⟨xs, rfl⟩ := ht d List.mem_cons_self
    obtain ⟨f, k1, k2⟩ := first_tup (M := M) (A := A) (E := E) r
    refine ⟨f :: fs, fun rest e => ?_, fun Q h => ?_⟩
    · have e1 : xs = [] := by
        injection e with e _
        injection e
      exact ⟨fs, by rw [k1 e1]⟩
    · rw [List.mapM_cons]
      exact wpAny_bind (k2 _ (wpAny_bind (h2 (fun bs s' => wpAny M A (pure (f :: bs)) Q E s') (wpAny_pure h))))
/-- tuples, the first of them empty, can be sorted -/
theorem SortsAt.empty {vs : List Value} {ds rest : List PyData} (e : EachIs (fun v d => ∃ as, Reads s.heap v d as) vs ds) (hal : AllAlike ds) (ht : ∀ d ∈ ds, ∃ xs, d = .tuple xs) (h0 : ds = .tuple [] :: rest) (hu : ∀ d, d ∈ ds → A.units + d.depth < cLine) : SortsAt prog w A s (dataKind s.heap ds) vs := by
  have room : ∀ {d d' : PyData}, d ∈ ds → A.units + min d.depth d'.depth < cLine := fun {d d'} hd => Nat.lt_of_le_of_lt (Nat.add_le_add_left (Nat.min_le_left _ _) _) (hu d hd)
  refine ⟨fun v hv => ?_, oneType', ?_, fun h2 E Q hq => ?_⟩
  · obtain ⟨d, hd, as, r⟩ := e.left v hv
    exact ⟨_, dataKind_some hal hd r⟩
  · intro E x y a b Q ha hb hq
    obtain ⟨d, as, hd, ra, rfl⟩ := dataKind_inv ha
    obtain ⟨d', as', hd', rb, rfl⟩ := dataKind_inv hb
    have hdd := hal d hd d' hd'
    have hroom := room (d' := d') hd
    obtain ⟨x1, rfl⟩ := ht d hd
    obtain ⟨x2, rfl⟩ := ht d' hd'
    rw [keyLt'_oneType]
    exact oneLt_tup ra rb (by simpa [alike] using hdd) hroom hq
  · obtain ⟨fs, k1, k2⟩ := firsts_tup (M := model prog w) (A := A) (E := E) e ht
    obtain ⟨fr, rfl⟩ := k1 rest h0
    rw [kat_kind_eq, List.mapM_toArray, map_eq_pure_bind]
    refine wpAny_bind (wpAny_bind (k2 _ (wpAny_pure ?_)))
    rw [if_neg (by simp), if_neg (by simp)]
    rw [oneTypeOnly'_eq, List.mapM_toArray, map_eq_pure_bind]
    refine wpAny_bind (wpAny_bind (wpAny_bind (kas_mapM (r := Value.type "tuple") _ (fun v hv Q' hq => ?_) (wpAny_pure ?_))))
    · obtain ⟨d, hd, as, r⟩ := e.left v hv
      obtain ⟨xs, rfl⟩ := ht d hd
      exact (looks_reads r).here hq
    · obtain ⟨v₁, r, rfl⟩ : ∃ v₁ r, vs = v₁ :: r := by
        match vs, h2 with
        | [], h2 => simp at h2
        | v₁ :: r, _ => exact ⟨v₁, r, rfl⟩
      have hall : ((List.map (fun _ => Value.type "tuple") (v₁ :: r)).toArray.all fun x => x == Value.type "tuple") = true := by
        simp only [List.all_toArray, List.all_map, List.all_eq_true]
        intro _ _
        rfl
      have h0' : (List.map (fun _ => Value.type "tuple") (v₁ :: r)).toArray[0]? = some (Value.type "tuple") := by simp
      rw [h0']
      simp only [hall, if_true]
      exact wpAny_pure (wpAny_pure hq)

/-! sorted of a tuple -/
theorem collect_tup {l : Addr} {vs : List Value} {Q : List Value → Shared → Prop} (hl : s.heap.IsTuple l vs.toArray)
    (h : Q vs { s with heap := (s.heap.push (seqObj "list" #[] 0)).update s.heap.objs.size (Obj.mapSeq (· ++ vs.toArray)) }) (hsz : vs.length ≤ sizeLine) :
    wpAny (model prog w) A (collect (.ref l)) Q E s := by
  obtain ⟨o, ho, hc, n, hd⟩ := id hl
  unfold collect
  refine wpAny_bind (wpAny_runValue (codeAny_builtin entry_proto_collect' ?_))
  show wpAny _ _ (do again (.builtin "list.__iadd__" ⟨[← newList [], .ref l], []⟩)) _ _ s
  refine wpAny_bind (wpAny_newList (wpAny_pure ⟨Code.quiet_builtin _ (by decide +kernel), codeAny_builtin entry_list_iadd' ?_⟩))
  show wpAny _ _ (Builtin.List.listExtendWith (.ref s.heap.objs.size) (.ref l) (.ref s.heap.objs.size)) _ _ { s with heap := s.heap.push (seqObj "list" #[] 0) }
  unfold Builtin.List.listExtendWith
  have ho' : (s.heap.push (seqObj "list" #[] 0)).get? l = some o := Heap.get?_push_of_some _ ho
  refine wpAny_bind (wpAny_typeOf (T := "tuple") ⟨o, ho', hc⟩ ?_)
  have ht : (Value.type "tuple" == Value.type "tuple") = true := by rfl
  rw [if_pos (by rw [ht]; simp)]
  refine wpAny_bind (listItems_at ho' hd ?_)
  refine wpAny_bind (listItems_at (xs := #[]) (n := 0) (Heap.get?_push_size _ rfl) rfl ?_)
  rw [if_neg (by simp)]
  refine wpAny_bind (listUpdate_at (xs := #[]) (n := 0) (Heap.get?_push_size _ rfl) rfl ?_ (Nat.zero_le _) (by show (#[] ++ vs.toArray).size ≤ sizeLine + 1; simp only [Array.size_append, List.size_toArray, List.length_nil]; omega))
  refine wpAny_pure ?_
  show wpAny (model prog w) A (do
      let o ← load s.heap.objs.size
      match o.data with
      | .seq xs _ => pure xs.toList
      | _ => unsupported "internal:collect") Q E { s with heap := (s.heap.push (seqObj "list" #[] 0)).update s.heap.objs.size (Obj.mapSeq (· ++ vs.toArray)) }
  refine wpAny_bind (wpAny_load (get?_update_seq (Heap.get?_push_size _ rfl) _) ?_)
  show wpAny _ _ (pure ((#[] : Array Value) ++ vs.toArray).toList) Q E _
  rw [show ((#[] : Array Value) ++ vs.toArray).toList = vs by simp]
  exact wpAny_pure h
theorem sorted_tup_vals {κ : PyProof.Rows.KeyKind} {l : Addr} {vs : List Value} {Q : Value → Shared → Prop} (hl : s.heap.IsTuple l vs.toArray) (S : SortsAt prog w A.in1.in1 { s with heap := sortingHeap (copyHeap s.heap vs) (s.heap.objs.size + 1) vs } κ vs) (hL : vs.length ≤ sizeLine)
    (h : Q (.ref (s.heap.objs.size + 1)) { s with heap := sortedAll s.heap vs (sortVals κ false vs vs).toArray }) : wpAny (model prog w) A (call (.builtin "sorted") [.ref l]) Q E s := by
  refine call_function_entry_kw kind_sorted plain_sorted entry_sorted (args_sorted1 _) ?_
  unfold Builtin.«sorted»
  refine wpAny_bind (m := checkCount "sorted" 1 1 _) (wpAny_pure ?_)
  refine wpAny_bind (collect_tup hl ?_ hL)
  refine wpAny_bind (wpAny_newList ?_ hL)
  have hsz : ((s.heap.push (seqObj "list" #[] 0)).update s.heap.objs.size (Obj.mapSeq (· ++ vs.toArray))).objs.size = s.heap.objs.size + 1 := by
    rw [Heap.size_update, size_push']
  show wpAny _ _ _ _ _ { s with heap := copyHeap s.heap vs }
  rw [hsz]
  refine wpAny_bind (wpAny_holding (wpAny_call_entry_kw slot_list_sort ⟨_, copyHeap_at s.heap vs, rfl⟩ entry_list_sort ?body (args_list_sort _)))
  case body =>
    show wpAny (model prog w) A.in1.in1 (Builtin.«list.sort» ⟨[.ref (s.heap.objs.size + 1)], []⟩) _ _ _
    refine wpAny_mono (list_sort_vals (P := fun f s' => f = .done (.ret .none) ∧ Q (.ref (s.heap.objs.size + 1)) s') (E := E) (s := { s with heap := copyHeap s.heap vs }) (copyHeap_at s.heap vs) S hL ⟨rfl, h⟩) (fun f s' hf => ?_) fun _ _ e => ?_
    · obtain ⟨rfl, hq⟩ := hf
      exact ⟨_, rfl, wpAny_pure ⟨_, rfl, hq⟩⟩
    · exact e
end
end PySem.W
namespace Mk
open PySem PySem.Spec PyProof.Rows L2

/-! ### sorted rows -/
def sortR (xs : List (List Int)) : List (List Int) := xs.mergeSort fun a b => decide (a ≤ b)
theorem dataLe_rowT : PySem.W.dataLe false cR.e = fun a b => decide (a ≤ b) := by
  funext p q
  show (!PySem.W.dataLt (.tuple (q.map .int)) (.tuple (p.map .int))) = _
  rw [PySem.W.dataLt_tuple]
  show (!PySem.W.rowLt (q.map .int) (p.map .int)) = _
  rw [PySem.W.dataLt_ints]
  by_cases h : q < p
  · have h' : ¬ p ≤ q := fun r => List.not_lt.mpr r h
    simp [h, h']
  · have h' : p ≤ q := List.not_lt.mp h
    simp [h, h']
theorem sortR_perm (xs : List (List Int)) : (sortR xs).Perm xs := List.mergeSort_perm _ _
theorem sortR_len (xs : List (List Int)) : (sortR xs).length = xs.length := (sortR_perm xs).length_eq
theorem le_total' (a b : List Int) : a ≤ b ∨ b ≤ a := by
  by_cases h : b < a
  · exact .inr (List.le_of_lt h)
  · exact .inl (List.not_lt.mp h)
theorem le_trans' {a b c : List Int} (h : a ≤ b) (h2 : b ≤ c) : a ≤ c := List.le_trans h h2
theorem le_antisymm' {a b : List Int} (h : a ≤ b) (h2 : b ≤ a) : a = b := List.le_antisymm h h2
theorem sortR_sorted (xs : List (List Int)) : (sortR xs).Pairwise (· ≤ ·) := by
  have h := List.pairwise_mergeSort (le := fun a b : List Int => decide (a ≤ b)) (fun a b c h1 h2 => decide_eq_true (le_trans' (of_decide_eq_true h1) (of_decide_eq_true h2))) (fun a b => by
    rcases le_total' a b with h | h
    · simp [h]
    · simp [h]) xs
  exact h.imp fun h => of_decide_eq_true h
/-- a sorted list is its own sorted list; rearranged lists have one -/
theorem sortR_uniq {xs ys : List (List Int)} (h1 : xs.Pairwise (· ≤ ·)) (h2 : ys.Pairwise (· ≤ ·)) (p : xs.Perm ys) : xs = ys := p.eq_of_pairwise (fun a b _ _ => le_antisymm') h1 h2
theorem sortR_self {xs : List (List Int)} (h : xs.Pairwise (· ≤ ·)) : sortR xs = xs := sortR_uniq (sortR_sorted xs) h (sortR_perm xs)

def rSortD (K : PySem.W.Frag) : List V → Hp → VK → Prop := fun vs H Q => ∃ (k : Bool) (a : Addr) (xs : List V) (F : Hp) (bs : List (List Int)), vs = [.ref a] ∧ SqS k K H a xs ∧ Same F H ∧ Rps F xs (bs.map cR.e) ∧ ((∀ b ∈ bs, b ≠ []) ∨ ∃ r, bs = [] :: r) ∧
  ∀ ys p, Rps F ys ((sortR bs).map cR.e) → H p = none → Q (.ref p) (upd H p (.lst ys))
theorem each_of {F : Hp} : ∀ {xs : List V} {its : List Value} {bs : List (List Int)}, Vals xs its → Rps F xs (bs.map cR.e) → PySem.W.EachIs (fun v b => ∃ x, RelV x v ∧ Rp F x (cR.e b)) its bs
  | [], _, [], r, _ => by cases r; exact .nil
  | [], _, _ :: _, _, p => by simp only [List.map_cons] at p; cases p
  | _ :: _, _, [], _, p => by simp only [List.map_nil] at p; cases p
  | x :: xs, _, b :: bs, r, p => by
    simp only [List.map_cons] at p
    cases r with
    | cons r1 r2 =>
      cases p with
      | cons p1 p2 => exact .cons ⟨x, r1, p1⟩ (each_of r2 p2)
theorem each_back {F : Hp} : ∀ {out : List Value} {bs : List (List Int)}, PySem.W.EachIs (fun v b => ∃ x, RelV x v ∧ Rp F x (cR.e b)) out bs → ∃ ys, Vals ys out ∧ Rps F ys (bs.map cR.e)
  | _, _, .nil => ⟨[], .nil, .nil⟩
  | _, _, .cons ⟨x, r1, p1⟩ t => by
    obtain ⟨ys, h1, h2⟩ := each_back t
    exact ⟨x :: ys, .cons r1 h1, .cons p1 h2⟩
theorem cr_sortD {X : Cx} (hu : X.A.units + 10 < cLine) : CallR X (.builtin "sorted") (rSortD X.K) := by
  intro pins s σ H vs us Q I r h
  obtain ⟨k, a, xs, F, bs, rfl, hq, hs, rp, cond, q⟩ := h
  obtain ⟨its, rv, hp, hz⟩ := src_of I hq
  rw [Vals.ref1 r]
  have e := each_of rv rp
  have er : PySem.W.EachIs (fun v b => ∃ as, Reads (PySem.W.sortingHeap (PySem.W.copyHeap s.heap its) (s.heap.objs.size + 1) its) v (cR.e b) as) its bs := e.mono fun v b ⟨x, r1, p1⟩ => by
    obtain ⟨as, r2⟩ := Dp.reads I (cR.e b) x v (p1.dp hs) r1
    exact ⟨as, PyProof.Rows.Reads.keeps (fun _ _ => PySem.W.sorting_copy_old) r2⟩
  have hal : PySem.W.AllAlike (bs.map cR.e) := PySem.W.AllAlike.of fun b b' => by
    show PySem.W.alike (.tuple (b.map .int)) (.tuple (b'.map .int)) = true
    rw [PySem.W.alike]
    exact PySem.W.alike_ints b b'
  have hb : ∀ b, b ∈ bs → X.A.in1.in1.units + (cR.e b).depth < cLine := fun b _ => by
    show X.A.units + 1 + 1 + (PyData.tuple (b.map .int)).depth < cLine
    rw [PyData.depth, PySem.W.depth_ints]
    omega
  have S : PySem.W.SortsAt X.prog X.w X.A.in1.in1 { s with heap := PySem.W.sortingHeap (PySem.W.copyHeap s.heap its) (s.heap.objs.size + 1) its } (PySem.W.dataKind (PySem.W.sortingHeap (PySem.W.copyHeap s.heap its) (s.heap.objs.size + 1) its) (bs.map cR.e)) its := by
    rcases cond with c | ⟨rest, c⟩
    · refine PySem.W.SortsAt.data (s := { s with heap := PySem.W.sortingHeap (PySem.W.copyHeap s.heap its) (s.heap.objs.size + 1) its }) (PySem.W.each_map (R := fun v d => ∃ as, Reads (PySem.W.sortingHeap (PySem.W.copyHeap s.heap its) (s.heap.objs.size + 1) its) v d as) cR.e er) hal (.inl fun d hd => ?_) (PySem.W.bound_map hb)
      obtain ⟨b, hb2, rfl⟩ := List.mem_map.mp hd
      cases b with
      | nil => exact absurd rfl (c _ hb2)
      | cons x r => exact ⟨_, _, rfl⟩
    · refine PySem.W.SortsAt.empty (s := { s with heap := PySem.W.sortingHeap (PySem.W.copyHeap s.heap its) (s.heap.objs.size + 1) its }) (rest := rest.map cR.e) (PySem.W.each_map (R := fun v d => ∃ as, Reads (PySem.W.sortingHeap (PySem.W.copyHeap s.heap its) (s.heap.objs.size + 1) its) v d as) cR.e er) hal (fun d hd => ?_) (by rw [c]; rfl) (PySem.W.bound_map hb)
      obtain ⟨b, hb2, rfl⟩ := List.mem_map.mp hd
      exact ⟨_, rfl⟩
  have hn : H (s.heap.objs.size + 1) = none := I.hok.fresh (Nat.le_succ _)
  have fin : ∃ v H', Inv X pins σ H' { s with heap := sortedAll s.heap its (PySem.W.sortVals (PySem.W.dataKind (PySem.W.sortingHeap (PySem.W.copyHeap s.heap its) (s.heap.objs.size + 1) its) (bs.map cR.e)) false its its).toArray } ∧ RelV v (.ref (s.heap.objs.size + 1)) ∧ Q v H' := by
    have o1 := PySem.W.sortVals_data false e er hal
    rw [dataLe_rowT] at o1
    obtain ⟨ys, v1, r1⟩ := each_back o1
    obtain ⟨ep, he'⟩ := PyProof.Rows.sortedAll_at s.heap its (PySem.W.sortVals (PySem.W.dataKind (PySem.W.sortingHeap (PySem.W.copyHeap s.heap its) (s.heap.objs.size + 1) its) (bs.map cR.e)) false its its).toArray
    have hlen : ys.length ≤ sizeLine := by
      rw [v1.length, PySem.W.sortVals_length false rfl, ← rv.length]
      exact hz
    exact ⟨.ref _, upd H (s.heap.objs.size + 1) (.lst ys), I.laid (t' := s.toks) (fun _ _ => PyProof.Rows.sortedAll_old) (Nat.le_succ _) ⟨hlen, _, ep, v1, by simpa using he'⟩, rfl, q ys _ r1 hn⟩
  cases k with
  | true => exact PySem.W.sorted_tup_vals hp S (by rw [← rv.length]; exact hz) fin
  | false => exact PySem.W.sorted_vals hp S (by rw [← rv.length]; exact hz) fin
section
variable {X : Cx} {B : Bs} {G : En} {a : Expr} {p pos : Pos} {bs : List (List Int)} {n : Nat}
theorem e_sortR (k : Bool) (hr : Room n X.A) (hm : X.mg "sorted" = none) (ha : EV X B G a (dS k (bs.map cR.e))) (hc : (∀ b ∈ bs, b ≠ []) ∨ ∃ r, bs = [] :: r) (hg : Gl X "sorted" := by rfl) (he : starEach (a :: []) X.env = (false, eval a X.env) :: starEach [] X.env := by rfl) (hpl : (backTo pos (starEach [] X.env)).any (·.1) = false := by rfl) : EE X B G (.Call (.Name "sorted" p) [a] [] pos) (is (.own ((sortR bs).map cR.e))) :=
  e_of (pe_callB (cr_sortD (by have := hr.un; omega)) hg hm (by decide +kernel) (pa_cons ha pa_nil he) (by decide) (by decide) he hpl) fun s F H Q g w q => ⟨F, g, w, fun v t F1 H1 p1 g1 e1 w1 => by
    rw [show t = Sl.dat (dS k (bs.map cR.e)) from p1] at w1
    obtain ⟨ad, xs, rfl, h1, h2, h3⟩ := rp_src (K := X.K) (w1.topI rfl : Rp F1 v (dS k (bs.map cR.e))) g1.h
    exact ⟨k, ad, xs, F1, bs, rfl, h1, g1.h, h2, hc, fun ys p hy hp => q _ _ F1 _ rfl (g1.grow (Grow.loose g1.h hp)) e1 (Sat.pushNew g1 w1.pop hp hy)⟩⟩
end
end Mk
namespace L2
open PySem PySem.Spec PyProof.Rows
section
variable {P : Program} {w : World} {A : Around} {E : Value → Shared → Prop} {s : Shared}
theorem tup_push {h : Heap} {a : Addr} {items : Array Value} (x : h.IsTuple a items) (o : Obj) : (h.push o).IsTuple a items := Heap.IsTuple.push x o
set_option maxRecDepth 100000 in
set_option maxHeartbeats 3200000 in
theorem call_setOfTuple {l : Addr} {items : Array Value} (ks : List (Addr × List Int)) {Q : Value → Shared → Prop} (hh : A.handled = none) (hl : s.heap.IsTuple l items) (hit : items.toList = ks.map fun p => Value.ref p.1)
    (hk : ∀ p ∈ ks, IsT P w s.heap p.2 p.1) (hfew : ks.length < 64) (hu : A.units + 3 < cLine)
    (h : ∀ (h' : Heap) (tk : Nat) L es ep t, SetTR P w h' s.heap.objs.size L es ep t → Got ks ks.length L → (∀ b o, s.heap.get? b = some o → h'.get? b = some o) → Q (.ref s.heap.objs.size) { s with heap := h', toks := tk }) :
    wpAny (model P w) A (call (.type "set") [.ref l]) Q E s := by
  have hisz : items.size = ks.length := by
    have q := congrArg List.length hit
    rw [Array.length_toList, List.length_map] at q
    exact q
  obtain ⟨c, tl, hmro⟩ := F.called_set.mro
  have hmade := F.called_set.made
  have hsub := F.called_set.sub
  refine wpAny_call (codeAny_of_tree ?_)
  show wpAny _ _ (callAny (.type "set") _) _ _ _
  refine wpAny_pure ⟨Code.quiet_builtin _ (by decide +kernel), codeAny_builtin F.entry_type_call ?_⟩
  rw [Around.under_plain (weight_type_call_type "set" [.ref l] []) rfl]
  have h1 := F.called_set.notType
  have h2 := F.called_set.canCreate
  have hct := F.typeCall_set_1 (.ref l)
  repeat (any_goals (first | assumption | wp_step))

  refine codeAny_mono (code_set_led1 (.ref l) (E := E) (Q₁ := fun obj s₁ => obj = .ref s.heap.objs.size ∧ s₁ = { s with heap := s.heap.push { cls := .type "set", dict := none, data := .set #[] 0 (.fresh 0 0 (!w.params.followText "set-order")) } }) ⟨rfl, rfl⟩) fun r s₁ hr => ?_
  cases r with
  | error e => exact hr
  | ok fl =>
    cases fl with
    | ret obj =>
      obtain ⟨rfl, rfl⟩ := hr
      have hS : (s.heap.push { cls := .type "set", dict := none, data := .set #[] 0 (.fresh 0 0 (!w.params.followText "set-order")) }).get? s.heap.objs.size = some { cls := .type "set", dict := none, data := .set #[] 0 (.fresh 0 0 (!w.params.followText "set-order")) } := Heap.get?_push_size _ rfl
      have hT : Shared.TypeIs { s with heap := s.heap.push { cls := .type "set", dict := none, data := .set #[] 0 (.fresh 0 0 (!w.params.followText "set-order")) } } (.ref s.heap.objs.size) "set" := ⟨_, hS, rfl⟩
      have hli := F.called_set.init.lookup
      have hbi := F.called_set.init.bind (.ref s.heap.objs.size)
      repeat (any_goals (first | assumption | wp_step))

      refine codeAny_mono (codeAny_call_builtin (R := wants (fun r s₂ => r = .none ∧ ∃ h' tk L es ep t, s₂ = { s with heap := h', toks := tk } ∧ SetTR P w h' s.heap.objs.size L es ep t ∧ Got ks ks.length L ∧
          (∀ b o, s.heap.get? b = some o → h'.get? b = some o)) E) F.called_set.init.plain F.entry_set_init (check_set_init_1 hT ?_)) fun r₂ s₂ hr₂ => ?_
      · obtain ⟨ol, hol, hcl, nl, hdl⟩ := hl
        obtain ⟨ocls, odict, odata, oslots⟩ := ol
        simp only at hcl hdl
        subst hcl; subst hdl
        have hol' : (s.heap.push { cls := .type "set", dict := none, data := .set #[] 0 (.fresh 0 0 (!w.params.followText "set-order")) }).get? l = some { cls := .type "tuple", dict := odict, data := .seq items nl, slots := oslots } := Heap.get?_push_of_some _ hol
        have hsls := F.sub_tuple_set
        have hslf := F.sub_tuple_frozenset
        have hne : (Value.type "tuple" == Value.type "dict") = false := by decide
        have hl1 : (s.heap.push { cls := .type "set", dict := none, data := .set #[] 0 (.fresh 0 0 (!w.params.followText "set-order")) }).IsTuple l items := ⟨_, hol', rfl, nl, rfl⟩
        unfold Builtin.«set.__init__» noKeywords Builtin.Frozenset.updateFrom
        generalize hPI : pyIter = PI
        wp_walk
        subst hPI

        refine wpAny_pyIter_tuple hl1 ?_
        refine wpAny_bind (wpAny_runValue ?_)
        have hlS : l < s.heap.objs.size := Heap.lt_size hol
        have hh3 : A.in1.in1.in1.handled = none := by simp [hh]
        have hz1 : (s.heap.push { cls := .type "set", dict := none, data := .set #[] 0 (.fresh 0 0 (!w.params.followText "set-order")) }).objs.size = s.heap.objs.size + 1 := Heap.size_push ..
        have hneI : l ≠ (s.heap.push { cls := .type "set", dict := none, data := .set #[] 0 (.fresh 0 0 (!w.params.followText "set-order")) }).objs.size := by
          rw [Heap.size_push]; exact Nat.ne_of_lt (Nat.lt_succ_of_lt hlS)
        have hSf : s.heap.objs.size ∉ [(s.heap.push { cls := .type "set", dict := none, data := .set #[] 0 (.fresh 0 0 (!w.params.followText "set-order")) }).objs.size, l] := by
          rw [Heap.size_push]; simp only [List.mem_cons, List.mem_singleton, List.not_mem_nil, or_false, not_or]
          exact ⟨Nat.ne_of_lt (Nat.lt_succ_self _), Nat.ne_of_gt hlS⟩
        have hval : ∀ (i : Nat) (v : Value), items[i]? = some v → ∃ p, ks[i]? = some p ∧ v = .ref p.1 := fun i v hv => by
          have q : items.toList[i]? = some v := by rw [Array.getElem?_toList]; exact hv
          rw [hit, List.getElem?_map] at q
          cases hq : ks[i]? with
          | none => rw [hq] at q; cases q
          | some p =>
            rw [hq] at q
            exact ⟨p, rfl, (Option.some.inj q).symm⟩
        have none_of : ∀ b, s.heap.objs.size ≤ b → s.heap.get? b = none := fun b hb => by
          cases q : s.heap.get? b with
          | none => rfl
          | some o => exact absurd (Nat.lt_of_lt_of_le (Heap.lt_size q) hb) (Nat.lt_irrefl _)
        refine set_update_tups ((Walks.tuple hh3 _ l hneI items).toS) s.heap.objs.size
          hSf ks hisz hfew hval s.heap hk (none_of _ (Nat.le_refl _)) (fun b hb => none_of b (by
            rw [List.mem_singleton.mp hb, Heap.size_push]
            exact Nat.le_succ _)) hu (items.size - 0) 0 _ (by omega) (Nat.zero_le _)
          ⟨⟨_, Heap.get?_push_size _ rfl, rfl, rfl⟩, (tup_push hl1 _)⟩ (fun b o e => Heap.get?_push_of_some _ (Heap.get?_push_of_some _ e)) ?hS0 ?hR
        case hS0 =>
          have hget : ((s.heap.push { cls := .type "set", dict := none, data := .set #[] 0 (.fresh 0 0 (!w.params.followText "set-order")) }).push { cls := .type "tuple_iterator", data := .fields #[.ref l, .int 0 0] }).get? s.heap.objs.size
              = some { cls := .type "set", dict := none, data := .set #[] 0 (.fresh 0 0 (!w.params.followText "set-order")) } := Heap.get?_push_of_some _ hS
          exact ⟨[], #[], 0, _, setTR_fresh hget, Got.zero ks⟩
        case hR =>
          intro s' L es ep t hm hS' g' hkp
          obtain ⟨h', g2, d', tk', os'⟩ := s'
          have eg : g2 = s.gens := hm.gens
          have ed : d' = s.drawn := hm.drawn
          have eo : os' = s.os := hm.os
          subst eg; subst ed; subst eo
          show wpAny _ _ _ _ _ _
          refine wpAny_pure ?_
          show wpAny _ _ (ret Value.none) _ _ _
          rw [hisz] at g'
          exact wpAny_pure ⟨rfl, h', tk', L, es, ep, t, rfl, hS', g', hkp⟩

      · cases r₂ with
        | error e => exact hr₂
        | ok fl₂ =>
          cases fl₂ with
          | ret r =>
            obtain ⟨rfl, h', tk, L, es, ep, t, rfl, hS', g', hk'⟩ := hr₂
            repeat (any_goals (first | assumption | wp_step))
            exact h _ _ _ _ _ _ hS' g' hk'
          | _ => exact hr₂.elim
    | _ => exact hr.elim

end
end L2
namespace Mk
open PySem PySem.Spec PyProof.Rows L2

/-! ### sorted(set(rows)) -/
def rSetT (K : PySem.W.Frag) (P : Program) (w : World) : List V → Hp → VK → Prop := fun xs H Q => ∃ (k : Bool) (l : Addr) (ks : List (Addr × List Int)), xs = [V.ref l] ∧ SqS k K H l (ks.map fun p => V.ref p.1) ∧ (∀ p ∈ ks, SqT K H p.1 (p.2.map V.int)) ∧ ks.length < 64 ∧
  ∀ a L, H a = none → (∀ p ∈ L, p ∈ ks) → (∀ p ∈ ks, p.2 ∈ L.map (·.2)) → Q (.ref a) (upd H a (SetTO P w a L))
theorem cr_setT {X : Cx} (hc : X.calm = true) (hu : X.A.units + 64 < cLine) : CallR X (.type "set") (rSetT X.K X.prog X.w) := by
  intro pins s σ H xs us Q I r h
  obtain ⟨k, l, ks, rfl, hl, hk, hf, q⟩ := h
  cases k with
  | false => exact cr_setOfT hc hu pins s σ H _ us Q I r ⟨l, ks, rfl, hl, hk, hf, q⟩
  | true =>
    rw [Vals.ref1 r]
    obtain ⟨its, rv, pl, hz⟩ := I.tuple hl
    have hn : H s.heap.objs.size = none := I.hok.fresh (Nat.le_refl _)
    refine call_setOfTuple (P := X.prog) (w := X.w) ks (I.ok.hd hc) pl (by simpa using refs_of_vals rv) (fun p hp => I.isT (hk p hp)) hf (by omega) fun h' tk L es ep t R g k => ?_
    refine ⟨.ref s.heap.objs.size, upd H s.heap.objs.size (SetTO X.prog X.w s.heap.objs.size L), I.laid (t' := tk) k (Nat.le_refl _) (setTO_new R.t0), rfl, q _ L hn (fun p hp => ?_) fun p hp => ?_⟩
    · exact List.mem_of_mem_take (g.sub p hp)
    · exact g.all p (by rw [List.take_length]; exact hp)
theorem rows_of {F : Hp} : ∀ {xs : List V} {rs : List (List Int)}, Rps F xs (rs.map cR.e) → ∃ ks : List (Addr × List Int), xs = ks.map (fun p => V.ref p.1) ∧ ks.map (·.2) = rs ∧ ∀ p ∈ ks, F p.1 = some (.tup (p.2.map V.int))
  | [], [], _ => ⟨[], rfl, rfl, fun p hp => (by cases hp)⟩
  | [], _ :: _, r => by simp only [List.map_cons] at r; cases r
  | _ :: _, [], r => by simp only [List.map_nil] at r; cases r
  | x :: xs, r :: rs, p => by
    simp only [List.map_cons] at p
    cases p with
    | cons p1 p2 =>
      obtain ⟨ks, rfl, rfl, h3⟩ := rows_of p2
      cases p1 with
      | @tup a vs _ h1 r1 =>
        have e := r1.ints
        refine ⟨(a, r) :: ks, rfl, rfl, fun q hq => ?_⟩
        rcases List.mem_cons.mp hq with rfl | hq
        · rw [h1, e]
        · exact h3 q hq
theorem rows_back {F : Hp} : ∀ {ks : List (Addr × List Int)}, (∀ p ∈ ks, F p.1 = some (.tup (p.2.map V.int))) → Rps F (ks.map fun p => V.ref p.1) ((ks.map (·.2)).map cR.e)
  | [], _ => .nil
  | p :: ks, h => .cons (.tup (h p List.mem_cons_self) (Rps.of_ints p.2)) (rows_back fun q hq => h q (List.mem_cons_of_mem _ hq))
/-- the order by digits is the rows' order -/
theorem code_bd {B : Int} (hB : 0 < B) : ∀ {a : List Int}, TS.Bd B a → 0 ≤ TS.code B a ∧ TS.code B a < B ^ a.length
  | [], _ => ⟨by simp [TS.code], by simp [TS.code]⟩
  | x :: a, h => by
    obtain ⟨h1, h2⟩ := code_bd hB (a := a) fun m hm => h m (List.mem_cons_of_mem _ hm)
    obtain ⟨x0, x1⟩ := h x List.mem_cons_self
    have hp : 0 ≤ B ^ a.length := Int.le_of_lt (Int.pow_pos hB)
    have e : TS.code B (x :: a) = x * B ^ a.length + TS.code B a := rfl
    rw [e, List.length_cons, Int.pow_succ]
    constructor
    · have := Int.mul_nonneg x0 hp
      omega
    · have h3 : (x + 1) * B ^ a.length ≤ B * B ^ a.length := Int.mul_le_mul_of_nonneg_right (by omega) hp
      rw [Int.add_mul, Int.one_mul] at h3
      rw [Int.mul_comm (B ^ a.length) B]
      omega
theorem code_le {B : Int} (hB : 0 < B) : ∀ {a b : List Int}, a.length = b.length → TS.Bd B a → TS.Bd B b → TS.code B a ≤ TS.code B b → a ≤ b
  | [], [], _, _, _, _ => List.le_refl _
  | [], _ :: _, h, _, _, _ => by simp at h
  | _ :: _, [], h, _, _, _ => by simp at h
  | x :: a, y :: b, hl, ha, hb, h => by
    have hl' : a.length = b.length := by simpa using hl
    have ha' : TS.Bd B a := fun m hm => ha m (List.mem_cons_of_mem _ hm)
    have hb' : TS.Bd B b := fun m hm => hb m (List.mem_cons_of_mem _ hm)
    obtain ⟨a0, a1⟩ := code_bd hB ha'
    obtain ⟨b0, b1⟩ := code_bd hB hb'
    have e1 : TS.code B (x :: a) = x * B ^ a.length + TS.code B a := rfl
    have e2 : TS.code B (y :: b) = y * B ^ b.length + TS.code B b := rfl
    rw [e1, e2, hl'] at h
    rw [hl'] at a1
    rw [List.cons_le_cons_iff]
    by_cases q : x < y
    · exact .inl q
    · by_cases q2 : x = y
      · subst q2
        exact .inr ⟨rfl, code_le hB hl' ha' hb' (by omega)⟩
      · exfalso
        have hp : 0 ≤ B ^ b.length := Int.le_of_lt (Int.pow_pos hB)
        have h3 : (y + 1) * B ^ b.length ≤ x * B ^ b.length := Int.mul_le_mul_of_nonneg_right (by omega) hp
        rw [Int.add_mul, Int.one_mul] at h3
        omega
section
variable {X : Cx} {B : Bs} {G : En} {a : Expr} {p p2 pos pos2 : Pos} {rs : List (List Int)} {n d : Nat}
theorem e_sortSet (k : Bool) (hr : Room n X.A) (hm : X.mg "sorted" = none) (hm2 : X.mg "set" = none) (ha : EV X B G a (dS k (rs.map cR.e))) (hd : 1 ≤ d) (hrs : ∀ r ∈ rs, r.length = d ∧ ∀ x ∈ r, 0 ≤ x ∧ x < 64) (h64 : rs.length < 64) (hc : X.calm = true := by rfl) (hg : Gl X "sorted" := by rfl) (hg2 : Gl X "set" := by rfl)
    (he : starEach (a :: []) X.env = (false, eval a X.env) :: starEach [] X.env := by rfl) (hpl : (backTo pos2 (starEach [] X.env)).any (·.1) = false := by rfl)
    (he2 : starEach (Expr.Call (.Name "set" p2) [a] [] pos2 :: []) X.env = (false, eval (.Call (.Name "set" p2) [a] [] pos2) X.env) :: starEach [] X.env := by rfl) (hpl2 : (backTo pos (starEach [] X.env)).any (·.1) = false := by rfl) :
    EE X B G (.Call (.Name "sorted" p) [.Call (.Name "set" p2) [a] [] pos2] [] pos) (fun t => ∃ us : List (List Int), t = .own (us.map cR.e) ∧ us.Nodup ∧ us.Pairwise (· ≤ ·) ∧ ∀ r, r ∈ us ↔ r ∈ rs) :=
  e_of (pe_callB (cr_sortedT hc) hg hm (by decide +kernel) (pa_cons (pe_callTy (cr_setT hc (u64 hr)) hg2 hm2 (by decide +kernel) (pa_cons ha pa_nil he) (by decide) (by decide) he hpl) pa_nil he2) (by decide) (by decide) he2 hpl2) fun s F H Q g w q => ⟨F, g, w, fun v t F1 H1 p1 g1 e1 w1 => by
    rw [show t = Sl.dat (dS k (rs.map cR.e)) from p1] at w1
    obtain ⟨ad, xs, rfl, h1, h2, h3⟩ := rp_src (K := X.K) (w1.topI rfl : Rp F1 v (dS k (rs.map cR.e))) g1.h
    obtain ⟨ks, rfl, ek, hk⟩ := rows_of h2
    have kl : ks.length = rs.length := by rw [← ek, List.length_map]
    refine ⟨k, ad, ks, rfl, h1, fun q hq => SqT.of (g1.h _ _ (hk q hq)), by omega, fun sa L hsa hL1 hL2 => ?_⟩
    have gr := Grow.loose (o := SetTO X.prog X.w sa L) g1.h hsa
    have g2 := g1.grow gr
    have w2 := w1.pop.grow gr
    have rd : ∀ q ∈ ks, q.2.length = d ∧ ∀ x ∈ q.2, 0 ≤ x ∧ x < 64 := fun q hq => hrs q.2 (by rw [← ek]; exact List.mem_map_of_mem hq)
    refine ⟨sa, L, d, 64, rfl, upd_same, fun q hq => SqT.of (g2.h _ _ (hk q (hL1 q hq))), hd, fun q hq => ⟨(rd q (hL1 q hq)).1, (rd q (hL1 q hq)).2⟩, fun L' lp pm nd lf pw hlp => ?_⟩
    refine q _ _ F1 _ ⟨L'.map (·.2), rfl, nd, ?_, fun r => ?_⟩ (g2.grow (Grow.loose g2.h hlp)) e1 (Sat.pushNew g2 w2 hlp (rows_back fun q hq => hk q (hL1 q (pm.mem_iff.mp hq))))
    · rw [List.pairwise_map]
      refine List.Pairwise.imp_of_mem (fun {x y} hx hy h => ?_) pw
      have rx := rd x (hL1 x (pm.mem_iff.mp hx))
      have ry := rd y (hL1 y (pm.mem_iff.mp hy))
      exact code_le (by decide) (by rw [rx.1, ry.1]) rx.2 ry.2 h
    · constructor
      · intro hr
        obtain ⟨q, hq, rfl⟩ := List.mem_map.mp hr
        rw [← ek]
        exact List.mem_map_of_mem (hL1 q (pm.mem_iff.mp hq))
      · intro hr
        rw [← ek] at hr
        obtain ⟨q, hq, rfl⟩ := List.mem_map.mp hr
        exact (pm.map (·.2)).mem_iff.mpr (hL2 q hq)⟩
end
end Mk
namespace Mk
open PySem

/-! ### plain: lists without repeats -/
theorem nodup_len {β : Type} [DecidableEq β] : ∀ {xs U : List β}, xs.Nodup → (∀ x ∈ xs, x ∈ U) → xs.length ≤ U.length
  | [], _, _, _ => Nat.zero_le _
  | x :: xs, U, h, hs => by
    obtain ⟨h1, h2⟩ := List.nodup_cons.mp h
    have hx := hs x List.mem_cons_self
    have ih := nodup_len (xs := xs) (U := U.erase x) h2 fun y hy => by
      have hne : y ≠ x := fun e => h1 (e ▸ hy)
      exact (List.mem_erase_of_ne hne).mpr (hs y (List.mem_cons_of_mem _ hy))
    have e := List.length_erase_of_mem hx
    have := List.length_pos_of_mem hx
    rw [List.length_cons]
    omega
theorem sorted_uniq {xs ys : List (List Int)} (h1 : xs.Nodup) (h2 : ys.Nodup) (s1 : xs.Pairwise (· ≤ ·)) (s2 : ys.Pairwise (· ≤ ·)) (h : ∀ r, r ∈ xs ↔ r ∈ ys) : xs = ys :=
  sortR_uniq s1 s2 ((List.perm_ext_iff_of_nodup h1 h2).mpr h)

/-! ### lots -/
theorem lotsUp_snoc (ps : List Int) (p : Int) : lotsUp (ps ++ [p]) = lotsUp ps ++ (lotsUp ps).map (· ++ [p]) := by
  unfold lotsUp
  rw [List.foldl_append]
  rfl
theorem snoc_ind {β : Type} {P : List β → Prop} (h0 : P []) (h1 : ∀ xs x, P xs → P (xs ++ [x])) (xs : List β) : P xs := by
  have h : ∀ ys : List β, P ys.reverse := fun ys => by
    induction ys with
    | nil => exact h0
    | cons y ys ih =>
      rw [List.reverse_cons]
      exact h1 _ _ ih
  have := h xs.reverse
  rwa [List.reverse_reverse] at this
theorem lotsUp_cons (ps : List Int) : lotsUp ps = [] :: lots ps := by
  refine snoc_ind (P := fun ps => lotsUp ps = [] :: lots ps) rfl (fun ps p ih => ?_) ps
  unfold lots
  rw [lotsUp_snoc, ih]
  rfl
theorem lots_snoc (ps : List Int) (p : Int) : lots (ps ++ [p]) = lots ps ++ (lotsUp ps).map (· ++ [p]) := by
  have h := lotsUp_cons (ps ++ [p])
  rw [lotsUp_snoc, lotsUp_cons ps, List.cons_append] at h
  rw [lotsUp_cons ps]
  exact (List.cons.inj h).2.symm
theorem lotsUp_sub {ps : List Int} : ∀ l ∈ lotsUp ps, ∀ i ∈ l, i ∈ ps := by
  refine snoc_ind (P := fun ps => ∀ l ∈ lotsUp ps, ∀ i ∈ l, i ∈ ps) (fun l hl i hi => by simp [lotsUp] at hl; rw [hl] at hi; cases hi) (fun ps p ih => ?_) ps
  intro l hl i hi
  rw [lotsUp_snoc] at hl
  rcases List.mem_append.mp hl with h | h
  · exact List.mem_append_left _ (ih l h i hi)
  · obtain ⟨m, hm, rfl⟩ := List.mem_map.mp h
    rcases List.mem_append.mp hi with h2 | h2
    · exact List.mem_append_left _ (ih m hm i h2)
    · exact List.mem_append_right _ h2
theorem lots_ne {ps : List Int} : ∀ l ∈ lots ps, l ≠ [] := by
  refine snoc_ind (P := fun ps => ∀ l ∈ lots ps, l ≠ []) (fun l hl => by simp [lots, lotsUp] at hl) (fun ps p ih => ?_) ps
  intro l hl
  rw [lots_snoc] at hl
  rcases List.mem_append.mp hl with h | h
  · exact ih l h
  · obtain ⟨m, hm, rfl⟩ := List.mem_map.mp h
    simp
theorem lots_mem_up {ps l : List Int} (h : l ∈ lots ps) : l ∈ lotsUp ps := List.mem_of_mem_tail h
/-- lots with the same members are one -/
theorem lotsUp_ext {ps : List Int} (nd : ps.Nodup) : ∀ l ∈ lotsUp ps, ∀ m ∈ lotsUp ps, (∀ i, i ∈ l ↔ i ∈ m) → l = m := by
  revert nd
  refine snoc_ind (P := fun ps => ps.Nodup → ∀ l ∈ lotsUp ps, ∀ m ∈ lotsUp ps, (∀ i, i ∈ l ↔ i ∈ m) → l = m) (fun _ l hl m hm _ => by simp [lotsUp] at hl hm; rw [hl, hm]) (fun ps p ih => ?_) ps
  intro nd l hl m hm h
  have nd' := List.nodup_append.mp nd
  have hp : p ∉ ps := fun z => nd'.2.2 p z p (by simp) rfl
  rw [lotsUp_snoc] at hl hm
  rcases List.mem_append.mp hl with h1 | h1 <;> rcases List.mem_append.mp hm with h2 | h2
  · exact ih nd'.1 l h1 m h2 h
  · obtain ⟨m', hm', rfl⟩ := List.mem_map.mp h2
    exact absurd (lotsUp_sub l h1 p ((h p).mpr (by simp))) hp
  · obtain ⟨l', hl', rfl⟩ := List.mem_map.mp h1
    exact absurd (lotsUp_sub m h2 p ((h p).mp (by simp))) hp
  · obtain ⟨l', hl', rfl⟩ := List.mem_map.mp h1
    obtain ⟨m', hm', rfl⟩ := List.mem_map.mp h2
    have e : l' = m' := ih nd'.1 l' hl' m' hm' fun i => by
      have q := h i
      simp only [List.mem_append, List.mem_singleton] at q
      constructor
      · intro hi
        rcases q.mp (.inl hi) with z | z
        · exact z
        · rw [z] at hi
          exact absurd (lotsUp_sub l' hl' p hi) hp
      · intro hi
        rcases q.mpr (.inl hi) with z | z
        · exact z
        · rw [z] at hi
          exact absurd (lotsUp_sub m' hm' p hi) hp
    rw [e]
theorem lotsUp_nodup {ps : List Int} (nd : ps.Nodup) : (lotsUp ps).Nodup := by
  revert nd
  refine snoc_ind (P := fun ps => ps.Nodup → (lotsUp ps).Nodup) (fun _ => by simp [lotsUp]) (fun ps p ih => ?_) ps
  intro nd
  have nd' := List.nodup_append.mp nd
  have hp : p ∉ ps := fun z => nd'.2.2 p z p (by simp) rfl
  rw [lotsUp_snoc]
  refine List.nodup_append.mpr ⟨ih nd'.1, ?_, fun l hl m hm e => ?_⟩
  · refine List.Pairwise.map _ (fun a b h e => ?_) (ih nd'.1)
    exact h (List.append_cancel_right e)
  · obtain ⟨m', hm', rfl⟩ := List.mem_map.mp hm
    rw [e] at hl
    exact hp (lotsUp_sub _ hl p (by simp))
theorem lots_nodup {ps : List Int} (nd : ps.Nodup) : (lots ps).Nodup := by
  have h := lotsUp_nodup nd
  rw [lotsUp_cons] at h
  exact (List.nodup_cons.mp h).2
/-- the lots, sorted and without the empty one -/
def lotsS (ps : List Int) : List (List Int) := (sortR (lotsUp ps)).tail
theorem nil_le (a : List Int) : [] ≤ a := List.nil_le a
theorem le_nil {a : List Int} (h : a ≤ []) : a = [] := le_antisymm' h (nil_le a)
theorem lotsS_perm (ps : List Int) : (lotsS ps).Perm (lots ps) := by
  have p := sortR_perm (lotsUp ps)
  have s := sortR_sorted (lotsUp ps)
  unfold lotsS
  have hm : [] ∈ sortR (lotsUp ps) := p.mem_iff.mpr (by rw [lotsUp_cons]; exact List.mem_cons_self)
  cases e : sortR (lotsUp ps) with
  | nil => rw [e] at hm; cases hm
  | cons h t =>
    rw [e] at p s hm
    have h0 : h = [] := by
      rcases List.mem_cons.mp hm with z | z
      · exact z.symm
      · exact le_nil ((List.pairwise_cons.mp s).1 _ z)
    rw [h0, lotsUp_cons] at p
    exact p.cons_inv

/-! ### places, rows set -/
theorem placesOf_mem {ps one other k : List Int} {i : Int} : i ∈ placesOf ps one other k ↔ (0 ≤ i ∧ i < ps.length) ∧ [ps.getD i.toNat 0, one.getD i.toNat 0, other.getD i.toNat 0] = k := by
  unfold placesOf
  rw [List.mem_filter, mem_rgI, decide_eq_true_iff]
theorem rgI_nodup (n : Nat) : (rgI n).Nodup := by
  unfold rgI
  exact List.Pairwise.map _ (fun a b (h : a ≠ b) e => h (by omega)) List.nodup_range
theorem placesOf_nodup (ps one other k : List Int) : (placesOf ps one other k).Nodup := (rgI_nodup _).filter _
theorem getD_eq {xs : List Int} {n : Nat} (h : n < xs.length) : xs.getD n 0 = xs[n] := by simp [List.getD, List.getElem?_eq_getElem h]
theorem rowSet_get {one other lot : List Int} {n : Nat} (h : n < one.length) : (rowSet one other lot).getD n 0 = if (n : Int) ∈ lot then other.getD n 0 else one.getD n 0 := by
  have hl : n < (rowSet one other lot).length := by rw [rowSet_len]; exact h
  rw [getD_eq hl]
  simp [rowSet, rgI]
theorem row_ext {a b : List Int} (hl : a.length = b.length) (h : ∀ n, n < a.length → a.getD n 0 = b.getD n 0) : a = b := by
  apply List.ext_getElem hl
  intro n h1 h2
  have := h n h1
  rw [getD_eq h1, getD_eq h2] at this
  exact this
theorem rowSet_ext {one other l m : List Int} (h : ∀ i : Int, 0 ≤ i → i < one.length → (i ∈ l ↔ i ∈ m)) : rowSet one other l = rowSet one other m := by
  refine row_ext (by rw [rowSet_len, rowSet_len]) fun n hn => ?_
  rw [rowSet_len] at hn
  rw [rowSet_get hn, rowSet_get hn]
  have := h n (by omega) (by omega)
  by_cases z : (n : Int) ∈ l
  · rw [if_pos z, if_pos (this.mp z)]
  · rw [if_neg z, if_neg fun y => z (this.mpr y)]
/-- kinds: a column, an old value, a new one -/
def KOk (k : List Int) : Prop := ∃ c a b, k = [c, a, b] ∧ a ≠ b
theorem placesOf_diff {ps one other k : List Int} (hk : KOk k) {i : Int} (h : i ∈ placesOf ps one other k) : one.getD i.toNat 0 ≠ other.getD i.toNat 0 := by
  obtain ⟨c, a, b, rfl, hne⟩ := hk
  have h2 := (placesOf_mem.mp h).2
  simp only [List.cons.injEq, and_true] at h2
  rw [h2.2.1, h2.2.2]
  exact hne
/-- which places were changed is told by the row -/
theorem rowSet_inj {one other l m : List Int} (hl : ∀ i ∈ l, (0 ≤ i ∧ i < one.length) ∧ one.getD i.toNat 0 ≠ other.getD i.toNat 0) (hm : ∀ i ∈ m, (0 ≤ i ∧ i < one.length) ∧ one.getD i.toNat 0 ≠ other.getD i.toNat 0)
    (e : rowSet one other l = rowSet one other m) : ∀ i, i ∈ l ↔ i ∈ m := by
  have key : ∀ {l m : List Int}, (∀ i ∈ l, (0 ≤ i ∧ i < one.length) ∧ one.getD i.toNat 0 ≠ other.getD i.toNat 0) → rowSet one other l = rowSet one other m → ∀ i, i ∈ l → i ∈ m := fun {l m} hl e i hi => by
    obtain ⟨⟨h0, h1⟩, hd⟩ := hl i hi
    have hn : i.toNat < one.length := by omega
    have q : (rowSet one other l).getD i.toNat 0 = (rowSet one other m).getD i.toNat 0 := by rw [e]
    have ei : ((i.toNat : Nat) : Int) = i := by omega
    rw [rowSet_get hn, rowSet_get hn, ei, if_pos hi] at q
    by_cases z : i ∈ m
    · exact z
    · rw [if_neg z] at q
      exact absurd q.symm hd
  exact fun i => ⟨key hl e i, key hm e.symm i⟩

/-! ### ways -/
theorem way_snd (ps one other : List Int) (o : List (List Int)) : (o.foldl (wayStep ps one other) ([], [])).2 = wayAhead ps one other o := by
  refine snoc_ind (P := fun o => (o.foldl (wayStep ps one other) ([], [])).2 = wayAhead ps one other o) rfl (fun o k ih => ?_) o
  rw [List.foldl_append]
  show (o.foldl (wayStep ps one other) ([], [])).2 ++ placesOf ps one other k = _
  rw [ih]
  unfold wayAhead
  simp
theorem way_snoc (ps one other : List Int) (o : List (List Int)) (k : List Int) : way ps one other (o ++ [k]) = way ps one other o ++ wayAt ps one other (wayAhead ps one other o) k := by
  unfold way
  rw [List.foldl_append]
  show (o.foldl (wayStep ps one other) ([], [])).1 ++ wayAt ps one other (o.foldl (wayStep ps one other) ([], [])).2 k = _
  rw [way_snd]
theorem wayAhead_snoc (ps one other : List Int) (o : List (List Int)) (k : List Int) : wayAhead ps one other (o ++ [k]) = wayAhead ps one other o ++ placesOf ps one other k := by
  unfold wayAhead
  simp
theorem wayAhead_mem {ps one other : List Int} {o : List (List Int)} {i : Int} : i ∈ wayAhead ps one other o ↔ ∃ k ∈ o, i ∈ placesOf ps one other k := by
  unfold wayAhead
  rw [List.mem_flatMap]
theorem way_mem {ps one other : List Int} {o : List (List Int)} {r : List Int} : r ∈ way ps one other o ↔ ∃ pre k post, o = pre ++ k :: post ∧ ∃ l ∈ lots (placesOf ps one other k), r = rowSet one other (wayAhead ps one other pre ++ l) := by
  refine snoc_ind (P := fun o => r ∈ way ps one other o ↔ ∃ pre k post, o = pre ++ k :: post ∧ ∃ l ∈ lots (placesOf ps one other k), r = rowSet one other (wayAhead ps one other pre ++ l)) ?_ (fun o k ih => ?_) o
  · constructor
    · intro h
      simp [way] at h
    · rintro ⟨pre, k, post, e, _⟩
      simp at e
  · rw [way_snoc, List.mem_append, ih]
    constructor
    · rintro (⟨pre, k', post, e, l, hl, hr⟩ | h)
      · exact ⟨pre, k', post ++ [k], by rw [e]; simp, l, hl, hr⟩
      · unfold wayAt at h
        obtain ⟨l, hl, rfl⟩ := List.mem_map.mp h
        exact ⟨o, k, [], rfl, l, hl, rfl⟩
    · rintro ⟨pre, k', post, e, l, hl, hr⟩
      rcases List.eq_nil_or_concat post with rfl | ⟨post', z, rfl⟩
      · have e' : o ++ [k] = pre ++ [k'] := e
        obtain ⟨e1, e2⟩ := List.append_inj' e' rfl
        cases e2
        refine .inr ?_
        unfold wayAt
        rw [e1]
        exact List.mem_map.mpr ⟨l, hl, hr.symm⟩
      · have e' : o ++ [k] = (pre ++ k' :: post') ++ [z] := by rw [e]; simp
        obtain ⟨e1, e2⟩ := List.append_inj' e' rfl
        exact .inl ⟨pre, k', post', e1, l, hl, hr⟩
/-- the order: kinds without repeats -/
structure OrdOk (o : List (List Int)) : Prop where
  nd : o.Nodup
  ok : ∀ k ∈ o, KOk k
theorem wayAhead_ok {ps one other : List Int} {o : List (List Int)} (h : ∀ k ∈ o, KOk k) (hl : one.length = ps.length) : ∀ i ∈ wayAhead ps one other o, (0 ≤ i ∧ i < one.length) ∧ one.getD i.toNat 0 ≠ other.getD i.toNat 0 := fun i hi => by
  obtain ⟨k, hk, hp⟩ := wayAhead_mem.mp hi
  obtain ⟨⟨h1, h2⟩, _⟩ := placesOf_mem.mp hp
  exact ⟨⟨h1, by rw [hl]; exact h2⟩, placesOf_diff (h k hk) hp⟩
theorem places_apart {ps one other k k' : List Int} (h : k ≠ k') {i : Int} (h1 : i ∈ placesOf ps one other k) (h2 : i ∈ placesOf ps one other k') : False :=
  h ((placesOf_mem.mp h1).2.symm.trans (placesOf_mem.mp h2).2)
theorem way_nodup {ps one other : List Int} (hl : one.length = ps.length) (o : List (List Int)) : OrdOk o → (way ps one other o).Nodup := by
  refine snoc_ind (P := fun o => OrdOk o → (way ps one other o).Nodup) (fun _ => by simp [way]) (fun o k ih ok => ?_) o
  have nd' := List.nodup_append.mp ok.nd
  have hk : k ∉ o := fun z => nd'.2.2 k z k (by simp) rfl
  have oko : OrdOk o := ⟨nd'.1, fun q hq => ok.ok q (List.mem_append_left _ hq)⟩
  have okk : KOk k := ok.ok k (by simp)
  have lotOk : ∀ l ∈ lotsUp (placesOf ps one other k), ∀ i ∈ l, (0 ≤ i ∧ i < one.length) ∧ one.getD i.toNat 0 ≠ other.getD i.toNat 0 := fun l hl' i hi => by
    have hp := lotsUp_sub l hl' i hi
    obtain ⟨⟨h1, h2⟩, _⟩ := placesOf_mem.mp hp
    exact ⟨⟨h1, by rw [hl]; exact h2⟩, placesOf_diff okk hp⟩
  have ahOk := wayAhead_ok (ps := ps) (one := one) (other := other) oko.ok hl
  have noAh : ∀ i ∈ placesOf ps one other k, i ∉ wayAhead ps one other o := fun i hi z => by
    obtain ⟨k', hk', hp⟩ := wayAhead_mem.mp z
    exact places_apart (fun e : k = k' => hk (by rw [e]; exact hk')) hi hp
  have both : ∀ l ∈ lotsUp (placesOf ps one other k), ∀ i ∈ wayAhead ps one other o ++ l, (0 ≤ i ∧ i < one.length) ∧ one.getD i.toNat 0 ≠ other.getD i.toNat 0 := fun l hl' i hi => by
    rcases List.mem_append.mp hi with h | h
    · exact ahOk i h
    · exact lotOk l hl' i h
  rw [way_snoc]
  refine List.nodup_append.mpr ⟨ih oko, ?_, fun a ha b hb e => ?_⟩
  · unfold wayAt
    rw [List.Nodup, List.pairwise_map]
    refine List.Pairwise.imp_of_mem (fun {l m} hl1 hm1 hne e => hne ?_) (lots_nodup (placesOf_nodup ps one other k))
    have h := rowSet_inj (both l (lots_mem_up hl1)) (both m (lots_mem_up hm1)) e
    refine lotsUp_ext (placesOf_nodup ps one other k) l (lots_mem_up hl1) m (lots_mem_up hm1) fun i => ?_
    have q := h i
    simp only [List.mem_append] at q
    constructor
    · intro hi
      rcases q.mp (.inr hi) with z | z
      · exact absurd z (noAh i (lotsUp_sub l (lots_mem_up hl1) i hi))
      · exact z
    · intro hi
      rcases q.mpr (.inr hi) with z | z
      · exact absurd z (noAh i (lotsUp_sub m (lots_mem_up hm1) i hi))
      · exact z
  · subst e
    obtain ⟨pre, k', post, eo, l', hl', e1⟩ := way_mem.mp ha
    unfold wayAt at hb
    obtain ⟨l, hl1, e2⟩ := List.mem_map.mp hb
    have sub : ∀ i ∈ wayAhead ps one other pre ++ l', i ∈ wayAhead ps one other o := fun i hi => by
      rcases List.mem_append.mp hi with h | h
      · obtain ⟨q, hq, hp⟩ := wayAhead_mem.mp h
        exact wayAhead_mem.mpr ⟨q, by rw [eo]; exact List.mem_append_left _ hq, hp⟩
      · exact wayAhead_mem.mpr ⟨k', by rw [eo]; simp, lotsUp_sub l' (lots_mem_up hl') i h⟩
    have h := rowSet_inj (fun i hi => ahOk i (sub i hi)) (both l (lots_mem_up hl1)) (e1.symm.trans e2.symm)
    obtain ⟨i, hi⟩ := List.exists_mem_of_ne_nil l (lots_ne l hl1)
    exact noAh i (lotsUp_sub l (lots_mem_up hl1) i hi) (sub i ((h i).mpr (List.mem_append_right _ hi)))
end Mk
namespace Mk
open PySem

/-! ### the hull: what rows reach by ways -/
inductive Cl (ps : List Int) (rows : List (List Int)) (o : List (List Int)) : List Int → Prop
  | base {r : List Int} : r ∈ rows → Cl ps rows o r
  | step {a b r : List Int} : Cl ps rows o a → Cl ps rows o b → r ∈ way ps a b o → Cl ps rows o r
structure IsHull (ps : List Int) (rows : List (List Int)) (o : List (List Int)) (us : List (List Int)) : Prop where
  nd : us.Nodup
  so : us.Pairwise (· ≤ ·)
  mem : ∀ r, r ∈ us ↔ Cl ps rows o r
theorem IsHull.uniq {ps : List Int} {rows o us vs : List (List Int)} (h : IsHull ps rows o us) (k : IsHull ps rows o vs) : us = vs := sorted_uniq h.nd k.nd h.so k.so fun r => (h.mem r).trans (k.mem r).symm
/-- the rows that may be: few, of one length, small numbers, closed -/
structure Univ (ps : List Int) (U : List (List Int)) : Prop where
  len : U.length ≤ 8
  el : ∀ r ∈ U, r.length = ps.length
  bd : ∀ r ∈ U, ∀ x ∈ r, 0 ≤ x ∧ x < 64
  cl : ∀ a ∈ U, ∀ b ∈ U, ∀ l, rowSet a b l ∈ U
theorem way_univ {ps : List Int} {U o : List (List Int)} (h : Univ ps U) {a b r : List Int} (ha : a ∈ U) (hb : b ∈ U) (hr : r ∈ way ps a b o) : r ∈ U := by
  obtain ⟨pre, k, post, _, l, _, rfl⟩ := way_mem.mp hr
  exact h.cl a ha b hb _
theorem Cl.univ {ps : List Int} {U rows o : List (List Int)} (h : Univ ps U) (hr : ∀ r ∈ rows, r ∈ U) {r : List Int} (c : Cl ps rows o r) : r ∈ U := by
  induction c with
  | base hm => exact hr _ hm
  | step _ _ hw iha ihb => exact way_univ h iha ihb hw
def mstep (ps : List Int) (o : List (List Int)) (one : List Int) (m : List (List Int)) (other : List Int) : List (List Int) := m ++ (way ps one other o).filter fun r => !decide (r ∈ m)
def minner (ps : List Int) (o us : List (List Int)) (m : List (List Int)) (one : List Int) : List (List Int) := us.foldl (mstep ps o one) m
def mall (ps : List Int) (o us : List (List Int)) : List (List Int) := us.foldl (minner ps o us) us
def hstep (ps : List Int) (o us : List (List Int)) : List (List Int) := sortR (mall ps o us)
structure HS (ps : List Int) (rows o U us : List (List Int)) : Prop where
  nd : us.Nodup
  sub : ∀ r ∈ us, r ∈ U
  bs : ∀ r ∈ rows, r ∈ us
  cl : ∀ r ∈ us, Cl ps rows o r
section
variable {ps : List Int} {rows o U : List (List Int)}
theorem HS.len (uv : Univ ps U) {us : List (List Int)} (h : HS ps rows o U us) : us.length ≤ 8 := Nat.le_trans (nodup_len h.nd h.sub) uv.len
theorem mstep_ok (uv : Univ ps U) (ok : OrdOk o) {m : List (List Int)} {one other : List Int} (h : HS ps rows o U m) (h1 : one ∈ m) (h2 : other ∈ m) : HS ps rows o U (mstep ps o one m other) ∧ m <+: mstep ps o one m other ∧ ∀ r ∈ way ps one other o, r ∈ mstep ps o one m other := by
  have hl : one.length = ps.length := uv.el one (h.sub one h1)
  refine ⟨⟨?_, fun r hr => ?_, fun r hr => List.mem_append_left _ (h.bs r hr), fun r hr => ?_⟩, ⟨_, rfl⟩, fun r hr => ?_⟩
  · refine List.nodup_append.mpr ⟨h.nd, (way_nodup hl o ok).filter _, fun a ha b hb e => ?_⟩
    have q := (List.mem_filter.mp hb).2
    rw [← e] at q
    simp [ha] at q
  · rcases List.mem_append.mp hr with z | z
    · exact h.sub r z
    · exact way_univ uv (h.sub one h1) (h.sub other h2) (List.mem_filter.mp z).1
  · rcases List.mem_append.mp hr with z | z
    · exact h.cl r z
    · exact .step (h.cl one h1) (h.cl other h2) (List.mem_filter.mp z).1
  · unfold mstep
    by_cases z : r ∈ m
    · exact List.mem_append_left _ z
    · exact List.mem_append_right _ (List.mem_filter.mpr ⟨hr, by simp [z]⟩)
theorem minner_ok (uv : Univ ps U) (ok : OrdOk o) {one : List Int} : ∀ {vs m : List (List Int)}, HS ps rows o U m → one ∈ m → (∀ v ∈ vs, v ∈ m) → HS ps rows o U (vs.foldl (mstep ps o one) m) ∧ m <+: vs.foldl (mstep ps o one) m ∧ ∀ other ∈ vs, ∀ r ∈ way ps one other o, r ∈ vs.foldl (mstep ps o one) m
  | [], m, h, _, _ => ⟨h, List.prefix_refl _, fun _ h => (by cases h)⟩
  | v :: vs, m, h, h1, hv => by
    obtain ⟨a1, a2, a3⟩ := mstep_ok uv ok h h1 (hv v List.mem_cons_self)
    obtain ⟨b1, b2, b3⟩ := minner_ok uv ok (vs := vs) a1 (a2.subset h1) fun w hw => a2.subset (hv w (List.mem_cons_of_mem _ hw))
    rw [List.foldl_cons]
    refine ⟨b1, a2.trans b2, fun other ho r hr => ?_⟩
    rcases List.mem_cons.mp ho with rfl | ho
    · exact b2.subset (a3 r hr)
    · exact b3 other ho r hr
theorem mall_ok (uv : Univ ps U) (ok : OrdOk o) {us : List (List Int)} : ∀ {vs m : List (List Int)}, HS ps rows o U m → (∀ v ∈ vs, v ∈ m) → (∀ v ∈ us, v ∈ m) → HS ps rows o U (vs.foldl (minner ps o us) m) ∧ m <+: vs.foldl (minner ps o us) m ∧ ∀ one ∈ vs, ∀ other ∈ us, ∀ r ∈ way ps one other o, r ∈ vs.foldl (minner ps o us) m
  | [], m, h, _, _ => ⟨h, List.prefix_refl _, fun _ h => (by cases h)⟩
  | v :: vs, m, h, hv, hu => by
    obtain ⟨a1, a2, a3⟩ := minner_ok uv ok (vs := us) h (hv v List.mem_cons_self) hu
    obtain ⟨b1, b2, b3⟩ := mall_ok uv ok (us := us) (vs := vs) a1 (fun w hw => a2.subset (hv w (List.mem_cons_of_mem _ hw))) fun w hw => a2.subset (hu w hw)
    rw [List.foldl_cons]
    refine ⟨b1, a2.trans b2, fun one h1 other h2 r hr => ?_⟩
    rcases List.mem_cons.mp h1 with rfl | h1
    · exact b2.subset (a3 other h2 r hr)
    · exact b3 one h1 other h2 r hr
theorem HS.sort {us : List (List Int)} (h : HS ps rows o U us) : HS ps rows o U (sortR us) :=
  ⟨(sortR_perm us).nodup_iff.mpr h.nd, fun r hr => h.sub r ((sortR_perm us).mem_iff.mp hr), fun r hr => (sortR_perm us).mem_iff.mpr (h.bs r hr), fun r hr => h.cl r ((sortR_perm us).mem_iff.mp hr)⟩
/-- nothing new: the hull -/
theorem hull_end (uv : Univ ps U) (ok : OrdOk o) {us : List (List Int)} (h : HS ps rows o U us) (so : us.Pairwise (· ≤ ·)) (e : (mall ps o us).length = us.length) : IsHull ps rows o us := by
  obtain ⟨_, a2, a3⟩ := mall_ok uv ok (us := us) (vs := us) h (fun _ h => h) fun _ h => h
  have e2 : us = mall ps o us := a2.eq_of_length e.symm
  refine ⟨h.nd, so, fun r => ⟨h.cl r, fun c => ?_⟩⟩
  induction c with
  | base hm => exact h.bs _ hm
  | step _ _ hw iha ihb =>
    rw [e2]
    exact a3 _ iha _ ihb _ hw
theorem hull_more (uv : Univ ps U) (ok : OrdOk o) {us : List (List Int)} (h : HS ps rows o U us) : HS ps rows o U (hstep ps o us) ∧ us.length ≤ (mall ps o us).length ∧ (hstep ps o us).length = (mall ps o us).length := by
  obtain ⟨a1, a2, _⟩ := mall_ok uv ok (us := us) (vs := us) h (fun _ h => h) fun _ h => h
  exact ⟨HS.sort a1, a2.length_le, sortR_len _⟩
def hiter (ps : List Int) (o us : List (List Int)) : Nat → List (List Int)
  | 0 => us
  | i + 1 => hstep ps o (hiter ps o us i)
theorem hiter_ok (uv : Univ ps U) (ok : OrdOk o) {us : List (List Int)} (h : HS ps rows o U us) (so : us.Pairwise (· ≤ ·)) : ∀ i, HS ps rows o U (hiter ps o us i) ∧ (hiter ps o us i).Pairwise (· ≤ ·)
  | 0 => ⟨h, so⟩
  | i + 1 => ⟨(hull_more uv ok (hiter_ok uv ok h so i).1).1, sortR_sorted _⟩
end
end Mk
namespace Mk
open PySem
theorem nodup_ex : ∀ rows : List (List Int), ∃ us : List (List Int), us.Nodup ∧ ∀ r, r ∈ us ↔ r ∈ rows
  | [] => ⟨[], List.nodup_nil, fun _ => Iff.rfl⟩
  | x :: rows => by
    obtain ⟨us, h1, h2⟩ := nodup_ex rows
    by_cases h : x ∈ us
    · exact ⟨us, h1, fun r => by
        rw [h2, List.mem_cons]
        constructor
        · exact .inr
        · rintro (rfl | z)
          · exact (h2 _).mp h
          · exact z⟩
    · exact ⟨x :: us, List.nodup_cons.mpr ⟨h, h1⟩, fun r => by rw [List.mem_cons, List.mem_cons, h2]⟩
theorem hull_ex {ps : List Int} {rows o U : List (List Int)} (uv : Univ ps U) (ok : OrdOk o) (hr : ∀ r ∈ rows, r ∈ U) : ∃ us, IsHull ps rows o us := by
  obtain ⟨us0, n0, m0⟩ := nodup_ex rows
  have h0 : HS ps rows o U (sortR us0) := HS.sort ⟨n0, fun r h => hr r ((m0 r).mp h), fun r h => (m0 r).mpr h, fun r h => .base ((m0 r).mp h)⟩
  have hi := hiter_ok uv ok h0 (sortR_sorted us0)
  refine Classical.byContradiction fun no => ?_
  have grow : ∀ i, i ≤ (hiter ps o (sortR us0) i).length := fun i => by
    induction i with
    | zero => exact Nat.zero_le _
    | succ i ih =>
      have ⟨_, b, c⟩ := hull_more uv ok (hi i).1
      show i + 1 ≤ (hstep ps o (hiter ps o (sortR us0) i)).length
      rw [c]
      by_cases e : (mall ps o (hiter ps o (sortR us0) i)).length = (hiter ps o (sortR us0) i).length
      · exact absurd ⟨_, hull_end uv ok (hi i).1 (hi i).2 e⟩ no
      · omega
  have h1 := grow 9
  have h2 := (hi 9).1.len uv
  omega
open Classical in
noncomputable def hullF (ps : List Int) (rows o : List (List Int)) : List (List Int) := if h : ∃ us, IsHull ps rows o us then h.choose else []
theorem hullF_is {ps : List Int} {rows o U : List (List Int)} (uv : Univ ps U) (ok : OrdOk o) (hr : ∀ r ∈ rows, r ∈ U) : IsHull ps rows o (hullF ps rows o) := by
  have h := hull_ex uv ok hr
  unfold hullF
  rw [dif_pos h]
  exact h.choose_spec
theorem IsHull.sub {ps : List Int} {rows o U us : List (List Int)} (uv : Univ ps U) (hr : ∀ r ∈ rows, r ∈ U) (h : IsHull ps rows o us) : ∀ r ∈ us, r ∈ U := fun r hm => Cl.univ uv hr ((h.mem r).mp hm)
theorem IsHull.len {ps : List Int} {rows o U us : List (List Int)} (uv : Univ ps U) (hr : ∀ r ∈ rows, r ∈ U) (h : IsHull ps rows o us) : us.length ≤ 8 := Nat.le_trans (nodup_len h.nd (h.sub uv hr)) uv.len
end Mk
namespace Mk
open PySem PySem.Spec PyProof.Rows L2
section
variable {β : Type} {X : Cx} {B : Bs} {G : En} {e : Expr}
/-- an owned list of known items is taken as a datum -/
theorem e_frzP {PD : List PyData → Prop} (h : EE X B G e (fun t => ∃ ds, t = .own ds ∧ PD ds)) : EE X B G e (fun t => ∃ ds, t = .dat (.list ds) ∧ PD ds) :=
  e_of h fun s F H Q g w q => ⟨F, g, w, fun v t F1 H1 p1 g1 e1 w1 => by
    obtain ⟨ds, rfl, pd⟩ := p1
    obtain ⟨F2, g2, e2, w2⟩ := Sat.freeze g1 w1
    exact q v _ F2 H1 ⟨ds, rfl, pd⟩ g2 (e1.trans e2) w2⟩
end
section
variable {P : Program} {w : World} {K : PySem.W.Frag} {mg : Str → Option Value} {base : Heap}
def c_l_hull : Ct := fun ts P => ∃ (ps : List Int) (U rows o : List (List Int)) (b1 b2 : Bool), 1 ≤ ps.length ∧ ps.length ≤ 3 ∧ Univ ps U ∧ (∀ r ∈ rows, r ∈ U) ∧ rows.length < 64 ∧ OrdOk o ∧ o.length ≤ 4 ∧ ts = [.dat (cR.e ps), .dat (dS b1 (rows.map cR.e)), .dat (dS b2 (o.map cR.e))] ∧ P = is (.dat (.list ((hullF ps rows o).map cR.e)))
theorem ca_l_hull {f : Addr} {fd : FuncData} (T : Bi K mg) (F : Fun K "_law_hull" "_law_hull" s_l_hull f fd) (hm : mg "_law_hull" = some (.ref f)) (hb : Binds K fd ["_law_places", "_law_rows", "_law_order"] [])
    (D1 : Ca P w K mg base 2 "_law_way" c_l_way) : Ca P w K mg base 3 "_law_hull" c_l_hull := by
  refine ca_mk F sc_l_hull hm hb (fun ts P ⟨_, _, _, _, _, _, _, _, _, _, _, _, _, h, _⟩ => by rw [h]; rfl) (fun cdv A outer s H E hr B ts Pr c => ?_)
  obtain ⟨ps, U, rows, o, b1, b2, p1, p3, uv, hsub, h64, ok, o4, rfl, rfl⟩ := c
  have nd := sc_l_hull.nd
  have theHull : ∀ {us}, IsHull ps rows o us → us = hullF ps rows o := fun h => h.uniq (hullF_is uv ok hsub)
  refine q_asgP 3 (e_frzP (PD := fun ds => ∃ us : List (List Int), ds = us.map cR.e ∧ us.Nodup ∧ us.Pairwise (· ≤ ·) ∧ ∀ r, r ∈ us ↔ r ∈ rows) (EE.imp (e_sortSet b1 hr T.sorted T.set (e_dat 1) p1 (fun r hr' => ⟨uv.el r (hsub r hr'), uv.bd r (hsub r hr')⟩) h64) fun t ⟨us, h1, h2⟩ => ⟨_, h1, us, rfl, h2⟩)) (fun t ht => ?_) nd
  obtain ⟨_, rfl, us0, rfl, n0, s0, m0⟩ := ht
  have h0 : HS ps rows o U us0 := ⟨n0, fun r h => hsub r ((m0 r).mp h), fun r h => (m0 r).mpr h, fun r h => .base ((m0 r).mp h)⟩
  have hi := hiter_ok uv ok h0 s0
  refine q_forB (xs := rgI 70) cI (.one 4) (fun i => [.dat (cR.e ps), .dat (dS b1 (rows.map cR.e)), .dat (dS b2 (o.map cR.e)), .dat (.list ((hiter ps o us0 i).map cR.e)), .any, .any, .any, .any, .any]) (fun i => i ≤ (hiter ps o us0 i).length) (Nat.zero_le _) ⟨.inr rfl, .inr rfl, .inr rfl, .inr rfl, .inr rfl, .inr rfl, .inr rfl, .inr rfl, .inr rfl, trivial⟩ (i_rangeM (n := 70) e_int (by decide) T.range) (g_one 4 nd) (fun _ _ => trivial)
    (bkP := fun G' => ∃ us, IsHull ps rows o us ∧ GLe G' [.dat (cR.e ps), .dat (dS b1 (rows.map cR.e)), .dat (dS b2 (o.map cR.e)), .dat (.list (us.map cR.e)), .any, .any, .any, .any, .any]) (fun i x hx hle => ?_) (fun hle => ?_) (fun G' ⟨us, hu, hg⟩ => ?_) PassesOwn.never
  · obtain ⟨rfl, hi70⟩ := rgI_get hx
    obtain ⟨hs, so⟩ := hi i
    generalize hus : hiter ps o us0 i = us at hs so hle
    have ul : us.length ≤ 8 := hs.len uv
    refine q_asg (t := .dat (.list (us.map cR.e))) 5 (e_frz (e_listLO T.list (e_dat 3))) ?_ nd
    have allok : ∀ a, HS ps rows o U ((us.take a).foldl (minner ps o us) us) ∧ us <+: (us.take a).foldl (minner ps o us) us := fun a => by
      obtain ⟨a1, a2, _⟩ := mall_ok uv ok (us := us) (vs := us.take a) (m := us) hs (fun v hv => List.mem_of_mem_take hv) fun _ h => h
      exact ⟨a1, a2⟩
    refine q_forM (xs := us) cR (.one 6) (fun a => [.dat (cR.e ps), .dat (dS b1 (rows.map cR.e)), .dat (dS b2 (o.map cR.e)), .dat (.list (us.map cR.e)), .any, .dat (.list (((us.take a).foldl (minner ps o us) us).map cR.e)), .any, .any, .any]) ⟨.inr rfl, .inr rfl, .inr rfl, .inr rfl, .inl rfl, .inr rfl, .inr rfl, .inr rfl, .inr rfl, trivial⟩ (i_list (e_dat 3)) (g_one 6 nd) (fun _ _ => trivial) (fun a one ha => ?_) ?_ PassesOwn.never
    · have h1m := List.mem_of_getElem? ha
      have l1 := uv.el one (hs.sub one h1m)
      obtain ⟨hsa, pra⟩ := allok a
      refine q_forM (xs := us) cR (.one 7) (fun j => [.dat (cR.e ps), .dat (dS b1 (rows.map cR.e)), .dat (dS b2 (o.map cR.e)), .dat (.list (us.map cR.e)), .any, .dat (.list (((us.take j).foldl (mstep ps o one) ((us.take a).foldl (minner ps o us) us)).map cR.e)), .dat (cR.e one), .any, .any]) ⟨.inr rfl, .inr rfl, .inr rfl, .inr rfl, .inr rfl, .inr rfl, .inr rfl, .inr rfl, .inr rfl, trivial⟩ (i_list (e_dat 3)) (g_one 7 nd) (fun _ _ => trivial) (fun j other hj => ?_) ?_ PassesOwn.never
      · have h2m := List.mem_of_getElem? hj
        have l2 := uv.el other (hs.sub other h2m)
        have mok := minner_ok uv ok (one := one) (vs := us.take j) hsa (pra.subset h1m) fun v hv => pra.subset (List.mem_of_mem_take hv)
        generalize hm : (us.take j).foldl (mstep ps o one) ((us.take a).foldl (minner ps o us) us) = m at mok
        have ml := mok.1.len uv
        refine q_asg (t := .dat (.list ((mstep ps o one m other).map cR.e))) 5 ?_ (s_nil ⟨.inr rfl, .inr rfl, .inr rfl, .inr rfl, .inr rfl, .inr (by rw [fold_take hj, hm]), .inr rfl, .inl rfl, .inr rfl, trivial⟩) nd
        have wl : (way ps one other o).length ≤ 32 := by
          have := (way_len ps one other p3 o).1
          unfold way
          omega
        refine EV.eq (e_catL (e_dat 5) (e_frz (e_lcM cR (.one 8) [("_law_row", 8)] (fun r => !decide (r ∈ m)) cR.e (i_list (e_callD D1 hr (as_cons (e_dat 0) (as_cons (e_dat 6) (as_cons (e_dat 7) (as_cons (e_dat 2) as_nil)))) ⟨ps, one, other, o, b2, p3, l1, l2, o4, rfl, rfl⟩)) (fun _ _ _ _ _ => g_one 8 nd) (fun s' H' C cl fp B' r hr' => ts_one (t_notInM cR false fl_cR (u65 hr) (e_dat 8) (e_dat 5))) (fun s' H' C cl fp B' r hr' _ => e_dat 8) (fun _ _ => trivial) (by omega) (blkOk_by (N := n_l_hull) (sc := defScope s_l_hull) (by decide +kernel)) nd)) ?_) ?_
        · have := List.length_filter_le (fun r => !decide (r ∈ m)) (way ps one other o)
          simp only [List.length_map]
          omega
        · unfold mstep
          rw [List.map_append]
      · rw [take_all]
        refine s_nil ⟨.inr rfl, .inr rfl, .inr rfl, .inr rfl, .inr rfl, .inr ?_, .inl rfl, .inr rfl, .inr rfl, trivial⟩
        rw [fold_take ha]
        rfl
    · rw [take_all]
      have fin := mall_ok uv ok (us := us) (vs := us) hs (fun _ h => h) fun _ h => h
      have fl : (mall ps o us).length ≤ 8 := HS.len uv fin.1
      have more := hull_more uv ok hs
      refine q_ifRet (k := decide ((mall ps o us).length = us.length)) (t_eq (q := (mall ps o us).length = us.length) (u64 hr) (e_lenL T.len (e_dat 5)) (e_lenL T.len (e_dat 3)) (fl_int _) (fl_int _) (by
          show PyData.int (((mall ps o us).map cR.e).length : Int) = PyData.int ((us.map cR.e).length : Int) ↔ _
          rw [List.length_map, List.length_map, PyData.int.injEq]
          omega)) (fun ht => ?_) (fun hf => ?_)
      · exact s_one (s_break ⟨us, hull_end uv ok hs so (of_decide_eq_true ht), .inr rfl, .inr rfl, .inr rfl, .inr rfl, .inl rfl, .inl rfl, .inr rfl, .inr rfl, .inr rfl, trivial⟩)
      · have ne := of_decide_eq_false hf
        refine q_asg (t := .dat (.list ((sortR (mall ps o us)).map cR.e))) 3 (e_frz (e_sortR false hr T.sorted (e_dat 5) (.inl fun r hr' => ?_))) (s_nil ⟨⟨.inr rfl, .inr rfl, .inr rfl, .inr ?_, .inl rfl, .inl rfl, .inr rfl, .inr rfl, .inr rfl, trivial⟩, ?_⟩) nd
        · have := uv.el r (fin.1.sub r hr')
          intro z
          rw [z] at this
          simp at this
          omega
        · show Sl.dat (.list ((sortR (mall ps o us)).map cR.e)) = Sl.dat (.list ((hstep ps o (hiter ps o us0 i)).map cR.e))
          rw [hus]
          rfl
        · show i + 1 ≤ (hstep ps o (hiter ps o us0 i)).length
          rw [hus, more.2.2]
          omega
  · rw [rgI_len] at hle
    have := (hi 70).1.len uv
    omega
  · refine ss_le hg (q_ret (t := .dat (.list (us.map cR.e))) (e_dat 3) ⟨?_, rfl⟩)
    show Sl.dat (.list (us.map cR.e)) = _
    rw [theHull hu]
end
end Mk
namespace Mk
open PySem PySem.Spec PyProof.Rows L2
section
variable {X : Cx} {B : Bs} {F H : Hp} {s : L2.St} {G : En} {ds : List PyData} {i : Nat} {body : List Stmt} {p : Po}
/-- an owned slot is taken as a datum from here on -/
theorem Sat.freezeAt (g : Good B F H) (w : Sat B F H s G) (hi : G[i]? = some (.own ds)) : ∃ F', Good B F' H ∧ Same F F' ∧ Sat B F' H s (G.set i (.dat (.list ds))) := by
  obtain ⟨ad, w0⟩ := w
  obtain ⟨e1, h2, h3, vs, h4, h5⟩ := w0.ok i _ hi
  have sf : Same F (upd F (ad i) (.lst vs)) := same_upd h2
  have il : i < G.length := (List.getElem?_eq_some_iff.mp hi).1
  refine ⟨upd F (ad i) (.lst vs), ⟨g.f.trans sf, fun b x q => ?_, g.m, fun a o q n => ?_⟩, sf, ad, by rw [List.length_set]; exact w0.len, fun j t e => ?_, fun j k t u e e' o o' z => ?_⟩
  · by_cases z : b = ad i
    · subst z
      rw [upd_same] at q
      rw [h4]
      exact q
    · rw [upd_ne z] at q
      exact g.h _ _ q
  · by_cases z : a = ad i
    · rw [z]
      exact .inl h3
    · rw [upd_ne z] at q
      exact g.n _ _ q n
  · by_cases hj : j = i
    · subst hj
      rw [List.getElem?_set_self il] at e
      cases e
      exact ⟨_, e1, .lst upd_same (h5.mono sf)⟩
    · rw [List.getElem?_set_ne (Ne.symm hj)] at e
      refine (w0.ok j t e).go sf fun o => ⟨rfl, ?_⟩
      rw [upd_ne fun z => hj (w0.inj j i t _ e hi o rfl z)]
      exact ((w0.ok j t e).here o).2.1
  · have get : ∀ {m : Nat} {v : Sl}, (G.set i (.dat (.list ds)))[m]? = some v → v.owned = true → G[m]? = some v := fun {m v} em om => by
      by_cases hm : m = i
      · subst hm
        rw [List.getElem?_set_self il] at em
        cases em
        cases om
      · rw [List.getElem?_set_ne (Ne.symm hm)] at em
        exact em
    exact w0.inj j k t u (get e o) (get e' o') o o' z
theorem ss_frz (i : Nat) (k : SS X B (G.set i (.dat (.list ds))) body p) (hi : G[i]? = some (.own ds) := by rfl) : SS X B G body p := PSs.weak k fun D s H ⟨F, g, w, q1, q2, q3, q4⟩ => by
  obtain ⟨F', g', e', w'⟩ := Sat.freezeAt g w hi
  exact ⟨F', g', w', fun G2 s2 F2 H2 m2 g2 e2 w2 => q1 G2 s2 F2 H2 m2 g2 (e'.trans e2) w2, fun v t G2 s2 F2 H2 m2 g2 e2 w2 => q2 v t G2 s2 F2 H2 m2 g2 (e'.trans e2) w2, fun G2 s2 F2 H2 m2 g2 e2 w2 => q3 G2 s2 F2 H2 m2 g2 (e'.trans e2) w2, fun G2 s2 F2 H2 m2 g2 e2 w2 => q4 G2 s2 F2 H2 m2 g2 (e'.trans e2) w2⟩
end

/-! ### layers -/
open Classical in
noncomputable def gLay (cs : List (List Int × List (List Int))) (left : List (List Int)) : List (List Int) := left.filter fun k => decide (LetP cs left k)
open Classical in
noncomputable def gRest (cs : List (List Int × List (List Int))) (left : List (List Int)) : List (List Int) := left.filter fun k => !decide (k ∈ gLay cs left)
noncomputable def gN (cs : List (List Int × List (List Int))) (ks : List (List Int)) : Nat → List (List Int)
  | 0 => ks
  | i + 1 => gRest cs (gN cs ks i)
noncomputable def laysN (cs : List (List Int × List (List Int))) (ks : List (List Int)) : Nat → List (List (List Int))
  | 0 => []
  | i + 1 => laysN cs ks i ++ (if gLay cs (gN cs ks i) = [] then [] else [gLay cs (gN cs ks i)])
theorem gRest_stuck {cs : List (List Int × List (List Int))} {left : List (List Int)} (h : gLay cs left = []) : gRest cs left = left := by
  unfold gRest
  rw [h]
  exact List.filter_eq_self.mpr fun k _ => by simp
theorem gN_stuck {cs : List (List Int × List (List Int))} {ks : List (List Int)} {i : Nat} (h : gLay cs (gN cs ks i) = []) : ∀ j, gN cs ks (i + j) = gN cs ks i ∧ laysN cs ks (i + j) = laysN cs ks i
  | 0 => ⟨rfl, rfl⟩
  | j + 1 => by
    obtain ⟨h1, h2⟩ := gN_stuck h j
    refine ⟨?_, ?_⟩
    · show gRest cs (gN cs ks (i + j)) = _
      rw [h1]
      exact gRest_stuck h
    · show laysN cs ks (i + j) ++ (if gLay cs (gN cs ks (i + j)) = [] then [] else [gLay cs (gN cs ks (i + j))]) = _
      rw [h1, h2, if_pos h, List.append_nil]
theorem gN_len (cs : List (List Int × List (List Int))) (ks : List (List Int)) : ∀ i, (gN cs ks i).length ≤ ks.length ∧ (laysN cs ks i).length ≤ i
  | 0 => ⟨Nat.le_refl _, Nat.le_refl _⟩
  | i + 1 => by
    obtain ⟨h1, h2⟩ := gN_len cs ks i
    refine ⟨Nat.le_trans (List.length_filter_le _ _) h1, ?_⟩
    show (laysN cs ks i ++ (if gLay cs (gN cs ks i) = [] then [] else [gLay cs (gN cs ks i)])).length ≤ i + 1
    rw [List.length_append]
    split <;> simp <;> omega
section
variable {P : Program} {w : World} {K : PySem.W.Frag} {mg : Str → Option Value} {base : Heap}
abbrev cLs : Cod (List (List Int)) := cLi cR
theorem fl_cLs (rs : List (List Int)) : Fl 2 (cLs.e rs) := fl_eLs rs
def c_l_layers : Ct := fun ts P => ∃ (cs : List (List Int × List (List Int))) (ks : List (List Int)), (∀ c ∈ cs, CkOk c) ∧ ks.length ≤ 4 ∧ ts = [.dat (.tuple (cs.map cC.e)), .dat (.list (ks.map cR.e))] ∧ P = is (.dat (.list [.list ((laysN cs ks ks.length).map cLs.e), .list ((gN cs ks ks.length).map cR.e)]))
theorem ca_l_layers {f : Addr} {fd : FuncData} (T : Bi K mg) (F : Fun K "_law_layers" "_law_layers" s_l_layers f fd) (hm : mg "_law_layers" = some (.ref f)) (hb : Binds K fd ["_law_checks", "_law_kinds_here"] [])
    (D1 : Ca P w K mg base 2 "_law_let" c_l_let) : Ca P w K mg base 3 "_law_layers" c_l_layers := by
  refine ca_mk F sc_l_layers hm hb (fun ts P ⟨_, _, _, _, h, _⟩ => by rw [h]; rfl) (fun cdv A outer s H E hr B ts Pr c => ?_)
  obtain ⟨cs, ks, h1, h2, rfl, rfl⟩ := c
  have nd := sc_l_layers.nd
  have gl := gN_len cs ks
  let Gi : Nat → En := fun i => [.dat (.tuple (cs.map cC.e)), .dat (.list (ks.map cR.e)), .dat (.list ((gN cs ks i).map cR.e)), .own ((laysN cs ks i).map cLs.e), .any, .any, .any]
  have fin : ∀ {rest : List Stmt} , True := trivial
  refine q_unp2 (P := fun t u => t = .dat (.list (ks.map cR.e)) ∧ u = .own []) 2 3 (p2_imm (P1 := is (.dat (.list (ks.map cR.e)))) (P2 := is (.own [])) (e_frz (e_listLO T.list (e_dat 1))) (e_lstO (ds := []) vs_nil (by decide)) (fun t h => by rw [h]; rfl)) (g_two 2 3 rfl nd) (fun t u ⟨ht, hu⟩ => ?_)
  subst ht hu
  refine q_forB (xs := rgI ks.length) cI (.one 4) Gi (fun _ => True) trivial ⟨.inr rfl, .inr rfl, .inr rfl, .inr rfl, .inr rfl, .inr rfl, .inr rfl, trivial⟩ (i_rangeM (EV.eq (e_lenL T.len (e_dat 1)) (by rw [List.length_map])) (by omega) T.range) (g_one 4 nd) (fun _ _ => trivial)
    (bkP := fun G' => GLe G' (Gi ks.length)) (fun i x hx _ => ?_) (fun _ => ?_) (fun G' hg => ss_le hg ?_) PassesOwn.never
  · obtain ⟨rfl, hi⟩ := rgI_get hx
    have gli := (gl i).1
    refine q_asg (t := .dat (.list ((gLay cs (gN cs ks i)).map cR.e))) 5 (e_frz (e_lcM cR (.one 6) [("_law_kind", 6)] (fun k => @decide (LetP cs (gN cs ks i) k) (Classical.propDecidable _)) cR.e (i_list (e_dat 2)) (fun _ _ _ _ _ => g_one 6 nd) (fun s' H' C cl fp B' k hk => ts_one (t_val (e_callD D1 hr (as_cons (e_dat 0) (as_cons (e_dat 2) (as_cons (e_dat 6) as_nil))) ⟨cs, gN cs ks i, k, _, h1, by omega, by simp, rfl, rfl⟩))) (fun s' H' C cl fp B' k hk _ => e_dat 6) (fun _ _ => trivial) (by omega) (blkOk_by (N := n_l_layers) (sc := defScope s_l_layers) (by decide +kernel)) nd)) ?_ nd
    refine q_ifRet (k := decide (gLay cs (gN cs ks i) = [])) (t_eqM cLs fl_cLs (u64 hr) (e_dat 5) (e_lst (ds := []) vs_nil (by decide))) (fun ht => s_one (s_break ?_)) (fun hf => ?_)
    · obtain ⟨e1, e2⟩ := gN_stuck (of_decide_eq_true ht) (ks.length - i)
      rw [show i + (ks.length - i) = ks.length by omega] at e1 e2
      exact ⟨.inr rfl, .inr rfl, .inr (by rw [e1]), .inr (by rw [e2]), .inl rfl, .inl rfl, .inr rfl, trivial⟩
    · have ne := of_decide_eq_false hf
      have e1 : laysN cs ks (i + 1) = laysN cs ks i ++ [gLay cs (gN cs ks i)] := by
        show laysN cs ks i ++ (if gLay cs (gN cs ks i) = [] then [] else [gLay cs (gN cs ks i)]) = _
        rw [if_neg ne]
      refine s_cons (Mid := is [.dat (.tuple (cs.map cC.e)), .dat (.list (ks.map cR.e)), .dat (.list ((gN cs ks i).map cR.e)), .own ((laysN cs ks (i + 1)).map cLs.e), .dat (.int i), .dat (.list ((gLay cs (gN cs ks i)).map cR.e)), .any]) (s_app (ds := (laysN cs ks i).map cLs.e) 3 (e_dat 5) (fun t ht => ⟨_, ht, ?_⟩) (by have := (gl i).2; rw [List.length_map]; omega)) (fun G' hG => ?_)
      · rw [e1, List.map_append]
        rfl
      · rw [show G' = _ from hG]
        refine q_asg (t := .dat (.list ((gN cs ks (i + 1)).map cR.e))) 2 (e_frz (EE.imp (e_lcM cR (.one 6) [("_law_kind", 6)] (fun k => @decide (¬ k ∈ gLay cs (gN cs ks i)) (Classical.propDecidable _)) cR.e (i_list (e_dat 2)) (fun _ _ _ _ _ => g_one 6 nd) (fun s' H' C cl fp B' k hk => ts_one (ET.eq (t_notInM cR false fl_cR (u65 hr) (e_dat 6) (e_dat 5)) (by by_cases z : k ∈ gLay cs (gN cs ks i) <;> simp [z]))) (fun s' H' C cl fp B' k hk _ => e_dat 6) (fun _ _ => trivial) (by omega) (blkOk_by (N := n_l_layers) (sc := defScope s_l_layers) (by decide +kernel)) nd) fun t ht => ?_)) (s_nil ⟨⟨.inr rfl, .inr rfl, .inr rfl, .inr rfl, .inl rfl, .inl rfl, .inr rfl, trivial⟩, trivial⟩) nd
        rw [show t = _ from ht]
        show Sl.own _ = Sl.own ((gRest cs (gN cs ks i)).map cR.e)
        unfold gRest
        congr 2
        apply List.filter_congr
        intro k _
        by_cases z : k ∈ gLay cs (gN cs ks i) <;> simp [z]
  · rw [rgI_len]
    exact ss_frz 3 (q_ret (e_lst (ds := [_, _]) (vs_cons (e_dat 3) (vs_cons (e_dat 2) vs_nil)) (by simp)) ⟨rfl, rfl⟩)
  · exact ss_frz 3 (q_ret (e_lst (ds := [_, _]) (vs_cons (e_dat 3) (vs_cons (e_dat 2) vs_nil)) (by simp)) ⟨rfl, rfl⟩)
end
end Mk
namespace Mk
open PySem PySem.Spec PyProof.Rows L2

/-! ### an int, one of some -/
def inI (S : Int → Prop) : Sl → Prop := fun t => ∃ i, t = .dat (.int i) ∧ S i
section
variable {X : Cx} {B : Bs} {G : En} {a b e : Expr} {p pos : Pos} {S S1 S2 : Int → Prop} {i : Int}
theorem n_of (h : EV X B G e (.int i)) : EE X B G e (inI fun j => j = i) := EE.imp h fun t ht => ⟨i, ht, rfl⟩
theorem n_imp (h : EE X B G e (inI S)) (k : ∀ i, S i → S1 i) : EE X B G e (inI S1) := EE.imp h fun t ⟨i, h1, h2⟩ => ⟨i, h1, k i h2⟩
theorem n_op {r : R2} {op : Operator} (ho : OpR X (binaryOp op) r) (ha : EE X B G a (inI S1)) (hb : EE X B G b (inI S2)) (h : ∀ i j, S1 i → S2 j → ∃ k, DOp r (.int i) (.int j) (.int k) ∧ S k) : EE X B G (.BinOp a op b pos) (inI S) :=
  e_op2 ho ha hb fun t u ⟨i, h1, h2⟩ ⟨j, h3, h4⟩ => by
    obtain ⟨k, D, hk⟩ := h i j h2 h4
    exact ⟨.int i, .int j, .int k, h1, h3, D, k, rfl, hk⟩
theorem n_add (ha : EE X B G a (inI S1)) (hb : EE X B G b (inI S2)) (h : ∀ i j, S1 i → S2 j → S (i + j)) : EE X B G (.BinOp a .Add b pos) (inI S) := n_op op_add ha hb fun i j h1 h2 => ⟨_, dI fun _ => .int _, h i j h1 h2⟩
theorem n_mul (ha : EE X B G a (inI S1)) (hb : EE X B G b (inI S2)) (h : ∀ i j, S1 i → S2 j → CMul i j ∧ S (i * j)) : EE X B G (.BinOp a .Mult b pos) (inI S) := n_op op_mul ha hb fun i j h1 h2 => ⟨_, dIc (h i j h1 h2).1 fun _ => .int _, (h i j h1 h2).2⟩
theorem n_mod (ha : EE X B G a (inI S1)) (hb : EE X B G b (inI S2)) (h : ∀ i j, S1 i → S2 j → 0 < j ∧ S (i % j)) : EE X B G (.BinOp a .Mod b pos) (inI S) := n_op op_mod ha hb fun i j h1 h2 => ⟨_, dIc (C := fun _ j => 0 < j) (h i j h1 h2).1 fun _ => .int _, (h i j h1 h2).2⟩
theorem n_fdiv (ha : EE X B G a (inI S1)) (hb : EE X B G b (inI S2)) (h : ∀ i j, S1 i → S2 j → CDiv i j ∧ S (i / j)) : EE X B G (.BinOp a .FloorDiv b pos) (inI S) := n_op op_fdiv ha hb fun i j h1 h2 => ⟨_, dIc (h i j h1 h2).1 fun _ => .int _, (h i j h1 h2).2⟩
theorem t_nd {P : Bool → Prop} {op : CmpOp} {r : R2} (ho : OpR X (compareOp op) r) (hm : behindInMarks op b = false) (ha : EE X B G a (inI S1)) (hb : EE X B G b (inI S2)) (h : ∀ i j, S1 i → S2 j → ∃ k, DOp r (.int i) (.int j) (.bool k) ∧ P k) : ET X B G (.Compare a [op] [b] pos) P :=
  t_cmp2 ho hm ha hb fun t u ⟨i, h1, h2⟩ ⟨j, h3, h4⟩ => by
    obtain ⟨k, D, pk⟩ := h i j h2 h4
    exact ⟨.int i, .int j, k, h1, h3, D, pk⟩
theorem t_gtN {P : Bool → Prop} (ha : EE X B G a (inI S1)) (hb : EE X B G b (inI S2)) (h : ∀ i j, S1 i → S2 j → P (decide (j < i))) : ET X B G (.Compare a [.Gt] [b] pos) P := t_nd op_gt (nomark _) ha hb fun i j h1 h2 => ⟨_, dI fun _ => .bl _, h i j h1 h2⟩
theorem t_geN {P : Bool → Prop} (ha : EE X B G a (inI S1)) (hb : EE X B G b (inI S2)) (h : ∀ i j, S1 i → S2 j → P (decide (j ≤ i))) : ET X B G (.Compare a [.GtE] [b] pos) P := t_nd op_ge (nomark _) ha hb fun i j h1 h2 => ⟨_, dI fun _ => .bl _, h i j h1 h2⟩
theorem t_ltN {P : Bool → Prop} (ha : EE X B G a (inI S1)) (hb : EE X B G b (inI S2)) (h : ∀ i j, S1 i → S2 j → P (decide (i < j))) : ET X B G (.Compare a [.Lt] [b] pos) P := t_nd op_lt (nomark _) ha hb fun i j h1 h2 => ⟨_, dI fun _ => .bl _, h i j h1 h2⟩
theorem t_eqN {P : Bool → Prop} (hu : X.A.units + 64 < cLine) (ha : EE X B G a (inI S1)) (hb : EE X B G b (inI S2)) (h : ∀ i j, S1 i → S2 j → P (decide (i = j))) : ET X B G (.Compare a [.Eq] [b] pos) P :=
  t_nd (op_eqD hu) (nomark _) ha hb fun i j h1 h2 => ⟨decide (i = j), by rw [← eqv_of (fl_int i) (fl_int j) (p := i = j) (by simp)]; exact dEq (fl_int i) (fl_int j), h i j h1 h2⟩
/-- int(e), abs(e) -/
theorem n_int (hm : X.mg "int" = none) (ha : EE X B G a (inI S)) (hg : Gl X "int" := by rfl) (he : starEach (a :: []) X.env = (false, eval a X.env) :: starEach [] X.env := by rfl) (hpl : (backTo pos (starEach [] X.env)).any (·.1) = false := by rfl) : EE X B G (.Call (.Name "int" p) [a] [] pos) (inI S) :=
  e_of (pe_callTy call_int1 hg hm (by decide +kernel) (pa_cons ha pa_nil he) (by decide) (by decide) he hpl) fun s F H Q g w q => ⟨F, g, w, fun v t F1 H1 ⟨i, h1, h2⟩ g1 e1 w1 => by
    subst h1
    have r : Rp F1 v (.int i) := w1.topI rfl
    cases r
    exact .inl ⟨i, rfl, q _ _ F1 H1 ⟨i, rfl, h2⟩ g1 e1 (w1.pop.pushD (.int i))⟩⟩
theorem n_abs (hm : X.mg "abs" = none) (ha : EE X B G a (inI S)) (h : ∀ i, S i → S1 (if i < 0 then -i else i)) (hg : Gl X "abs" := by rfl) (he : starEach (a :: []) X.env = (false, eval a X.env) :: starEach [] X.env := by rfl) (hpl : (backTo pos (starEach [] X.env)).any (·.1) = false := by rfl) : EE X B G (.Call (.Name "abs" p) [a] [] pos) (inI S1) :=
  e_of (pe_callB call_abs hg hm (by decide +kernel) (pa_cons ha pa_nil he) (by decide) (by decide) he hpl) fun s F H Q g w q => ⟨F, g, w, fun v t F1 H1 ⟨i, h1, h2⟩ g1 e1 w1 => by
    subst h1
    have r : Rp F1 v (.int i) := w1.topI rfl
    cases r
    exact ⟨i, rfl, q _ _ F1 H1 ⟨_, rfl, h i h2⟩ g1 e1 (w1.pop.pushD (.int _))⟩⟩
/-- if, the test one of some -/
theorem e_ifP {c : Expr} {Pc : Bool → Prop} {P : Sl → Prop} (h : ET X B G c Pc) (ha : Pc true → EE X B G a P) (hb : Pc false → EE X B G b P) : EE X B G (.IfExp c a b pos) P := by
  have h1 : PE X a (fun s H Q => Pc true ∧ tE B G P s H Q) := ⟨fun pins s σ H Q I ⟨c, q⟩ => (ha c).run pins s σ H Q I q⟩
  have h2 : PE X b (fun s H Q => Pc false ∧ tE B G P s H Q) := ⟨fun pins s σ H Q I ⟨c, q⟩ => (hb c).run pins s σ H Q I q⟩
  refine PE.weak (pe_ifExp h h1 h2) fun s H Q ⟨F, g, w, q⟩ => ⟨F, g, w, fun k F1 H1 p1 g1 e1 w1 => ?_⟩
  have nx : tE B G P s H1 Q := ⟨F1, g1, w1, fun v t F2 H2 p2 g2 e2 w2 => q v t F2 H2 p2 g2 (e1.trans e2) w2⟩
  cases k with
  | true => exact iteT ⟨p1, nx⟩
  | false => exact iteF ⟨p1, nx⟩
end

/-! ### the box of draws -/
section
variable {X : Cx} {B : Bs} {F H : Hp} {s : L2.St} {G : En} {e : Expr} {st : Stmt} {p : Po} {rest : List Stmt} {pos pos2 pos3 pos4 : Pos} {x : Str} {bp : Addr} {S : Int → Prop}
structure BoxIs (B : Bs) (F H : Hp) (s : L2.St) (G : En) (i : Nat) (bp : Addr) (a b : Int) : Prop where
  here : s[i]? = some (some (.ref bp))
  obj : H bp = some (.lst [.int a, .int b])
  a0 : 0 ≤ a
  b0 : 0 ≤ b
  b1 : b ≤ 2147483587
  fr : F bp = none
  ml : B.M bp = none
  put : ∀ F' H' a' b', Same F F' → Same F' H' → (∀ c o, c ≠ bp → H c = some o → H' c = some o) → (∀ c o, F' c = some o → F c = none → c = bp ∨ TU (H c)) → F' bp = none → H' bp = some (.lst [.int a', .int b']) → 0 ≤ a' → 0 ≤ b' → b' ≤ 2147483587 → Good B F' H' ∧ Sat B F' H' s G
theorem Sat.boxAt {i : Nat} (g : Good B F H) (w : Sat B F H s G) (hi : G[i]? = some (.box bp)) : ∃ a b, BoxIs B F H s G i bp a b := by
  obtain ⟨ad, w0⟩ := w
  obtain ⟨e1, e2, h3, h4, a, b, h5, h6, h7, h8⟩ := w0.ok i _ hi
  refine ⟨a, b, join_some e1, h5, h6, h7, h8, h3, h4, fun F' H' a' b' sf sh keep nw fb hb k1 k2 k3 => ⟨⟨g.f.trans sf, sh, fun c o q => ?_, fun c o q n => ?_⟩, ad, w0.len, fun j t e => ?_, w0.inj⟩⟩
  · have z : c ≠ bp := fun z => by rw [z, h4] at q; cases q
    exact keep c o z (g.m c o q)
  · cases q2 : F c with
    | some u => exact g.n c u q2 n
    | none =>
      rcases nw c o q q2 with z | z
      · rw [z]; exact .inl h4
      · exact TU.back g.m z
  · by_cases hj : j = i
    · subst hj
      rw [hi] at e
      cases e
      exact ⟨e1, e2, fb, h4, a', b', hb, k1, k2, k3⟩
    · refine (w0.ok j t e).go sf fun o => ?_
      obtain ⟨q1, q2, q3, u, q4⟩ := (w0.ok j t e).here o
      have ne : ad j ≠ bp := fun z => hj (w0.inj j i t _ e hi o rfl (by rw [z, e2]))
      refine ⟨by rw [keep _ _ ne q4, q4], ?_⟩
      cases z : F' (ad j) with
      | none => rfl
      | some v =>
        rcases nw _ v z q2 with z2 | z2
        · exact absurd z2 ne
        · exact absurd z2 ((w0.ok j t e).nt o)
/-- box[0], box[1] -/
theorem n_bx (i : Nat) (k : Nat) (hk : k < 2) (hi : G[i]? = some (.box bp)) (hN : X.N[i]? = some x) {j : Nat} {ci : Int} (hci : ci = (k : Int)) (hv : Vis X.env.scope x := by first | exact Or.inl rfl | exact Or.inr (Or.inl rfl) | exact Or.inr (Or.inr rfl))
    (hd : (x == ("__debug__" : Str)) = false := by decide) (hcd : (x == ("__classdict__" : Str)) = false := by decide) : EE X B G (.Subscript (.Name x pos2) (.Constant (.int ci) j pos3) pos) (inI fun z => 0 ≤ z ∧ (k = 1 → z ≤ 2147483587)) :=
  e_of (pe_ix ix_list (pe_var hN hv hd hcd) pe_int (fun _ _ => rfl)) fun s F H Q g w q => by
    obtain ⟨a, b, bx⟩ := Sat.boxAt g w hi
    subst hci
    have h2 : k = 0 ∨ k = 1 := by omega
    rcases h2 with rfl | rfl
    · exact ⟨_, bx.here, bp, [.int a, .int b], 0, .int a, rfl, rfl, SqL.of bx.obj, rfl, q _ (.dat (.int a)) F H ⟨a, rfl, bx.a0, fun z => nomatch z⟩ g (Same.refl _) (w.pushD (.int a))⟩
    · exact ⟨_, bx.here, bp, [.int a, .int b], 1, .int b, rfl, rfl, SqL.of bx.obj, rfl, q _ (.dat (.int b)) F H ⟨b, rfl, bx.b0, fun _ => bx.b1⟩ g (Same.refl _) (w.pushD (.int b))⟩
/-- box[0] = e, box[1] = e -/
theorem q_bxSet (i : Nat) (k : Nat) (hk : k < 2) (he : EE X B G e (inI fun z => 0 ≤ z ∧ (k = 1 → z ≤ 2147483587))) (kk : SS X B G rest p) (hi : G[i]? = some (.box bp)) (hN : X.N[i]? = some x) {j : Nat} {ci : Int} (hci : ci = (k : Int)) (hv : Vis X.env.scope x := by first | exact Or.inl rfl | exact Or.inr (Or.inl rfl) | exact Or.inr (Or.inr rfl))
    (hd : (x == ("__debug__" : Str)) = false := by decide) (hcd : (x == ("__classdict__" : Str)) = false := by decide)
    (hs : swapsWithSole [.Subscript (.Name x pos2) (.Constant (.int ci) j pos3) pos4] e pos.line X.env = pure false := by rfl) (hw : swappedStores [.Subscript (.Name x pos2) (.Constant (.int ci) j pos3) pos4] e X.env = pure none := by rfl)
    (h1 : (assignEach [.Subscript (.Name x pos2) (.Constant (.int ci) j pos3) pos4] X.env).map (·.2) = [assign (.Subscript (.Name x pos2) (.Constant (.int ci) j pos3) pos4) X.env] := by rfl) : SS X B G (.Assign [.Subscript (.Name x pos2) (.Constant (.int ci) j pos3) pos4] e pos :: rest) p :=
  s_cons (Mid := is G) (PS.weak (ps_asg he (pg_sub (pe_var hN hv hd hcd) pe_int set_list) hs hw h1) fun D s H ⟨F, g, w, q1, _⟩ => ⟨F, g, w, fun v t F1 H1 ⟨z, ht, h0, hz⟩ g1 e1 w1 => by
    subst ht
    have r : Rp F1 v (.int z) := w1.topI rfl
    cases r
    have w2 := w1.pop
    obtain ⟨a, b, bx⟩ := Sat.boxAt g1 w2 hi
    subst hci
    have keep : ∀ o c u, c ≠ bp → H1 c = some u → upd H1 bp o c = some u := fun o c u ne q => by rw [upd_ne ne]; exact q
    have sh : ∀ o, Same F1 (upd H1 bp o) := fun o c u q => by
      have ne : c ≠ bp := fun z => by rw [z, bx.fr] at q; cases q
      rw [upd_ne ne]
      exact g1.h c u q
    have h2 : k = 0 ∨ k = 1 := by omega
    rcases h2 with rfl | rfl
    · obtain ⟨g3, w3⟩ := bx.put F1 (upd H1 bp (.lst [.int z, .int b])) z b (Same.refl _) (sh _) (keep _) (fun c o q n => by rw [n] at q; cases q) bx.fr upd_same h0 bx.b0 bx.b1
      exact ⟨_, bx.here, bp, [.int a, .int b], 0, 0, rfl, rfl, bx.obj, rfl, q1 G s F1 _ rfl g3 e1 w3⟩
    · obtain ⟨g3, w3⟩ := bx.put F1 (upd H1 bp (.lst [.int a, .int z])) a z (Same.refl _) (sh _) (keep _) (fun c o q n => by rw [n] at q; cases q) bx.fr upd_same bx.a0 h0 (hz rfl)
      exact ⟨_, bx.here, bp, [.int a, .int b], 1, 1, rfl, rfl, bx.obj, rfl, q1 G s F1 _ rfl g3 e1 w3⟩⟩) fun G' h => by rw [show G' = _ from h]; exact kk
end
end Mk
namespace Mk
open PySem PySem.Spec PyProof.Rows L2

/-! ### calls that draw from the box -/
structure GrowB (bp : Addr) (F H F' H' : Hp) : Prop where
  f : Same F F'
  i : Same F' H'
  h : ∀ c o, c ≠ bp → H c = some o → H' c = some o
  n : ∀ c o, F' c = some o → F c = none → c = bp ∨ TU (H c)
  fb : F' bp = none
  bx : BoxAt H' bp
def spB (C : Ct) : Sp := fun vs H Q _ => ∃ F bp vs' ts P, vs = V.ref bp :: vs' ∧ C ts P ∧ Same F H ∧ BoxAt H bp ∧ F bp = none ∧ Imms F vs' ts ∧ ∀ v t F' H', P t → t.imm = true → GrowB bp F H F' H' → Imm F' v t → Q v H'
structure CaB (P : Program) (w : World) (K : PySem.W.Frag) (mg : Str → Option Value) (base : Heap) (k : Nat) (x : Str) (C : Ct) : Prop where
  h : ∃ (f : Addr) (fd : FuncData) (ps : List Str), mg x = some (.ref f) ∧ PySem.W.keepIn K (.ref f) = true ∧ Binds K fd ps [] ∧ FnOk P w K mg base CX0 k f fd ps (spB C)
section
variable {X : Cx} {B : Bs} {G : En} {e : Expr} {es : List Expr} {Ps : List Sl → Prop} {P : Sl → Prop} {x y : Str} {p p2 pos : Pos} {C : Ct} {n k : Nat} {t : Sl} {ts : List Sl} {bp : Addr}
theorem e_callBx (i : Nat) (D : CaB X.prog X.w X.K X.mg X.base k x C) (hr : Room n X.A) (ha : EAI X B G es Ps) (hC : ∀ ts, Ps ts → ∃ P', C ts P' ∧ ∀ t, P' t → P t) (hi : G[i]? = some (.box bp)) (hN : X.N[i]? = some y) (hk : k ≤ n := by decide) (hv : Vis X.env.scope y := by first | exact Or.inl rfl | exact Or.inr (Or.inl rfl) | exact Or.inr (Or.inr rfl))
    (hd : (y == ("__debug__" : Str)) = false := by decide) (hcd : (y == ("__classdict__" : Str)) = false := by decide) (hg : Gl X x := by rfl) (hdb : (x == ("__debug__" : Str)) = false := by decide)
    (he : starEach (.Name y p2 :: es) X.env = (false, eval (.Name y p2) X.env) :: starEach es X.env := by rfl) (hpl : (backTo pos (starEach es X.env)).any (·.1) = false := by rfl) : EE X B G (.Call (.Name x p) (.Name y p2 :: es) [] pos) P := by
  obtain ⟨f, fd, ps, hm, kp, hb, F⟩ := D.h
  refine e_of (pe_call F (hr.mono hk) hg hm kp hb .nil (pass0 (X := X)) (pa_cons (pe_var hN hv hd hcd) ha he) hdb he hpl) fun s F H Q g w q => ?_
  obtain ⟨a, b, bx⟩ := Sat.boxAt g w hi
  refine ⟨.ref bp, bx.here, F, g, w, fun vs ts F1 H1 p1 g1 e1 w1 i1 => ?_⟩
  obtain ⟨P', c, hP⟩ := hC ts p1
  obtain ⟨a1, b1, bx1⟩ := Sat.boxAt g1 w1 hi
  rw [List.append_nil]
  refine ⟨F1, bp, vs, ts, P', rfl, c, g1.h, ⟨a1, b1, bx1.obj, bx1.a0, bx1.b0, bx1.b1⟩, bx1.fr, i1, fun v t F2 H2 pt im gr iv => ?_⟩
  obtain ⟨a2, b2, o2, k1, k2, k3⟩ := gr.bx
  obtain ⟨g2, w2⟩ := bx1.put F2 H2 a2 b2 gr.f gr.i gr.h gr.n gr.fb o2 k1 k2 k3
  exact q v t F2 H2 (hP t pt) g2 (e1.trans gr.f) (w2.pushI iv)
end
theorem sat_startB {F H : Hp} {bp : Addr} {vs : List V} {ts : List Sl} (n : Nat) (hs : Same F H) (bx : BoxAt H bp) (fb : F bp = none) (im : Imms F vs ts) : Good ⟨F, fun c => if c = bp then none else H c⟩ F H ∧ Sat ⟨F, fun c => if c = bp then none else H c⟩ F H (some (.ref bp) :: (vs.map some ++ List.replicate n none)) (.box bp :: (ts ++ List.replicate n .any)) := by
  refine ⟨⟨Same.refl _, hs, fun c o q => ?_, fun a o q n => ?_⟩, (sat_start (B := ⟨F, fun c => if c = bp then none else H c⟩) (H := H) n im).pushO ⟨rfl, rfl, fb, if_pos rfl, bx⟩ fun i u a e o _ => ?_⟩
  · have q' : (if c = bp then none else H c) = some o := q
    by_cases z : c = bp
    · rw [if_pos z] at q'
      cases q'
    · rw [if_neg z] at q'
      exact q'
  · have n' : F a = none := n
    rw [n'] at q
    cases q
  · exfalso
    have hl : ∀ (ts : List Sl) (vs : List V), Imms F vs ts → ∀ (i : Nat) (u : Sl), (ts ++ List.replicate n Sl.any)[i]? = some u → u.owned = false := fun ts => by
      induction ts with
      | nil =>
        intro vs _ i u e
        rw [List.nil_append, List.getElem?_replicate] at e
        split at e
        · cases e; rfl
        · cases e
      | cons t ts ih =>
        intro vs im i u e
        cases vs with
        | nil => exact im.elim
        | cons v vs =>
          cases i with
          | zero =>
            simp at e
            subst e
            have i1 : Imm F v t := im.1
            cases t <;> first | rfl | exact i1.elim
          | succ i => exact ih vs im.2 i u (by simpa using e)
    rw [hl ts vs im i u e] at o
    cases o
section
variable {P : Program} {w : World} {K : PySem.W.Frag} {mg : Str → Option Value} {base : Heap} {x qual : Str} {st : Stmt} {f : Addr} {fd : FuncData} {N ps : List Str} {k : Nat} {C : Ct}
theorem caB_mk (F : Fun K x qual st f fd) (S : FnScope N ps (defScope st)) (hm : mg x = some (.ref f)) (hb : Binds K fd ps []) (len : ∀ ts P, C ts P → ts.length + 1 = ps.length)
    (body : ∀ (cdv : Value) (A : Around) (outer : List Env) (s : Shared) (H : Hp) (E : XK), Room k (A.deeper (envOfC qual (defScope st) s.heap.objs.size f cdv)) → ∀ (B : Bs) (bp : Addr) (ts : List Sl) (Pr : Sl → Prop), C ts Pr →
      SS (cx0 P w K mg base N qual st f cdv A outer s H E) B (.box bp :: (ts ++ List.replicate (N.length - (ts.length + 1)) .any)) (defBody st) { rt := fun t G' => Pr t ∧ t.imm = true ∧ G'[0]? = some (.box bp) }) : CaB P w K mg base (k + 1) x C := by
  refine ⟨f, fd, ps, hm, F.kp, hb, F.ok S (fun vs H Q E h => ?_) (fun cdv A outer s H vs Q E hr h => ?_)⟩
  · obtain ⟨F, bp, vs', ts, P, rfl, c, hs, bx, fb, im, _⟩ := h
    rw [List.length_cons, im.len]
    exact len ts P c
  · obtain ⟨F0, bp, vs', ts, Pr, rfl, c, hs, bx, fb, im, q⟩ := h
    obtain ⟨g0, w0⟩ := sat_startB (N.length - (ts.length + 1)) hs bx fb im
    refine ⟨_, body cdv A outer s H E hr ⟨F0, fun c => if c = bp then none else H c⟩ bp ts Pr c, F0, g0, ?_, fun _ _ _ _ z => z.elim, fun v t G' s' F' H' m g' e' w' => ?_, fun _ _ _ _ z => z.elim, fun _ _ _ _ z => z.elim⟩
    · unfold L2.start
      rw [List.map_cons, List.length_cons, im.len]
      exact w0
    · obtain ⟨a, b, bx'⟩ := Sat.boxAt (i := 1) g' w' (by simpa using m.2.2)
      refine q v t F' H' m.1 m.2.1 ⟨g'.f, g'.h, fun c o ne hc => g'.m c o (show (if c = bp then none else H c) = some o by rw [if_neg ne]; exact hc), fun c o h1 h2 => ?_, bx'.fr, a, b, bx'.obj, bx'.a0, bx'.b0, bx'.b1⟩ (w'.topI m.2.1)
      have z : TU (if c = bp then none else H c) := g'.n c o h1 h2
      by_cases e : c = bp
      · exact .inl e
      · rw [if_neg e] at z
        exact .inr z
theorem CaB.mono {j : Nat} (D : CaB P w K mg base k x C) (h : k ≤ j) : CaB P w K mg base j x C := by
  obtain ⟨f, fd, ps, hm, kp, hb, F⟩ := D.h
  exact ⟨f, fd, ps, hm, kp, hb, F.mono h⟩
end

/-! ### found.append(left.pop(i)), tg = xs.pop() -/
section
variable {X : Cx} {B : Bs} {G : En} {ds es : List PyData} {e : Expr} {p : Po} {rest : List Stmt} {d : PyData} {pos pos2 pos3 pos4 pos5 pos6 pos7 : Pos} {x y : Str}
theorem s_appPop (i j : Nat) (hij : i ≠ j) (he : EE X B G e (inI fun z => 0 ≤ z ∧ z < es.length)) (k : ∀ m d, es[m]? = some d → p.nx ((G.set j (.own (es.eraseIdx m))).set i (.own (ds ++ [d])))) (hl : ds.length < 100000) (hl2 : es.length < 100000) (hi : G[i]? = some (.own ds)) (hj : G[j]? = some (.own es)) (hN : X.N[i]? = some x) (hN2 : X.N[j]? = some y)
    (hv : Vis X.env.scope x := by first | exact Or.inl rfl | exact Or.inr (Or.inl rfl) | exact Or.inr (Or.inr rfl)) (hv2 : Vis X.env.scope y := by first | exact Or.inl rfl | exact Or.inr (Or.inl rfl) | exact Or.inr (Or.inr rfl)) (hd : (x == ("__debug__" : Str)) = false := by decide) (hcd : (x == ("__classdict__" : Str)) = false := by decide) (hd2 : (y == ("__debug__" : Str)) = false := by decide) (hcd2 : (y == ("__classdict__" : Str)) = false := by decide)
    (hs : starEach (Expr.Call (.Attribute (.Name y pos7) "pop" pos6) [e] [] pos5 :: []) X.env = (false, eval (.Call (.Attribute (.Name y pos7) "pop" pos6) [e] [] pos5) X.env) :: starEach [] X.env := by rfl) (hs2 : starEach (e :: []) X.env = (false, eval e X.env) :: starEach [] X.env := by rfl)
    (hsw : swapsWith (.Call (.Attribute (.Name x pos4) "append" pos3) [.Call (.Attribute (.Name y pos7) "pop" pos6) [e] [] pos5] [] pos2) none pos.line X.env = pure false := by rfl)
    (hb : attributeBase (.Name x pos4) "append" X.env (eval (.Name x pos4) X.env) = eval (.Name x pos4) X.env := by rfl) (hb2 : attributeBase (.Name y pos7) "pop" X.env (eval (.Name y pos7) X.env) = eval (.Name y pos7) X.env := by rfl)
    (hfew : ((backTo pos2 (starEach (Expr.Call (.Attribute (.Name y pos7) "pop" pos6) [e] [] pos5 :: []) X.env)).all (fun x => !x.1) && (backToKw pos2 (keywordEach [] X.env)).all (fun x => x.1.isSome)
      && decide ((Expr.Call (.Attribute (.Name y pos7) "pop" pos6) [e] [] pos5 :: []).length + ([] : List Keyword).length + (if ([] : List Keyword).isEmpty then 0 else 1) < 30)) = true := by rfl)
    (hfew2 : ((backTo pos5 (starEach (e :: []) X.env)).all (fun x => !x.1) && (backToKw pos5 (keywordEach [] X.env)).all (fun x => x.1.isSome)
      && decide ((e :: []).length + ([] : List Keyword).length + (if ([] : List Keyword).isEmpty then 0 else 1) < 30)) = true := by rfl)
    (hend : (pos3.endLine == pos2.line) = true := by rfl) (hend2 : (pos6.endLine == pos5.line) = true := by rfl) (hpl : (backTo pos2 (starEach [] X.env)).any (·.1) = false := by rfl) (hpl2 : (backTo pos5 (starEach [] X.env)).any (·.1) = false := by rfl) :
    S1 X B G (.Expr (.Call (.Attribute (.Name x pos4) "append" pos3) [.Call (.Attribute (.Name y pos7) "pop" pos6) [e] [] pos5] [] pos2) pos) p :=
  PS.weak (ps_expr (pe_bm PySem.F.plainAttrs_list PySem.F.slot_list_append PySem.F.type_list_append mt_append (pe_var hN hv hd hcd) (pa_cons (pe_bm PySem.F.plainAttrs_list PySem.F.slot_list_pop PySem.F.type_list_pop mt_popAt (pe_var hN2 hv2 hd2 hcd2) (pa_cons he pa_nil hs2) hb2 hfew2 hend2 hs2 hpl2) pa_nil hs) hb hfew hend hs hpl) hsw) fun D s H ⟨F, g, w, q1, _⟩ => by
    obtain ⟨l, vs, O, r⟩ := Sat.own g w hi
    obtain ⟨l2, vs2, O2, r2⟩ := Sat.own g w hj
    refine ⟨.ref l, O.here, .inl ⟨rfl, vs, SqL.of O.obj⟩, .ref l2, O2.here, .inl ⟨rfl, vs2, SqL.of O2.obj⟩, F, g, w, fun v t F1 H1 ⟨z, ht, h0, h1⟩ g1 e1 w1 => ?_⟩
    subst ht
    have rz : Rp F1 v (.int z) := w1.topI rfl
    cases rz
    have w1' := w1.pop
    obtain ⟨l3, vs3, O3, r3⟩ := Sat.own g1 w1' hj
    have e3 : l2 = l3 := by
      have z := O2.here.symm.trans O3.here
      cases z
      rfl
    subst e3
    have lz : z.toNat < vs3.length := by rw [r3.length]; omega
    have hy := List.getElem?_eq_getElem lz
    obtain ⟨d, hd', rd⟩ := r3.get hy
    have hix : seqIndex? z vs3.length = some z.toNat := by
      have : ixN vs3.length z = some z.toNat := by
        unfold ixN
        rw [if_pos h0, if_pos (by omega)]
      exact (ixN_seq this).1
    refine ⟨l2, vs3, z, z.toNat, vs3[z.toNat], rfl, rfl, O3.obj, by omega, by omega, hix, hy, ?_⟩
    obtain ⟨w4, g4⟩ := O3.put (vs3.eraseIdx z.toNat) (es.eraseIdx z.toNat) (by
      rw [List.eraseIdx_eq_take_drop_succ, List.eraseIdx_eq_take_drop_succ]
      exact (r3.take _).append (r3.drop _))
    have hi4 : (G.set j (.own (es.eraseIdx z.toNat)))[i]? = some (.own ds) := by
      rw [List.getElem?_set_ne hij.symm]
      exact hi
    obtain ⟨l5, vs5, O5, r5⟩ := Sat.own g4 w4 hi4
    have e5 : l = l5 := by
      have z := O.here.symm.trans O5.here
      cases z
      rfl
    subst e5
    obtain ⟨w6, g6⟩ := O5.put (vs5 ++ [vs3[z.toNat]]) (ds ++ [d]) (r5.snoc rd)
    exact ⟨l, vs5, _, rfl, rfl, O5.obj, by rw [r5.length]; exact Nat.lt_of_lt_of_le hl (by decide), q1 _ _ F1 _ (k _ d hd') g6 e1 w6⟩
/-- tg = xs.pop() -/
theorem q_popTo (j : Nat) (T : Tg) {tg : Expr} (hg : PG X tg (T.g X.K)) (fit : T.fits d) (k : SS X B (T.to d (G.set j (.own ds))) rest p) (hj : G[j]? = some (.own (ds ++ [d]))) (hN2 : X.N[j]? = some y) (hv2 : Vis X.env.scope y := by first | exact Or.inl rfl | exact Or.inr (Or.inl rfl) | exact Or.inr (Or.inr rfl)) (hd2 : (y == ("__debug__" : Str)) = false := by decide) (hcd2 : (y == ("__classdict__" : Str)) = false := by decide)
    (hb2 : attributeBase (.Name y pos7) "pop" X.env (eval (.Name y pos7) X.env) = eval (.Name y pos7) X.env := by rfl) (hend2 : (pos6.endLine == pos5.line) = true := by rfl)
    (hs : swapsWithSole [tg] (.Call (.Attribute (.Name y pos7) "pop" pos6) [] [] pos5) pos.line X.env = pure false := by rfl) (hw : swappedStores [tg] (.Call (.Attribute (.Name y pos7) "pop" pos6) [] [] pos5) X.env = pure none := by rfl)
    (h1 : (assignEach [tg] X.env).map (·.2) = [assign tg X.env] := by rfl) : SS X B G (.Assign [tg] (.Call (.Attribute (.Name y pos7) "pop" pos6) [] [] pos5) pos :: rest) p :=
  s_cons (Mid := is (T.to d (G.set j (.own ds)))) (PS.weak (ps_asg (pe_bm0 PySem.F.plainAttrs_list PySem.F.slot_list_pop PySem.F.type_list_pop mt_pop (pe_var hN2 hv2 hd2 hcd2) hb2 hend2) hg hs hw h1) fun D s H ⟨F, g, w, q1, _⟩ => by
    obtain ⟨l2, vs2, O2, r2⟩ := Sat.own g w hj
    have hl := r2.length
    rw [List.length_append, List.length_singleton] at hl
    have hlt : vs2.length - 1 < vs2.length := by omega
    obtain ⟨d', hd', rd⟩ := r2.get (List.getElem?_eq_getElem hlt)
    have ed : d' = d := by
      rw [show vs2.length - 1 = ds.length by omega, List.getElem?_append_right (Nat.le_refl _), Nat.sub_self] at hd'
      simpa using hd'.symm
    subst ed
    obtain ⟨w4, g4⟩ := O2.put vs2.dropLast ds (by
      rw [List.dropLast_eq_take, show vs2.length - 1 = ds.length by omega]
      have := r2.take ds.length
      rwa [List.take_left] at this)
    refine ⟨.ref l2, O2.here, .inl ⟨rfl, vs2, SqL.of O2.obj⟩, l2, vs2, _, rfl, rfl, O2.obj, List.getElem?_eq_getElem hlt, ?_⟩
    exact tg_run T g4 w4 rd fit fun s' _ w5 => q1 _ s' F _ rfl g4 (Same.refl _) w5) fun G' h => by rw [show G' = _ from h]; exact k
end
end Mk
namespace Mk
open PySem PySem.Spec PyProof.Rows L2
section
variable {X : Cx} {B : Bs} {G : En} {a b c : Expr} {body rest : List Stmt} {p : Po} {pos p1 p2 : Pos} {ds : List PyData} {x : Str} {S1 S2 : Int → Prop}
/-- if c: .. (leaves), the test one of some -/
theorem q_ifP {P : Bool → Prop} (hc : ET X B G c P) (ha : P true → SS X B G body { p with nx := fun _ => False }) (hr : P false → SS X B G rest p) : SS X B G (.If c body [] pos :: rest) p :=
  s_cons (Mid := fun G' => P false ∧ G' = G) (s_if (k := true) (P := P) hc (fun h => PSs.weak (ha h) fun D s H ⟨F, g, w, q1, q2, q3, q4⟩ => ⟨F, g, w, fun _ _ _ _ z => z.elim, q2, q3, q4⟩) (fun h => s_nil ⟨h, rfl⟩)) fun G' ⟨h, e⟩ => by
    rw [e]
    exact hr h
theorem n_ixL (ha : EV X B G a (.list ds)) (hb : EE X B G b (inI fun z => 0 ≤ z ∧ z < ds.length)) (hs : PlainIx b := by exact fun _ _ => rfl) : EE X B G (.Subscript a b pos) (fun t => ∃ d, d ∈ ds ∧ t = .dat d) :=
  e_of (pe_ix ix_list ha hb hs) fun s F H Q g w q => ⟨F, g, w, fun v t F1 H1 p1 g1 e1 w1 => ⟨F1, g1, w1.pop, fun u t2 F2 H2 ⟨z, h2, h3, h4⟩ g2 e2 w2 => by
    rw [show t = Sl.dat (.list ds) from p1] at w1
    subst h2
    have ru : Rp F2 u (.int z) := w2.topI rfl
    cases ru
    have r : Rp F2 v (.list ds) := (w1.topI rfl : Rp F1 v (.list ds)).mono e2
    cases r with
    | @lst ad xs _ h1 r1 =>
      have lz : z.toNat < xs.length := by rw [r1.length]; omega
      have hy := List.getElem?_eq_getElem lz
      obtain ⟨d, hd, rd⟩ := r1.get hy
      refine ⟨ad, xs, z, _, rfl, rfl, SqL.of (g2.h _ _ h1), ?_, q _ (.dat d) F2 H2 ⟨d, List.mem_of_getElem? hd, rfl⟩ g2 (e1.trans e2) (w2.pop.pushD rd)⟩
      unfold atI ixN
      rw [if_pos h3, if_pos (by omega)]
      exact hy⟩⟩
/-- len of a list of one's own -/
theorem e_lenO (i : Nat) (hm : X.mg "len" = none) (hi : G[i]? = some (.own ds) := by rfl) (hN : X.N[i]? = some x := by rfl) (hv : Vis X.env.scope x := by first | exact Or.inl rfl | exact Or.inr (Or.inl rfl) | exact Or.inr (Or.inr rfl))
    (hd : (x == ("__debug__" : Str)) = false := by decide) (hcd : (x == ("__classdict__" : Str)) = false := by decide) (hg : Gl X "len" := by rfl) (he : starEach (Expr.Name x p1 :: []) X.env = (false, eval (.Name x p1) X.env) :: starEach [] X.env := by rfl) (hpl : (backTo pos (starEach [] X.env)).any (·.1) = false := by rfl) : EV X B G (.Call (.Name "len" p2) [.Name x p1] [] pos) (.int ds.length) :=
  e_of (pe_callB call_len_seq hg hm PySem.boot_len (pa_cons (pe_var hN hv hd hcd) pa_nil he) (by decide) (by decide) he hpl) fun s F H Q g w q => by
    obtain ⟨l, vs, O, r⟩ := Sat.own g w hi
    refine ⟨.ref l, O.here, l, vs, rfl, .inl (SqL.of O.obj), ?_⟩
    rw [r.length]
    exact q _ _ F H rfl g (Same.refl _) (w.pushD (.int _))
end
section
variable {P : Program} {w : World} {K : PySem.W.Frag} {mg : Str → Option Value} {base : Heap}
def c_l_take : Ct := fun ts P => ∃ m : Int, 0 < m ∧ m ≤ 1000000 ∧ ts = [.dat (.int m)] ∧ P = inI fun z => 0 ≤ z ∧ z < m
theorem mod_in {i m : Int} (h : 0 < m) : 0 ≤ i % m ∧ i % m < m := ⟨Int.emod_nonneg _ (by omega), Int.emod_lt_of_pos _ h⟩
theorem ca_l_take {f : Addr} {fd : FuncData} (T : Bi K mg) (F : Fun K "_law_take" "_law_take" s_l_take f fd) (hm : mg "_law_take" = some (.ref f)) (hb : Binds K fd ["_law_box_here", "_law_many"] []) : CaB P w K mg base 1 "_law_take" c_l_take := by
  refine caB_mk F sc_l_take hm hb (fun ts P ⟨_, _, _, h, _⟩ => by rw [h]; rfl) (fun cdv A outer s H E hr B bp ts Pr c => ?_)
  obtain ⟨m, m0, m1, rfl, rfl⟩ := c
  have nd := sc_l_take.nd
  refine q_ifP (P := fun _ => True) (t_gtN (n_bx 0 0 (by decide) rfl rfl rfl) (n_of e_int) (fun _ _ _ _ => trivial)) (fun _ => ?_) (fun _ => ?_)
  · refine q_asgP (P := inI fun z => 0 ≤ z ∧ z < m) 2 (n_mod (n_int T.int (n_bx 0 0 (by decide) rfl rfl rfl)) (n_of (e_dat 1)) (fun i j _ hj => by subst hj; exact ⟨m0, mod_in m0⟩)) (fun t ⟨d, ht, hd⟩ => ?_) nd
    subst ht
    refine q_bxSet 0 0 (by decide) (n_fdiv (n_bx 0 0 (by decide) rfl rfl rfl) (n_of (e_dat 1)) (fun i j hi hj => by subst hj; exact ⟨⟨m0, by omega⟩, Int.ediv_nonneg hi.1 (by omega), fun z => nomatch z⟩)) ?_ rfl rfl rfl
    exact s_one (s_ret (e_dat 2) (fun t ht => ⟨⟨d, ht, hd⟩, by rw [show t = _ from ht]; rfl, rfl⟩))
  · refine q_asgP (P := inI fun z => 0 ≤ z ∧ z < 2147483399) 3 (n_mod (n_int T.int (n_add (S := fun _ => True) (n_mul (S := fun _ => True) (n_bx 0 1 (by decide) rfl rfl rfl) (n_of e_int) (fun i j _ hj => ⟨.inr (by subst hj; decide), trivial⟩)) (n_of e_int) (fun _ _ _ _ => trivial))) (n_of e_int) (fun i j _ hj => by subst hj; exact ⟨by decide, mod_in (by decide)⟩)) (fun t ⟨d, ht, hd⟩ => ?_) nd
    subst ht
    refine q_bxSet 0 1 (by decide) (n_add (n_mod (S := fun z => 0 ≤ z ∧ z < 2147483587) (n_int T.int (n_add (S := fun _ => True) (n_mul (S := fun _ => True) (n_of (e_dat 3)) (n_of e_int) (fun i j _ hj => ⟨.inr (by subst hj; decide), trivial⟩)) (n_of e_int) (fun _ _ _ _ => trivial))) (n_of e_int) (fun i j _ hj => by subst hj; exact ⟨by decide, mod_in (by decide)⟩)) (n_of e_int) (fun i j hi hj => by subst hj; exact ⟨by omega, fun _ => by omega⟩)) ?_ rfl rfl rfl
    exact s_one (s_ret (P := inI fun z => 0 ≤ z ∧ z < m) (n_mod (n_int T.int (n_fdiv (S := fun _ => True) (n_add (S := fun _ => True) (n_mul (S := fun _ => True) (n_of (e_dat 3)) (n_of e_int) (fun i j _ hj => ⟨.inr (by subst hj; decide), trivial⟩)) (n_bx 0 1 (by decide) rfl rfl rfl) (fun _ _ _ _ => trivial)) (n_of e_int) (fun i j _ hj => ⟨by subst hj; exact ⟨by decide, by decide⟩, trivial⟩))) (n_of (e_dat 1)) (fun i j _ hj => by subst hj; exact ⟨m0, mod_in m0⟩)) (fun t ht => ⟨ht, by obtain ⟨i, h, _⟩ := ht; rw [h]; rfl, rfl⟩))

def c_l_pick : Ct := fun ts P => ∃ ds : List PyData, ds ≠ [] ∧ ds.length ≤ 1000 ∧ ts = [.dat (.list ds)] ∧ P = fun t => ∃ d, d ∈ ds ∧ t = .dat d
theorem ca_l_pick {f : Addr} {fd : FuncData} (T : Bi K mg) (F : Fun K "_law_pick" "_law_pick" s_l_pick f fd) (hm : mg "_law_pick" = some (.ref f)) (hb : Binds K fd ["_law_box_here", "_law_some"] []) (D1 : CaB P w K mg base 1 "_law_take" c_l_take) : CaB P w K mg base 2 "_law_pick" c_l_pick := by
  refine caB_mk F sc_l_pick hm hb (fun ts P ⟨_, _, _, h, _⟩ => by rw [h]; rfl) (fun cdv A outer s H E hr B bp ts Pr c => ?_)
  obtain ⟨ds, h1, h2, rfl, rfl⟩ := c
  have hl : 0 < ds.length := List.length_pos_iff.mpr h1
  refine s_one (s_ret (n_ixL (e_dat 1) (e_callBx 0 D1 hr (Ps := is [.dat (.int ds.length)]) (as_cons (e_lenL T.len (e_dat 1)) as_nil) (fun ts ht => ⟨_, ⟨ds.length, by omega, by omega, ht, rfl⟩, fun t h => h⟩) rfl rfl)) (fun t ht => ⟨ht, by obtain ⟨d, _, h⟩ := ht; rw [h]; rfl, rfl⟩))

theorem erase_perm {β : Type} {ls : List β} {m : Nat} (h : m < ls.length) : (ls[m] :: ls.eraseIdx m).Perm ls := by
  have e : ls = ls.take m ++ ls[m] :: ls.drop (m + 1) := by
    rw [← List.drop_eq_getElem_cons h, List.take_append_drop]
  rw [List.eraseIdx_eq_take_drop_succ]
  exact List.perm_middle.symm.trans (by rw [← e])
def c_l_turned : Ct := fun ts P => ∃ ds : List PyData, ds.length ≤ 1000 ∧ ts = [.dat (.list ds)] ∧ P = fun t => ∃ es, es.Perm ds ∧ t = .dat (.list es)
theorem ca_l_turned {f : Addr} {fd : FuncData} (T : Bi K mg) (F : Fun K "_law_turned" "_law_turned" s_l_turned f fd) (hm : mg "_law_turned" = some (.ref f)) (hb : Binds K fd ["_law_box_here", "_law_things"] []) (D1 : CaB P w K mg base 1 "_law_take" c_l_take) : CaB P w K mg base 2 "_law_turned" c_l_turned := by
  refine caB_mk F sc_l_turned hm hb (fun ts P ⟨_, _, h, _⟩ => by rw [h]; rfl) (fun cdv A outer s H E hr B bp ts Pr c => ?_)
  obtain ⟨ds, h1, rfl, rfl⟩ := c
  have nd := sc_l_turned.nd
  refine q_par2 (P := fun t u => t = .own [] ∧ u = .own ds) 2 3 (p2_own (e_lstO (ds := []) vs_nil (by decide)) (fun B' => e_listLO T.list (e_dat 1))) (fun t u ⟨ht, hu⟩ => ?_) nd
  subst ht hu
  refine s_cons (Mid := fun G' => ∃ fs u, fs.Perm ds ∧ G' = [.box bp, .dat (.list ds), .own fs, .own [], u]) (s_for (PD := is (rgD ds.length)) (.one 4) (fun es i G' => es = rgD ds.length ∧ ∃ fs ls u, (fs ++ ls).Perm ds ∧ fs.length = i ∧ G' = [.box bp, .dat (.list ds), .own fs, .own ls, u]) (i_range (e_lenO 3 T.len) (by omega) T.range) (g_one 4 nd) (fun _ _ _ _ => trivial) (fun es h => ⟨h, [], ds, .any, List.Perm.refl _, rfl, rfl⟩) (fun es i d G1 h hd ⟨_, fs, ls, u, pm, hl, e⟩ => ?_) (fun es G' h ⟨_, fs, ls, u, pm, hl, e⟩ => ?_) PassesOwn.never rfl) (fun G' ⟨fs, u, pm, e⟩ => ?_)
  · subst e
    have pl := pm.length_eq
    rw [List.length_append] at pl
    have hil : i < ds.length := by
      rw [show es = rgD ds.length from h] at hd
      have := (List.getElem?_eq_some_iff.mp hd).1
      rwa [rgD_len] at this
    refine s_one (s_appPop (ds := fs) (es := ls) 2 3 (by decide) (e_callBx 0 D1 hr (Ps := is [.dat (.int ls.length)]) (as_cons (e_lenO 3 T.len) as_nil) (fun ts ht => ⟨_, ⟨ls.length, by omega, by omega, ht, rfl⟩, fun t h => h⟩) rfl rfl) (fun m d' hm' => ⟨h, fs ++ [d'], ls.eraseIdx m, _, ?_, ?_, rfl⟩) (by omega) (by omega) rfl rfl rfl rfl)
    · refine List.Perm.trans ?_ pm
      rw [List.append_assoc]
      refine List.Perm.append_left fs ?_
      obtain ⟨hm1, rfl⟩ := List.getElem?_eq_some_iff.mp hm'
      rw [List.singleton_append]
      exact erase_perm hm1
    · rw [List.length_append, hl]
      rfl
  · subst e
    have pl := pm.length_eq
    rw [List.length_append] at pl
    rw [show es = rgD ds.length from h, rgD_len] at hl
    have : ls = [] := List.eq_nil_of_length_eq_zero (by omega)
    subst this
    rw [List.append_nil] at pm
    exact ⟨fs, u, pm, rfl⟩
  · subst e
    exact ss_frz 2 (s_one (s_ret (e_dat 2) (fun t ht => ⟨⟨fs, pm, ht⟩, by rw [show t = _ from ht]; rfl, rfl⟩)))
end
end Mk
namespace Mk
open PySem

/-! ### columns, rows of a box of values -/
structure ColsOk (cs : List Int) : Prop where
  l1 : 1 ≤ cs.length
  l3 : cs.length ≤ 3
  v : ∀ c ∈ cs, 1 ≤ c ∧ c ≤ 2
  s : (cs.map fun c => c * (c - 1)).sum ≤ 4
theorem allRows_snoc (cs ps : List Int) (p : Int) : allRows cs (ps ++ [p]) = rowStep cs (allRows cs ps) p := by
  unfold allRows
  rw [List.foldl_append]
  rfl
def InRow (cs ps r : List Int) : Prop := r.length = ps.length ∧ ∀ i, i < ps.length → 0 ≤ r.getD i 0 ∧ r.getD i 0 < cs.getD (ps.getD i 0).toNat 0
theorem getD_app_l {xs ys : List Int} {i : Nat} (h : i < xs.length) : (xs ++ ys).getD i 0 = xs.getD i 0 := by
  simp [List.getD, List.getElem?_append_left h]
theorem getD_app_r {xs : List Int} {y : Int} : (xs ++ [y]).getD xs.length 0 = y := by
  simp [List.getD]
theorem allRows_mem {cs ps r : List Int} : r ∈ allRows cs ps ↔ InRow cs ps r := by
  revert r
  refine snoc_ind (P := fun ps => ∀ {r : List Int}, r ∈ allRows cs ps ↔ InRow cs ps r) ?_ (fun ps p ih => ?_) ps
  · intro r
    unfold allRows InRow
    simp
  · intro r
    rw [allRows_snoc]
    unfold rowStep
    rw [List.mem_flatMap]
    constructor
    · rintro ⟨q, hq, hr⟩
      obtain ⟨v, hv, rfl⟩ := List.mem_map.mp hr
      obtain ⟨h1, h2⟩ := ih.mp hq
      obtain ⟨v0, v1⟩ := mem_rgI.mp hv
      refine ⟨by simp [h1], fun i hi => ?_⟩
      rw [List.length_append, List.length_singleton] at hi
      by_cases z : i < ps.length
      · rw [getD_app_l (by omega), getD_app_l z]
        exact h2 i z
      · have e : i = ps.length := by omega
        subst e
        rw [getD_app_r]
        rw [← h1, getD_app_r]
        omega
    · rintro ⟨h1, h2⟩
      rw [List.length_append, List.length_singleton] at h1
      have hne : r ≠ [] := fun z => by rw [z] at h1; simp at h1
      have er : r = r.dropLast ++ [r.getLast hne] := (List.dropLast_concat_getLast hne).symm
      generalize r.dropLast = q at er
      generalize r.getLast hne = v at er
      subst er
      rw [List.length_append, List.length_singleton] at h1
      have hq : q.length = ps.length := by omega
      refine ⟨q, ih.mpr ⟨hq, fun i hi => ?_⟩, List.mem_map.mpr ⟨v, mem_rgI.mpr ?_, rfl⟩⟩
      · have := h2 i (by rw [List.length_append]; omega)
        rw [getD_app_l (by omega), getD_app_l hi] at this
        exact this
      · have := h2 ps.length (by rw [List.length_append, List.length_singleton]; omega)
        rw [getD_app_r, ← hq, getD_app_r] at this
        omega
theorem allRows_nodup (cs ps : List Int) : (allRows cs ps).Nodup := by
  refine snoc_ind (P := fun ps => (allRows cs ps).Nodup) (by simp [allRows]) (fun ps p ih => ?_) ps
  rw [allRows_snoc]
  unfold rowStep
  rw [List.Nodup, List.pairwise_flatMap]
  refine ⟨fun r _ => ?_, ?_⟩
  · refine List.Pairwise.map _ (fun a b h e => ?_) (rgI_nodup _)
    have e' := List.append_cancel_left e
    exact h (by simpa using e')
  · refine List.Pairwise.imp_of_mem (fun {a b} ha hb hne x hx y hy e => hne ?_) ih
    obtain ⟨v, _, rfl⟩ := List.mem_map.mp hx
    obtain ⟨u, _, rfl⟩ := List.mem_map.mp hy
    exact (List.append_inj' e rfl).1
theorem colAt {cs : List Int} (ok : ColsOk cs) {p : Int} (h : 0 ≤ p ∧ p < cs.length) : 1 ≤ cs.getD p.toNat 0 ∧ cs.getD p.toNat 0 ≤ 2 := by
  have hl : p.toNat < cs.length := by omega
  rw [getD_eq hl]
  exact ok.v _ (List.getElem_mem hl)
theorem univ_of {cs ps : List Int} (ok : ColsOk cs) (p3 : ps.length ≤ 3) (pin : ∀ p ∈ ps, 0 ≤ p ∧ p < cs.length) : Univ ps (allRows cs ps) := by
  have hl := allRows_len (cs := cs) (m := 2) (ps := ps) fun p hp => by
    have := colAt ok (pin p hp)
    omega
  have col : ∀ i, i < ps.length → cs.getD (ps.getD i 0).toNat 0 ≤ 2 := fun i hi => by
    rw [getD_eq (xs := ps) hi]
    exact (colAt ok (pin _ (List.getElem_mem hi))).2
  refine ⟨Nat.le_trans hl.1 (Nat.pow_le_pow_right (n := 2) (j := 3) (by decide) p3), hl.2, fun r hr x hx => ?_, fun a ha b hb l => ?_⟩
  · obtain ⟨h1, h2⟩ := allRows_mem.mp hr
    obtain ⟨i, hi, rfl⟩ := List.getElem_of_mem hx
    have := h2 i (by omega)
    have c2 := col i (by omega)
    rw [getD_eq hi] at this
    omega
  · obtain ⟨a1, a2⟩ := allRows_mem.mp ha
    obtain ⟨b1, b2⟩ := allRows_mem.mp hb
    refine allRows_mem.mpr ⟨by rw [rowSet_len, a1], fun i hi => ?_⟩
    rw [rowSet_get (by omega)]
    split
    · exact b2 i hi
    · exact a2 i hi
structure CkU (cs : List Int) (c : List Int × List (List Int)) : Prop where
  p1 : 1 ≤ c.1.length
  p3 : c.1.length ≤ 3
  pin : ∀ p ∈ c.1, 0 ≤ p ∧ p < cs.length
  sub : ∀ r ∈ c.2, r ∈ allRows cs c.1
  nd : c.2.Nodup
  so : c.2.Pairwise (· ≤ ·)
theorem CkU.univ {cs : List Int} {c : List Int × List (List Int)} (h : CkU cs c) (ok : ColsOk cs) : Univ c.1 (allRows cs c.1) := univ_of ok h.p3 h.pin
theorem CkU.ck {cs : List Int} {c : List Int × List (List Int)} (h : CkU cs c) (ok : ColsOk cs) : CkOk c := ⟨h.p3, Nat.le_trans (nodup_len h.nd h.sub) (h.univ ok).len, fun r hr => (h.univ ok).el r (h.sub r hr)⟩
/-- how many rows an order adds -/
noncomputable def addedF (ks : List (List Int × List (List Int))) (o : List (List Int)) : Int := (ks.map fun c => ((hullF c.1 c.2 o).length : Int) - (c.2.length : Int)).sum

/-! ### kinds -/
theorem kinds_mem {cs k : List Int} : k ∈ kinds cs ↔ ∃ (i : Nat) (m a b : Int), cs[i]? = some m ∧ k = [(i : Int), a, b] ∧ (0 ≤ a ∧ a < m) ∧ (0 ≤ b ∧ b < m) ∧ a ≠ b := by
  unfold kinds
  rw [List.mem_flatMap]
  constructor
  · rintro ⟨z, hz, hk⟩
    obtain ⟨i, h1, h2⟩ := enP_mem hz
    unfold kindsCol at hk
    obtain ⟨a, ha, hk⟩ := List.mem_flatMap.mp hk
    unfold kindsOne at hk
    obtain ⟨b, hb, rfl⟩ := List.mem_map.mp hk
    obtain ⟨hb1, hb2⟩ := List.mem_filter.mp hb
    have a' := mem_rgI.mp ha
    have b' := mem_rgI.mp hb1
    have hne : b ≠ a := by simpa using hb2
    exact ⟨i, z.2, a, b, h2, by rw [h1], by omega, by omega, fun e => hne e.symm⟩
  · rintro ⟨i, m, a, b, hm, rfl, ha, hb, hne⟩
    refine ⟨((i : Int), m), ?_, ?_⟩
    · refine List.mem_iff_getElem?.mpr ⟨i, ?_⟩
      unfold enP
      rw [List.getElem?_mapIdx, hm]
      rfl
    · unfold kindsCol
      refine List.mem_flatMap.mpr ⟨a, mem_rgI.mpr (by show 0 ≤ a ∧ a < ((m.toNat : Nat) : Int); omega), ?_⟩
      unfold kindsOne
      refine List.mem_map.mpr ⟨b, List.mem_filter.mpr ⟨mem_rgI.mpr (by show 0 ≤ b ∧ b < ((m.toNat : Nat) : Int); omega), by simpa using fun e => hne e.symm⟩, rfl⟩
theorem kinds_ok {cs k : List Int} (h : k ∈ kinds cs) : KOk k := by
  obtain ⟨i, m, a, b, _, rfl, _, _, hne⟩ := kinds_mem.mp h
  exact ⟨_, a, b, rfl, hne⟩
/-- they rise -/
theorem rgI_rise (n : Nat) : (rgI n).Pairwise (· < ·) := by
  unfold rgI
  rw [List.pairwise_map]
  exact List.pairwise_lt_range.imp fun h => by omega
theorem kinds_rise (cs : List Int) : (kinds cs).Pairwise (· < ·) := by
  have enr : (enP cs).Pairwise fun x y => x.1 < y.1 := by
    unfold enP
    rw [List.pairwise_iff_getElem]
    intro i j hi hj hij
    simp only [List.getElem_mapIdx]
    omega
  unfold kinds
  rw [List.pairwise_flatMap]
  refine ⟨fun z _ => ?_, enr.imp fun {x y} hxy a ha b hb => ?_⟩
  · unfold kindsCol
    rw [List.pairwise_flatMap]
    refine ⟨fun a _ => ?_, (rgI_rise _).imp fun {x y} hxy a ha b hb => ?_⟩
    · unfold kindsOne
      rw [List.pairwise_map]
      exact ((rgI_rise _).filter _).imp fun {x y} h => by
        simp only [List.cons_lt_cons_iff]
        exact .inr ⟨trivial, .inr ⟨trivial, .inl h⟩⟩
    · unfold kindsOne at ha hb
      obtain ⟨u, _, rfl⟩ := List.mem_map.mp ha
      obtain ⟨v, _, rfl⟩ := List.mem_map.mp hb
      simp only [List.cons_lt_cons_iff]
      exact .inr ⟨trivial, .inl hxy⟩
  · unfold kindsCol at ha hb
    obtain ⟨u, _, ha⟩ := List.mem_flatMap.mp ha
    obtain ⟨v, _, hb⟩ := List.mem_flatMap.mp hb
    unfold kindsOne at ha hb
    obtain ⟨u', _, rfl⟩ := List.mem_map.mp ha
    obtain ⟨v', _, rfl⟩ := List.mem_map.mp hb
    simp only [List.cons_lt_cons_iff]
    exact .inl hxy
theorem lt_irrefl' (a : List Int) : ¬ a < a := List.lt_irrefl a
theorem kinds_nodup (cs : List Int) : (kinds cs).Nodup := (kinds_rise cs).imp fun {a b} h (e : a = b) => lt_irrefl' a (by rw [← e] at h; exact h)
theorem kindsOne_card (c m a : Int) (h : 0 ≤ a ∧ a < m) : (kindsOne c m a).length ≤ (m - 1).toNat := by
  unfold kindsOne
  rw [List.length_map]
  have h1 : ((rgI m.toNat).filter fun n => !decide (n = a)).length ≤ ((rgI m.toNat).erase a).length := nodup_len ((rgI_nodup _).filter _) fun x hx => by
    obtain ⟨h1, h2⟩ := List.mem_filter.mp hx
    exact (List.mem_erase_of_ne (by simpa using h2)).mpr h1
  have h2 : a ∈ rgI m.toNat := mem_rgI.mpr (by omega)
  have h3 := List.length_erase_of_mem h2
  rw [rgI_len] at h3
  omega
theorem kinds_len {cs : List Int} (ok : ColsOk cs) : (kinds cs).length ≤ 4 := by
  have one : ∀ z ∈ enP cs, ((kindsCol z).length : Int) ≤ z.2 * (z.2 - 1) := fun z hz => by
    obtain ⟨i, _, h2⟩ := enP_mem hz
    have hv := ok.v z.2 (List.mem_of_getElem? h2)
    have h : (kindsCol z).length ≤ (z.2 - 1).toNat * (rgI z.2.toNat).length := flat_len fun a ha => kindsOne_card _ _ _ (by have := mem_rgI.mp ha; omega)
    rw [rgI_len] at h
    have e : ((z.2 - 1).toNat * z.2.toNat : Nat) = ((z.2 * (z.2 - 1)).toNat) := by
      have h12 : z.2 = 1 ∨ z.2 = 2 := by omega
      rcases h12 with e | e <;> rw [e] <;> decide
    have e2 : 0 ≤ z.2 * (z.2 - 1) := Int.mul_nonneg (by omega) (by omega)
    omega
  have sum : ∀ (zs : List (Int × Int)), (∀ z ∈ zs, ((kindsCol z).length : Int) ≤ z.2 * (z.2 - 1)) → ((zs.flatMap kindsCol).length : Int) ≤ (zs.map fun z => z.2 * (z.2 - 1)).sum := fun zs => by
    induction zs with
    | nil => intro _; simp
    | cons z zs ih =>
      intro h
      have h1 := ih fun y hy => h y (List.mem_cons_of_mem _ hy)
      have h2 := h z List.mem_cons_self
      rw [List.flatMap_cons, List.length_append, List.map_cons, List.sum_cons]
      omega
  have h := sum (enP cs) one
  have e : (enP cs).map (fun z => z.2 * (z.2 - 1)) = cs.map fun c => c * (c - 1) := by
    unfold enP
    apply List.ext_getElem?
    intro i
    simp only [List.getElem?_map, List.getElem?_mapIdx, Option.map_map]
    rfl
  rw [e] at h
  have := ok.s
  unfold kinds
  omega
end Mk
namespace Mk
open PySem PySem.Spec PyProof.Rows L2
section
variable {P : Program} {w : World} {K : PySem.W.Frag} {mg : Str → Option Value} {base : Heap}
theorem sum_int {β : Type} (f : β → Int) (xs : List β) : (xs.map fun x => PyData.int (f x)) = (xs.map f).map .int := by simp
/-- an order over the kinds: as is drawn, as is tried -/
def c_l_added : Ct := fun ts P => ∃ (cols : List Int) (cs : List (List Int × List (List Int))) (o : List (List Int)), ColsOk cols ∧ cs.length ≤ 10 ∧ (∀ c ∈ cs, CkU cols c) ∧ OrdOk o ∧ o.length ≤ 4 ∧ ts = [.dat (.tuple (cs.map cC.e)), .dat (cO.e o)] ∧ P = is (.dat (.int (addedF cs o)))
theorem ca_l_added {f : Addr} {fd : FuncData} (T : Bi K mg) (F : Fun K "_law_added" "_law_added" s_l_added f fd) (hm : mg "_law_added" = some (.ref f)) (hb : Binds K fd ["_law_checks", "_law_order"] []) (D1 : Ca P w K mg base 3 "_law_hull" c_l_hull) : Ca P w K mg base 4 "_law_added" c_l_added := by
  refine ca_mk F sc_l_added hm hb (fun ts P ⟨_, _, _, _, _, _, _, _, h, _⟩ => by rw [h]; rfl) (fun cdv A outer s H E hr B ts Pr c => ?_)
  obtain ⟨cols, cs, o, cok, c10, hcs, ok, o4, rfl, rfl⟩ := c
  have nd := sc_l_added.nd
  refine q_ret (t := .dat (.int (addedF cs o))) ?_ ⟨rfl, rfl⟩
  refine EV.eq (e_sum (ns := cs.map fun c => ((hullF c.1 c.2 o).length : Int) - (c.2.length : Int)) T.sum ?_) rfl
  rw [← sum_int]
  refine e_mapM cC (.two 2 3) [("_law_places", 2), ("_law_rows", 3)] (fun c => .int (((hullF c.1 c.2 o).length : Int) - (c.2.length : Int))) (i_tup (e_dat 0)) (fun _ _ _ _ _ => g_two 2 3 rfl nd) (fun s' H' C cl fp B' c hc => ?_) (fun _ _ => ⟨_, _, rfl⟩) (by omega) (blkOk_by (N := n_l_added) (sc := defScope s_l_added) (by decide +kernel)) nd
  have h := hcs c hc
  have rl := (h.ck cok).rl
  refine EV.eq (e_subI (e_lenL T.len (e_callD D1 hr (as_cons (e_dat 2) (as_cons (e_dat 3) (as_cons (e_dat 1) as_nil))) ⟨c.1, allRows cols c.1, c.2, o, true, true, h.p1, h.p3, h.univ cok, h.sub, by omega, ok, o4, rfl, rfl⟩)) (e_lenT T.len (e_dat 3))) ?_
  rw [List.length_map, List.length_map]
end
/-! ### a new box -/
section
variable {X : Cx} {B : Bs} {G : En} {a b e : Expr} {es : List Expr} {pos p : Pos} {ts : List Sl} {C : Ct} {n k : Nat} {x : Str}
theorem e_lstBox (ha : EE X B G a (inI fun z => 0 ≤ z)) (hb : EE X B G b (inI fun z => 0 ≤ z ∧ z ≤ 2147483587)) (hs : starEach [a, b] X.env = (false, eval a X.env) :: starEach [b] X.env := by rfl) (hs2 : starEach [b] X.env = (false, eval b X.env) :: starEach [] X.env := by rfl) : EE X B G (.List [a, b] pos) (fun t => ∃ bp, t = .box bp) :=
  e_of (pe_lst (pa_cons ha (pa_cons hb pa_nil hs2) hs)) fun s F H Q g w q => ⟨F, g, w, fun v t F1 H1 ⟨i, h1, h2⟩ g1 e1 w1 => ⟨F1, g1, w1.pop, fun v2 t2 F2 H2 ⟨j, h3, h4, h5⟩ g2 e2 w2 => by
    subst h1 h3
    have r1 : Rp F1 v (.int i) := w1.topI rfl
    have r2 : Rp F2 v2 (.int j) := w2.topI rfl
    cases r1
    cases r2
    refine ⟨(by decide : 2 ≤ sizeLine), fun bp hbp => ?_⟩
    have gr := Grow.loose (o := .lst [.int i, .int j]) g2.h hbp
    refine q _ (.box bp) F2 _ ⟨bp, rfl⟩ (g2.grow gr) (e1.trans e2) ((w2.pop.grow gr).pushO ⟨rfl, rfl, g2.h.free hbp, g2.m.free hbp, i, j, upd_same, h2, h4, h5⟩ fun m u ad em om k z => ?_)
    exact Sat.apart w2.pop hbp m u ad em om k z⟩⟩
def spF (C : Ct) : Sp := fun vs H Q _ => ∃ F ts P, C ts P ∧ Same F H ∧ Imms F vs ts ∧ ∀ bp F' H', Grow F H F' H' → F' bp = none → H bp = none → BoxAt H' bp → Q (.ref bp) H'
structure CaF (P : Program) (w : World) (K : PySem.W.Frag) (mg : Str → Option Value) (base : Heap) (k : Nat) (x : Str) (C : Ct) : Prop where
  h : ∃ (f : Addr) (fd : FuncData) (ps : List Str), mg x = some (.ref f) ∧ PySem.W.keepIn K (.ref f) = true ∧ Binds K fd ps [] ∧ FnOk P w K mg base CX0 k f fd ps (spF C)
theorem e_callF {Pd : Sl → Prop} (D : CaF X.prog X.w X.K X.mg X.base k x C) (hr : Room n X.A) (ha : EAI X B G (e :: es) (is ts)) (hC : C ts Pd) (hk : k ≤ n := by decide) (hg : Gl X x := by rfl) (hdb : (x == ("__debug__" : Str)) = false := by decide)
    (he : starEach (e :: es) X.env = (false, eval e X.env) :: starEach es X.env := by rfl) (hpl : (backTo pos (starEach es X.env)).any (·.1) = false := by rfl) : EE X B G (.Call (.Name x p) (e :: es) [] pos) (fun t => ∃ bp, t = .box bp) := by
  obtain ⟨f, fd, ps, hm, kp, hb, F⟩ := D.h
  refine e_of (pe_call F (hr.mono hk) hg hm kp hb .nil (pass0 (X := X)) ha hdb he hpl) fun s F H Q g w q => ⟨F, g, w, fun vs ts' F1 H1 p1 g1 e1 w1 i1 => ?_⟩
  rw [show ts' = ts from p1] at i1
  rw [List.append_nil]
  refine ⟨F1, ts, Pd, hC, g1.h, i1, fun bp F2 H2 gr fb hbp bx => ?_⟩
  have g2 := g1.grow gr
  have w2 := w1.grow gr
  exact q _ (.box bp) F2 H2 ⟨bp, rfl⟩ g2 (e1.trans gr.f) (w2.pushO ⟨rfl, rfl, fb, g1.m.free hbp, bx⟩ fun m u ad em om k z => Sat.apart w1 hbp m u ad em om k z)
end
section
variable {P : Program} {w : World} {K : PySem.W.Frag} {mg : Str → Option Value} {base : Heap} {x qual : Str} {st : Stmt} {f : Addr} {fd : FuncData} {N ps : List Str} {k : Nat} {C : Ct}
theorem caF_mk (F : Fun K x qual st f fd) (S : FnScope N ps (defScope st)) (hm : mg x = some (.ref f)) (hb : Binds K fd ps []) (len : ∀ ts P, C ts P → ts.length = ps.length)
    (body : ∀ (cdv : Value) (A : Around) (outer : List Env) (s : Shared) (H : Hp) (E : XK), Room k (A.deeper (envOfC qual (defScope st) s.heap.objs.size f cdv)) → ∀ (B : Bs) (ts : List Sl) (Pr : Sl → Prop), C ts Pr →
      SS (cx0 P w K mg base N qual st f cdv A outer s H E) B (ts ++ List.replicate (N.length - ts.length) .any) (defBody st) { rt := fun t _ => ∃ bp, t = .box bp }) : CaF P w K mg base (k + 1) x C := by
  refine ⟨f, fd, ps, hm, F.kp, hb, F.ok S (fun vs H Q E h => ?_) (fun cdv A outer s H vs Q E hr h => ?_)⟩
  · obtain ⟨F, ts, P, c, hs, im, _⟩ := h
    rw [im.len]
    exact len ts P c
  · obtain ⟨F0, ts, Pr, c, hs, im, q⟩ := h
    refine ⟨_, body cdv A outer s H E hr ⟨F0, H⟩ ts Pr c, F0, Good.start hs, ?_, fun _ _ _ _ z => z.elim, fun v t G' s' F' H' m g' e' w' => ?_, fun _ _ _ _ z => z.elim, fun _ _ _ _ z => z.elim⟩
    · unfold L2.start
      rw [im.len]
      exact sat_start _ im
    · obtain ⟨bp, rfl⟩ := m
      obtain ⟨a, ho, e, h1, h2, h3⟩ := w'.top
      have ev : v = .ref bp := Option.some.inj ho
      subst ev
      exact q bp F' H' g'.grow_of h1 h2 h3
def c_l_box : Ct := fun ts P => ∃ (ns : List Int) (k : Int), ns.length < 64 ∧ 0 ≤ k ∧ k ≤ 1 ∧ ts = [.dat (.list (ns.map cI.e)), .dat (.int k)] ∧ P = fun t => ∃ bp, t = .box bp
theorem abs_nn (i : Int) : 0 ≤ (if i < 0 then -i else i) := by split <;> omega
theorem n_ixI {X : Cx} {B : Bs} {G : En} {a b : Expr} {pos : Pos} {ns : List Int} (ha : EV X B G a (.list (ns.map cI.e))) (hb : EE X B G b (inI fun z => 0 ≤ z ∧ z < ns.length)) (hs : PlainIx b := by exact fun _ _ => rfl) : EE X B G (.Subscript a b pos) (inI fun _ => True) :=
  EE.imp (n_ixL ha (n_imp hb fun i h => by rw [List.length_map]; exact h) hs) fun t ⟨d, h1, h2⟩ => by
    obtain ⟨i, _, rfl⟩ := List.mem_map.mp h1
    exact ⟨i, h2, trivial⟩
theorem ca_l_box (T : Bi K mg) (F : Fun K "_law_box" "_law_box" s_l_box f fd) (hm : mg "_law_box" = some (.ref f)) (hb : Binds K fd ["_law_script", "_law_k"] []) : CaF P w K mg base 1 "_law_box" c_l_box := by
  refine caF_mk F sc_l_box hm hb (fun ts P ⟨_, _, _, _, _, h, _⟩ => by rw [h]; rfl) (fun cdv A outer s H E hr B ts Pr c => ?_)
  obtain ⟨ns, k, h64, k0, k1, rfl, rfl⟩ := c
  have nd := sc_l_box.nd
  refine q_asgP (P := inI fun z => 0 ≤ z) 2 (n_add (S1 := fun z => 0 ≤ z) (n_mul (n_of e_int) (n_of (e_dat 1)) (fun i j hi hj => ⟨.inl (by subst hi; decide), by subst hi hj; omega⟩)) (n_of e_int) (fun i j hi hj => by subst hj; omega)) (fun t ⟨c0, ht, hc0⟩ => ?_) nd
  subst ht
  have hlen : ∀ {X : Cx} {G : En} {B : Bs} {p pos p3 : Pos}, X.mg = mg → True := fun _ => trivial
  refine s_cons (Mid := fun G' => ∃ c1, 0 ≤ c1 ∧ G' = [.dat (.list (ns.map cI.e)), .dat (.int k), .dat (.int c1), .any]) (s_if (k := true) (P := is (decide (k < (ns.length : Int)))) (t_lt (e_dat 1) (EV.eq (e_lenL T.len (e_dat 0)) (by rw [List.length_map]))) (fun ht => ?_) (fun hf => ?_)) (fun G' ⟨c1, hc1, hG⟩ => ?_)
  · have hk : k < (ns.length : Int) := of_decide_eq_true ht.symm
    exact s_one (s_asg (P := inI fun z => 0 ≤ z) 2 (n_abs T.abs (n_int T.int (n_ixI (e_dat 0) (n_imp (n_of (e_dat 1)) fun i hi => by subst hi; exact ⟨k0, hk⟩))) (fun i _ => abs_nn i)) (fun t ⟨c1, h1, h2⟩ => ⟨c1, h2, by rw [h1]; rfl⟩) nd)
  · refine s_one (s_if (k := true) (P := is (decide ((0 : Int) < (ns.length : Int)))) (t_gt (EV.eq (e_lenL T.len (e_dat 0)) (by rw [List.length_map])) e_int) (fun ht => ?_) (fun _ => s_nil ⟨c0, hc0, rfl⟩))
    have hn : 0 < (ns.length : Int) := of_decide_eq_true ht.symm
    exact s_one (s_asg (P := inI fun z => 0 ≤ z) 2 (n_add (S1 := fun z => 0 ≤ z) (n_of (e_dat 2) |> fun h => n_imp h fun i hi => by subst hi; exact hc0) (n_mul (S1 := fun z => 0 ≤ z) (n_mod (n_int T.int (n_abs T.abs (n_int T.int (n_ixI (e_dat 0) (n_mod (n_int T.int (n_of (e_dat 1))) (n_of (EV.eq (e_lenL T.len (e_dat 0)) (by rw [List.length_map]))) (fun i j hi hj => by subst hj; exact ⟨hn, mod_in hn⟩)))) (S1 := fun _ => True) (fun _ _ => trivial))) (n_of e_int) (fun i j _ hj => by subst hj; exact ⟨by decide, (mod_in (by decide)).1⟩)) (n_of e_int) (S := fun z => 0 ≤ z) (fun i j hi hj => ⟨.inr (by subst hj; decide), by subst hj; exact Int.mul_nonneg hi (by decide)⟩)) (fun i j hi hj => by show (0 : Int) ≤ i + j; omega)) (fun t ⟨c1, h1, h2⟩ => ⟨c1, h2, by rw [h1]; rfl⟩) nd)
  · subst hG
    refine q_asgP (P := inI fun z => 0 ≤ z) 3 (e_ifP (Pc := fun _ => True) (t_geN (n_of (e_dat 2)) (n_op (S := fun _ => True) op_pow (n_of e_int) (n_of e_int) (fun i j hi hj => ⟨_, dIc (C := CPow) (by subst hi hj; exact ⟨by decide, by decide, by decide⟩) fun _ => .int _, trivial⟩)) (fun _ _ _ _ => trivial)) (fun _ => n_imp (n_of (e_dat 2)) fun i hi => by subst hi; exact hc1) (fun _ => n_imp (n_of e_int) fun i hi => by subst hi; decide)) (fun t ⟨g, ht, hg⟩ => ?_) nd
    subst ht
    exact s_one (s_ret (e_lstBox (n_imp (n_of (e_dat 3)) fun i hi => by subst hi; exact hg) (n_add (n_mod (S := fun z => 0 ≤ z ∧ z < 2147483587) (n_int T.int (n_add (S := fun _ => True) (n_mul (S := fun _ => True) (n_mod (S := fun _ => True) (n_int T.int (n_of (e_dat 2))) (n_of e_int) (fun i j _ hj => by subst hj; exact ⟨by decide, trivial⟩)) (n_of e_int) (fun i j _ hj => ⟨.inr (by subst hj; decide), trivial⟩)) (n_mul (S := fun _ => True) (n_of e_int) (n_of (e_dat 1)) (fun i j hi _ => ⟨.inl (by subst hi; decide), trivial⟩)) (fun _ _ _ _ => trivial))) (n_of e_int) (fun i j _ hj => by subst hj; exact ⟨by decide, mod_in (by decide)⟩)) (n_of e_int) (fun i j hi hj => by subst hj; omega))) (fun t h => h))
end
end Mk
namespace Mk
open PySem PySem.Spec PyProof.Rows L2
section
variable {X : Cx} {B : Bs} {G : En} {a b c : Expr} {pos p : Pos} {ds : List PyData} {n : Nat}
/-- xs * n -/
theorem e_rep (ha : EV X B G a (.list ds)) (hb : EV X B G b (.int (n : Int))) (hl : ds.length * n ≤ 100000) (hn : n ≤ 100000) : EV X B G (.BinOp a .Mult b pos) (.list (List.replicate n ds).flatten) :=
  e_op (r := rRep) (fun F H x y Q hs rx ry q => by
    cases ry
    cases rx with
    | @lst ad xs _ h1 r1 =>
      refine ⟨ad, (n : Int), xs, rfl, rfl, hs _ _ h1, by omega, by omega, ?_, fun p hp => ?_⟩
      · rw [r1.length, Int.toNat_natCast]
        exact Nat.le_trans hl (by decide)
      · have gr := Grow.new (o := .lst (List.replicate (n : Int).toNat xs).flatten) hs hp
        refine q _ _ _ gr (.lst upd_same ?_)
        rw [Int.toNat_natCast]
        have r2 := r1.mono gr.f
        have rep : ∀ m : Nat, Rps (upd F p (.lst (List.replicate n xs).flatten)) (List.replicate m xs).flatten (List.replicate m ds).flatten := fun m => by
          induction m with
          | zero => exact .nil
          | succ m ih =>
            rw [List.replicate_succ, List.replicate_succ, List.flatten_cons, List.flatten_cons]
            rw [Int.toNat_natCast] at r2
            exact r2.append ih
        exact rep n) op_rep ha hb
theorem e_neg1 {j : Nat} {p1 p2 : Pos} : EV X B G (.UnaryOp .USub (.Constant (.int 1) j p1) p2) (.int (-1)) := e_ofD (pe_un un_neg pe_int) fun s F H Q g w q => ⟨1, rfl, q _ F H (.refl g.h) (.int _)⟩
/-- tuple of some list -/
theorem e_tupP {PD : List PyData → Prop} (hm : X.mg "tuple" = none) (ha : EE X B G a (fun t => ∃ ds, t = .dat (.list ds) ∧ PD ds)) (hg : Gl X "tuple" := by rfl) (he : starEach (a :: []) X.env = (false, eval a X.env) :: starEach [] X.env := by rfl) (hpl : (backTo pos (starEach [] X.env)).any (·.1) = false := by rfl) : EE X B G (.Call (.Name "tuple" p) [a] [] pos) (fun t => ∃ ds, t = .dat (.tuple ds) ∧ PD ds) :=
  e_of (pe_callTy call_tuple_of hg hm (by decide +kernel) (pa_cons ha pa_nil he) (by decide) (by decide) he hpl) fun s F H Q g w q => ⟨F, g, w, fun v t F1 H1 ⟨ds, ht, pd⟩ g1 e1 w1 => by
    subst ht
    have r : Rp F1 v (.list ds) := w1.topI rfl
    cases r with
    | @lst ad xs _ h1 r1 =>
      refine ⟨ad, xs, rfl, .inl ⟨SqL.of (g1.h _ _ h1), fun l hl => ?_⟩⟩
      have gr := Grow.new (o := .tup xs) g1.h hl
      exact q _ _ _ _ ⟨ds, rfl, pd⟩ (g1.grow gr) (e1.trans gr.f) ((w1.pop.grow gr).pushD (.tup upd_same (r1.mono gr.f)))⟩
theorem cut_two (ds : List PyData) : cutD ds none (some 2) = ds.take 2 := by
  unfold cutD
  rw [HT.sIx_none, show (2 : Int) = ((2 : Nat) : Int) from rfl, HT.sIx_nat, Nat.sub_zero, List.drop_zero]
  by_cases h : 2 ≤ ds.length
  · rw [Nat.min_eq_left h]
  · rw [Nat.min_eq_right (by omega), List.take_length, List.take_of_length_le (by omega)]
end
/-! ### what is no order -/
abbrev cLI : Cod (List Int) := cLi cI
def oddL (ks : List (List Int)) : List PyData :=
  [.none, .int 0, .str (Str.ofString "0"), .list (ks.map cLI.e ++ [cLI.e [0, 0, 1]]), (if ks = [] then .list [.none] else .list (List.replicate ks.length .none)), .list (ks.tail.map cLI.e ++ [cR.e [0, 0, 0]]), .list (ks.map cLI.e ++ [.none])] ++
  (if ks = [] then [] else [.list (ks.tail.map cLI.e), (if 1 < ks.length then .list (ks.tail.map cLI.e ++ [cLI.e (ks.getD (ks.length - 1) [])]) else .list []), .list (ks.tail.map cLI.e ++ [.list [.int 0, .int 0, .bool true]]), .list (ks.tail.map cLI.e ++ [.str (Str.ofString "001")]), .list (ks.tail.map cLI.e ++ [cLI.e ((ks.getD 0 []).take 2)]), .list (ks.tail.map cLI.e ++ [cLI.e [9, 0, 1]])])
theorem oddL_len (ks : List (List Int)) : (oddL ks).length ≤ 13 ∧ oddL ks ≠ [] := by
  unfold oddL
  constructor
  · rw [List.length_append]
    split <;> simp
  · simp
section
variable {P : Program} {w : World} {K : PySem.W.Frag} {mg : Str → Option Value} {base : Heap}
def c_l_odd : Ct := fun ts P => ∃ ks : List (List Int), ks.length ≤ 4 ∧ ts = [.dat (.list (ks.map cR.e))] ∧ P = fun t => ∃ d, d ∈ oddL ks ∧ t = .dat d
theorem e_ixLast {X : Cx} {B : Bs} {G : En} {a b : Expr} {pos : Pos} {ds : List PyData} (h : 0 < ds.length) (ha : EV X B G a (.list ds)) (hb : EV X B G b (.int (-1))) (hs : PlainIx b := by exact fun _ _ => rfl) : EV X B G (.Subscript a b pos) (ds.getD (ds.length - 1) .none) := e_ixL (by
  unfold atI ixN
  rw [if_neg (by decide), if_pos (by omega)]
  have e : (-1 + (ds.length : Int)).toNat = ds.length - 1 := by omega
  rw [e, Option.bind_some]
  simp [List.getD, List.getElem?_eq_getElem (show ds.length - 1 < ds.length by omega)]) ha hb hs
theorem getD_map {β : Type} (c : Cod β) (xs : List β) (i : Nat) (d : β) (h : i < xs.length) (z : PyData) : (xs.map c.e).getD i z = c.e (xs.getD i d) := by
  simp [List.getD, h]
theorem ca_l_odd {f : Addr} {fd : FuncData} (T : Bi K mg) (F : Fun K "_law_odd" "_law_odd" s_l_odd f fd) (hm : mg "_law_odd" = some (.ref f)) (hb : Binds K fd ["_law_box_here", "_law_order"] []) (D1 : CaB P w K mg base 2 "_law_pick" c_l_pick) : CaB P w K mg base 3 "_law_odd" c_l_odd := by
  refine caB_mk F sc_l_odd hm hb (fun ts P ⟨_, _, h, _⟩ => by rw [h]; rfl) (fun cdv A outer s H E hr B bp ts Pr c => ?_)
  obtain ⟨ks, h4, rfl, rfl⟩ := c
  have nd := sc_l_odd.nd
  have z : ∀ {X : Cx} {G : En} {B : Bs} {pos : Pos} {j : Nat}, EV X B G (.Constant .none j pos) .none := e_non
  refine q_lcM (xs := ks) cR 2 (.one 4) [("_law_kind", 4)] (fun _ => true) cLI.e (i_list (e_dat 1)) (fun _ _ _ _ _ => g_one 4 nd) (fun _ _ _ _ _ _ _ _ => ts_nil) (fun s' H' C cl fp B' k hk _ => e_frz (e_listTO T.list (e_dat 4))) (fun _ _ => trivial) (by omega) ?_ (blkOk_by (N := n_l_odd) (sc := defScope s_l_odd) (by decide +kernel)) nd
  rw [List.filter_eq_self.mpr (fun _ _ => rfl)]
  have hne : ∀ {X : Cx} {G : En} {B : Bs} {a b : Expr} {pos : Pos}, X.A.units + 64 < cLine → EV X B G a (.list (ks.map cR.e)) → EV X B G b (.list []) → ET X B G (.Compare a [.NotEq] [b] pos) (is (!decide (ks = []))) := fun hu ha hb => t_neM cLs fl_cLs hu ha hb
  have tl : ∀ {X : Cx} {G : En} {B : Bs} {a b : Expr} {pos p2 : Pos}, EV X B G a (.list (ks.map cLI.e)) → EV X B G b (.int 1) → EV X B G (.Subscript a (.Slice (some b) none none p2) pos) (.list (ks.tail.map cLI.e)) := fun ha hb => EV.eq (e_slL (l := some 1) (h := none) ha (o_some hb) o_none) (by rw [cut_one])
  have tlen : ks.tail.length ≤ 4 := by rw [List.length_tail]; omega
  refine q_asg (t := .dat (.list [.none, .int 0, .str (Str.ofString "0"), .list (ks.map cLI.e ++ [cLI.e [0, 0, 1]]), (if ks = [] then .list [.none] else .list (List.replicate ks.length .none)), .list (ks.tail.map cLI.e ++ [cR.e [0, 0, 0]]), .list (ks.map cLI.e ++ [.none])])) 3 (e_lst (vs_cons e_non (vs_cons e_int (vs_cons e_str (vs_cons (e_catL (e_dat 2) (e_lst (ds := [_]) (vs_cons (e_lst (ds := [_, _, _]) (vs_cons e_int (vs_cons e_int (vs_cons e_int vs_nil)))) vs_nil)) (by simp; omega)) (vs_cons ?_ (vs_cons (e_catL (tl (e_dat 2) e_int) (e_lst (ds := [_]) (vs_cons (e_tup (ds := [_, _, _]) (vs_cons e_int (vs_cons e_int (vs_cons e_int vs_nil)))) vs_nil)) (by simp; omega)) (vs_cons (e_catL (e_dat 2) (e_lst (ds := [_]) (vs_cons e_non vs_nil)) (by simp; omega)) vs_nil)))))))) ?_ nd
  · refine e_if (x := !decide (ks = [])) (hne (u64 hr) (e_dat 1) (e_lst (ds := []) vs_nil (by decide))) (fun h => ?_) (fun h => ?_)
    · have hk : ks ≠ [] := by simpa using h
      rw [if_neg hk]
      refine EV.eq (e_rep (n := ks.length) (e_lst (ds := [_]) (vs_cons e_non vs_nil)) (EV.eq (e_lenL T.len (e_dat 1)) (by rw [List.length_map])) (by simp; omega) (by omega)) ?_
      congr 1
      generalize ks.length = m
      induction m with
      | zero => rfl
      | succ m ih => rw [List.replicate_succ, List.flatten_cons, ih]; rfl
    · have hk : ks = [] := by simpa using h
      rw [if_pos hk]
      exact e_lst (ds := [_]) (vs_cons e_non vs_nil)
  have fin : ∀ {G' : En} {L : PyData}, L = .list (oddL ks) → G' = [.box bp, .dat (.list (ks.map cR.e)), .dat (.list (ks.map cLI.e)), .dat L, .any] → True := fun _ _ => trivial
  have ret : SS (cx0 P w K mg base n_l_odd "_law_odd" s_l_odd f cdv A outer s H E) B [.box bp, .dat (.list (ks.map cR.e)), .dat (.list (ks.map cLI.e)), .dat (.list (oddL ks)), .any] [(defBody s_l_odd).getD 3 (.Pass ⟨0, 0, 0, 0⟩)] { rt := fun t G' => (∃ d, d ∈ oddL ks ∧ t = .dat d) ∧ t.imm = true ∧ G'[0]? = some (.box bp) } :=
    s_one (s_ret (e_callBx 0 D1 hr (Ps := is [.dat (.list (oddL ks))]) (as_cons (e_dat 3) as_nil) (fun ts ht => ⟨_, ⟨oddL ks, (oddL_len ks).2, by have := (oddL_len ks).1; omega, ht, rfl⟩, fun t h => h⟩) rfl rfl) (fun t ht => ⟨ht, by obtain ⟨d, _, h⟩ := ht; rw [h]; rfl, rfl⟩))
  refine s_cons (Mid := is [.box bp, .dat (.list (ks.map cR.e)), .dat (.list (ks.map cLI.e)), .dat (.list (oddL ks)), .any]) (s_if (k := true) (P := is (!decide (ks = []))) (hne (u64 hr) (e_dat 1) (e_lst (ds := []) vs_nil (by decide))) (fun h => ?_) (fun h => ?_)) (fun G' hG => ?_)
  · have hk : ks ≠ [] := by
      have h' : (!decide (ks = [])) = true := h.symm
      simpa using h'
    have hl : 0 < ks.length := List.length_pos_iff.mpr hk
    refine q_asg (t := .dat (.list (oddL ks))) 3 ?_ (s_nil rfl) nd
    refine EV.eq (e_catL (e_dat 3) (e_lst (ds := [_, _, _, _, _, _]) (vs_cons (tl (e_dat 2) e_int) (vs_cons (e_if (x := decide (1 < ks.length)) (P := is (.dat (if 1 < ks.length then .list (ks.tail.map cLI.e ++ [cLI.e (ks.getD (ks.length - 1) [])]) else .list []))) (ET.eq (t_gt (EV.eq (e_lenL T.len (e_dat 2)) (by rw [List.length_map])) e_int) (by by_cases q : 1 < ks.length <;> simp [q] <;> omega)) (fun h1 => ?_) (fun h1 => ?_)) (vs_cons (e_catL (tl (e_dat 2) e_int) (e_lst (ds := [_]) (vs_cons (e_lst (ds := [_, _, _]) (vs_cons e_int (vs_cons e_int (vs_cons e_bl vs_nil)))) vs_nil)) (by simp; omega)) (vs_cons (e_catL (tl (e_dat 2) e_int) (e_lst (ds := [_]) (vs_cons e_str vs_nil)) (by simp; omega)) (vs_cons (e_catL (tl (e_dat 2) e_int) (e_lst (ds := [_]) (vs_cons (e_slL (l := none) (h := some 2) (ds := (ks.getD 0 []).map cI.e) (e_ixL (d := cLI.e (ks.getD 0 [])) (i := 0) ?_ (e_dat 2) e_int) o_none (o_some e_int)) vs_nil)) (by simp; omega)) (vs_cons (e_catL (tl (e_dat 2) e_int) (e_lst (ds := [_]) (vs_cons (e_lst (ds := [_, _, _]) (vs_cons e_int (vs_cons e_int (vs_cons e_int vs_nil)))) vs_nil)) (by simp; omega)) vs_nil))))))) (by simp)) ?_
    · rw [if_pos (of_decide_eq_true h1)]
      refine e_catL (tl (e_dat 2) e_int) (e_lst (ds := [_]) (vs_cons (EV.eq (e_ixLast (ds := ks.map cLI.e) (by rw [List.length_map]; exact hl) (e_dat 2) e_neg1) ?_) vs_nil)) (by simp; omega)
      rw [List.length_map]
      exact getD_map cLI ks _ _ (by omega) _
    · rw [if_neg (of_decide_eq_false h1)]
      exact e_lst (ds := []) vs_nil (by decide)
    · obtain ⟨k0, hk0⟩ : ∃ k0, ks[0]? = some k0 := ⟨ks[0], List.getElem?_eq_getElem hl⟩
      have := atI_enc (e := cLI.e) hk0
      rw [show ks.getD 0 [] = k0 by simp [List.getD, hk0]]
      exact this
    · unfold oddL
      rw [if_neg hk, if_neg hk, cut_two]
      simp
  · have hk : ks = [] := by
      have h' : (!decide (ks = [])) = false := h.symm
      simpa using h'
    refine s_nil ?_
    show _ = _
    unfold oddL
    simp [hk]
  · rw [show G' = _ from hG]
    exact ret
end
end Mk
namespace Mk
open PySem PySem.Spec PyProof.Rows L2
theorem LcRel.all {T : PyData → Bool → Prop} {P : PyData → Sl → Prop} {ds es : List PyData} (h : LcRel T P ds es) : (∀ d k, T d k → k = true) → es.length = ds.length ∧ ∀ e ∈ es, ∃ d ∈ ds, P d (.dat e) := by
  induction h with
  | nil => intro _; exact ⟨rfl, fun e he => (by cases he)⟩
  | no t h ih => intro ht; exact absurd (ht _ _ t) (by decide)
  | @yes d e ds es t p h ih =>
    intro ht
    obtain ⟨h1, h2⟩ := ih ht
    refine ⟨by rw [List.length_append, List.length_append, h1]; rfl, fun x hx => ?_⟩
    rcases List.mem_append.mp hx with z | z
    · obtain ⟨d', hd', pd⟩ := h2 x z
      exact ⟨d', List.mem_append_left _ hd', pd⟩
    · have : x = e := by simpa using z
      rw [this]
      exact ⟨d, by simp, p⟩
theorem LcRel.sublist {T : PyData → Bool → Prop} {P : PyData → Sl → Prop} {ds es : List PyData} (h : LcRel T P ds es) : (∀ d e, P d (.dat e) → e = d) → es.Sublist ds := by
  induction h with
  | nil => intro _; exact List.Sublist.refl _
  | no t h ih => intro hp; exact (ih hp).trans (List.sublist_append_left _ _)
  | @yes d e ds es t p h ih =>
    intro hp
    rw [hp _ _ p]
    exact (ih hp).append (List.Sublist.refl _)
theorem perm_map {β : Type} (c : Cod β) {es : List PyData} {xs : List β} (h : es.Perm (xs.map c.e)) : ∃ ys : List β, ys.Perm xs ∧ es = ys.map c.e := by
  refine ⟨es.map c.d, ?_, ?_⟩
  · have := h.map c.d
    rwa [map_left c.l] at this
  · rw [List.map_map]
    conv => lhs; rw [← List.map_id es]
    apply List.map_congr_left
    intro e he
    obtain ⟨x, _, rfl⟩ := List.mem_map.mp (h.mem_iff.mp he)
    show c.e x = c.e (c.d (c.e x))
    rw [c.l]
theorem ints_map : ∀ {es : List PyData} {S : Int → Prop}, (∀ e ∈ es, ∃ i, e = .int i ∧ S i) → ∃ ns : List Int, es = ns.map .int ∧ ∀ n ∈ ns, S n
  | [], _, _ => ⟨[], rfl, fun n hn => (by cases hn)⟩
  | e :: es, S, h => by
    obtain ⟨ns, h1, h2⟩ := ints_map (es := es) (S := S) fun x hx => h x (List.mem_cons_of_mem _ hx)
    obtain ⟨i, h3, h4⟩ := h e List.mem_cons_self
    refine ⟨i :: ns, by rw [h1, h3]; rfl, fun n hn => ?_⟩
    rcases List.mem_cons.mp hn with rfl | hn
    · exact h4
    · exact h2 n hn
section
variable {β : Type} {X : Cx} {B : Bs} {G : En} {body : List Stmt} {q : Po} {Gc : β → En} {J : β → Prop}
theorem ss_wkE (h : SS X B G body { q with nx := fun G' => ∃ b, J b ∧ GLe G' (Gc b), ct := fun G' => ∃ b, J b ∧ GLe G' (Gc b) }) : SS X B G body { q with nx := fun G' => ∃ b, J b ∧ G' = Gc b, ct := fun G' => ∃ b, J b ∧ G' = Gc b } :=
  PSs.weak h fun D s H ⟨F, g, w, q1, q2, q3, q4⟩ => ⟨F, g, w, fun G' s' F' H' ⟨b, jb, le⟩ g' e' w' => q1 (Gc b) s' F' H' ⟨b, jb, rfl⟩ g' e' (w'.wk le), q2, q3, fun G' s' F' H' ⟨b, jb, le⟩ g' e' w' => q4 (Gc b) s' F' H' ⟨b, jb, rfl⟩ g' e' (w'.wk le)⟩
end
theorem cols_end {cs : List Int} (l1 : 1 ≤ cs.length) (l3 : cs.length ≤ 3) (v : ∀ c ∈ cs, 1 ≤ c ∧ c ≤ 3) (s : (cs.map fun c => c * (c - 1)).sum ≤ 4) : ColsOk cs := by
  refine ⟨l1, l3, fun c hc => ⟨(v c hc).1, ?_⟩, s⟩
  have nn : ∀ (xs : List Int), (∀ c ∈ xs, 1 ≤ c ∧ c ≤ 3) → 0 ≤ (xs.map fun c => c * (c - 1)).sum ∧ ∀ c ∈ xs, c * (c - 1) ≤ (xs.map fun c => c * (c - 1)).sum := fun xs => by
    induction xs with
    | nil => intro _; exact ⟨by simp, fun c hc => (by cases hc)⟩
    | cons x xs ih =>
      intro h
      obtain ⟨h1, h2⟩ := ih fun y hy => h y (List.mem_cons_of_mem _ hy)
      have hx := h x List.mem_cons_self
      have hp : 0 ≤ x * (x - 1) := Int.mul_nonneg (by omega) (by omega)
      rw [List.map_cons, List.sum_cons]
      refine ⟨by omega, fun c hc => ?_⟩
      rcases List.mem_cons.mp hc with rfl | hc
      · omega
      · have := h2 c hc
        omega
  have h1 := (nn cs v).2 c hc
  have h2 := v c hc
  have h3 : c = 1 ∨ c = 2 ∨ c = 3 := by omega
  rcases h3 with e | e | e
  · omega
  · omega
  · rw [e] at h1
    omega
section
variable {P : Program} {w : World} {K : PySem.W.Frag} {mg : Str → Option Value} {base : Heap}
def BookOk (cols : List Int) (cs : List (List Int × List (List Int))) : Prop := ColsOk cols ∧ cs.length ≤ 3 ∧ ∀ c ∈ cs, CkU cols c
def c_l_book : Ct := fun ts P => ts = [.dat (.int 4), .dat (.int 3)] ∧ P = fun t => ∃ cols cs, BookOk cols cs ∧ t = .dat (.list [cR.e cols, .tuple (cs.map cC.e)])
theorem n_pick {X : Cx} {B : Bs} {G : En} {n : Nat} {bp : Addr} {y : Str} {p p2 p3 pos : Pos} {es : List Expr} {ns : List Int} {S : Int → Prop} (i : Nat) (D1 : CaB X.prog X.w X.K X.mg X.base 2 "_law_pick" c_l_pick) (hr : Room n X.A) (ha : EVs X B G es (ns.map cI.e)) (h0 : ns ≠ []) (h1 : ns.length ≤ 1000) (hS : ∀ i ∈ ns, S i) (hi : G[i]? = some (.box bp)) (hN : X.N[i]? = some y) (hk : 2 ≤ n := by decide) (hv : Vis X.env.scope y := by first | exact Or.inl rfl | exact Or.inr (Or.inl rfl) | exact Or.inr (Or.inr rfl))
    (hd : (y == ("__debug__" : Str)) = false := by decide) (hcd : (y == ("__classdict__" : Str)) = false := by decide) (hg : Gl X "_law_pick" := by rfl) (he : starEach (.Name y p2 :: [.List es p3]) X.env = (false, eval (.Name y p2) X.env) :: starEach [.List es p3] X.env := by rfl) (he2 : starEach [Expr.List es p3] X.env = (false, eval (.List es p3) X.env) :: starEach [] X.env := by rfl) (hpl : (backTo pos (starEach [.List es p3] X.env)).any (·.1) = false := by rfl) : EE X B G (.Call (.Name "_law_pick" p) [.Name y p2, .List es p3] [] pos) (inI S) :=
  e_callBx i D1 hr (Ps := is [.dat (.list (ns.map cI.e))]) (as_cons (e_lst ha (by rw [List.length_map]; omega)) as_nil rfl he2) (fun ts ht => ⟨_, ⟨ns.map cI.e, by simpa using h0, by rw [List.length_map]; exact h1, ht, rfl⟩, fun t ⟨d, h, e⟩ => by
    obtain ⟨i, hi, rfl⟩ := List.mem_map.mp h
    exact ⟨i, e, hS i hi⟩⟩) hi hN hk hv hd hcd hg (by decide) he hpl
theorem n_take {X : Cx} {B : Bs} {G : En} {n : Nat} {bp : Addr} {y : Str} {p p2 pos : Pos} {e : Expr} {m : Int} (i : Nat) (D1 : CaB X.prog X.w X.K X.mg X.base 1 "_law_take" c_l_take) (hr : Room n X.A) (ha : EV X B G e (.int m)) (m0 : 0 < m) (m1 : m ≤ 1000000) (hi : G[i]? = some (.box bp)) (hN : X.N[i]? = some y) (hk : 1 ≤ n := by decide) (hv : Vis X.env.scope y := by first | exact Or.inl rfl | exact Or.inr (Or.inl rfl) | exact Or.inr (Or.inr rfl))
    (hd : (y == ("__debug__" : Str)) = false := by decide) (hcd : (y == ("__classdict__" : Str)) = false := by decide) (hg : Gl X "_law_take" := by rfl) (he : starEach (.Name y p2 :: [e]) X.env = (false, eval (.Name y p2) X.env) :: starEach [e] X.env := by rfl) (he2 : starEach [e] X.env = (false, eval e X.env) :: starEach [] X.env := by rfl) (hpl : (backTo pos (starEach [e] X.env)).any (·.1) = false := by rfl) : EE X B G (.Call (.Name "_law_take" p) [.Name y p2, e] [] pos) (inI fun z => 0 ≤ z ∧ z < m) :=
  e_callBx i D1 hr (Ps := is [.dat (.int m)]) (as_cons ha as_nil rfl he2) (fun ts ht => ⟨_, ⟨m, m0, m1, ht, rfl⟩, fun t h => h⟩) hi hN hk hv hd hcd hg (by decide) he hpl
theorem ca_l_book {f : Addr} {fd : FuncData} (T : Bi K mg) (F : Fun K "_law_book" "_law_book" s_l_book f fd) (hm : mg "_law_book" = some (.ref f)) (hb : Binds K fd ["_law_box_here", "_law_most", "_law_places_most"] [])
    (D1 : CaB P w K mg base 1 "_law_take" c_l_take) (D2 : CaB P w K mg base 2 "_law_pick" c_l_pick) (D3 : CaB P w K mg base 2 "_law_turned" c_l_turned) (D4 : Ca P w K mg base 1 "_law_kinds" c_l_kinds) (D5 : Ca P w K mg base 1 "_law_all_rows" c_l_all_rows) (D6 : Ca P w K mg base 3 "_law_hull" c_l_hull) : CaB P w K mg base 4 "_law_book" c_l_book := by
  refine caB_mk F sc_l_book hm hb (fun ts P ⟨h, _⟩ => by rw [h]; rfl) (fun cdv A outer s H E hr B bp ts Pr c => ?_)
  obtain ⟨rfl, rfl⟩ := c
  have nd := sc_l_book.nd
  -- columns
  refine q_asgP (P := fun t => ∃ cs : List Int, t = .dat (.list (cs.map cI.e)) ∧ (1 ≤ cs.length ∧ cs.length ≤ 3) ∧ ∀ c ∈ cs, 1 ≤ c ∧ c ≤ 3) 3 (EE.imp (e_frzP (PD := fun ds => ∃ cs : List Int, ds = cs.map cI.e ∧ (1 ≤ cs.length ∧ cs.length ≤ 3) ∧ ∀ c ∈ cs, 1 ≤ c ∧ c ≤ 3) (EE.imp (e_lcO (PD := fun ds => ∃ n : Nat, 1 ≤ n ∧ n ≤ 3 ∧ ds = rgD n) (Tt := fun _ => is true) (P := fun _ => inI fun z => 1 ≤ z ∧ z ≤ 3) (.one 12) [("_law_column", 12)] (i_rangeP (n_add (S := fun z => 1 ≤ z ∧ z ≤ 3) (n_of e_int) (n_pick (S := fun z => 0 ≤ z ∧ z ≤ 2) (ns := [0, 0, 1, 1, 2]) 0 D2 hr (vs_cons e_int (vs_cons e_int (vs_cons e_int (vs_cons e_int (vs_cons e_int vs_nil))))) (by decide) (by decide) (by decide) rfl rfl) (fun i j h1 h2 => by subst h1; omega)) (fun t ⟨z, h1, h2⟩ => ⟨z.toNat, by rw [h1]; congr 2; omega, by omega, z.toNat, by omega, by omega, rfl⟩) T.range) (fun _ _ _ _ _ => g_one 12 nd) (fun _ _ _ _ _ _ _ _ _ _ => ts_nil) (fun s' H' C cl fp B' ds d hd hd2 _ => n_add (n_of e_int) (n_pick (S := fun z => 0 ≤ z ∧ z ≤ 2) (ns := [1, 1, 1, 2, 0]) 0 D2 hr (vs_cons e_int (vs_cons e_int (vs_cons e_int (vs_cons e_int (vs_cons e_int vs_nil))))) (by decide) (by decide) (by decide) rfl rfl) (fun i j h1 h2 => by subst h1; omega)) (fun _ _ _ _ => trivial) (fun ds ⟨n, _, h3, h⟩ => by rw [h, rgD_len]; omega) (fun _ _ _ _ t ⟨i, h, _⟩ => ⟨_, h⟩) (blkOk_by (N := n_l_book) (sc := defScope s_l_book) (by decide +kernel)) nd) (fun t ⟨ds, es, ⟨n, n1, n3, hds⟩, ht, rel⟩ => ?_))) (fun t ⟨ds, h1, cs, h2, h3⟩ => ⟨cs, by rw [h1, h2], h3⟩)) (fun t ⟨cs0, ht, hl0, hv0⟩ => ?_) nd
  · obtain ⟨a1, a2⟩ := rel.all fun _ _ h => h
    obtain ⟨cs, h1, h2⟩ := ints_map (S := fun z => 1 ≤ z ∧ z ≤ 3) fun e he => by
      obtain ⟨d, _, i, h3, h4⟩ := a2 e he
      exact ⟨i, Sl.dat.inj h3, h4⟩
    rw [hds, rgD_len] at a1
    exact ⟨es, ht, cs, h1, by rw [h1, List.length_map] at a1; omega, h2⟩
  subst ht
  -- while
  refine s_cons (Mid := fun G' => ∃ cs : List Int, ColsOk cs ∧ G' = [.box bp, .dat (.int 4), .dat (.int 3), .dat (.list (cs.map cI.e)), .any, .any, .any, .any, .any, .any, .any, .any, .any, .any, .any, .any]) (s_while (β := List Int) (fun cs => [.box bp, .dat (.int 4), .dat (.int 3), .dat (.list (cs.map cI.e)), .any, .any, .any, .any, .any, .any, .any, .any, .any, .any, .any, .any]) (fun cs => (cs.map fun c => 1 + c.toNat).sum) cs0 (fun cs => (1 ≤ cs.length ∧ cs.length ≤ 3) ∧ ∀ c ∈ cs, 1 ≤ c ∧ c ≤ 3) ⟨hl0, hv0⟩ rfl (fun cs => decide ((4 : Int) < (cs.map fun c => c * (c - 1)).sum)) (fun cs ⟨hl, hv⟩ => ?_) (fun cs ⟨hl, hv⟩ hk => ?_) (fun cs ⟨hl, hv⟩ hk => ⟨cs, cols_end hl.1 hl.2 hv (by have := of_decide_eq_false hk; omega), rfl⟩) PassesOwn.never) (fun G' ⟨cs, cok, hG⟩ => ?_)
  · refine t_gt (e_sum (ns := cs.map fun c => c * (c - 1)) T.sum ?_) (e_dat 1)
    rw [← sum_int]
    exact e_mapM cI (.one 14) [("_law_many", 14)] (fun c => .int (c * (c - 1))) (i_list (e_dat 3)) (fun _ _ _ _ _ => g_one 14 nd) (fun s' H' C cl fp B' c hc => e_mulI (e_dat 14) (e_subI (e_dat 14) e_int) (.inl (by have := hv c hc; omega))) (fun _ _ => trivial) (by omega) (blkOk_by (N := n_l_book) (sc := defScope s_l_book) (by decide +kernel)) nd
  · have hk' := of_decide_eq_true hk
    refine s_one (s_asg (P := is (.dat (.list ((if 1 < cs.length then cs.tail else [2]).map cI.e)))) 3 (e_if (x := decide (1 < cs.length)) (ET.eq (t_gt (EV.eq (e_lenL T.len (e_dat 3)) (by rw [List.length_map])) e_int) (by by_cases q : 1 < cs.length <;> simp [q] <;> omega)) (fun h1 => ?_) (fun h1 => ?_)) (fun t ht => ?_) nd)
    · rw [if_pos (of_decide_eq_true h1)]
      exact EV.eq (e_slL (l := some 1) (h := none) (e_dat 3) (o_some e_int) o_none) (by rw [cut_one])
    · rw [if_neg (of_decide_eq_false h1)]
      exact e_lst (ds := [_]) (vs_cons e_int vs_nil)
    · rw [show t = _ from ht]
      cases cs with
      | nil => simp at hl
      | cons c cs =>
        by_cases q : 1 < (c :: cs).length
        · rw [if_pos q]
          refine ⟨cs, ⟨⟨by simp at q; omega, by have := hl.2; simp at this; omega⟩, fun x hx => hv x (List.mem_cons_of_mem _ hx)⟩, ?_, rfl⟩
          rw [List.map_cons, List.sum_cons]
          omega
        · rw [if_neg q]
          have e : cs = [] := by
            cases cs with
            | nil => rfl
            | cons _ _ => simp at q
          subst e
          have hc := hv c (by simp)
          have h3 : c = 3 := by
            have h3 : c = 1 ∨ c = 2 ∨ c = 3 := by omega
            rcases h3 with e | e | e
            · rw [e] at hk'; simp at hk'
            · rw [e] at hk'; simp at hk'
            · exact e
          subst h3
          exact ⟨[2], by simp, by decide, rfl⟩
  subst hG
  -- order, checks, style
  have k4 := kinds_len cok
  refine q_par3 (P1 := fun t => ∃ o : List (List Int), o.Perm (kinds cs) ∧ t = .dat (.list (o.map cR.e))) (P3 := inI fun z => 0 ≤ z ∧ z < 4) 4 5 6 (e_callBx 0 D3 hr (Ps := is [.dat (.list ((kinds cs).map cR.e))]) (as_cons (e_callD D4 hr (as_cons (e_dat 3) as_nil) ⟨cs, false, by have := cok.l3; omega, fun c hc => by have := cok.v c hc; omega, rfl, rfl⟩) as_nil) (fun ts ht => ⟨_, ⟨(kinds cs).map cR.e, by rw [List.length_map]; omega, ht, rfl⟩, fun t ⟨es, pm, h⟩ => by
      obtain ⟨o, h1, h2⟩ := perm_map cR pm
      exact ⟨o, h1, by rw [h, h2]⟩⟩) rfl rfl) (e_lstO (ds := []) vs_nil (by decide)) (fun B' => n_take 0 D1 hr e_int (by decide) (by decide) rfl rfl) (fun t ⟨o, _, h⟩ => by rw [h]; rfl) (fun t ⟨i, h, _⟩ => by rw [h]; rfl) (fun t u ⟨o, pmo, ht⟩ ⟨st, hu, hst⟩ => ?_) nd
  subst ht hu
  have oOk : OrdOk o := ⟨pmo.nodup_iff.mpr (kinds_nodup cs), fun k hk => kinds_ok (pmo.mem_iff.mp hk)⟩
  have oLen : o.length ≤ 4 := by rw [pmo.length_eq]; exact k4
  -- the checks
  let Gc : List (List Int × List (List Int)) → En := fun ks => [.box bp, .dat (.int 4), .dat (.int 3), .dat (.list (cs.map cI.e)), .dat (.list (o.map cR.e)), .own (ks.map cC.e), .dat (.int st), .any, .any, .any, .any, .any, .any, .any, .any, .any]
  refine s_cons (Mid := fun G' => ∃ ks, (ks.length ≤ 3 ∧ ∀ c ∈ ks, CkU cs c) ∧ G' = Gc ks) (s_for (PD := fun ds => ∃ n : Nat, n ≤ 3 ∧ ds = rgD n) (.one 7) (fun ds i G' => ∃ ks, (ks.length = i ∧ ∀ c ∈ ks, CkU cs c) ∧ G' = Gc ks) (i_rangeP (n_pick (S := fun z => 0 ≤ z ∧ z ≤ 3) (ns := [1, 1, 2, 2, 3, 0]) 0 D2 hr (vs_cons e_int (vs_cons e_int (vs_cons e_int (vs_cons e_int (vs_cons e_int (vs_cons e_int vs_nil)))))) (by decide) (by decide) (by decide) rfl rfl) (fun t ⟨z, h1, h2⟩ => ⟨z.toNat, by rw [h1]; congr 2; omega, by omega, z.toNat, by omega, rfl⟩) T.range) (g_one 7 nd) (fun _ _ _ _ => trivial) (fun ds _ => ⟨[], ⟨rfl, fun c hc => (by cases hc)⟩, rfl⟩) (fun ds i d G1 ⟨n, n3, hds⟩ hd ⟨ks, ⟨kl, kok⟩, hG⟩ => ?_) (fun ds G' ⟨n, n3, hds⟩ ⟨ks, ⟨kl, kok⟩, hG⟩ => ⟨ks, ⟨by rw [kl, hds, rgD_len]; exact n3, kok⟩, hG⟩) PassesOwn.never rfl) (fun G' ⟨ks, ⟨kl, kok⟩, hG⟩ => ?_)
  · have hi3 : i < 3 := by
      have := (List.getElem?_eq_some_iff.mp hd).1
      rw [hds, rgD_len] at this
      omega
    subst hG
    refine ss_wkE (q := { bk := _, rt := _ }) (Gc := Gc) (J := fun ks => ks.length = i + 1 ∧ ∀ c ∈ ks, CkU cs c) ?_
    -- places
    refine q_asgP (P := fun t => ∃ ps : List Int, t = .dat (cR.e ps) ∧ (1 ≤ ps.length ∧ ps.length ≤ 3) ∧ ∀ p ∈ ps, 0 ≤ p ∧ p < cs.length) 8 (EE.imp (e_tupP (PD := fun ds => ∃ ps : List Int, ds = ps.map cI.e ∧ (1 ≤ ps.length ∧ ps.length ≤ 3) ∧ ∀ p ∈ ps, 0 ≤ p ∧ p < cs.length) T.tuple (e_frzP (EE.imp (e_lcO (PD := fun ds => ∃ n : Nat, 1 ≤ n ∧ n ≤ 3 ∧ ds = rgD n) (Tt := fun _ => is true) (P := fun _ => inI fun z => 0 ≤ z ∧ z < cs.length) (.one 15) [("_law_place", 15)] (i_rangeP (n_add (S := fun z => 1 ≤ z ∧ z ≤ 3) (n_of e_int) (n_take (m := 3) 0 D1 hr (e_dat 2) (by decide) (by decide) rfl rfl) (fun i j h1 h2 => by subst h1; omega)) (fun t ⟨z, h1, h2⟩ => ⟨z.toNat, by rw [h1]; congr 2; omega, by omega, z.toNat, by omega, by omega, rfl⟩) T.range) (fun _ _ _ _ _ => g_one 15 nd) (fun _ _ _ _ _ _ _ _ _ _ => ts_nil) (fun s' H' C cl fp B' ds d hd hd2 _ => n_take (m := (cs.length : Int)) 0 D1 hr (EV.eq (e_lenL T.len (e_dat 3)) (by rw [List.length_map])) (by have := cok.l1; omega) (by have := cok.l3; omega) rfl rfl) (fun _ _ _ _ => trivial) (fun ds ⟨n, _, h3, h⟩ => by rw [h, rgD_len]; omega) (fun _ _ _ _ t ⟨i, h, _⟩ => ⟨_, h⟩) (blkOk_by (N := n_l_book) (sc := defScope s_l_book) (by decide +kernel)) nd) (fun t ⟨ds, es, ⟨n, n1, n3, hds⟩, ht, rel⟩ => ?_)))) (fun t ⟨ds, h1, ps, h2, h3⟩ => ⟨ps, by rw [h1, h2], h3⟩)) (fun t ⟨ps, ht, pl, pin⟩ => ?_) nd
    · obtain ⟨a1, a2⟩ := rel.all fun _ _ h => h
      obtain ⟨ps, h1, h2⟩ := ints_map (S := fun z => 0 ≤ z ∧ z < cs.length) fun e he => by
        obtain ⟨d, _, i, h3, h4⟩ := a2 e he
        exact ⟨i, Sl.dat.inj h3, h4⟩
      rw [hds, rgD_len] at a1
      exact ⟨es, ht, ps, h1, by rw [h1, List.length_map] at a1; omega, h2⟩
    subst ht
    have uv := univ_of cok pl.2 pin
    refine q_asg (t := .dat (.list ((allRows cs ps).map cR.e))) 9 (e_callD D5 hr (as_cons (e_dat 3) (as_cons (e_dat 8) as_nil)) ⟨cs, ps, by have := cok.l3; omega, by omega, fun c hc => by have := cok.v c hc; omega, pin, rfl, rfl⟩) ?_ nd
    refine q_asgP (P := inI fun z => 2 ≤ z ∧ z ≤ 4) 10 (n_pick (ns := [2, 3, 4]) 0 D2 hr (vs_cons e_int (vs_cons e_int (vs_cons e_int vs_nil))) (by decide) (by decide) (by decide) rfl rfl) (fun t ⟨sh, ht, hsh⟩ => ?_) nd
    subst ht
    have sub : ∀ {es : List PyData}, es.Sublist ((allRows cs ps).map cR.e) → ∃ rs : List (List Int), es = rs.map cR.e ∧ rs.Nodup ∧ ∀ r ∈ rs, r ∈ allRows cs ps := fun h => by
      obtain ⟨rs, h1, h2⟩ := List.sublist_map_iff.mp h
      exact ⟨rs, h2, h1.nodup (allRows_nodup cs ps), fun r hr => h1.subset hr⟩
    let Gr : List (List Int) → En := fun rs => [.box bp, .dat (.int 4), .dat (.int 3), .dat (.list (cs.map cI.e)), .dat (.list (o.map cR.e)), .own (ks.map cC.e), .dat (.int st), .dat d, .dat (cR.e ps), .dat (.list ((allRows cs ps).map cR.e)), .dat (.int sh), .dat (.list (rs.map cR.e)), .any, .any, .any, .any]
    refine s_cons (Mid := fun G' => ∃ rs : List (List Int), (rs.Nodup ∧ ∀ r ∈ rs, r ∈ allRows cs ps) ∧ G' = Gr rs) (s_lcO (PD := is ((allRows cs ps).map cR.e)) (Tt := fun _ _ => True) (P := fun d => is (.dat d)) 11 (.one 13) [("_law_row", 13)] (i_list (e_dat 9)) (fun _ _ _ _ _ => g_one 13 nd) (fun s' H' C cl fp B' ds d hd hd2 => ts_one (t_gtN (n_take (m := sh) 0 D1 hr (e_dat 10) (by omega) (by omega) rfl rfl) (n_of e_int) (fun _ _ _ _ => trivial))) (fun s' H' C cl fp B' ds d hd hd2 _ => e_dat 13) (fun _ _ _ _ => trivial) (fun ds h => by rw [show ds = _ from h, List.length_map]; have := uv.len; omega) (fun _ _ d _ t h => ⟨d, h⟩) (fun ds es h rel => .inr ?_) (blkOk_by (N := n_l_book) (sc := defScope s_l_book) (by decide +kernel)) nd) (fun G' ⟨rs, hrs, hG⟩ => ?_)
    · rw [show ds = _ from h] at rel
      obtain ⟨rs, h1, h2⟩ := sub (rel.sublist fun d e h => Sl.dat.inj h)
      exact ⟨rs, h2, by rw [h1]; rfl⟩
    subst hG
    refine s_cons (Mid := fun G' => ∃ rs : List (List Int), (rs.Nodup ∧ ∀ r ∈ rs, r ∈ allRows cs ps) ∧ G' = Gr rs) (s_if (k := true) (P := fun _ => True) (t_ltN (n_of (e_dat 6)) (n_of e_int) (fun _ _ _ _ => trivial)) (fun _ => ?_) (fun _ => s_nil ⟨rs, hrs, rfl⟩)) (fun G' ⟨rs, hrs, hG⟩ => ?_)
    · refine s_one (s_asg (P := fun t => ∃ us : List (List Int), t = .dat (.list (us.map cR.e)) ∧ us.Nodup ∧ ∀ r ∈ us, r ∈ allRows cs ps) 11 (e_call D6 hr (Ps := fun ts => ∃ rs : List (List Int), (rs.Nodup ∧ ∀ r ∈ rs, r ∈ allRows cs ps) ∧ ts = [.dat (cR.e ps), .dat (.list (rs.map cR.e)), .dat (.list (o.map cR.e))]) (ai_cons (Pa := is (.dat (cR.e ps))) (Ps := fun ts => ∃ rs : List (List Int), (rs.Nodup ∧ ∀ r ∈ rs, r ∈ allRows cs ps) ∧ ts = [.dat (.list (rs.map cR.e)), .dat (.list (o.map cR.e))]) (e_dat 8) (ai_cons (Pa := fun t => ∃ ds, t = .dat (.list ds) ∧ ∃ rs : List (List Int), ds = rs.map cR.e ∧ rs.Nodup ∧ ∀ r ∈ rs, r ∈ allRows cs ps) (Ps := is [.dat (.list (o.map cR.e))]) (e_frzP (EE.imp (e_lcO (PD := is ((allRows cs ps).map cR.e)) (Tt := fun _ _ => True) (P := fun d => is (.dat d)) (.one 13) [("_law_row", 13)] (i_list (e_dat 9)) (fun _ _ _ _ _ => g_one 13 nd) (fun s' H' C cl fp B' ds d hd hd2 => ts_one (t_eqN (u64 hr) (n_take (m := sh) 0 D1 hr (e_dat 10) (by omega) (by omega) rfl rfl) (n_of e_int) (fun _ _ _ _ => trivial))) (fun s' H' C cl fp B' ds d hd hd2 _ => e_dat 13) (fun _ _ _ _ => trivial) (fun ds h => by rw [show ds = _ from h, List.length_map]; have := uv.len; omega) (fun _ _ d _ t h => ⟨d, h⟩) (blkOk_by (N := n_l_book) (sc := defScope s_l_book) (by decide +kernel)) nd) (fun t ⟨ds, es, h, ht, rel⟩ => ?_))) (as_cons (e_dat 4) as_nil) (fun t ts ⟨ds, h1, rs, h2, h3⟩ h4 => ⟨by rw [h1]; rfl, rs, h3, by rw [h1, h2, show ts = _ from h4]⟩)) (fun t ts h1 ⟨rs, h2, h3⟩ => ⟨by rw [show t = _ from h1]; rfl, rs, h2, by rw [show t = _ from h1, h3]⟩)) (fun ts ⟨rs, hrs, hts⟩ => ⟨_, ⟨ps, allRows cs ps, rs, o, false, false, pl.1, pl.2, uv, hrs.2, by have := nodup_len hrs.1 hrs.2; have := uv.len; omega, oOk, oLen, by rw [hts]; rfl, rfl⟩, fun t ht => ⟨_, ht, (hullF_is uv oOk hrs.2).nd, (hullF_is uv oOk hrs.2).sub uv hrs.2⟩⟩)) (fun t ⟨us, ht, hus⟩ => ⟨us, hus, by rw [ht]; rfl⟩) nd)
      rw [show ds = _ from h] at rel
      obtain ⟨rs, h1, h2⟩ := sub (rel.sublist fun d e h => Sl.dat.inj h)
      exact ⟨es, ht, rs, h1, h2⟩
    · subst hG
      have hck : CkU cs (ps, sortR rs) := ⟨pl.1, pl.2, pin, fun r hr' => hrs.2 r ((sortR_perm rs).mem_iff.mp hr'), (sortR_perm rs).nodup_iff.mpr hrs.1, sortR_sorted rs⟩
      refine s_one (s_app (ds := ks.map cC.e) 5 (P := is (.dat (cC.e (ps, sortR rs)))) (e_tup (ds := [_, _]) (vs_cons (e_dat 8) (vs_cons (e_tupL T.tuple (e_frz (e_sortR false hr T.sorted (e_dat 11) (.inl fun r hr' z => ?_)))) vs_nil)) (by simp)) (fun t ht => ⟨_, ht, ks ++ [(ps, sortR rs)], ⟨by rw [List.length_append, kl]; rfl, fun c hc => ?_⟩, .inr rfl, .inr rfl, .inr rfl, .inr rfl, .inr rfl, .inr (by simp), .inr rfl, .inl rfl, .inl rfl, .inl rfl, .inl rfl, .inl rfl, .inr rfl, .inr rfl, .inr rfl, .inr rfl, trivial⟩) (by rw [List.length_map]; omega))
      · have := uv.el r (hrs.2 r hr')
        rw [z] at this
        simp at this
        omega
      · rcases List.mem_append.mp hc with h | h
        · exact kok c h
        · have : c = (ps, sortR rs) := by simpa using h
          rw [this]
          exact hck
  · subst hG
    refine ss_frz 5 (s_one (s_ret (P := is (.dat (.list [cR.e cs, .tuple (ks.map cC.e)]))) (e_lst (ds := [_, _]) (vs_cons (e_tupL T.tuple (e_dat 3)) (vs_cons (e_tupL T.tuple (e_dat 5)) vs_nil)) (by simp)) (fun t ht => ⟨⟨cs, ks, ⟨cok, kl, kok⟩, ht⟩, by rw [show t = _ from ht]; rfl, rfl⟩)))
end
end Mk
namespace L2
open PySem PySem.Spec PyProof.Rows
/-- d[t] = v by a comprehension, t a tuple -/
theorem dT_set {X : Cx} {pins : List (Addr × Obj)} {σ : St} {H : Hp} {s : Shared} {A : Around} {E : Value → Shared → Prop} {D b : Addr} {kvs : List (List Key × V)} {k : List Key} {v : V} {u r : Value} {Q : Unit → Shared → Prop} (hu : A.units + 1 < cLine) (I : Inv X pins σ H s) (hD : H D = some (.dT kvs)) (hz : kvs.length < sizeLine)
    (eb : H b = some (.tup (k.map kV))) (ry : RelV (.ref b) u) (rv : RelV v r) (h : ∀ s', Inv X pins σ (upd H D (.dT (putK kvs k v))) s' → Q () s') : wpAny (model X.prog X.w) A (dictSet D u r) Q E s := by
  cases (show u = Value.ref b from ry)
  obtain ⟨z, hd, xs, rel, dd⟩ := dt_of I.hok hD
  have hzx : xs.length ≤ sizeLine := by rw [← Paired.length rel]; exact z
  have hl : (putK kvs k v).length ≤ sizeLine := by have := length_putK kvs k v; omega
  refine wpAny_dictSet_heap (hsz := hzx) (show (tupleKind (mixKind X.prog X.w)).room A from (Nat.lt_of_succ_lt hu : A.units < cLine)) (key_of I.hok eb) dd fun h' dd' hs => h _ ?_
  obtain ⟨q, es, ep, hq, h2, h3, h4, _, h5⟩ := dd'
  refine d_write I (by rw [hD]; exact True.intro) hs ⟨q, hq⟩ ⟨hl, hd, _, (rel.put k eb rv).keeps fun c ys ec => ?_, q, es, ep, hq, h2, h3, h4, h5⟩
  rw [upd_ne (ne_of ec hD (fun z => nomatch z))]
  exact ec
section
variable {X : Cx}
/-- {k: v for target in iter if ..}, keys ints or texts: D the new dict -/
def tDcT (wi : TI) (g : TG) (tt : TT) (tk tv : TE) (vs : List Nat) : TE := fun σ H Q => wi σ H fun J H1 => ∀ D, H1 D = none → ∃ W : Nat → Nat → Hp → Prop, (∃ m, W 0 m (upd H1 D (.dT []))) ∧ ∀ i m H, W i m H →
  (J.stop i H ∧ Q (.ref D) H) ∨ (J.go i H ∧ ∃ Nx : Hp → Prop, (∀ H', Nx H' → ∃ m', m' < m ∧ W (i + 1) m' H') ∧ ∀ x H', J.yld i H x H' → g x (wipe σ vs) H' fun σ2 H2 => wipe σ2 vs = wipe σ vs ∧ tt σ2 H2 fun b H3 =>
    if b = true then tk σ2 H3 fun y H4 => tv σ2 H4 fun z H5 => ∃ kvs k b, y = .ref b ∧ H5 b = some (.tup (k.map kV)) ∧ H5 D = some (.dT kvs) ∧ kvs.length < sizeLine ∧ Nx (upd H5 D (.dT (putK kvs k z))) else Nx H3)
theorem dcT_core {pins : List (Addr × Obj)} {s : Shared} {σ : St} {H : Hp} {Q : VK} {kx vx tg iter : Expr} {ifs : List Expr} {scope : Scope} {own : List (Str × Nat)} {pos pos' : Pos} {wi : TI} {g : TG} {tt : TT} {tk tv : TE} {use : Option (Value → Sem Unit)} {Qf : Value → Shared → Prop}
    (hc : X.calm = true) (hu : X.A.units + 1 < cLine) (hN : X.N.Nodup) (I : Inv X pins σ H s) (hi : PI X tg iter wi) (ok : BlkOk X.N X.env.scope scope own)
    (hg : ∀ (s : Shared) (H : Hp) (C : Addr) (cl : List (Str × Addr)) (fp : List Addr), PG (X.blk s H scope (compEnvC scope cl C X.env) fp) tg g) (ht : ∀ (s : Shared) (H : Hp) (C : Addr) (cl : List (Str × Addr)) (fp : List Addr), PTs (X.blk s H scope (compEnvC scope cl C X.env) fp) ifs tt)
    (hk : ∀ (s : Shared) (H : Hp) (C : Addr) (cl : List (Str × Addr)) (fp : List Addr), PE (X.blk s H scope (compEnvC scope cl C X.env) fp) kx tk)
    (he : ∀ (s : Shared) (H : Hp) (C : Addr) (cl : List (Str × Addr)) (fp : List Addr), PE (X.blk s H scope (compEnvC scope cl C X.env) fp) vx tv) (hs : ∀ x, foldedSetIterable iter X.env x = pure x)
    (h : tDcT wi g tt tk tv (own.map (·.2)) σ H Q)
    (hRR : ∀ D C s' m H', Inv X pins σ H' s' → Q (.ref D) H' → s'.heap.Ns C m → FpOk X pins H' C → compPost (model X.prog X.w) X.A X.xe use Qf (.ref D) C (.ok .next) s') :
    wpAny (model X.prog X.w) X.A (comprehension (.DictComp kx vx [⟨tg, iter, ifs, 0⟩] scope pos) scope X.env pos' newDict false (eval iter X.env) use) Qf X.xe s := by
  have hfree : ∀ y ∈ scope.names, y.2 = .free → ∃ c, X.env.cells.lookup y.1 = some c := fun y hy e => by
    rcases ok.free y hy e with k | k
    · exact I.ok.has _ (.inl k)
    · exact I.ok.has _ (.inr k)
  refine wpAny_comprehension_free (use := use) rfl hs (closure_ok hfree) ok.kind (fun y hy e => by rw [ok.uniq y hy, e])
    (thn (hi.run pins s σ H _ I h) fun xv s1 hx => thn hx fun itv s2 h2 => ?_)
  obtain ⟨it, fp, tn, J, H2, e, I2, T, st2, f2, q⟩ := h2
  subst e
  refine wpAny_newObj_type (newEnv_comp ?_)
  generalize hD : s2.heap.objs.size = D
  have hDn : H2 D = none := I2.hok.fresh (Nat.le_of_eq hD)
  obtain ⟨W, ⟨m0, w0⟩, turn⟩ := q D hDn
  -- the new list
  generalize hs3 : ({ s2 with heap := s2.heap.push { cls := .type "dict", data := .dict #[] } } : Shared) = s3
  have I3 : Inv X pins σ (upd H2 D (.dT [])) s3 := by
    rw [← hs3]
    refine I2.laid (t' := s2.toks) (fun b o e => Heap.get?_push_of_some _ e) (Nat.le_of_eq hD) ?_
    rw [← hD]
    exact dt_empty s2.heap I2.big
  have h3 : s3.heap = s2.heap.push { cls := .type "dict", data := .dict #[] } := by rw [← hs3]
  have sz : ∀ b ∈ fp, b < s2.heap.objs.size := fun b hb => by
    obtain ⟨o, e, _⟩ := T.obj _ _ st2 b hb
    exact Heap.lt_size e
  have f3 : ∀ b ∈ fp, FpOk X pins (upd H2 D (.dT [])) b ∧ b < s3.heap.objs.size := fun b hb => by
    have hlt := sz b hb
    refine ⟨⟨?_, (f2 b hb).2⟩, by rw [h3, Heap.size_push]; exact Nat.lt_succ_of_lt hlt⟩
    rw [upd_ne (by rw [← hD]; exact Nat.ne_of_lt hlt)]
    exact (f2 b hb).1
  have st3 : tn 0 s3.heap := T.keep _ _ _ st2 fun b _ o e => by rw [h3]; exact Heap.get?_push_of_some _ e
  have I4 := block_start I3 ok hN f3
  have pg := hg s3 (upd H2 D (.dT [])) s3.heap.objs.size (cellsFrom (s3.heap.objs.size + 1) scope.names (cloFrom X.env.cells scope.names [])) fp
  have pt := ht s3 (upd H2 D (.dT [])) s3.heap.objs.size (cellsFrom (s3.heap.objs.size + 1) scope.names (cloFrom X.env.cells scope.names [])) fp
  have pk := hk s3 (upd H2 D (.dT [])) s3.heap.objs.size (cellsFrom (s3.heap.objs.size + 1) scope.names (cloFrom X.env.cells scope.names [])) fp
  have pe := he s3 (upd H2 D (.dT [])) s3.heap.objs.size (cellsFrom (s3.heap.objs.size + 1) scope.names (cloFrom X.env.cells scope.names [])) fp
  show codeAny _ _ (.compStart (.DictComp kx vx [⟨tg, iter, ifs, 0⟩] scope pos) 0 (.ref it) (.ref D) (compEnvC scope (cellsFrom (s3.heap.objs.size + 1) scope.names (cloFrom X.env.cells scope.names [])) s3.heap.objs.size X.env)) (compPost (model X.prog X.w) X.A X.xe use Qf (.ref D) s3.heap.objs.size) { s3 with heap := pushCells (s3.heap.push { cls := .type "dict", data := .dict #[] }) scope.names }
  have nfp : ∀ b ∈ fp, (upd H2 D (.dT [])) b = none := fun b hb => (f3 b hb).1.1
  generalize hce : compEnvC scope (cellsFrom (s3.heap.objs.size + 1) scope.names (cloFrom X.env.cells scope.names [])) s3.heap.objs.size X.env = ce at I4 pg pt pk pe ⊢
  have cL : ce.locals = s3.heap.objs.size := by subst hce; rfl
  generalize hH3 : upd H2 D (.dT []) = H3 at I3 I4 pg pt pk pe w0 nfp f3
  generalize hs4 : ({ s3 with heap := pushCells (s3.heap.push { cls := .type "dict", data := .dict #[] }) scope.names } : Shared) = s4 at I4 ⊢
  have st4 : tn 0 s4.heap := T.keep _ _ _ st3 fun b _ o e => by rw [← hs4]; exact pushCells_keeps _ _ _ _ (Heap.get?_push_of_some _ e)
  have stat : ∀ {σ' : St} {H' : Hp} {s' : Shared}, Inv (X.blk s3 H3 scope ce fp) [] σ' H' s' → (∀ b ∈ fp, H' b = none) → ∀ b ∈ fp, FpOk (X.blk s3 H3 scope ce fp) [] H' b := fun {σ' H' s'} I' hn b hb =>
    ⟨hn b hb, (I'.ok.exf b hb).1, I'.ok.exfs b hb, .inl hb, fun x c e => (I'.ok.exf b hb).2 x c e, fun p hp => absurd (show p ∈ ([] : List (Addr × Obj)) ++ [] from hp) (by simp)⟩
  have loop : codeAny (model X.prog X.w) X.A (.compLoop (.DictComp kx vx [⟨tg, iter, ifs, 0⟩] scope pos) 0 (.ref it) (.ref D) ce) (compPost (model X.prog X.w) X.A X.xe use Qf (.ref D) s3.heap.objs.size) s4 := by
    refine compLoop_anyD (fun n s' => ∃ i H', Inv (X.blk s3 H3 scope ce fp) [] (wipe σ (own.map (·.2))) H' s' ∧ tn i s'.heap ∧ (∀ b ∈ fp, H' b = none) ∧ W i n H') ?_ m0 ⟨0, H3, I4, st4, nfp, w0⟩
    rintro n s5 ⟨i, H5, I5, st5, n5, w5⟩
    rcases turn i n H5 w5 with ⟨stop, qq⟩ | ⟨go, Nx, hNx, step⟩
    · have td := T.done (X.blk s3 H3 scope ce fp) rfl rfl rfl hc i [] s5 _ H5 (fun _ _ => False) I5 (stat I5 n5) st5 stop
      refine thnF td fun r s6 ⟨hr, I6⟩ => ?_
      subst hr
      -- back in the def's context
      have I7 : Inv X pins σ H5 s6 := I3.call' (ch := fp) I6.os I6.base I6.hok I6.bare fun b hb => ⟨(f3 b hb).1.2.2.2.1, (f3 b hb).1.2.1, (f3 b hb).1.2.2.2.2.1, (f3 b hb).1.2.2.2.2.2⟩
      have nC : H5 s3.heap.objs.size = none := by
        have z : H5 ce.locals = none := I6.free
        rw [cL] at z
        exact z
      obtain ⟨m, hn, _⟩ := I6.loc
      have hn : s6.heap.Ns ce.locals m := hn
      rw [cL] at hn
      exact hRR D s3.heap.objs.size s6 m H5 I7 qq hn (I3.fpOk (Nat.le_refl _) nC)
    · have ti := T.item (X.blk s3 H3 scope ce fp) rfl rfl rfl hc i [] s5 _ H5 (fun _ _ => False) I5 (stat I5 n5) st5 go
      refine thnF ti fun r s6 ⟨u, hr, h6⟩ => ?_
      subst hr
      refine thnF h6 fun _ s7 ⟨x, H7, I7, r7, y7, st7, n7⟩ => ?_
      have I7' := I7.pinned (stat I7 n7) (T.obj _ _ st7)
      refine thnF (pg.run _ s7 _ H7 x u _ I7' r7 (step x H7 y7)) fun _ s8 ⟨σ8, H8, I8, hw8, q8⟩ => ?_
      refine thnF (pt.run _ s8 σ8 H8 _ I8 q8) fun b s9 ⟨H9, I9, q9⟩ => ?_
      -- the turn's end
      have fin : ∀ {s' : Shared} {H' : Hp}, Inv (X.blk s3 H3 scope ce fp) ([] ++ pinsAt fp s7.heap) σ8 H' s' → Nx H' → ∃ m, m < n ∧ ∃ i H', Inv (X.blk s3 H3 scope ce fp) [] (wipe σ (own.map (·.2))) H' s' ∧ tn i s'.heap ∧ (∀ b ∈ fp, H' b = none) ∧ W i m H' := fun {s' H'} I' nx => by
        obtain ⟨m', hm, w'⟩ := hNx H' nx
        have pin' : ∀ b ∈ fp, ∀ o, s7.heap.get? b = some o → s'.heap.get? b = some o ∧ H' b = none := fun b hb o e =>
          let z := I'.pin (b, o) (List.mem_append_right _ (List.mem_append_right _ (mem_pinsAt hb e)))
          ⟨z.1, z.2.1⟩
        have hl : (wipe σ (own.map (·.2))).length = σ8.length := by rw [← hw8, wipe_length]
        refine ⟨m', hm, i + 1, H', (I'.unpinned (pins := [])).weak hl (fun j v e => ?_), T.keep _ _ _ st7 fun b hb o e => (pin' b hb o e).1, fun b hb => ?_, w'⟩
        · rw [← hw8] at e
          exact (wipe_some e).1
        · obtain ⟨o, e, _⟩ := T.obj _ _ st7 b hb
          exact (pin' b hb o e).2
      cases b with
      | false =>
        simp only [Bool.false_eq_true, if_false] at q9 ⊢
        exact fin I9 q9
      | true =>
        simp only [if_true] at q9 ⊢
        refine thnF (pk.run _ s9 σ8 H9 _ I9 q9) fun z s10 ⟨yk, H10, I10, r10, q10⟩ => ?_
        refine thnF (pe.run _ s10 σ8 H10 _ I10 q10) fun z2 s11 ⟨yv, H11, I11, r11, kvs, k, kb, ek, ekb, hD11, hz11, nx⟩ => ?_
        subst ek
        exact dT_set (X := X.blk s3 H3 scope ce fp) hu I11 hD11 hz11 ekb r10 r11 fun s12 I12 => fin I12 nx
  exact codeAny_compStart_dict loop (T.self X.A 0 _ _ _ st4 loop)
/-- as a value -/
theorem pe_dcT {kx vx tg iter : Expr} {ifs : List Expr} {scope : Scope} {own : List (Str × Nat)} {pos : Pos} {wi : TI} {g : TG} {tt : TT} {tk tv : TE} (hc : X.calm = true) (hu : X.A.units + 1 < cLine) (hN : X.N.Nodup) (hi : PI X tg iter wi) (ok : BlkOk X.N X.env.scope scope own)
    (hg : ∀ (s : Shared) (H : Hp) (C : Addr) (cl : List (Str × Addr)) (fp : List Addr), PG (X.blk s H scope (compEnvC scope cl C X.env) fp) tg g) (ht : ∀ (s : Shared) (H : Hp) (C : Addr) (cl : List (Str × Addr)) (fp : List Addr), PTs (X.blk s H scope (compEnvC scope cl C X.env) fp) ifs tt)
    (hk : ∀ (s : Shared) (H : Hp) (C : Addr) (cl : List (Str × Addr)) (fp : List Addr), PE (X.blk s H scope (compEnvC scope cl C X.env) fp) kx tk)
    (he : ∀ (s : Shared) (H : Hp) (C : Addr) (cl : List (Str × Addr)) (fp : List Addr), PE (X.blk s H scope (compEnvC scope cl C X.env) fp) vx tv) (hs : ∀ x, foldedSetIterable iter X.env x = pure x := by intro _; rfl) :
    PE X (.DictComp kx vx [⟨tg, iter, ifs, 0⟩] scope pos) (tDcT wi g tt tk tv (own.map (·.2))) := by
  refine ⟨fun pins s σ H Q I h => ?_⟩
  rw [arm_eval_DictComp]
  refine dcT_core hc hu hN I hi ok hg ht hk he hs h fun D C s' m H' I' q hn f => ⟨m, hn, fun h'' sb => ?_⟩
  obtain ⟨f0, f1, f2, f3, f4, f5⟩ := f
  exact ⟨.ref D, H', I'.turned (t' := s'.toks) (fun b o hb e => (sb.2 b hb).trans e) f0 f1 f3 f4 f5, rfl, q⟩

/-- name = {..} with a plain local name: the store within the comprehension -/
theorem ps_setDcT {i : Nat} {y : Str} {py : Pos} {kx vx tg iter : Expr} {ifs : List Expr} {scope : Scope} {own : List (Str × Nat)} {pos spos : Pos} {wi : TI} {g : TG} {tt : TT} {tk tv : TE} (hc : X.calm = true) (hu : X.A.units + 1 < cLine) (hN : X.N.Nodup) (hy : X.N[i]? = some y) (hyl : X.env.scope.names.lookup y = some .local)
    (hsw : swapsWith (.DictComp kx vx [⟨tg, iter, ifs, 0⟩] scope pos) (some (.Name y py)) spos.line X.env = pure true) (hi : PI X tg iter wi) (ok : BlkOk X.N X.env.scope scope own)
    (hg : ∀ (s : Shared) (H : Hp) (C : Addr) (cl : List (Str × Addr)) (fp : List Addr), PG (X.blk s H scope (compEnvC scope cl C X.env) fp) tg g) (ht : ∀ (s : Shared) (H : Hp) (C : Addr) (cl : List (Str × Addr)) (fp : List Addr), PTs (X.blk s H scope (compEnvC scope cl C X.env) fp) ifs tt)
    (hk : ∀ (s : Shared) (H : Hp) (C : Addr) (cl : List (Str × Addr)) (fp : List Addr), PE (X.blk s H scope (compEnvC scope cl C X.env) fp) kx tk)
    (he : ∀ (s : Shared) (H : Hp) (C : Addr) (cl : List (Str × Addr)) (fp : List Addr), PE (X.blk s H scope (compEnvC scope cl C X.env) fp) vx tv) (hs : ∀ x, foldedSetIterable iter X.env x = pure x := by intro _; rfl) :
    PS X (.Assign [.Name y py] (.DictComp kx vx [⟨tg, iter, ifs, 0⟩] scope pos) spos) (tAsg (tDcT wi g tt tk tv (own.map (·.2))) (gName i)) := by
  refine ⟨fun pins s σ H D I h => ?_⟩
  rw [exec_Assign_Name_used _ _ _ _ hsw]
  refine wpAny_bind (wpAny_standAt (wpAny_bind ?_))
  show wpAny _ X.A (do let _ ← comprehension (.DictComp kx vx [⟨tg, iter, ifs, 0⟩] scope pos) scope X.env (firstIterPos [⟨tg, iter, ifs, 0⟩] pos) newDict false (eval iter X.env) (some (assign (.Name y py) X.env))) _ _ s
  have h : tDcT wi g tt tk tv (own.map (·.2)) σ H (fun x H1 => gName i x σ H1 D.nx) := h
  refine wpAny_bind (thn (dcT_core (Qf := fun _ s' => SP X pins D .next s') hc hu hN I hi ok hg ht hk he hs h fun L C s' m H' I' q hn f => ?_) fun _ s' hq => wpAny_pure (wpAny_pure hq))
  show wpAny _ _ (assign (.Name y py) X.env (.ref L)) _ _ _
  refine wpAny_assign_Name (store_ok2 (v := V.ref L) I' hN hy (.inl hyl) rfl (fun s2 I2 ⟨a, sb, ha⟩ => ?_) (.inr hyl))
  obtain ⟨f0, f1, f2, f3, f4, f5⟩ := f
  have haC : C ≠ a := by
    rcases ha with z | z
    · rw [z]; exact f1
    · exact fun e => f4 y a z e.symm
  refine ⟨m, hn.sameBut sb haC, fun h3 sb3 => ?_⟩
  exact ⟨_, H', I2.turned (t' := s2.toks) (fun b o hb e => (sb3.2 b hb).trans e) f0 f1 f3 f4 f5, q⟩
theorem swD_true {kx vx : Expr} {gs : List Comprehension} {scope : Scope} {pos py : Pos} {y : Str} {l : Nat} {env : Env} (hk : env.scope.kind = .function) (hy : env.scope.names.lookup y = some .local) (hl : (py.line == pos.line) = true)
    (ha : (scope.names.any fun (n, k) => n == y && (k == .local || k == .cell)) = false) : swapsWith (.DictComp kx vx gs scope pos) (some (.Name y py)) l env = pure true := by
  have ky : env.kindOf y = some .local := hy
  have hb : env.blockKind = .function := by unfold Env.blockKind; rw [hk]; rfl
  unfold swapsWith
  simp only [hb, ky, ha, Expr.pos, hl]
  rfl
end
end L2
namespace Mk
open PySem PySem.Spec PyProof.Rows L2

/-! ### dicts of rows -/
def putR (ks : List (List Int)) (k : List Int) : List (List Int) := if k ∈ ks then ks else ks ++ [k]
def dicOf (xs : List (List Int)) : List (List Int) := xs.foldl putR []
theorem mem_putR {ks : List (List Int)} {k r : List Int} : r ∈ putR ks k ↔ r ∈ ks ∨ r = k := by
  unfold putR
  split
  · rename_i h
    constructor
    · exact .inl
    · rintro (z | rfl)
      · exact z
      · exact h
  · rw [List.mem_append, List.mem_singleton]
theorem nodup_putR {ks : List (List Int)} {k : List Int} (h : ks.Nodup) : (putR ks k).Nodup := by
  unfold putR
  split
  · exact h
  · rename_i hn
    exact List.nodup_append.mpr ⟨h, by simp, fun a ha b hb e => hn (by rw [← (by simpa using hb : b = k), ← e]; exact ha)⟩
theorem dicOf_mem {xs : List (List Int)} {r : List Int} : r ∈ dicOf xs ↔ r ∈ xs := by
  unfold dicOf
  suffices h : ∀ b : List (List Int), r ∈ xs.foldl putR b ↔ r ∈ b ∨ r ∈ xs by
    rw [h []]
    simp
  induction xs with
  | nil => intro b; simp
  | cons x xs ih =>
    intro b
    rw [List.foldl_cons, ih, mem_putR, List.mem_cons]
    constructor
    · rintro ((h | h) | h)
      · exact .inl h
      · exact .inr (.inl h)
      · exact .inr (.inr h)
    · rintro (h | h | h)
      · exact .inl (.inl h)
      · exact .inl (.inr h)
      · exact .inr h
theorem foldl_putR_nodup : ∀ {xs b : List (List Int)}, b.Nodup → (xs.foldl putR b).Nodup
  | [], _, h => h
  | x :: xs, b, h => foldl_putR_nodup (xs := xs) (b := putR b x) (nodup_putR h)
theorem dicOf_nodup (xs : List (List Int)) : (dicOf xs).Nodup := foldl_putR_nodup List.nodup_nil
theorem putR_len (ks : List (List Int)) (k : List Int) : (putR ks k).length ≤ ks.length + 1 := by
  unfold putR
  split <;> simp
theorem foldl_putR_len : ∀ (xs b : List (List Int)), (xs.foldl putR b).length ≤ b.length + xs.length
  | [], b => by simp
  | x :: xs, b => by
    have h1 := foldl_putR_len xs (putR b x)
    have h2 := putR_len b x
    rw [List.foldl_cons, List.length_cons]
    omega
theorem inl_inj {k l : List Int} : (k.map Sum.inl : List Key) = l.map Sum.inl ↔ k = l := by
  constructor
  · intro h
    induction k generalizing l with
    | nil => cases l with
      | nil => rfl
      | cons _ _ => simp at h
    | cons x k ih => cases l with
      | nil => simp at h
      | cons y l =>
        simp only [List.map_cons, List.cons.injEq, Sum.inl.injEq] at h
        rw [h.1, ih h.2]
  · intro h
    rw [h]
theorem kLs_mem {ks : List (List Int)} {k : List Int} : (k.map Sum.inl : List Key) ∈ kLs ks ↔ k ∈ ks := by
  unfold kLs
  rw [List.mem_map]
  constructor
  · rintro ⟨l, h1, h2⟩
    rw [← inl_inj.mp h2]
    exact h1
  · intro h
    exact ⟨k, h, rfl⟩
theorem putK_keys {kvs : List (List Key × V)} {ks : List (List Int)} {k : List Int} {v : V} (h : kvs.map (·.1) = kLs ks) : (putK kvs (k.map Sum.inl) v).map (·.1) = kLs (putR ks k) := by
  have any : (kvs.any fun kv => decide (kv.1 = (k.map Sum.inl : List Key))) = true ↔ k ∈ ks := by
    rw [← kLs_mem, ← h, List.any_eq_true, List.mem_map]
    constructor
    · rintro ⟨x, h1, h2⟩
      exact ⟨x, h1, of_decide_eq_true h2⟩
    · rintro ⟨x, h1, h2⟩
      exact ⟨x, h1, decide_eq_true h2⟩
  unfold putK putR
  by_cases hk : k ∈ ks
  · rw [if_pos (any.mpr hk), if_pos hk, List.map_map, ← h]
    apply List.map_congr_left
    intro x _
    show (if x.1 = k.map Sum.inl then (x.1, v) else x).1 = x.1
    split <;> rfl
  · rw [if_neg (fun z => hk (any.mp z)), if_neg hk, List.map_append, h]
    unfold kLs
    rw [List.map_append]
    rfl
theorem valV_keys {kvs : List (List Key × V)} {ks : List (List Int)} {k : List Int} (h : kvs.map (·.1) = kLs ks) : (valV kvs (k.map Sum.inl)).isSome = decide (k ∈ ks) := by
  rw [← valV_any]
  have any : (kvs.any fun kv => decide (kv.1 = (k.map Sum.inl : List Key))) = true ↔ k ∈ ks := by
    rw [← kLs_mem, ← h, List.any_eq_true, List.mem_map]
    constructor
    · rintro ⟨x, h1, h2⟩
      exact ⟨x, h1, of_decide_eq_true h2⟩
    · rintro ⟨x, h1, h2⟩
      exact ⟨x, h1, decide_eq_true h2⟩
  exact bool_of any
theorem kV_ints (k : List Int) : ((k.map Sum.inl : List Key).map kV) = k.map V.int := by
  rw [List.map_map]
  rfl
/-- a tuple of ints in the heap -/
theorem rp_row {F H : Hp} {v : V} {k : List Int} (hs : Same F H) (r : Rp F v (cR.e k)) : ∃ b, v = .ref b ∧ H b = some (.tup ((k.map Sum.inl : List Key).map kV)) := by
  cases r with
  | @tup a vs _ h1 r1 =>
    refine ⟨a, rfl, ?_⟩
    rw [kV_ints, ← r1.ints]
    exact hs _ _ h1
end Mk
namespace Mk
open PySem PySem.Spec PyProof.Rows L2
section
variable {X : Cx} {B : Bs} {G : En} {kx vx elt tg iter : Expr} {scope : Scope} {own : List (Str × Nat)} {pos spos py : Pos} {xs : List (List Int)} {y : Str} {p : Po} {rest : List Stmt}
theorem dc_read {xs : List (List Int)} (T : Tg) (hsl : ∀ j ∈ T.sl, j ∈ own.map (·.2)) (has : aside G (own.map (·.2)) = true) (fit : ∀ d ∈ xs.map cR.e, T.fits d) (hz : xs.length ≤ 100000) {s : L2.St} {H : Hp} {Q : VK}
    (h : tE B G (is (.dic (dicOf xs))) s H Q) :
    tDcT (tI B G (is (xs.map cR.e))) (T.g X.K) (fun s H Q => ∃ (B' : Bs) (x : List Int), x ∈ xs ∧ tT B' (T.to (cR.e x) (wipeG G (own.map (·.2)))) (is true) s H Q)
      (fun s H Q => ∃ (B' : Bs) (x : List Int), x ∈ xs ∧ tE B' (T.to (cR.e x) (wipeG G (own.map (·.2)))) (is (.dat (cR.e x))) s H Q) (fun s H Q => ∃ (B' : Bs) (x : List Int), x ∈ xs ∧ tE B' (T.to (cR.e x) (wipeG G (own.map (·.2)))) (is (.dat (.bool true))) s H Q) (own.map (·.2)) s H Q := by
  generalize hvs : own.map (·.2) = vs at hsl has ⊢
  obtain ⟨F, g, w, q⟩ := h
  refine ⟨F, g, w, fun ds J F1 H1 pd g1 e1 w1 wk => fun D hD => ?_⟩
  have dsl : ds.length = xs.length := by rw [show ds = _ from pd, List.length_map]
  have hFD : F1 D = none := g1.h.free hD
  have hMD : B.M D = none := g1.m.free hD
  have hBF : B.F D = none := g1.f.free hFD
  have ap : ∀ {F2 H2 : Hp}, Sat B F2 H2 s G → ∀ (i : Nat) (t : Sl) (a : Addr), G[i]? = some t → t.owned = true → s[i]?.join = some (V.ref a) → a ≠ D := by
    intro F2 H2 _ i t a e o k z
    exact Sat.apart w1 hD i t a e o k z
  refine ⟨fun i m H' => m = ds.length - i ∧ i ≤ ds.length ∧ ∃ F' kvs, kvs.map (·.1) = kLs ((xs.take i).foldl putR []) ∧ Good B F' H' ∧ Same F1 F' ∧ Sat B F' H' s G ∧ H' D = some (.dT kvs) ∧ F' D = none, ⟨ds.length, by simp, Nat.zero_le _, F1, [], rfl, g1.grow (Grow.loose g1.h hD), Same.refl _, w1.grow (Grow.loose g1.h hD), upd_same, hFD⟩, ?_⟩
  rintro i m H' ⟨rfl, hle, F', kvs, rel, g', e', w', hD', hFD'⟩
  by_cases hlt : i < ds.length
  · refine .inr ⟨wk.goes i F' H' e' g' hlt, fun H2 => ∃ F2 kvs, kvs.map (·.1) = kLs ((xs.take (i + 1)).foldl putR []) ∧ Good B F2 H2 ∧ Same F1 F2 ∧ Sat B F2 H2 s G ∧ H2 D = some (.dT kvs) ∧ F2 D = none,
      fun H2 ⟨F2, k2, r1, r2, r3, r4, r5, r6⟩ => ⟨ds.length - (i + 1), by omega, rfl, hlt, F2, k2, r1, r2, r3, r4, r5, r6⟩, fun x H2 y => ?_⟩
    obtain ⟨F2, d, hd, gr, r⟩ := wk.yld i F' H' x H2 e' g' hlt y
    rw [show ds = _ from pd] at hd
    obtain ⟨row, hrow, rfl⟩ := get_map hd
    have hmem : row ∈ xs := List.mem_of_getElem? hrow
    have g2 := g'.grow gr
    have w2 := w'.grow gr
    have hD2 : H2 D = some (.dT kvs) := gr.h _ _ hD'
    have hFD2 : F2 D = none := by
      cases z : F2 D with
      | none => rfl
      | some u =>
        have k := gr.n D u z hFD'
        rw [hD'] at k
        rcases k with k | ⟨_, k⟩ <;> cases k
    -- back to the places as they were
    have back : ∀ {s3 : L2.St} {F3 H3 : Hp}, Stores T.sl (wipe s vs) s3 → Same F2 F3 → Sat B F3 H3 s3 (T.to (cR.e row) (wipeG G vs)) → Sat B F3 H3 s G := fun {s3 F3 H3} st e3 w3 =>
      Sat.back w2 w3 e3 fun j t ej oj => by
        have nj := aside_no has ej oj
        refine ⟨?_, by rw [st.wipe_other hsl nj]⟩
        rw [Tg.to_other fun z => nj (hsl j z), wipeG_other nj]
        exact ej
    have ap3 : ∀ {s3 : L2.St}, Stores T.sl (wipe s vs) s3 → ∀ (j : Nat) (t : Sl) (a : Addr), (T.to (cR.e row) (wipeG G vs))[j]? = some t → t.owned = true → s3[j]?.join = some (V.ref a) → a ≠ D := fun {s3} st j t a ej oj k => by
      by_cases nj : j ∈ vs
      · exfalso
        -- a slot of the block's own holds a datum or nothing
        have own_no : ∀ (d : PyData) (U : Tg) (Γ : En) (j : Nat) (t : Sl), (∀ u, Γ[j]? = some u → u.owned = false) → (U.to d Γ)[j]? = some t → t.owned = false := fun d U Γ j t hΓ e => by
          have set_no : ∀ (Γ : En) (i : Nat) (c : PyData), (∀ u, Γ[j]? = some u → u.owned = false) → ∀ u, (Γ.set i (.dat c))[j]? = some u → u.owned = false := fun Γ i c hΓ u e => by
            by_cases z : i = j
            · subst z
              by_cases l : i < Γ.length
              · rw [List.getElem?_set_self l] at e
                cases e
                rfl
              · rw [List.getElem?_eq_none (by simp; omega)] at e
                cases e
            · rw [List.getElem?_set_ne z] at e
              exact hΓ u e
          revert e
          cases U with
          | one i => exact set_no Γ i d hΓ t
          | two i k =>
            unfold Tg.to
            split
            · rename_i e; cases e
            · rename_i e; cases e
              exact set_no _ _ _ (set_no _ _ _ hΓ) t
            · rename_i e; cases e
            · exact hΓ t
          | three i k l =>
            unfold Tg.to
            split
            · rename_i e; cases e
            · rename_i e; cases e
            · rename_i e; cases e
              exact set_no _ _ _ (set_no _ _ _ (set_no _ _ _ hΓ)) t
            · exact hΓ t
        have z := own_no (cR.e row) T (wipeG G vs) j t (fun u eu => by
          have wipe_any : ∀ vs : List Nat, j ∈ vs → ∀ u, (wipeG G vs)[j]? = some u → u = .any := fun vs => by
            induction vs with
            | nil => intro h; simp at h
            | cons v vs ih =>
              intro h u e
              have e' : ((wipeG G vs).set v .any)[j]? = some u := e
              by_cases z : v = j
              · subst z
                by_cases l : v < (wipeG G vs).length
                · rw [List.getElem?_set_self l] at e'
                  cases e'
                  rfl
                · rw [List.getElem?_eq_none (by simp; omega)] at e'
                  cases e'
              · rw [List.getElem?_set_ne z] at e'
                rcases List.mem_cons.mp h with h | h
                · exact absurd h.symm z
                · exact ih h u e'
          rw [wipe_any vs nj u eu]
          rfl) ej
        rw [oj] at z
        cases z
      · have ej' : G[j]? = some t := by
          rw [Tg.to_other fun z => nj (hsl j z), wipeG_other nj] at ej
          exact ej
        rw [st.wipe_other hsl nj] at k
        exact ap w2 j t a ej' oj k
    have kl : kvs.length ≤ i := by
      have e1 := congrArg List.length rel
      have e2 := foldl_putR_len (xs.take i) []
      have e3 := List.length_take_le i xs
      unfold kLs at e1
      simp only [List.length_map, List.length_nil] at e1 e2
      omega
    refine tg_run T g2 (w2.wipe vs) r (fit _ (List.mem_map_of_mem hmem)) fun s3 st w3 => ⟨st.wipe hsl, B.plus D (.dT kvs), row, hmem, F2, g2.plus hD2 hFD2, w3.plus (ap3 st), fun b F3 H3 tb g3 e3 w3' => ?_⟩
    rw [show b = true from tb]
    obtain ⟨g3', hD3, hFD3⟩ := g3.minus hMD
    refine iteT ⟨B.plus D (.dT kvs), row, hmem, F3, g3, w3', fun v t F4 H4 pt g4 e4 w4 => ⟨B.plus D (.dT kvs), row, hmem, F4, g4, w4.pop, fun v2 t2 F5 H5 pt2 g5 e5 w5 => ?_⟩⟩
    rw [show t = Sl.dat (cR.e row) from pt] at w4
    obtain ⟨g5', hD5, hFD5⟩ := g5.minus hMD
    have w5m := w5.minus
    have fD := hFD5 hBF
    have rv : Rp F5 v (cR.e row) := (w4.topI rfl : Rp F4 v (cR.e row)).mono e5
    obtain ⟨kb, rfl, hkb⟩ := rp_row g5'.h rv
    refine ⟨kvs, row.map Sum.inl, kb, rfl, hkb, hD5, Nat.lt_of_le_of_lt (by omega : kvs.length ≤ 100000) (by decide), F5, _, ?_, ?_, ((e'.trans gr.f).trans e3).trans (e4.trans e5), ?_, upd_same, fD⟩
    · rw [fold_take hrow]
      exact putK_keys rel
    · refine ⟨g5'.f, fun b x q => ?_, fun b x q => ?_, g5'.n⟩
      · have z : b ≠ D := fun z => by rw [z, fD] at q; cases q
        rw [upd_ne z]
        exact g5'.h _ _ q
      · have z : b ≠ D := fun z => by rw [z, hMD] at q; cases q
        rw [upd_ne z]
        exact g5'.m _ _ q
    · have w6 : Sat B F5 H5 s G := back st (e3.trans (e4.trans e5)) w5m.pop
      obtain ⟨ad, w0⟩ := w6
      refine ⟨ad, w0.len, fun j t ej => (w0.ok j t ej).go (Same.refl _) fun o => ⟨?_, ((w0.ok j t ej).here o).2.1⟩, w0.inj⟩
      exact upd_ne (ap w2 j t _ ej o ((w0.ok j t ej).here o).1)
  · have ei : i = ds.length := by omega
    subst ei
    refine .inl ⟨wk.stops F' H' e' g', ?_⟩
    rw [dsl, List.take_length] at rel
    refine q _ _ F' H' rfl g' (e1.trans e') ?_
    exact w'.pushO ⟨rfl, hFD', hMD, kvs, hD', rel⟩ (ap w')

theorem e_dcT (T : Tg) (own : List (Str × Nat)) (hr : X.A.units + 1 < cLine) (hi : EI X B G tg iter (is (xs.map cR.e))) (hg : ∀ (s : Shared) (H : Hp) (C : Addr) (cl : List (Str × Addr)) (fp : List Addr), PG (X.blk s H scope (compEnvC scope cl C X.env) fp) tg (T.g X.K))
    (hk : ∀ (s : Shared) (H : Hp) (C : Addr) (cl : List (Str × Addr)) (fp : List Addr) (B' : Bs) x, x ∈ xs → EV (X.blk s H scope (compEnvC scope cl C X.env) fp) B' (T.to (cR.e x) (wipeG G (own.map (·.2)))) kx (cR.e x))
    (hv : ∀ (s : Shared) (H : Hp) (C : Addr) (cl : List (Str × Addr)) (fp : List Addr) (B' : Bs) x, x ∈ xs → EV (X.blk s H scope (compEnvC scope cl C X.env) fp) B' (T.to (cR.e x) (wipeG G (own.map (·.2)))) vx (.bool true))
    (fit : ∀ d ∈ xs.map cR.e, T.fits d) (hz : xs.length ≤ 100000)
    (ok : BlkOk X.N X.env.scope scope own) (hN : X.N.Nodup) (hsl : ∀ j ∈ T.sl, j ∈ own.map (·.2) := by decide) (has : aside G (own.map (·.2)) = true := by rfl) (hc : X.calm = true := by rfl) (hs : ∀ x, foldedSetIterable iter X.env x = pure x := by intro _; rfl) :
    EE X B G (.DictComp kx vx [⟨tg, iter, [], 0⟩] scope pos) (is (.dic (dicOf xs))) :=
  PE.weak (pe_dcT hc hr hN hi ok hg
    (fun s H C cl fp => (⟨fun pins s' σ H' Q I ⟨B', x, h1, q⟩ => (ts_nil : ETs _ B' (T.to (cR.e x) (wipeG G (own.map (·.2)))) [] (is true)).run pins s' σ H' Q I q⟩ : PTs _ [] (fun s H Q => ∃ (B' : Bs) (x : List Int), x ∈ xs ∧ tT B' (T.to (cR.e x) (wipeG G (own.map (·.2)))) (is true) s H Q)))
    (fun s H C cl fp => (⟨fun pins s' σ H' Q I ⟨B', x, h1, q⟩ => (hk s H C cl fp B' x h1).run pins s' σ H' Q I q⟩ : PE _ kx (fun s H Q => ∃ (B' : Bs) (x : List Int), x ∈ xs ∧ tE B' (T.to (cR.e x) (wipeG G (own.map (·.2)))) (is (.dat (cR.e x))) s H Q)))
    (fun s H C cl fp => (⟨fun pins s' σ H' Q I ⟨B', x, h1, q⟩ => (hv s H C cl fp B' x h1).run pins s' σ H' Q I q⟩ : PE _ vx (fun s H Q => ∃ (B' : Bs) (x : List Int), x ∈ xs ∧ tE B' (T.to (cR.e x) (wipeG G (own.map (·.2)))) (is (.dat (.bool true))) s H Q))) hs)
    fun s H Q h => dc_read T hsl has fit hz h
/-- name = {..} with a plain local name -/
theorem q_dcT (i : Nat) (T : Tg) (own : List (Str × Nat)) (hr : X.A.units + 1 < cLine) (hi : EI X B G tg iter (is (xs.map cR.e))) (hg : ∀ (s : Shared) (H : Hp) (C : Addr) (cl : List (Str × Addr)) (fp : List Addr), PG (X.blk s H scope (compEnvC scope cl C X.env) fp) tg (T.g X.K))
    (hk : ∀ (s : Shared) (H : Hp) (C : Addr) (cl : List (Str × Addr)) (fp : List Addr) (B' : Bs) x, x ∈ xs → EV (X.blk s H scope (compEnvC scope cl C X.env) fp) B' (T.to (cR.e x) (wipeG G (own.map (·.2)))) kx (cR.e x))
    (hv : ∀ (s : Shared) (H : Hp) (C : Addr) (cl : List (Str × Addr)) (fp : List Addr) (B' : Bs) x, x ∈ xs → EV (X.blk s H scope (compEnvC scope cl C X.env) fp) B' (T.to (cR.e x) (wipeG G (own.map (·.2)))) vx (.bool true))
    (fit : ∀ d ∈ xs.map cR.e, T.fits d) (hz : xs.length ≤ 100000) (k : SS X B (G.set i (.dic (dicOf xs))) rest p)
    (ok : BlkOk X.N X.env.scope scope own) (hN : X.N.Nodup) (hiy : X.N[i]? = some y := by rfl) (hyl : X.env.scope.names.lookup y = some .local := by rfl) (hsw : swapsWith (.DictComp kx vx [⟨tg, iter, [], 0⟩] scope pos) (some (.Name y py)) spos.line X.env = pure true := by exact swD_true rfl rfl rfl (by decide +kernel))
    (hsl : ∀ j ∈ T.sl, j ∈ own.map (·.2) := by decide) (has : aside G (own.map (·.2)) = true := by rfl) (hc : X.calm = true := by rfl) (hs : ∀ x, foldedSetIterable iter X.env x = pure x := by intro _; rfl) :
    SS X B G (.Assign [.Name y py] (.DictComp kx vx [⟨tg, iter, [], 0⟩] scope pos) spos :: rest) p :=
  s_cons (Mid := is (G.set i (.dic (dicOf xs)))) (PS.weak (ps_setDcT hc hr hN hiy hyl hsw hi ok hg
    (fun s H C cl fp => (⟨fun pins s' σ H' Q I ⟨B', x, h1, q⟩ => (ts_nil : ETs _ B' (T.to (cR.e x) (wipeG G (own.map (·.2)))) [] (is true)).run pins s' σ H' Q I q⟩ : PTs _ [] (fun s H Q => ∃ (B' : Bs) (x : List Int), x ∈ xs ∧ tT B' (T.to (cR.e x) (wipeG G (own.map (·.2)))) (is true) s H Q)))
    (fun s H C cl fp => (⟨fun pins s' σ H' Q I ⟨B', x, h1, q⟩ => (hk s H C cl fp B' x h1).run pins s' σ H' Q I q⟩ : PE _ kx (fun s H Q => ∃ (B' : Bs) (x : List Int), x ∈ xs ∧ tE B' (T.to (cR.e x) (wipeG G (own.map (·.2)))) (is (.dat (cR.e x))) s H Q)))
    (fun s H C cl fp => (⟨fun pins s' σ H' Q I ⟨B', x, h1, q⟩ => (hv s H C cl fp B' x h1).run pins s' σ H' Q I q⟩ : PE _ vx (fun s H Q => ∃ (B' : Bs) (x : List Int), x ∈ xs ∧ tE B' (T.to (cR.e x) (wipeG G (own.map (·.2)))) (is (.dat (.bool true))) s H Q))) hs)
    fun D s H ⟨F, g, w, q1, _⟩ => dc_read T hsl has fit hz ⟨F, g, w, fun v t F1 H1 pt g1 e1 w1 => by
      rw [show t = _ from pt] at w1
      exact q1 _ _ F1 H1 rfl g1 e1 w1.set⟩) fun G' h => by rw [show G' = _ from h]; exact k
end
/-! ### reading and writing a dict of rows -/
section
variable {X : Cx} {B : Bs} {F H : Hp} {s : L2.St} {G : En} {e a : Expr} {pos p1 p2 pos2 pos4 : Pos} {x : Str} {ks : List (List Int)} {k : List Int} {p : Po} {rest : List Stmt}
structure DicAt (B : Bs) (F H : Hp) (s : L2.St) (G : En) (i : Nat) (l : Addr) (kvs : List (List Key × V)) : Prop where
  here : s[i]? = some (some (.ref l))
  obj : H l = some (.dT kvs)
  fr : F l = none
  ml : B.M l = none
  put : ∀ kvs' ks', kvs'.map (·.1) = kLs ks' → Sat B F (upd H l (.dT kvs')) s (G.set i (.dic ks')) ∧ Good B F (upd H l (.dT kvs'))
theorem Sat.dicAt {i : Nat} (g : Good B F H) (w : Sat B F H s G) (hi : G[i]? = some (.dic ks)) : ∃ l kvs, DicAt B F H s G i l kvs ∧ kvs.map (·.1) = kLs ks := by
  obtain ⟨ad, w0⟩ := w
  obtain ⟨e1, h2, h3, kvs, h4, h5⟩ := w0.ok i _ hi
  refine ⟨ad i, kvs, ⟨join_some e1, h4, h2, h3, fun us es r => ⟨⟨ad, by rw [List.length_set]; exact w0.len, fun j t e => ?_, fun j k t u e e' o o' z => ?_⟩, g.f, fun b o q => ?_, fun b o q => ?_, g.n⟩⟩, h5⟩
  · by_cases hj : j = i
    · subst hj
      have hl : j < G.length := (List.getElem?_eq_some_iff.mp hi).1
      rw [List.getElem?_set_self hl] at e
      cases e
      exact ⟨e1, h2, h3, us, upd_same, r⟩
    · rw [List.getElem?_set_ne (Ne.symm hj)] at e
      refine (w0.ok j t e).go (Same.refl _) fun o => ⟨?_, ((w0.ok j t e).here o).2.1⟩
      exact upd_ne fun z => hj (w0.inj j i t _ e hi o rfl z)
  · have get : ∀ {m : Nat} {v : Sl}, (G.set i (.dic es))[m]? = some v → v.owned = true → ∃ v', G[m]? = some v' ∧ v'.owned = true := fun {m v} em om => by
      by_cases hm : m = i
      · subst hm
        exact ⟨_, hi, rfl⟩
      · rw [List.getElem?_set_ne (Ne.symm hm)] at em
        exact ⟨v, em, om⟩
    obtain ⟨t', f1, f2⟩ := get e o
    obtain ⟨u', f3, f4⟩ := get e' o'
    exact w0.inj j k t' u' f1 f3 f2 f4 z
  · have z : b ≠ ad i := fun z => by rw [z, h2] at q; cases q
    rw [upd_ne z]
    exact g.h _ _ q
  · have z : b ≠ ad i := fun z => by rw [z, h3] at q; cases q
    rw [upd_ne z]
    exact g.m _ _ q
theorem e_dIn (i : Nat) (hr : X.A.units + 1 < cLine) (hk : EV X B G e (cR.e k)) (hi : G[i]? = some (.dic ks) := by rfl) (hN : X.N[i]? = some x := by rfl) (hv : Vis X.env.scope x := by first | exact Or.inl rfl | exact Or.inr (Or.inl rfl) | exact Or.inr (Or.inr rfl))
    (hd : (x == ("__debug__" : Str)) = false := by decide) (hcd : (x == ("__classdict__" : Str)) = false := by decide) : EV X B G (.Compare e [.In] [.Name x p1] pos) (.bool (decide (k ∈ ks))) :=
  e_of (pe_cmp (pc_din hr hk (pe_var hN hv hd hcd)) rfl) fun s F H Q g w q => ⟨F, g, w, fun v t F1 H1 pt g1 e1 w1 => by
    rw [show t = _ from pt] at w1
    obtain ⟨l, kvs, O, hkv⟩ := Sat.dicAt g1 w1.pop hi
    obtain ⟨kb, rfl, hkb⟩ := rp_row g1.h (w1.topI rfl : Rp F1 v (cR.e k))
    refine ⟨_, O.here, l, _, rfl, DGet.t O.obj hkb, ?_⟩
    rw [valV_keys hkv]
    exact q _ _ F1 H1 rfl g1 e1 (w1.pop.pushD (.bl _))⟩
theorem t_dNotIn (i : Nat) (hr : X.A.units + 1 < cLine) (hk : EV X B G e (cR.e k)) (hi : G[i]? = some (.dic ks) := by rfl) (hN : X.N[i]? = some x := by rfl) (hv : Vis X.env.scope x := by first | exact Or.inl rfl | exact Or.inr (Or.inl rfl) | exact Or.inr (Or.inr rfl))
    (hd : (x == ("__debug__" : Str)) = false := by decide) (hcd : (x == ("__classdict__" : Str)) = false := by decide) : ET X B G (.Compare e [.NotIn] [.Name x p1] pos) (is (!decide (k ∈ ks))) :=
  PT.weak (pt_cmp (pc_dnotin hr hk (pe_var hN hv hd hcd)) rfl) fun s H Q ⟨F, g, w, q⟩ => ⟨F, g, w, fun v t F1 H1 pt g1 e1 w1 => by
    rw [show t = _ from pt] at w1
    obtain ⟨l, kvs, O, hkv⟩ := Sat.dicAt g1 w1.pop hi
    obtain ⟨kb, rfl, hkb⟩ := rp_row g1.h (w1.topI rfl : Rp F1 v (cR.e k))
    refine ⟨_, O.here, l, _, rfl, DGet.t O.obj hkb, _, rfl, ?_⟩
    rw [valV_keys hkv]
    exact q _ F1 H1 rfl g1 e1 w1.pop⟩
/-- d[row] = True -/
theorem q_dset (i : Nat) (hr : X.A.units + 1 < cLine) (he : EV X B G e (.bool true)) (hk : EV X B G a (cR.e k)) (hl : ks.length < 100000) (kk : SS X B (G.set i (.dic (putR ks k))) rest p) (hi : G[i]? = some (.dic ks) := by rfl) (hN : X.N[i]? = some x := by rfl) (hv : Vis X.env.scope x := by first | exact Or.inl rfl | exact Or.inr (Or.inl rfl) | exact Or.inr (Or.inr rfl))
    (hd : (x == ("__debug__" : Str)) = false := by decide) (hcd : (x == ("__classdict__" : Str)) = false := by decide)
    (hs : swapsWithSole [.Subscript (.Name x pos2) a pos4] e pos.line X.env = pure false := by rfl) (hw : swappedStores [.Subscript (.Name x pos2) a pos4] e X.env = pure none := by rfl)
    (h1 : (assignEach [.Subscript (.Name x pos2) a pos4] X.env).map (·.2) = [assign (.Subscript (.Name x pos2) a pos4) X.env] := by rfl)
    (hsub : ∀ v, assign (.Subscript (.Name x pos2) a pos4) X.env v = (do
      let ov ← holding [v] (eval (.Name x pos2) X.env)
      let iv ← holding [v, ov] (eval a X.env)
      standAt pos4
      holding [v, ov, iv] (setItem ov iv v)
      release [v, ov, iv] []) := by intro _; rfl) : SS X B G (.Assign [.Subscript (.Name x pos2) a pos4] e pos :: rest) p :=
  s_cons (Mid := is (G.set i (.dic (putR ks k)))) (PS.weak (ps_asg he (pg_sub (pe_var hN hv hd hcd) hk (set_dict hr) hsub) hs hw h1) fun D s H ⟨F, g, w, q1, _⟩ => ⟨F, g, w, fun v t F1 H1 pt g1 e1 w1 => by
    have w2 := w1.pop
    obtain ⟨l, kvs, O, hkv⟩ := Sat.dicAt g1 w2 hi
    refine ⟨_, O.here, F1, g1, w2, fun v2 t2 F2 H2 pt2 g2 e2 w3 => ?_⟩
    rw [show t2 = _ from pt2] at w3
    have w4 := w3.pop
    obtain ⟨l2, kvs2, O2, hkv2⟩ := Sat.dicAt g2 w4 hi
    have el : l = l2 := by
      have z := O.here.symm.trans O2.here
      cases z
      rfl
    subst el
    obtain ⟨kb, rfl, hkb⟩ := rp_row g2.h (w3.topI rfl : Rp F2 v2 (cR.e k))
    have kl : kvs2.length < sizeLine := by
      have e1 := congrArg List.length hkv2
      unfold kLs at e1
      simp only [List.length_map] at e1
      rw [e1]
      exact Nat.lt_of_lt_of_le hl (by decide)
    refine ⟨l, _, rfl, DPut.t O2.obj hkb kl, ?_⟩
    obtain ⟨w5, g5⟩ := O2.put _ _ (putK_keys (v := v) hkv2)
    exact q1 _ _ F2 _ rfl g5 (e1.trans e2) w5⟩) fun G' h => by rw [show G' = _ from h]; exact kk
end
end Mk
namespace Mk
open PySem PySem.Spec PyProof.Rows L2

/-! ### old tuples are frozen -/
theorem Grow.old {F H : Hp} (h : Same F H) {q : Addr} {xs : List V} (hq : H q = some (.tup xs)) : Grow F H (upd F q (.tup xs)) H :=
  ⟨fun c o e => by
    by_cases z : c = q
    · subst z
      rw [upd_same, ← hq]
      exact h _ _ e
    · rw [upd_ne z]
      exact e, Same.refl _, fun c o e => by
    by_cases z : c = q
    · subst z
      rw [upd_same] at e
      rw [hq]
      exact e
    · rw [upd_ne z] at e
      exact h _ _ e, fun c o e n => by
    by_cases z : c = q
    · rw [z, hq]
      exact .inr ⟨xs, rfl⟩
    · rw [upd_ne z, n] at e
      cases e⟩
theorem keys_frz {F H : Hp} : ∀ {kvs : List (List Key × V)} {bs : List Addr} {ks : List (List Int)}, Same F H → L2.IsKeys H kvs bs → kvs.map (·.1) = kLs ks → ∃ F', Grow F H F' H ∧ Rps F' (bs.map V.ref) (ks.map cR.e)
  | [], _, ks, hs, k, e => by
    cases ks with
    | nil =>
      cases k
      exact ⟨F, .refl hs, .nil⟩
    | cons _ _ => simp [kLs] at e
  | kv :: kvs, bs, ks, hs, k, e => by
    cases ks with
    | nil => simp [kLs] at e
    | cons r ks =>
      have e1 : kv.1 = r.map Sum.inl ∧ kvs.map (·.1) = kLs ks := by
        unfold kLs at e ⊢
        simpa using e
      have k' : Paired (fun p b => H b = some (.tup (p.1.map kV))) (kv :: kvs) bs := k
      cases k' with
      | @cons _ b _ bs h1 h2 =>
        obtain ⟨F1, g1, r1⟩ := keys_frz (kvs := kvs) (bs := bs) (ks := ks) hs h2 e1.2
        rw [e1.1, kV_ints] at h1
        have g2 := Grow.old g1.i h1
        exact ⟨_, g1.trans g2, .cons (.tup upd_same (Rps.of_ints r)) (r1.mono g2.f)⟩
section
variable {X : Cx} {B : Bs} {G : En} {p1 p2 pos : Pos} {x : Str} {ks : List (List Int)}
/-- list(d) -/
theorem e_listD (i : Nat) (hm : X.mg "list" = none) (hi : G[i]? = some (.dic ks) := by rfl) (hN : X.N[i]? = some x := by rfl) (hc : X.calm = true := by rfl) (hv : Vis X.env.scope x := by first | exact Or.inl rfl | exact Or.inr (Or.inl rfl) | exact Or.inr (Or.inr rfl))
    (hd : (x == ("__debug__" : Str)) = false := by decide) (hcd : (x == ("__classdict__" : Str)) = false := by decide) (hg : Gl X "list" := by rfl) (he : starEach (Expr.Name x p1 :: []) X.env = (false, eval (.Name x p1) X.env) :: starEach [] X.env := by rfl) (hpl : (backTo pos (starEach [] X.env)).any (·.1) = false := by rfl) : EE X B G (.Call (.Name "list" p2) [.Name x p1] [] pos) (is (.own (ks.map cR.e))) :=
  e_of (pe_callTy (call_list_dT hc) hg hm (by decide +kernel) (pa_cons (pe_var hN hv hd hcd) pa_nil he) (by decide) (by decide) he hpl) fun s F H Q g w q => by
    obtain ⟨l, kvs, O, hkv⟩ := Sat.dicAt g w hi
    refine ⟨.ref l, O.here, l, kvs, rfl, .inl O.obj, fun p bs hp hb => ?_⟩
    obtain ⟨F1, gr, r⟩ := keys_frz g.h hb hkv
    exact q _ _ F1 _ rfl ((g.grow gr).grow (Grow.loose gr.i hp)) gr.f (Sat.pushNew (g.grow gr) (w.grow gr) hp r)
end

/-! ### [.. for row in d] -/
mutual
theorem Rp.erase {F : Hp} {p : Addr} {o : Obj} {u : HO} (hp : F p = some (.frz o u)) : ∀ {v : V} {d : PyData}, Rp F v d → Rp (fun a => if a = p then none else F a) v d
  | _, _, .non => .non
  | _, _, .bl b => .bl b
  | _, _, .int i => .int i
  | _, _, .str x => .str x
  | _, _, .lst (a := a) h r => .lst (by
      have z : a ≠ p := fun z => by rw [z, hp] at h; cases h
      show (if a = p then none else F a) = _
      rw [if_neg z]
      exact h) (Rps.erase hp r)
  | _, _, .tup (a := a) h r => .tup (by
      have z : a ≠ p := fun z => by rw [z, hp] at h; cases h
      show (if a = p then none else F a) = _
      rw [if_neg z]
      exact h) (Rps.erase hp r)
theorem Rps.erase {F : Hp} {p : Addr} {o : Obj} {u : HO} (hp : F p = some (.frz o u)) : ∀ {vs : List V} {ds : List PyData}, Rps F vs ds → Rps (fun a => if a = p then none else F a) vs ds
  | _, _, .nil => .nil
  | _, _, .cons h r => .cons (Rp.erase hp h) (Rps.erase hp r)
end
theorem walk_dic {B : Bs} {F : Hp} {d : Addr} {od : Obj} {kvs : List (List Key × V)} {ks : List (List Int)} (hd : F d = some (.frz od (.dT kvs))) (hk : kvs.map (·.1) = kLs ks) : WalkD B (Itkt d od kvs) F (ks.map cR.e) := by
  have hl : kvs.length = ks.length := by
    have e1 := congrArg List.length hk
    unfold kLs at e1
    simpa using e1
  refine ⟨fun i F1 H1 e1 e2 hi => ⟨e2.h _ _ (e1 _ _ hd), by rw [List.length_map] at hi; omega⟩, fun F1 H1 e1 e2 => ⟨e2.h _ _ (e1 _ _ hd), by rw [List.length_map]; omega⟩, fun i F1 H1 x H2 e1 e2 hi y => ?_⟩
  obtain ⟨rfl, k, v, q, h1, rfl, h3⟩ := y
  have h4 : (kvs.map (·.1))[i]? = some k := by rw [List.getElem?_map, h1]; rfl
  rw [hk] at h4
  unfold kLs at h4
  obtain ⟨r, hr, rfl⟩ := get_map h4
  rw [kV_ints] at h3
  have gr := Grow.old e2.h h3
  exact ⟨_, cR.e r, by rw [List.getElem?_map, hr]; rfl, gr, .tup upd_same (Rps.of_ints r)⟩
section
variable {X : Cx} {B : Bs} {G : En} {elt tg : Expr} {scope : Scope} {p1 pos : Pos} {x : Str} {ks : List (List Int)}
theorem e_lcDic (i : Nat) (T : Tg) (own : List (Str × Nat)) (v : List Int → PyData) (hg : ∀ (s : Shared) (H : Hp) (C : Addr) (cl : List (Str × Addr)) (fp : List Addr), PG (X.blk s H scope (compEnvC scope cl C X.env) fp) tg (T.g X.K))
    (he : ∀ (s : Shared) (H : Hp) (C : Addr) (cl : List (Str × Addr)) (fp : List Addr) (B' : Bs) r, r ∈ ks → EV (X.blk s H scope (compEnvC scope cl C X.env) fp) B' (T.to (cR.e r) (wipeG (G.set i .any) (own.map (·.2)))) elt (v r))
    (fit : ∀ r ∈ ks, T.fits (cR.e r)) (hz : ks.length ≤ 100000) (ok : BlkOk X.N X.env.scope scope own) (hN : X.N.Nodup) (hi : G[i]? = some (.dic ks) := by rfl) (hx : X.N[i]? = some x := by rfl)
    (hv : Vis X.env.scope x := by first | exact Or.inl rfl | exact Or.inr (Or.inl rfl) | exact Or.inr (Or.inr rfl)) (hd : (x == ("__debug__" : Str)) = false := by decide) (hcd : (x == ("__classdict__" : Str)) = false := by decide)
    (hsl : ∀ j ∈ T.sl, j ∈ own.map (·.2) := by decide) (has : aside (G.set i .any) (own.map (·.2)) = true := by rfl) (hc : X.calm = true := by rfl) (hs : ∀ z, foldedSetIterable (.Name x p1) X.env z = pure z := by intro _; rfl) :
    EE X B G (.ListComp elt [⟨tg, .Name x p1, [], 0⟩] scope pos) (is (.own (ks.map v))) :=
  PE.weak (pe_lock (pe_lc hc hN (pi_keys (pe_var hx hv hd hcd)) ok hg
    (fun s H C cl fp => (⟨fun pins s' σ H' Q I ⟨B', d, ds, h1, h2, q⟩ => (ts_nil : ETs _ B' (T.to d (wipeG (G.set i .any) (own.map (·.2)))) [] (is true)).run pins s' σ H' Q I q⟩ : PTs _ [] (fun s H Q => ∃ (B' : Bs) (d : PyData) (ds : List PyData), is (ks.map cR.e) ds ∧ d ∈ ds ∧ tT B' (T.to d (wipeG (G.set i .any) (own.map (·.2)))) (is true) s H Q)))
    (fun s H C cl fp => (⟨fun pins s' σ H' Q I ⟨B', d, ds, h1, h2, h3, q⟩ => by
      rw [show ds = _ from h1] at h2
      obtain ⟨r, hr, rfl⟩ := List.mem_map.mp h2
      have e : tE B' (T.to (cR.e r) (wipeG (G.set i .any) (own.map (·.2)))) (is (.dat (v (cR.d (cR.e r))))) σ H' Q := q
      rw [cR.l r] at e
      exact (he s H C cl fp B' r hr).run pins s' σ H' Q I e⟩ : PE _ elt (fun s H Q => ∃ (B' : Bs) (d : PyData) (ds : List PyData), is (ks.map cR.e) ds ∧ d ∈ ds ∧ (true = true) ∧ tE B' (T.to d (wipeG (G.set i .any) (own.map (·.2)))) (is (.dat (v (cR.d d)))) s H Q))) hs))
    fun s H Q ⟨F, g, w, q⟩ => by
      obtain ⟨l, kvs, O, hkv⟩ := Sat.dicAt g w hi
      refine ⟨l, .dT kvs, O.obj, trivial, fun od => ?_⟩
      have bf : B.F l = none := g.f.free O.fr
      -- the dict, locked, is frozen for the while
      have g1 : Good B (upd F l (.frz od (.dT kvs))) (upd H l (.frz od (.dT kvs))) := by
        refine ⟨g.f.trans (same_upd O.fr), fun b o e => ?_, fun b o e => ?_, fun a o e n => ?_⟩
        · by_cases z : b = l
          · rw [z, upd_same] at e ⊢
            exact e
          · rw [upd_ne z] at e ⊢
            exact g.h _ _ e
        · have z : b ≠ l := fun z => by rw [z, O.ml] at e; cases e
          rw [upd_ne z]
          exact g.m _ _ e
        · by_cases z : a = l
          · rw [z]
            exact .inl O.ml
          · rw [upd_ne z] at e
            exact g.n _ _ e n
      have apart : ∀ (j : Nat) (t : Sl) (a : Addr), (G.set i .any)[j]? = some t → t.owned = true → s[j]?.join = some (V.ref a) → a ≠ l := fun j t a ej oj k z => by
        obtain ⟨ad, w0⟩ := w
        by_cases hj : j = i
        · subst hj
          by_cases hl : j < G.length
          · rw [List.getElem?_set_self hl] at ej
            cases ej
            cases oj
          · rw [List.getElem?_eq_none (by simp; omega)] at ej
            cases ej
        · rw [List.getElem?_set_ne (Ne.symm hj)] at ej
          obtain ⟨q1, _, _, _⟩ := (w0.ok j t ej).here oj
          rw [k] at q1
          cases q1
          have q2 := (w0.ok i _ hi).1
          have q3 : s[i]?.join = some (V.ref l) := by rw [O.here]; rfl
          rw [q3] at q2
          cases q2
          exact hj (w0.inj j i t _ ej hi oj rfl z)
      have w1 : Sat B (upd F l (.frz od (.dT kvs))) (upd H l (.frz od (.dT kvs))) s (G.set i .any) := by
        obtain ⟨ad, w0⟩ := Sat.drop (i := i) (o := s[i]?.join) w
        have es : s.set i (s[i]?.join) = s := by
          obtain ⟨hl, he'⟩ := List.getElem?_eq_some_iff.mp O.here
          rw [O.here]
          show s.set i (some (V.ref l)) = s
          rw [← he']
          exact List.set_getElem_self hl
        rw [es] at w0
        refine ⟨ad, w0.len, fun j t ej => (w0.ok j t ej).go (same_upd O.fr) fun oj => ?_, w0.inj⟩
        obtain ⟨q1, q2, _, _⟩ := (w0.ok j t ej).here oj
        have z := apart j t _ ej oj q1
        exact ⟨upd_ne z, by rw [upd_ne z]; exact q2⟩
      have fin := lc_read (X := X) (B := B) (PD := is (ks.map cR.e)) (Tt := fun _ => is true) (P := fun d => is (.dat (v (cR.d d)))) (Q := fun u H' => H' l = some (.frz od (.dT kvs)) ∧ Q u (upd H' l (.dT kvs))) T hsl has (fun ds h d hd => by
          rw [show ds = _ from h] at hd
          obtain ⟨r, hr, rfl⟩ := List.mem_map.mp hd
          exact fit r hr) (fun ds h => by rw [show ds = _ from h, List.length_map]; exact hz) (fun ds _ d _ t h => ⟨_, h⟩) (s := s) (H := upd H l (.frz od (.dT kvs))) ⟨_, g1, w1, fun u t F2 H2 ⟨ds, es, pd, et, rel⟩ g2 e2 w2 => ?_⟩
      · -- the walk over the locked dict's keys
        obtain ⟨F3, g3, w3, k⟩ := fin
        refine ⟨.ref l, O.here, l, od, rfl, .inr ⟨kvs, upd_same, ?_⟩⟩
        have sf : Same F3 (upd F3 l (.frz od (.dT kvs))) := fun c o e => by
          by_cases z : c = l
          · subst z
            have := g3.h _ _ e
            rw [upd_same] at this ⊢
            exact this
          · rw [upd_ne z]
            exact e
        have g4 : Good B (upd F3 l (.frz od (.dT kvs))) (upd H l (.frz od (.dT kvs))) := by
          refine ⟨g3.f.trans sf, fun b o e => ?_, g3.m, fun a o e n => ?_⟩
          · by_cases z : b = l
            · rw [z, upd_same] at e ⊢
              exact e
            · rw [upd_ne z] at e
              exact g3.h _ _ e
          · by_cases z : a = l
            · rw [z]
              exact .inl O.ml
            · rw [upd_ne z] at e
              exact g3.n _ _ e n
        have w4 : Sat B (upd F3 l (.frz od (.dT kvs))) (upd H l (.frz od (.dT kvs))) s (G.set i .any) := by
          obtain ⟨ad, w0⟩ := w3
          refine ⟨ad, w0.len, fun j t ej => (w0.ok j t ej).go sf fun oj => ?_, w0.inj⟩
          obtain ⟨q1, q2, _, _⟩ := (w0.ok j t ej).here oj
          exact ⟨rfl, by rw [upd_ne (apart j t _ ej oj q1)]; exact q2⟩
        have kk := k (ks.map cR.e) (Itkt l od kvs) _ _ rfl g4 sf w4 (walk_dic upd_same hkv)
        intro D hD
        obtain ⟨W, w0, hW⟩ := kk D hD
        refine ⟨W, w0, fun i m H w => ?_⟩
        rcases hW i m H w with ⟨st, qq⟩ | ⟨go, Nx, hNx, step⟩
        · exact .inl ⟨st, qq⟩
        · refine .inr ⟨go, Nx, hNx, fun x H' y => ?_⟩
          have z := step x H' y
          revert z
          have gm : ∀ (Qa Qb : L2.St → Hp → Prop) (v : V) (s : L2.St) (H : Hp), (∀ s H, Qa s H → Qb s H) → T.g X.K v s H Qa → T.g X.K v s H Qb := fun Qa Qb v s H im h => by
            cases T with
            | one j => exact im _ _ h
            | two j k =>
              obtain ⟨a, xs, e1, e2, e3, v1, r1, e4, v2, r2, e5, e6, e7⟩ := h
              exact ⟨a, xs, e1, e2, e3, v1, r1, e4, v2, r2, e5, e6, im _ _ e7⟩
            | three j k m =>
              obtain ⟨a, xs, e1, e2, e3, v1, r1, e4, v2, r2, e5, v3, r3, e6, e7, e8⟩ := h
              exact ⟨a, xs, e1, e2, e3, v1, r1, e4, v2, r2, e5, v3, r3, e6, e7, im _ _ e8⟩
          refine gm _ _ _ _ _ fun s2 H2 ⟨h1, h2⟩ => ⟨h1, ?_⟩
          obtain ⟨B', d, ds, a1, a2, tt⟩ := h2
          refine ⟨B', d, ds, a1, a2, ?_⟩
          obtain ⟨F5, g5, w5, k5⟩ := tt
          refine ⟨F5, g5, w5, fun b F6 H6 pb g6 e6 w6 => ?_⟩
          have k6 := k5 b F6 H6 pb g6 e6 w6
          cases b with
          | false => exact k6
          | true =>
            have k7 := k6
            simp only [if_true] at k7 ⊢
            obtain ⟨B2, d2, ds2, b1, b2, b3, b4⟩ := k7
            exact ⟨B2, d2, ds2, b1, b2, trivial, b4⟩
      · -- back
        have hF2 : F2 l = some (.frz od (.dT kvs)) := e2 _ _ upd_same
        have hH2 := g2.h _ _ hF2
        refine ⟨hH2, ?_⟩
        have ee : es = ks.map v := by
          have := rel.det (f := fun _ => true) (v := fun d => v (cR.d d)) (fun _ _ _ h => h) (fun _ _ _ h => Sl.dat.inj h)
          rw [List.filter_eq_self.mpr (fun _ _ => rfl), show ds = _ from pd, map_map_l] at this
          exact this
        rw [et, ee] at w2
        have sF : Same F (fun a => if a = l then none else F2 a) := fun c o e => by
          have z : c ≠ l := fun z => by rw [z, O.fr] at e; cases e
          show (if c = l then none else F2 c) = some o
          rw [if_neg z]
          exact e2 _ _ (by rw [upd_ne z]; exact e)
        refine q u (.own (ks.map v)) (fun a => if a = l then none else F2 a) _ rfl ⟨g.f.trans sF, fun b o e => ?_, fun b o e => ?_, fun a o e n => ?_⟩ sF ?_
        · have z : b ≠ l := fun z => by
            have e' : (if b = l then none else F2 b) = some o := e
            rw [if_pos z] at e'
            cases e'
          have e' : (if b = l then none else F2 b) = some o := e
          rw [if_neg z] at e'
          rw [upd_ne z]
          exact g2.h _ _ e'
        · have z : b ≠ l := fun z => by rw [z, O.ml] at e; cases e
          rw [upd_ne z]
          exact g2.m _ _ e
        · have e' : (if a = l then none else F2 a) = some o := e
          by_cases z : a = l
          · rw [z]
            exact .inl O.ml
          · rw [if_neg z] at e'
            exact g2.n _ _ e' n
        · obtain ⟨ad, w0⟩ := w2
          have key : ∀ (j : Nat) (t : Sl), (Sl.own (ks.map v) :: G)[j]? = some t → t.owned = true → j ≠ i + 1 → (Sl.own (ks.map v) :: G.set i .any)[j]? = some t := fun j t ej oj hj => by
            cases j with
            | zero => simpa using ej
            | succ j =>
              simp only [List.getElem?_cons_succ] at ej ⊢
              rw [List.getElem?_set_ne (by omega)]
              exact ej
          have adl : ∀ (j : Nat) (t : Sl), (Sl.own (ks.map v) :: G)[j]? = some t → t.owned = true → j ≠ i + 1 → ad j ≠ l := fun j t ej oj hj z => by
            have q2 := ((w0.ok j t (key j t ej oj hj)).here oj).2.1
            rw [z, hF2] at q2
            cases q2
          refine ⟨fun j => if j = i + 1 then l else ad j, by have := w0.len; simpa using this, fun j t ej => ?_, fun j j' t t' e1 e1' o1 o1' z => ?_⟩
          · by_cases hj : j = i + 1
            · subst hj
              rw [List.getElem?_cons_succ, hi] at ej
              cases ej
              rw [if_pos rfl, List.getElem?_cons_succ, O.here]
              exact ⟨rfl, if_pos rfl, O.ml, kvs, upd_same, hkv⟩
            · rw [if_neg hj]
              by_cases oj : t.owned = true
              · have k := w0.ok j t (key j t ej oj hj)
                have ne := adl j t ej oj hj
                cases t with
                | own ds =>
                  obtain ⟨k1, k2, k3, vs, k4, k5⟩ := k
                  exact ⟨k1, (if_neg ne).trans k2, k3, vs, (upd_ne ne).trans k4, Rps.erase hF2 k5⟩
                | dic ks' =>
                  obtain ⟨k1, k2, k3, vs, k4, k5⟩ := k
                  exact ⟨k1, (if_neg ne).trans k2, k3, vs, (upd_ne ne).trans k4, k5⟩
                | box p =>
                  obtain ⟨k1, rfl, k2, k3, x, y, k4, k5⟩ := k
                  exact ⟨k1, rfl, (if_neg ne).trans k2, k3, x, y, (upd_ne ne).trans k4, k5⟩
                | ob C p fs =>
                  obtain ⟨k1, rfl, k2, k3, x, y, k4, k5⟩ := k
                  exact ⟨k1, rfl, (if_neg ne).trans k2, k3, x, y, (upd_ne ne).trans k4, k5.1, Rps.erase hF2 k5.2⟩
                | any => cases oj
                | adr p => exact k
                | dat d => cases oj
                | bk C c k => cases oj
              · cases j with
                | zero =>
                  simp at ej
                  rw [← ej] at oj
                  exact absurd rfl oj
                | succ j =>
                  have ej' : G[j]? = some t := by simpa using ej
                  have k := w0.ok (j + 1) t (by
                    rw [List.getElem?_cons_succ, List.getElem?_set_ne (by omega)]
                    exact ej')
                  cases t with
                  | any => trivial
                  | adr p => exact k
                  | dat d =>
                    obtain ⟨u', k1, k2⟩ := k
                    exact ⟨u', k1, Rp.erase hF2 k2⟩
                  | bk C c k' =>
                    obtain ⟨u', k1, pa, dx, v1, v2, k2, k3, k4, k5⟩ := k
                    refine ⟨u', k1, pa, dx, v1, v2, k2, ?_, Rp.erase hF2 k4, Rp.erase hF2 k5⟩
                    have z : pa ≠ l := fun z => by rw [z, hF2] at k3; cases k3
                    show (if pa = l then none else F2 pa) = _
                    rw [if_neg z]
                    exact k3
                  | own _ => exact absurd rfl oj
                  | dic _ => exact absurd rfl oj
                  | box _ => exact absurd rfl oj
                  | ob _ _ _ => exact absurd rfl oj
          · by_cases h1 : j = i + 1 <;> by_cases h2 : j' = i + 1
            · rw [h1, h2]
            · simp only [h1, if_true, if_neg h2] at z
              exact absurd z.symm (adl j' t' e1' o1' h2)
            · simp only [h2, if_true, if_neg h1] at z
              exact absurd z (adl j t e1 o1 h1)
            · simp only [if_neg h1, if_neg h2] at z
              exact w0.inj j j' t t' (key j t e1 o1 h1) (key j' t' e1' o1' h2) o1 o1' z
end
end Mk
namespace Mk
open PySem PySem.Spec PyProof.Rows L2

/-! ### a list of one's own, walked -/
theorem Sat.regain {B : Bs} {F H : Hp} {s : L2.St} {G : En} {i : Nat} {l : Addr} {t : Sl} (hi : G[i]? = some t) (here : s[i]? = some (some (.ref l))) (w : Sat B F H s (G.set i .any)) (ok : SlOk B F H (some (.ref l)) l t)
    (ap : ∀ (j : Nat) (u : Sl) (a : Addr), (G.set i .any)[j]? = some u → u.owned = true → s[j]?.join = some (V.ref a) → a ≠ l) : Sat B F H s G := by
  obtain ⟨ad, w0⟩ := w
  have key : ∀ (j : Nat) (u : Sl), G[j]? = some u → j ≠ i → (G.set i .any)[j]? = some u := fun j u ej hj => by
    rw [List.getElem?_set_ne (Ne.symm hj)]
    exact ej
  refine ⟨fun j => if j = i then l else ad j, by have := w0.len; simpa using this, fun j u ej => ?_, fun j j' u u' e1 e1' o1 o1' z => ?_⟩
  · by_cases hj : j = i
    · subst hj
      rw [hi] at ej
      cases ej
      rw [if_pos rfl, here]
      exact ok
    · rw [if_neg hj]
      exact w0.ok j u (key j u ej hj)
  · have al : ∀ (j : Nat) (u : Sl), G[j]? = some u → u.owned = true → j ≠ i → ad j ≠ l := fun j u ej oj hj => ap j u _ (key j u ej hj) oj ((w0.ok j u (key j u ej hj)).here oj).1
    by_cases h1 : j = i <;> by_cases h2 : j' = i
    · rw [h1, h2]
    · simp only [h1, if_true, if_neg h2] at z
      exact absurd z.symm (al j' u' e1' o1' h2)
    · simp only [h2, if_true, if_neg h1] at z
      exact absurd z (al j u e1 o1 h1)
    · simp only [if_neg h1, if_neg h2] at z
      exact w0.inj j j' u u' (key j u e1 h1) (key j' u' e1' h2) o1 o1' z
theorem Sat.apartAt {B : Bs} {F H : Hp} {s : L2.St} {G : En} {i : Nat} {l : Addr} {t : Sl} (w : Sat B F H s G) (hi : G[i]? = some t) (ot : t.owned = true) (here : s[i]? = some (some (.ref l))) :
    ∀ (j : Nat) (u : Sl) (a : Addr), (G.set i .any)[j]? = some u → u.owned = true → s[j]?.join = some (V.ref a) → a ≠ l := fun j u a ej oj k z => by
  obtain ⟨ad, w0⟩ := w
  by_cases hj : j = i
  · subst hj
    by_cases hl : j < G.length
    · rw [List.getElem?_set_self hl] at ej
      cases ej
      cases oj
    · rw [List.getElem?_eq_none (by simp; omega)] at ej
      cases ej
  · rw [List.getElem?_set_ne (Ne.symm hj)] at ej
    obtain ⟨q1, _, _, _⟩ := (w0.ok j u ej).here oj
    rw [k] at q1
    cases q1
    have q2 := ((w0.ok i _ hi).here ot).1
    have q3 : s[i]?.join = some (V.ref l) := by rw [here]; rfl
    rw [q3] at q2
    cases q2
    exact hj (w0.inj j i u _ ej hi oj ot z)
theorem Sat.dropAt {B : Bs} {F H : Hp} {s : L2.St} {G : En} {i : Nat} {v : V} (w : Sat B F H s G) (here : s[i]? = some (some v)) : Sat B F H s (G.set i .any) := by
  have h := Sat.drop (i := i) (o := some v) w
  have es : s.set i (some v) = s := by
    obtain ⟨hl, he'⟩ := List.getElem?_eq_some_iff.mp here
    rw [← he']
    exact List.set_getElem_self hl
  rw [es] at h
  exact h
section
variable {β : Type} {X : Cx} {B : Bs} {G : En} {elt tg : Expr} {scope : Scope} {p1 pos : Pos} {x : Str} {xs : List β}
theorem e_lcOwn (c : Cod β) (i : Nat) (T : Tg) (own : List (Str × Nat)) (v : β → PyData) (hg : ∀ (s : Shared) (H : Hp) (C : Addr) (cl : List (Str × Addr)) (fp : List Addr), PG (X.blk s H scope (compEnvC scope cl C X.env) fp) tg (T.g X.K))
    (he : ∀ (s : Shared) (H : Hp) (C : Addr) (cl : List (Str × Addr)) (fp : List Addr) (B' : Bs) r, r ∈ xs → EV (X.blk s H scope (compEnvC scope cl C X.env) fp) B' (T.to (c.e r) (wipeG (G.set i .any) (own.map (·.2)))) elt (v r))
    (fit : ∀ r ∈ xs, T.fits (c.e r)) (hz : xs.length ≤ 100000) (ok : BlkOk X.N X.env.scope scope own) (hN : X.N.Nodup) (hi : G[i]? = some (.own (xs.map c.e)) := by rfl) (hx : X.N[i]? = some x := by rfl)
    (hv : Vis X.env.scope x := by first | exact Or.inl rfl | exact Or.inr (Or.inl rfl) | exact Or.inr (Or.inr rfl)) (hd : (x == ("__debug__" : Str)) = false := by decide) (hcd : (x == ("__classdict__" : Str)) = false := by decide)
    (hsl : ∀ j ∈ T.sl, j ∈ own.map (·.2) := by decide) (has : aside (G.set i .any) (own.map (·.2)) = true := by rfl) (hc : X.calm = true := by rfl) (hs : ∀ z, foldedSetIterable (.Name x p1) X.env z = pure z := by intro _; rfl) :
    EE X B G (.ListComp elt [⟨tg, .Name x p1, [], 0⟩] scope pos) (is (.own (xs.map v))) :=
  PE.weak (pe_lc hc hN (pi_list (pe_var hx hv hd hcd)) ok hg
    (fun s H C cl fp => (⟨fun pins s' σ H' Q I ⟨B', d, ds, h1, h2, q⟩ => (ts_nil : ETs _ B' (T.to d (wipeG (G.set i .any) (own.map (·.2)))) [] (is true)).run pins s' σ H' Q I q⟩ : PTs _ [] (fun s H Q => ∃ (B' : Bs) (d : PyData) (ds : List PyData), is (xs.map c.e) ds ∧ d ∈ ds ∧ tT B' (T.to d (wipeG (G.set i .any) (own.map (·.2)))) (is true) s H Q)))
    (fun s H C cl fp => (⟨fun pins s' σ H' Q I ⟨B', d, ds, h1, h2, h3, q⟩ => by
      rw [show ds = _ from h1] at h2
      obtain ⟨r, hr, rfl⟩ := List.mem_map.mp h2
      have e : tE B' (T.to (c.e r) (wipeG (G.set i .any) (own.map (·.2)))) (is (.dat (v (c.d (c.e r))))) σ H' Q := q
      rw [c.l r] at e
      exact (he s H C cl fp B' r hr).run pins s' σ H' Q I e⟩ : PE _ elt (fun s H Q => ∃ (B' : Bs) (d : PyData) (ds : List PyData), is (xs.map c.e) ds ∧ d ∈ ds ∧ (is true true) ∧ tE B' (T.to d (wipeG (G.set i .any) (own.map (·.2)))) (is (.dat (v (c.d d)))) s H Q))) hs)
    fun s H Q ⟨F, g, w, q⟩ => by
      obtain ⟨l, vs, O, r⟩ := Sat.own g w hi
      have ap := Sat.apartAt w hi rfl O.here
      obtain ⟨fr, ml⟩ : F l = none ∧ B.M l = none := by
        obtain ⟨ad, w0⟩ := w
        obtain ⟨e1, h2, h3, _⟩ := w0.ok i _ hi
        have e2 : s[i]?.join = some (V.ref l) := by rw [O.here]; rfl
        rw [e2] at e1
        cases e1
        exact ⟨h2, h3⟩
      have g1 : Good (B.plus l (.lst vs)) F H := g.plus O.obj fr
      have w1 : Sat (B.plus l (.lst vs)) F H s (G.set i .any) := (w.dropAt O.here).plus ap
      have at_ : ∀ {F1 H1 : Hp}, Good (B.plus l (.lst vs)) F1 H1 → H1 l = some (.lst vs) := fun g => g.m _ _ upd_same
      refine ⟨.ref l, O.here, l, rfl, ⟨vs, SqL.of O.obj⟩, ?_⟩
      refine lc_read' (F := F) (H := H) (B := B.plus l (.lst vs)) (PD := is (xs.map c.e)) (Tt := fun _ => is true) (P := fun d => is (.dat (v (c.d d)))) T hsl has (fun d hd => by
          obtain ⟨r, hr, rfl⟩ := List.mem_map.mp hd
          exact fit r hr) (by rw [List.length_map]; exact hz) rfl (fun d _ t h => ⟨_, h⟩) g1 w1 ⟨fun j F1 H1 e1 g2 hj => ?_, fun F1 H1 e1 g2 => ⟨vs, SqL.of (at_ g2), by rw [r.length]; exact Nat.le_refl _⟩, fun j F1 H1 x H2 e1 g2 hj y => ?_⟩ fun u t F2 H2 ⟨es, et, rel⟩ g2 e2 w2 => ?_
      · have hv' : j < vs.length := by rw [r.length]; exact hj
        exact ⟨vs, vs[j], SqL.of (at_ g2), List.getElem?_eq_getElem hv'⟩
      · obtain ⟨rfl, y⟩ := y
        obtain ⟨d, h1, h2⟩ := r.get (y vs (SqL.of (at_ g2)))
        exact ⟨F1, d, h1, .refl g2.h, h2.mono e1⟩
      · have ee : es = xs.map v := by
          have := rel.det (f := fun _ => true) (v := fun d => v (c.d d)) (fun _ _ _ h => h) (fun _ _ _ h => Sl.dat.inj h)
          rw [List.filter_eq_self.mpr (fun _ _ => rfl), map_map_l] at this
          exact this
        rw [et, ee] at w2
        obtain ⟨g3, h3, f3⟩ := g2.minus ml
        have f4 := f3 (g.f.free fr)
        refine q u _ F2 H2 rfl g3 e2 ?_
        have w3 := Sat.minus w2
        have w3' : Sat B F2 H2 (some u :: s) ((Sl.own (xs.map v) :: G).set (i + 1) .any) := w3
        refine Sat.regain (i := i + 1) (l := l) (t := .own (xs.map c.e)) (by rw [List.getElem?_cons_succ]; exact hi) (by rw [List.getElem?_cons_succ]; exact O.here) w3' ⟨rfl, f4, ml, vs, h3, r.mono e2⟩ fun j u' a ej oj k z => ?_
        obtain ⟨ad, w0⟩ := w2
        obtain ⟨k1, _, k3, _⟩ := (w0.ok j u' ej).here oj
        rw [k] at k1
        cases k1
        have k4 : upd B.M l (.lst vs) (ad j) = none := k3
        rw [z, upd_same] at k4
        cases k4
end

/-! ### a book's fields -/
structure BkC (K : PySem.W.Frag) (C : Addr) : Prop where
  cls : Cls K C
  co : NoAttr K C "columns"
  ch : NoAttr K C "checks"
section
variable {X : Cx} {B : Bs} {G : En} {e : Expr} {pos : Pos} {C : Addr} {c k : PyData} {P : Sl → Prop}
theorem e_cols (bc : BkC X.K C) (he : EE X B G e (is (.bk C c k))) (hb : attributeBase e "columns" X.env (eval e X.env) = eval e X.env := by rfl) : EV X B G (.Attribute e "columns" pos) c :=
  e_of (pe_fld he hb) fun s F H Q g w q => ⟨F, g, w, fun v t F1 H1 p1 g1 e1 w1 => by
    rw [show t = _ from p1] at w1
    obtain ⟨p, dx, v1, v2, rfl, h2, h3, h4⟩ := (w1.topI rfl : BkAt C F1 v c k)
    exact ⟨p, C, dx, _, v1, rfl, g1.h _ _ h2, bc.cls, bc.co, rfl, q _ (.dat c) F1 H1 rfl g1 e1 (w1.pop.pushD h3)⟩⟩
theorem e_chks (bc : BkC X.K C) (he : EE X B G e (is (.bk C c k))) (hb : attributeBase e "checks" X.env (eval e X.env) = eval e X.env := by rfl) : EV X B G (.Attribute e "checks" pos) k :=
  e_of (pe_fld he hb) fun s F H Q g w q => ⟨F, g, w, fun v t F1 H1 p1 g1 e1 w1 => by
    rw [show t = _ from p1] at w1
    obtain ⟨p, dx, v1, v2, rfl, h2, h3, h4⟩ := (w1.topI rfl : BkAt C F1 v c k)
    exact ⟨p, C, dx, _, v2, rfl, g1.h _ _ h2, bc.cls, bc.ch, rfl, q _ (.dat k) F1 H1 rfl g1 e1 (w1.pop.pushD h4)⟩⟩
end
end Mk
namespace Mk
open PySem PySem.Spec PyProof.Rows L2

/-! ### an instance that is being made -/
theorem putF_new {f : Str} {v : V} : ∀ {fs : List (Str × V)}, f ∉ fs.map (·.1) → putF f v fs = fs ++ [(f, v)]
  | [], _ => rfl
  | (g, x) :: r, h => by
    have h1 : g ≠ f := fun z => h (by simp [z])
    show (if g = f then (g, v) :: r else (g, x) :: putF f v r) = _
    rw [if_neg h1, putF_new fun z => h (List.mem_cons_of_mem _ z)]
    rfl
theorem FsR.look {F : Hp} {vs : List (Str × V)} {fs : List (Str × PyData)} {f : Str} {d : PyData} (h : FsR F vs fs) (l : fs.lookup f = some d) : ∃ v, vs.lookup f = some v ∧ Rp F v d := by
  obtain ⟨h1, h2⟩ := h
  induction vs generalizing fs with
  | nil =>
    cases fs with
    | nil => cases l
    | cons _ _ => cases h1
  | cons p vs ih =>
    cases fs with
    | nil => cases h1
    | cons q fs =>
      obtain ⟨a, v⟩ := p
      obtain ⟨b, e⟩ := q
      have e1 : a = b := (List.cons.inj h1).1
      subst e1
      cases h2 with
      | cons r rs =>
        by_cases z : f = a
        · subst z
          simp only [List.lookup, beq_self_eq_true] at l ⊢
          cases l
          exact ⟨v, rfl, r⟩
        · have hb : (f == a) = false := by simpa using z
          simp only [List.lookup, hb] at l ⊢
          exact ih l (List.cons.inj h1).2 rs
theorem FsR.snoc {F : Hp} {vs : List (Str × V)} {fs : List (Str × PyData)} {f : Str} {v : V} {d : PyData} (h : FsR F vs fs) (r : Rp F v d) : FsR F (vs ++ [(f, v)]) (fs ++ [(f, d)]) :=
  ⟨by rw [List.map_append, List.map_append, h.1]; rfl, by rw [List.map_append, List.map_append]; exact h.2.append (.cons r .nil)⟩
section
variable {X : Cx} {B : Bs} {F H : Hp} {s : L2.St} {G : En} {e : Expr} {p : Po} {rest : List Stmt} {pos pos2 pos3 pos4 : Pos} {x f : Str} {C q : Addr} {fs : List (Str × PyData)} {d : PyData}
structure ObIs (B : Bs) (F H : Hp) (s : L2.St) (G : En) (i : Nat) (C q dx : Addr) (vs : List (Str × V)) : Prop where
  here : s[i]? = some (some (.ref q))
  obj : H q = some (.ins C dx vs)
  fr : F q = none
  ml : B.M q = none
  put : ∀ F' H' dx' vs' fs', Same F F' → Same F' H' → (∀ c o, c ≠ q → H c = some o → H' c = some o) → (∀ c o, F' c = some o → F c = none → c = q ∨ TU (H c)) → F' q = none → H' q = some (.ins C dx' vs') → FsR F' vs' fs' → Good B F' H' ∧ Sat B F' H' s (G.set i (.ob C q fs'))
theorem Sat.obAt {i : Nat} (g : Good B F H) (w : Sat B F H s G) (hi : G[i]? = some (.ob C q fs)) : ∃ dx vs, ObIs B F H s G i C q dx vs ∧ FsR F vs fs := by
  obtain ⟨ad, w0⟩ := w
  obtain ⟨e1, e2, h3, h4, dx, vs, h5, h6⟩ := w0.ok i _ hi
  have il := (List.getElem?_eq_some_iff.mp hi).1
  refine ⟨dx, vs, ⟨join_some e1, h5, h3, h4, fun F' H' dx' vs' fs' sf sh keep nw fb hb hv => ⟨⟨g.f.trans sf, sh, fun c o q1 => ?_, fun c o q1 n => ?_⟩, ad, by rw [List.length_set]; exact w0.len, fun j t e => ?_, fun j j' t u ej ej' o o' z => ?_⟩⟩, h6⟩
  · have z : c ≠ q := fun z => by rw [z, h4] at q1; cases q1
    exact keep c o z (g.m c o q1)
  · cases q2 : F c with
    | some u => exact g.n c u q2 n
    | none =>
      rcases nw c o q1 q2 with z | z
      · rw [z]; exact .inl h4
      · exact TU.back g.m z
  · by_cases hj : i = j
    · subst hj
      rw [List.getElem?_set_self il] at e
      cases e
      exact ⟨e1, e2, fb, h4, dx', vs', hb, hv⟩
    · rw [List.getElem?_set_ne hj] at e
      refine (w0.ok j t e).go sf fun o => ?_
      obtain ⟨q1, q2, q3, u, q4⟩ := (w0.ok j t e).here o
      have ne : ad j ≠ q := fun z => hj (w0.inj j i t _ e hi o rfl (by rw [z, e2])).symm
      refine ⟨by rw [keep _ _ ne q4, q4], ?_⟩
      cases z : F' (ad j) with
      | none => rfl
      | some v =>
        rcases nw _ v z q2 with z2 | z2
        · exact absurd z2 ne
        · exact absurd z2 ((w0.ok j t e).nt o)
  · have key : ∀ {j : Nat} {t : Sl}, (G.set i (.ob C q fs'))[j]? = some t → t.owned = true → ∃ t', G[j]? = some t' ∧ t'.owned = true := fun {j t} ej o => by
      by_cases hj : i = j
      · subst hj
        exact ⟨_, hi, rfl⟩
      · rw [List.getElem?_set_ne hj] at ej
        exact ⟨t, ej, o⟩
    obtain ⟨t', k1, k2⟩ := key ej o
    obtain ⟨u', k3, k4⟩ := key ej' o'
    exact w0.inj j j' t' u' k1 k3 k2 k4 z
/-- self.f -/
theorem e_obFld (i : Nat) (cl : Cls X.K C) (na : NoAttr X.K C f) (hf : fs.lookup f = some d) (hi : G[i]? = some (.ob C q fs)) (hN : X.N[i]? = some x) (hv : Vis X.env.scope x := by first | exact Or.inl rfl | exact Or.inr (Or.inl rfl) | exact Or.inr (Or.inr rfl))
    (hd : (x == ("__debug__" : Str)) = false := by decide) (hcd : (x == ("__classdict__" : Str)) = false := by decide) (hb : attributeBase (.Name x pos2) f X.env (eval (.Name x pos2) X.env) = eval (.Name x pos2) X.env := by rfl) : EV X B G (.Attribute (.Name x pos2) f pos) d :=
  e_of (pe_fld (pe_var hN hv hd hcd) hb) fun s F H Q g w qq => by
    obtain ⟨dx, vs, ob, r⟩ := Sat.obAt g w hi
    obtain ⟨v, l, rv⟩ := r.look hf
    exact ⟨.ref q, ob.here, q, C, dx, vs, v, rfl, ob.obj, cl, na, l, qq v (.dat d) F H rfl g (Same.refl _) (w.pushD rv)⟩
/-- self.f = e -/
theorem q_obSet (i : Nat) (cl : Cls X.K C) (na : NoAttr X.K C f) (he : EV X B G e d) (kk : SS X B (G.set i (.ob C q (fs ++ [(f, d)]))) rest p) (hn : f ∉ fs.map (·.1)) (h3 : fs.length < 1000) (hi : G[i]? = some (.ob C q fs)) (hN : X.N[i]? = some x) (hv : Vis X.env.scope x := by first | exact Or.inl rfl | exact Or.inr (Or.inl rfl) | exact Or.inr (Or.inr rfl))
    (hd : (x == ("__debug__" : Str)) = false := by decide) (hcd : (x == ("__classdict__" : Str)) = false := by decide)
    (hs : swapsWith e (some (.Attribute (.Name x pos2) f pos3)) pos.line X.env = pure false := by rfl) : SS X B G (.Assign [.Attribute (.Name x pos2) f pos3] e pos :: rest) p :=
  s_cons (Mid := is (G.set i (.ob C q (fs ++ [(f, d)])))) (PS.weak (ps_fld (pe_var hN hv hd hcd) he hs) fun D s H ⟨F, g, w, q1, _⟩ => ⟨F, g, w, fun v t F1 H1 pt g1 e1 w1 => by
    rw [show t = Sl.dat d from pt] at w1
    have r : Rp F1 v d := w1.topI rfl
    have w2 := w1.pop
    obtain ⟨dx, vs, ob, rf⟩ := Sat.obAt g1 w2 hi
    have hn' : f ∉ vs.map (·.1) := by rw [rf.1]; exact hn
    have hl : vs.length = fs.length := by have := congrArg List.length rf.1; simpa using this
    have sh : Same F1 (upd H1 q (.ins C dx (vs ++ [(f, v)]))) := fun c u z => by
      have ne : c ≠ q := fun z' => by rw [z', ob.fr] at z; cases z
      rw [upd_ne ne]
      exact g1.h c u z
    obtain ⟨g3, w3⟩ := ob.put F1 (upd H1 q (.ins C dx (vs ++ [(f, v)]))) dx (vs ++ [(f, v)]) (fs ++ [(f, d)]) (Same.refl _) sh (fun c o ne z => by rw [upd_ne ne]; exact z) (fun c o z n => by rw [n] at z; cases z) ob.fr upd_same (rf.snoc r)
    refine ⟨.ref q, ob.here, q, C, dx, vs, rfl, ob.obj, cl, na, by omega, ?_⟩
    rw [putF_new hn']
    exact q1 _ s F1 _ rfl g3 e1 w3⟩) fun G' h => by rw [show G' = _ from h]; exact kk
end
/-- what a maker promises by data: the two fields -/
abbrev CtO := List Sl → PyData → PyData → Prop
structure GrowO (p : Addr) (F H F' H' : Hp) : Prop where
  f : Same F F'
  i : Same F' H'
  h : ∀ c o, c ≠ p → H c = some o → H' c = some o
  n : ∀ c o, F' c = some o → F c = none → c = p ∨ TU (H c)
  fp : F' p = none
def spO (C : Addr) (Ck : CtO) : Sp := fun vs H Q _ => ∃ F p dx vs' ts c k, vs = V.ref p :: vs' ∧ Ck ts c k ∧ Same F H ∧ H p = some (.ins C dx []) ∧ F p = none ∧ Imms F vs' ts ∧ ∀ F' H' dx' v1 v2, GrowO p F H F' H' → H' p = some (.ins C dx' [("columns", v1), ("checks", v2)]) → Rp F' v1 c → Rp F' v2 k → Q .non H'
structure CaO (P : Program) (w : World) (K : PySem.W.Frag) (mg : Str → Option Value) (base : Heap) (k : Nat) (x : Str) (C : Addr) (Ck : CtO) : Prop where
  h : ∃ (f : Addr) (fd : FuncData) (ps : List Str), mg x = some (.ref C) ∧ L2.Mk K C f ∧ Binds K fd ps [] ∧ FnOk P w K mg base CX0 k f fd ps (spO C Ck)
section
variable {X : Cx} {B : Bs} {G : En} {e : Expr} {es : List Expr} {x : Str} {p pos : Pos} {C : Addr} {Ck : CtO} {n k : Nat} {ts : List Sl} {c ck : PyData}
/-- C(e, ..) -/
theorem e_make (D : CaO X.prog X.w X.K X.mg X.base k x C Ck) (hr : Room (n + 1) X.A) (ha : EAI X B G (e :: es) (is ts)) (hC : Ck ts c ck) (hk : k ≤ n := by decide) (hg : Gl X x := by rfl) (hdb : (x == ("__debug__" : Str)) = false := by decide)
    (he : starEach (e :: es) X.env = (false, eval e X.env) :: starEach es X.env := by rfl) (hpl : (backTo pos (starEach es X.env)).any (·.1) = false := by rfl) : EE X B G (.Call (.Name x p) (e :: es) [] pos) (is (.bk C c ck)) := by
  obtain ⟨f, fd, ps, hm, M, hb, F⟩ := D.h
  refine e_of (pe_make M F (hr.mono (Nat.succ_le_succ hk)) hg hm hb .nil (pass0 (X := X)) ha hdb he hpl) fun s F H Q g w q => ⟨F, g, w, fun vs ts' F1 H1 p1 g1 e1 w1 i1 => ?_⟩
  rw [show ts' = ts from p1] at i1
  intro a dx ha hdx hne
  rw [List.append_nil]
  refine ⟨F1, a, dx, vs, ts, c, ck, rfl, hC, fun b o z => ?_, upd_same, g1.h.free ha, i1, fun F2 H2 dx' v1 v2 gr ho r1 r2 => ⟨rfl, ?_⟩⟩
  · have zb := g1.h b o z
    rw [upd_ne (ne_of_none zb ha), upd_ne (ne_of_none zb hdx)]
    exact zb
  · have Fa : F1 a = none := g1.h.free ha
    have gg : Grow F1 H1 (upd F2 a (.ins C dx' [("columns", v1), ("checks", v2)])) H2 := by
      refine ⟨fun b o z => ?_, fun b o z => ?_, fun b o z => ?_, fun b o z nn => ?_⟩
      · rw [upd_ne (ne_of_none z Fa)]
        exact gr.f b o z
      · have b1 := ne_of_none z ha
        refine gr.h b o b1 ?_
        rw [upd_ne b1, upd_ne (ne_of_none z hdx)]
        exact z
      · by_cases hb : b = a
        · rw [hb, upd_same] at z
          cases z
          rw [hb]
          exact ho
        · rw [upd_ne hb] at z
          exact gr.i b o z
      · by_cases hb : b = a
        · rw [hb]
          exact .inl ha
        · rw [upd_ne hb] at z
          rcases gr.n b o z nn with y | y
          · exact absurd y hb
          · rw [upd_ne hb] at y
            by_cases hd : b = dx
            · rw [hd]
              exact .inl hdx
            · rw [upd_ne hd] at y
              exact y
    have sf : Same F2 (upd F2 a (.ins C dx' [("columns", v1), ("checks", v2)])) := same_upd gr.fp
    exact q _ (.bk C c ck) _ H2 rfl (g1.grow gg) (e1.trans gg.f) ((w1.grow gg).pushI ⟨a, dx', v1, v2, rfl, upd_same, r1.mono sf, r2.mono sf⟩)
end
theorem sat_startO {F H : Hp} {p C dx : Addr} {vs : List V} {ts : List Sl} (n : Nat) (hs : Same F H) (ho : H p = some (.ins C dx [])) (fb : F p = none) (im : Imms F vs ts) : Good ⟨F, fun c => if c = p then none else H c⟩ F H ∧ Sat ⟨F, fun c => if c = p then none else H c⟩ F H (some (.ref p) :: (vs.map some ++ List.replicate n none)) (.ob C p [] :: (ts ++ List.replicate n .any)) := by
  refine ⟨⟨Same.refl _, hs, fun c o q => ?_, fun a o q n => ?_⟩, (sat_start (B := ⟨F, fun c => if c = p then none else H c⟩) (H := H) n im).pushO ⟨rfl, rfl, fb, if_pos rfl, dx, [], ho, rfl, .nil⟩ fun i u a e o _ => ?_⟩
  · have q' : (if c = p then none else H c) = some o := q
    by_cases z : c = p
    · rw [if_pos z] at q'
      cases q'
    · rw [if_neg z] at q'
      exact q'
  · have n' : F a = none := n
    rw [n'] at q
    cases q
  · exfalso
    have hl : ∀ (ts : List Sl) (vs : List V), Imms F vs ts → ∀ (i : Nat) (u : Sl), (ts ++ List.replicate n Sl.any)[i]? = some u → u.owned = false := fun ts => by
      induction ts with
      | nil =>
        intro vs _ i u e
        rw [List.nil_append, List.getElem?_replicate] at e
        split at e
        · cases e; rfl
        · cases e
      | cons t ts ih =>
        intro vs im i u e
        cases vs with
        | nil => exact im.elim
        | cons v vs =>
          cases i with
          | zero =>
            simp at e
            subst e
            have i1 : Imm F v t := im.1
            cases t <;> first | rfl | exact i1.elim
          | succ i => exact ih vs im.2 i u (by simpa using e)
    rw [hl ts vs im i u e] at o
    cases o
section
variable {P : Program} {w : World} {K : PySem.W.Frag} {mg : Str → Option Value} {base : Heap} {x nm qual : Str} {params : Arguments} {st : Stmt} {f : Addr} {fd : FuncData} {N ps : List Str} {k : Nat} {C : Addr} {Ck : CtO} {dvs : List V} {kws : List (Str × V)}
theorem caO_mk (F : FunD K nm qual params (defBody st) (defScope st) dvs kws f fd) (S : FnScope N ps (defScope st)) (hm : mg x = some (.ref C)) (M : L2.Mk K C f) (hb : Binds K fd ps []) (len : ∀ ts c ck, Ck ts c ck → ts.length + 1 = ps.length)
    (body : ∀ (cdv : Value) (A : Around) (outer : List Env) (s : Shared) (H : Hp) (E : XK), Room k (A.deeper (envOfC qual (defScope st) s.heap.objs.size f cdv)) → ∀ (B : Bs) (p : Addr) (ts : List Sl) (c ck : PyData), Ck ts c ck →
      SS (cx0 P w K mg base N qual st f cdv A outer s H E) B (.ob C p [] :: (ts ++ List.replicate (N.length - (ts.length + 1)) .any)) (defBody st) { nx := fun G' => G'[0]? = some (.ob C p [("columns", c), ("checks", ck)]), rt := fun _ _ => False }) : CaO P w K mg base (k + 1) x C Ck := by
  refine ⟨f, fd, ps, hm, M, hb, F.ok S (fun vs H Q E h => ?_) (fun cdv A outer s H vs Q E hr h => ?_)⟩
  · obtain ⟨F, p, dx, vs', ts, c, k, rfl, hc, hs, ho, fb, im, _⟩ := h
    rw [List.length_cons, im.len]
    exact len ts c k hc
  · obtain ⟨F0, p, dx, vs', ts, c, k, rfl, hc, hs, ho, fb, im, q⟩ := h
    obtain ⟨g0, w0⟩ := sat_startO (N.length - (ts.length + 1)) hs ho fb im
    refine ⟨_, PSs.nox (body cdv A outer s H E hr ⟨F0, fun c => if c = p then none else H c⟩ p ts c k hc), F0, g0, ?_, fun G' s' F' H' m g' e' w' => ?_, fun v t G' s' F' H' m g' e' w' => m.elim, fun _ _ _ _ z => z.elim, fun _ _ _ _ z => z.elim⟩
    · unfold L2.start
      rw [List.map_cons, List.length_cons, im.len]
      exact w0
    · obtain ⟨dx', vs2, ob, rf⟩ := Sat.obAt (i := 0) g' w' m
      obtain ⟨h1, h2⟩ := rf
      match vs2, h1, h2, ob with
      | [(_, v1), (_, v2)], h1, .cons r1 (.cons r2 .nil), ob =>
        have e1 := List.cons.inj h1
        have e2 := List.cons.inj e1.2
        have k1 := e1.1
        have k2 := e2.1
        simp only at k1 k2
        subst k1 k2
        refine q F' H' dx' v1 v2 ⟨g'.f, g'.h, fun c o ne hc => g'.m c o (show (if c = p then none else H c) = some o by rw [if_neg ne]; exact hc), fun c o h1 h2 => ?_, ob.fr⟩ ob.obj r1 r2
        have z : TU (if c = p then none else H c) := g'.n c o h1 h2
        by_cases e : c = p
        · exact .inl e
        · rw [if_neg e] at z
          exact .inr z
end
end Mk
namespace Mk
open PySem PySem.Spec PyProof.Rows L2
theorem u1 {k : Nat} {A : Around} (r : Room k A) : A.units + 1 < cLine := by have := r.un; omega
section
variable {P : Program} {w : World} {K : PySem.W.Frag} {mg : Str → Option Value} {base : Heap}
/-! ### books -/
def c_is_values : Ct := fun ts P => ∃ (r ms : List Int), r.length = ms.length ∧ r.length ≤ 10 ∧ (∀ z ∈ zpP r ms, 0 ≤ z.1 ∧ z.1 < z.2) ∧ ts = [.dat (cR.e r), .dat (.list (ms.map cI.e))] ∧ P = is (.dat (.bool true))
theorem ca_is_values {f : Addr} {fd : FuncData} (T : Bi K mg) (F : Fun K "is_values" "is_values" s_is_values f fd) (hm : mg "is_values" = some (.ref f)) (hb : Binds K fd ["value", "many"] []) (D1 : Ca P w K mg base 1 "is_sequence" c_is_sequence) (D2 : Ca P w K mg base 3 "is_below" c_is_below) : Ca P w K mg base 4 "is_values" c_is_values := by
  refine ca_mk F sc_is_values hm hb (fun ts P ⟨_, _, _, _, _, h, _⟩ => by rw [h]; rfl) (fun cdv A outer s H E hr B ts Pr c => ?_)
  obtain ⟨r, ms, h1, h2, h3, rfl, rfl⟩ := c
  have nd := sc_is_values.nd
  refine q_ifRet (k := false) (t_bool (w_or (x := false) (y := false) (t_not (x := true) (t_val (e_callD D1 hr (as_cons (e_dat 0) as_nil) ⟨cR.e r, rfl, (fun kv h => by cases h), rfl⟩))) fun _ => w_or1 ((t_ne (q := r.length = ms.length) (u64 hr) (e_lenT T.len (e_dat 0)) (e_lenL T.len (e_dat 1)) (fl_int _) (fl_int _) (by
      rw [List.length_map, List.length_map, PyData.int.injEq]
      omega)).eq (by simp [h1])))) (fun h => nomatch h) fun _ => ?_
  refine q_ret (t := .dat (.bool true)) (EV.eq (e_allM (cPr cI cI) (.two 2 3) [("one", 2), ("most", 3)] (fun _ => true) T.all (by rw [← zpD_eq]; exact i_zip true false T.zip (e_dat 0) (e_dat 1)) (fun _ _ _ _ _ => g_two 2 3 rfl nd) (fun s' H' C cl fp B' z hz => ?_) (fun _ _ => ⟨_, _, rfl⟩) (by unfold zpP; rw [List.length_zip]; omega) (blkOk_by (N := n_is_values) (sc := defScope s_is_values) (by decide +kernel)) nd) (by simp)) ⟨rfl, rfl⟩
  exact e_callD D2 hr (as_cons (e_dat 2) (as_cons (e_dat 3) as_nil)) ⟨.int z.1, z.2, true, rfl, by simp [isBel, h3 z hz], rfl⟩

/-- the columns of some places -/
def colsAt (cs ps : List Int) : List Int := ps.map fun p => cs.getD p.toNat 0
def c_is_check : Ct := fun ts P => ∃ (cs : List Int) (c : List Int × List (List Int)), ColsOk cs ∧ CkU cs c ∧ ts = [.dat (cR.e cs), .dat (cC.e c)] ∧ P = is (.dat (.bool true))
theorem zip_in {cs ps r : List Int} (h : InRow cs ps r) : ∀ z ∈ zpP r (colsAt cs ps), 0 ≤ z.1 ∧ z.1 < z.2 := fun z hz => by
  obtain ⟨h1, h2⟩ := h
  obtain ⟨i, hi, rfl⟩ := List.getElem_of_mem hz
  unfold zpP colsAt at hi ⊢
  rw [List.length_zip, List.length_map] at hi
  rw [List.getElem_zip]
  have := h2 i (by omega)
  rw [getD_eq (xs := r) (by omega), getD_eq (xs := ps) (by omega)] at this
  simpa using this
theorem ca_is_check {f : Addr} {fd : FuncData} (T : Bi K mg) (U : Nu mg) (F : Fun K "is_check" "is_check" s_is_check f fd) (hm : mg "is_check" = some (.ref f)) (hb : Binds K fd ["columns", "value"] []) (D1 : Ca P w K mg base 1 "is_sequence" c_is_sequence) (D2 : Ca P w K mg base 3 "is_below" c_is_below) (D3 : Ca P w K mg base 4 "is_values" c_is_values) : Ca P w K mg base 5 "is_check" c_is_check := by
  refine ca_mk F sc_is_check hm hb (fun ts P ⟨_, _, _, _, h, _⟩ => by rw [h]; rfl) (fun cdv A outer s H E hr B ts Pr cc => ?_)
  obtain ⟨cs, c, cok, ck, rfl, rfl⟩ := cc
  have nd := sc_is_check.nd
  obtain ⟨tk, mp⟩ := U.mp
  have nodic : ∀ {β : Type} (x : List PyData) (kv), PyData.tuple x ≠ .dict kv := fun _ _ h => by cases h
  have pl := ck.p3
  refine q_ifRet (k := false) (t_bool (w_or (x := false) (y := false) (t_not (x := true) (t_val (e_callD D1 hr (as_cons (e_dat 1) as_nil) ⟨_, rfl, nodic (β := Int) _, rfl⟩))) fun _ => w_or (x := false) (y := false) ((t_ne (q := (2 : Nat) = 2) (u64 hr) (e_lenT T.len (e_dat 1)) e_int (fl_int _) (fl_int _) (by simp)).eq (by simp)) fun _ => w_or (x := false) (y := false) (t_not (x := true) (t_val (e_callD D1 hr (as_cons (e_ixT (d := cR.e c.1) rfl (e_dat 1) e_int) as_nil) ⟨_, rfl, nodic (β := Int) _, rfl⟩))) fun _ => w_or1 (t_not (x := true) (t_val (e_callD D1 hr (as_cons (e_ixT (d := cO.e c.2) rfl (e_dat 1) e_int) as_nil) ⟨_, rfl, nodic (β := Int) _, rfl⟩))))) (fun h => nomatch h) fun _ => ?_
  refine q_unp (.two 2 3) (d := cC.e c) (e_dat 1) (g_two 2 3 rfl nd) ⟨_, _, rfl⟩ ?_
  refine q_ifRet (k := false) (t_bool (w_or (x := false) (y := false) (t_not (x := true) ((t_chain (i := 1) (j := (c.1.length : Int)) (k := 3) e_int (EV.eq (e_lenT T.len (e_dat 2)) (by rw [List.length_map])) (e_globI mp)).eq (by have := ck.p1; simp; omega))) fun _ => w_or1 (t_not (x := true) (t_val (EV.eq (e_allM cI (.one 5) [("place", 5)] (fun _ => true) T.all (i_tup (e_dat 2)) (fun _ _ _ _ _ => g_one 5 nd) (fun s' H' C cl fp B' p hp => e_callD D2 hr (as_cons (e_dat 5) (as_cons (EV.eq (e_lenT T.len (e_dat 0)) (by rw [List.length_map])) as_nil)) ⟨.int p, cs.length, true, rfl, by simp [isBel, ck.pin p hp], rfl⟩) (fun _ _ => trivial) (by omega) (blkOk_by (N := n_is_check) (sc := defScope s_is_check) (by decide +kernel)) nd) (by simp)))))) (fun h => nomatch h) fun _ => ?_
  have uv := ck.univ cok
  have rl : c.2.length ≤ 8 := (ck.ck cok).rl
  refine q_ret (t := .dat (.bool true)) (EV.eq (e_allM cR (.one 4) [("row", 4)] (fun _ => true) T.all (i_tup (e_dat 3)) (fun _ _ _ _ _ => g_one 4 nd) (fun s' H' C cl fp B' r hr' => ?_) (fun _ _ => trivial) (by omega) (blkOk_by (N := n_is_check) (sc := defScope s_is_check) (by decide +kernel)) nd) (by simp)) ⟨rfl, rfl⟩
  have inr := allRows_mem.mp (ck.sub r hr')
  refine e_callD D3 hr (as_cons (e_dat 4) (as_cons (e_mapM cI (.one 5) [("place", 5)] (fun p => .int (cs.getD p.toNat 0)) (i_tup (e_dat 2)) (fun _ _ _ _ _ => g_one 5 nd) (fun s2 H2 C2 cl2 fp2 B2 p hp => e_ixTI (ck.pin p hp).1 (ck.pin p hp).2 (e_dat 0) (e_dat 5)) (fun _ _ => trivial) (by omega) (blkOk_by (N := n_is_check) (sc := relS _ (defScope s_is_check)) (by decide +kernel)) nd) as_nil)) ⟨r, colsAt cs c.1, by rw [inr.1]; simp [colsAt], by rw [inr.1]; omega, zip_in inr, ?_, rfl⟩
  unfold colsAt
  rw [List.map_map]
  rfl

def c_told_check : Ct := fun ts P => ∃ (cs : List Int) (c : List Int × List (List Int)), ColsOk cs ∧ CkU cs c ∧ ts = [.dat (cC.e c)] ∧ P = is (.dat (cC.e c))
theorem dicOf_self {xs : List (List Int)} (h : xs.Nodup) : dicOf xs = xs := by
  unfold dicOf
  suffices k : ∀ b : List (List Int), (b ++ xs).Nodup → xs.foldl putR b = b ++ xs by
    simpa using k [] (by simpa using h)
  induction xs with
  | nil => intro b _; simp
  | cons x xs ih =>
    intro b hb
    have hx : x ∉ b := fun z => (List.nodup_append.mp hb).2.2 x z x List.mem_cons_self rfl
    have e : putR b x = b ++ [x] := by
      unfold putR
      rw [if_neg hx]
    rw [List.foldl_cons, e]
    have := ih (List.nodup_cons.mp h).2 (b ++ [x]) (by simpa using hb)
    rw [this]
    simp
theorem ca_told_check {f : Addr} {fd : FuncData} (T : Bi K mg) (F : Fun K "told_check" "told_check" s_told_check f fd) (hm : mg "told_check" = some (.ref f)) (hb : Binds K fd ["value"] []) : Ca P w K mg base 1 "told_check" c_told_check := by
  refine ca_mk F sc_told_check hm hb (fun ts P ⟨_, _, _, _, h, _⟩ => by rw [h]; rfl) (fun cdv A outer s H E hr B ts Pr cc => ?_)
  obtain ⟨cs, c, cok, ck, rfl, rfl⟩ := cc
  have nd := sc_told_check.nd
  have uv := ck.univ cok
  have rl : c.2.length ≤ 8 := (ck.ck cok).rl
  refine q_dcT (xs := c.2) 1 (.one 2) [("row", 2)] (u1 hr) (i_tup (e_ixT (d := cO.e c.2) rfl (e_dat 0) e_int)) (fun _ _ _ _ _ => g_one 2 nd) (fun s' H' C cl fp B' r hr' => e_tupT T.tuple (e_dat 2)) (fun s' H' C cl fp B' r hr' => e_bl) (fun _ _ => trivial) (by omega) ?_ (blkOk_by (N := n_told_check) (sc := defScope s_told_check) (by decide +kernel)) nd
  rw [dicOf_self ck.nd]
  refine q_ret (t := .dat (cC.e c)) (e_tup (ds := [_, _]) (vs_cons (e_tupT T.tuple (e_ixT (d := cR.e c.1) rfl (e_dat 0) e_int)) (vs_cons (EV.eq (e_tupL T.tuple (e_frz (e_sortR false hr T.sorted (e_frz (e_listD 1 T.list)) (.inl fun r hr' z => ?_)))) ?_) vs_nil)) (by simp)) ⟨rfl, rfl⟩
  · have := uv.el r (ck.sub r hr')
    rw [z] at this
    have := ck.p1
    simp at *
    omega
  · rw [sortR_self ck.so]
end
end Mk
namespace Mk
open PySem PySem.Spec PyProof.Rows L2
section
variable {P : Program} {w : World} {K : PySem.W.Frag} {mg : Str → Option Value} {base : Heap} {C : Addr}
abbrev bkS (C : Addr) (cs : List Int) (ks : List (List Int × List (List Int))) : Sl := .bk C (cR.e cs) (.tuple (ks.map cC.e))
def c_kinds_of (C : Addr) : Ct := fun ts P => ∃ (cs : List Int) (k : PyData), cs.length ≤ 4 ∧ (∀ c ∈ cs, 0 ≤ c ∧ c ≤ 4) ∧ ts = [.bk C (cR.e cs) k] ∧ P = is (.dat (cO.e (kinds cs)))
theorem ca_kinds_of {f : Addr} {fd : FuncData} (T : Bi K mg) (bc : BkC K C) (F : Fun K "kinds_of" "kinds_of" s_kinds_of f fd) (hm : mg "kinds_of" = some (.ref f)) (hb : Binds K fd ["book"] []) : Ca P w K mg base 1 "kinds_of" (c_kinds_of C) := by
  refine ca_mk F sc_kinds_of hm hb (fun ts P ⟨_, _, _, _, h, _⟩ => by rw [h]; rfl) (fun cdv A outer s H E hr B ts Pr cc => ?_)
  obtain ⟨cs, kk, h1, h2, rfl, rfl⟩ := cc
  have nd := sc_kinds_of.nd
  have big : ∀ i j (z : Int × Int), z.2 ≤ 4 → (((enP cs).take i).flatMap kindsCol ++ ((rgI z.2.toNat).take j).flatMap (kindsOne z.1 z.2)).length ≤ 1000 := fun i j z hz => by
    have e1 : (((enP cs).take i).flatMap kindsCol).length ≤ 16 * ((enP cs).take i).length := flat_len fun y hy => by
      have hy' := List.mem_of_mem_take hy
      obtain ⟨k, _, hk⟩ := enP_mem hy'
      have hm := h2 y.2 (List.mem_of_getElem? hk)
      have e2 : (kindsCol y).length ≤ y.2.toNat * (rgI y.2.toNat).length := flat_len fun o _ => kindsOne_len _ _ _
      rw [rgI_len] at e2
      exact Nat.le_trans e2 (Nat.mul_le_mul (show y.2.toNat ≤ 4 by omega) (show y.2.toNat ≤ 4 by omega))
    have e2 : (((rgI z.2.toNat).take j).flatMap (kindsOne z.1 z.2)).length ≤ z.2.toNat * ((rgI z.2.toNat).take j).length := flat_len fun o _ => kindsOne_len _ _ _
    have e3 : ((enP cs).take i).length ≤ 4 := by rw [List.length_take, enP_len]; omega
    have e4 : ((rgI z.2.toNat).take j).length ≤ 4 := by rw [List.length_take, rgI_len]; omega
    have e5 : z.2.toNat * ((rgI z.2.toNat).take j).length ≤ 4 * 4 := Nat.mul_le_mul (by omega) e4
    rw [List.length_append]
    omega
  refine q_asg (t := .own (([] : List (List Int)).map cR.e)) 1 (e_lstO (ds := []) vs_nil (by decide)) ?_ nd
  refine q_forM (xs := enP cs) (cPr cI cI) (.two 2 3) (fun i => [.bk C (cR.e cs) kk, .own ((((enP cs).take i).flatMap kindsCol).map cR.e), .any, .any, .any, .any]) ⟨.inr rfl, .inr rfl, .inr rfl, .inr rfl, .inr rfl, .inr rfl, trivial⟩ (by rw [← enD_eq]; exact i_enum true T.enum (e_cols bc (e_bk 0))) (g_two 2 3 rfl nd) (fun _ _ => ⟨_, _, rfl⟩) (fun i z hz => ?_) ?_ PassesOwn.never
  · obtain ⟨k, hk1, hk⟩ := enP_mem (List.mem_of_getElem? hz)
    have hb2 := h2 z.2 (List.mem_of_getElem? hk)
    refine q_forM (xs := rgI z.2.toNat) cI (.one 4) (fun j => [.bk C (cR.e cs) kk, .own (((((enP cs).take i).flatMap kindsCol) ++ ((rgI z.2.toNat).take j).flatMap (kindsOne z.1 z.2)).map cR.e), .dat (.int z.1), .dat (.int z.2), .any, .any]) ⟨.inr rfl, .inr (by simp), .inr rfl, .inr rfl, .inr rfl, .inr rfl, trivial⟩ (i_rangeM (EV.eq (e_dat 3) (by congr 1; show z.2 = _; omega)) (by omega) T.range) (g_one 4 nd) (fun _ _ => trivial) (fun j o ho => ?_) ?_ PassesOwn.never
    · have hz' := big i (j + 1) z hb2.2
      have e : (kindsOne z.1 z.2 o).map cR.e = ((rgI z.2.toNat).filter fun n => !decide (n = o)).map fun n => cR.e [z.1, o, n] := by
        unfold kindsOne
        rw [List.map_map]
        rfl
      refine s_one (s_ext (ds := ((((enP cs).take i).flatMap kindsCol) ++ ((rgI z.2.toNat).take j).flatMap (kindsOne z.1 z.2)).map cR.e) (es := (kindsOne z.1 z.2 o).map cR.e) 1 (EV.eq (e_frz (e_lcM (xs := rgI z.2.toNat) cI (.one 5) [("new", 5)] (fun n => !decide (n = o)) (fun n => cR.e [z.1, o, n]) (i_rangeM (EV.eq (e_dat 3) (by congr 1; show z.2 = _; omega)) (by omega) T.range) (fun _ _ _ _ _ => g_one 5 nd) (fun s' H' C cl fp B' n hn => ts_one (t_neM cI fl_int (u64 hr) (e_dat 5) (e_dat 4))) (fun s' H' C cl fp B' n hn _ => e_tup (vs_cons (e_dat 2) (vs_cons (e_dat 4) (vs_cons (e_dat 5) vs_nil))) (by simp)) (fun _ _ => trivial) (by rw [rgI_len]; omega) (blkOk_by (N := n_kinds_of) (sc := defScope s_kinds_of) (by decide +kernel)) nd)) (by rw [e])) ⟨.inr rfl, .inr ?_, .inr rfl, .inr rfl, .inl rfl, .inr rfl, trivial⟩ ?_)
      · show Sl.own _ = Sl.own _
        rw [flat_take ho, ← List.append_assoc, List.map_append (l₂ := kindsOne z.1 z.2 o)]
      · rw [flat_take ho] at hz'
        simp only [List.length_append, List.length_map] at hz' ⊢
        omega
    · rw [take_all, show (((enP cs).take i).flatMap kindsCol) ++ (rgI z.2.toNat).flatMap (kindsOne z.1 z.2) = ((enP cs).take (i + 1)).flatMap kindsCol by rw [flat_take hz]; rfl]
      exact s_nil ⟨.inr rfl, .inr rfl, .inl rfl, .inl rfl, .inr rfl, .inr rfl, trivial⟩
  · rw [take_all]
    exact ss_frz 1 (q_ret (e_tupL T.tuple (e_dat 1)) ⟨rfl, rfl⟩)

def c_lots_set : Ct := fun ts P => ∃ ps : List Int, ps.length ≤ 8 ∧ ts = [.dat (cR.e ps)] ∧ P = is (.dat (.list ((lotsS ps).map cR.e)))
theorem ca_lots_set {f : Addr} {fd : FuncData} (T : Bi K mg) (F : Fun K "lots_set" "lots_set" s_lots_set f fd) (hm : mg "lots_set" = some (.ref f)) (hb : Binds K fd ["places"] []) : Ca P w K mg base 1 "lots_set" c_lots_set := by
  refine ca_mk F sc_lots_set hm hb (fun ts P ⟨_, _, h, _⟩ => by rw [h]; rfl) (fun cdv A outer s H E hr B ts Pr c => ?_)
  obtain ⟨ps, hps, rfl, rfl⟩ := c
  have nd := sc_lots_set.nd
  have small : ∀ i, ((ps.take i).foldl lotsStep [[]]).length ≤ 256 := fun i => by
    have := lotsUp_len (ps.take i)
    unfold lotsUp at this
    rw [this]
    exact Nat.pow_le_pow_right (j := 8) (by decide) (Nat.le_trans (List.length_take_le' _ _) hps)
  refine q_asg (t := .own (([[]] : List (List Int)).map cR.e)) 1 (e_lstO (ds := [.tuple []]) (vs_cons (e_tup (ds := []) vs_nil (by decide)) vs_nil) (by decide)) ?_ nd
  refine q_forM (xs := ps) cI (.one 2) (fun i => [.dat (cR.e ps), .own (((ps.take i).foldl lotsStep [[]]).map cR.e), .any, .any]) ⟨.inr rfl, .inr rfl, .inr rfl, .inr rfl, trivial⟩ (i_tup (e_dat 0)) (g_one 2 nd) (fun _ _ => trivial) (fun i x hx => ?_) ?_ PassesOwn.never
  · have sm := small i
    refine s_one (s_ext (ds := ((ps.take i).foldl lotsStep [[]]).map cR.e) (es := ((ps.take i).foldl lotsStep [[]]).map fun lot => cR.e (lot ++ [x])) 1 (e_frz (e_lcOwn (xs := (ps.take i).foldl lotsStep [[]]) cR 1 (.one 3) [("lot", 3)] (fun lot => cR.e (lot ++ [x])) (fun _ _ _ _ _ => g_one 3 nd) (fun s' H' C cl fp B' lot hl => ?_) (fun _ _ => trivial) (by omega) (blkOk_by (N := n_lots_set) (sc := defScope s_lots_set) (by decide +kernel)) nd)) ⟨.inr rfl, .inr ?_, .inl rfl, .inr rfl, trivial⟩ ?_)
    · have hlen : lot.length ≤ 8 := Nat.le_trans (lots_short (ps := ps.take i) lot hl) (Nat.le_trans (List.length_take_le' _ _) hps)
      exact EV.eq (e_catT (ds := lot.map PyData.int) (es := [.int x]) (e_dat 3) (e_tup (vs_cons (e_dat 2) vs_nil) (by simp)) (by simp; omega)) (by simp [cTu])
    · show Sl.own _ = Sl.own _
      rw [fold_take hx]
      simp [lotsStep]
    · simp; omega
  · rw [take_all]
    refine ss_frz 1 (q_ret (EV.eq (e_slL (l := some 1) (h := none) (ds := (sortR (lotsUp ps)).map cR.e) (e_frz (e_sortR false hr T.sorted (e_dat 1) (.inr ⟨lots ps, lotsUp_cons ps⟩))) (o_some e_int) o_none) (by rw [cut_one]; rfl)) ⟨rfl, rfl⟩)

def c_row_set : Ct := fun ts P => ∃ (one other lot : List Int), one.length ≤ 8 ∧ other.length = one.length ∧ lot.length ≤ 100 ∧ ts = [.dat (cR.e one), .dat (cR.e other), .dat (cR.e lot)] ∧ P = is (.dat (cR.e (rowSet one other lot)))
theorem rowSet_en {one other lot : List Int} : rowSet one other lot = (enP one).map fun z => if z.1 ∈ lot then other.getD z.1.toNat 0 else z.2 := by
  unfold rowSet enP rgI
  apply List.ext_getElem?
  intro i
  rw [List.getElem?_map, List.getElem?_map, List.getElem?_map, List.getElem?_mapIdx]
  by_cases h : i < one.length
  · rw [List.getElem?_range h, List.getElem?_eq_getElem h]
    simp [List.getD, h]
  · rw [List.getElem?_eq_none (by simp; omega), List.getElem?_eq_none (by omega)]
    rfl
theorem ca_row_set {f : Addr} {fd : FuncData} (T : Bi K mg) (F : Fun K "row_set" "row_set" s_row_set f fd) (hm : mg "row_set" = some (.ref f)) (hb : Binds K fd ["one", "other", "places"] []) : Ca P w K mg base 1 "row_set" c_row_set := by
  refine ca_mk F sc_row_set hm hb (fun ts P ⟨_, _, _, _, _, _, h, _⟩ => by rw [h]; rfl) (fun cdv A outer s H E hr B ts Pr c => ?_)
  obtain ⟨one, other, lot, h1, h2, h3, rfl, rfl⟩ := c
  have nd := sc_row_set.nd
  refine q_ret (t := .dat (cR.e (rowSet one other lot))) ?_ ⟨rfl, rfl⟩
  refine EV.eq (e_tupL T.tuple (e_mapM (cPr cI cI) (.two 3 4) [("at", 3), ("value", 4)] (fun z => .int (if z.1 ∈ lot then other.getD z.1.toNat 0 else z.2)) (by rw [← enD_eq]; exact i_enum true T.enum (e_dat 0)) (fun _ _ _ _ _ => g_two 3 4 rfl nd) (fun s' H' C cl fp B' z hz => ?_) (fun _ _ => ⟨_, _, rfl⟩) (by rw [enP_len]; omega) (blkOk_by (N := n_row_set) (sc := defScope s_row_set) (by decide +kernel)) nd)) ?_
  · obtain ⟨i, hi1, hi2⟩ := enP_mem hz
    have hl := (List.getElem?_eq_some_iff.mp hi2).1
    refine e_if (x := decide (z.1 ∈ lot)) (t_inM cI true fl_int (u65 hr) (e_dat 3) (e_dat 2)) (fun h => ?_) (fun h => ?_)
    · rw [if_pos (of_decide_eq_true h)]
      exact e_ixTI (by omega) (by omega) (e_dat 1) (e_dat 3)
    · rw [if_neg (of_decide_eq_false h)]
      exact e_dat 4
  · rw [rowSet_en]
    show _ = PyData.tuple (List.map PyData.int _)
    rw [List.map_map]
    rfl

def c_places_of : Ct := fun ts P => ∃ (ps one other kind : List Int), ps.length ≤ 8 ∧ one.length = ps.length ∧ other.length = ps.length ∧ ts = [.dat (cR.e ps), .dat (cR.e one), .dat (cR.e other), .dat (cR.e kind)] ∧ P = is (.dat (cR.e (placesOf ps one other kind)))
def plStep (ps one other kind : List Int) (f : List Int) (z : Int × Int) : List Int := if [z.2, one.getD z.1.toNat 0, other.getD z.1.toNat 0] = kind then f ++ [z.1] else f
theorem placesOf_en (ps one other kind : List Int) : (enP ps).foldl (plStep ps one other kind) [] = placesOf ps one other kind := by
  have h : ∀ (zs : List (Int × Int)) (f : List Int), zs.foldl (plStep ps one other kind) f = f ++ (zs.filter fun z => decide ([z.2, one.getD z.1.toNat 0, other.getD z.1.toNat 0] = kind)).map (·.1) := fun zs => by
    induction zs with
    | nil => intro f; simp
    | cons z zs ih =>
      intro f
      rw [List.foldl_cons, ih]
      unfold plStep
      by_cases q : [z.2, one.getD z.1.toNat 0, other.getD z.1.toNat 0] = kind
      · rw [if_pos q, List.filter_cons_of_pos (by simpa using q)]
        simp
      · rw [if_neg q, List.filter_cons_of_neg (by simpa using q)]
  rw [h, List.nil_append]
  unfold placesOf
  have e : rgI ps.length = (enP ps).map (·.1) := by
    unfold enP rgI
    apply List.ext_getElem?
    intro i
    rw [List.getElem?_map, List.getElem?_map, List.getElem?_mapIdx]
    by_cases hi : i < ps.length
    · rw [List.getElem?_range hi, List.getElem?_eq_getElem hi]
      rfl
    · rw [List.getElem?_eq_none (by simp; omega), List.getElem?_eq_none (by omega)]
      rfl
  rw [e, List.filter_map]
  congr 1
  apply List.filter_congr
  intro z hz
  obtain ⟨i, h1, h2⟩ := enP_mem hz
  have hl := (List.getElem?_eq_some_iff.mp h2).1
  have e2 : ps.getD z.1.toNat 0 = z.2 := by
    rw [h1, Int.toNat_natCast]
    simp [List.getD, h2]
  show _ = decide ([ps.getD z.1.toNat 0, one.getD z.1.toNat 0, other.getD z.1.toNat 0] = kind)
  rw [e2]
theorem plStep_len (ps one other kind : List Int) : ∀ (zs : List (Int × Int)) (f : List Int), (zs.foldl (plStep ps one other kind) f).length ≤ f.length + zs.length
  | [], f => by simp
  | z :: zs, f => by
    have h := plStep_len ps one other kind zs (plStep ps one other kind f z)
    have h2 : (plStep ps one other kind f z).length ≤ f.length + 1 := by
      unfold plStep
      split <;> simp
    rw [List.foldl_cons, List.length_cons]
    omega
theorem ca_places_of {f : Addr} {fd : FuncData} (T : Bi K mg) (F : Fun K "places_of" "places_of" s_places_of f fd) (hm : mg "places_of" = some (.ref f)) (hb : Binds K fd ["places", "one", "other", "kind"] []) : Ca P w K mg base 1 "places_of" c_places_of := by
  refine ca_mk F sc_places_of hm hb (fun ts P ⟨_, _, _, _, _, _, _, h, _⟩ => by rw [h]; rfl) (fun cdv A outer s H E hr B ts Pr c => ?_)
  obtain ⟨ps, one, other, kind, h1, h2, h3, rfl, rfl⟩ := c
  have nd := sc_places_of.nd
  refine q_asg (t := .own (([] : List Int).map cI.e)) 4 (e_lstO (ds := []) vs_nil (by decide)) ?_ nd
  refine q_forM (xs := enP ps) (cPr cI cI) (.two 5 6) (fun i => [.dat (cR.e ps), .dat (cR.e one), .dat (cR.e other), .dat (cR.e kind), .own ((((enP ps).take i).foldl (plStep ps one other kind) []).map cI.e), .any, .any]) ⟨.inr rfl, .inr rfl, .inr rfl, .inr rfl, .inr rfl, .inr rfl, .inr rfl, trivial⟩ (by rw [← enD_eq]; exact i_enum true T.enum (e_dat 0)) (g_two 5 6 rfl nd) (fun _ _ => ⟨_, _, rfl⟩) (fun i z hz => ?_) ?_ PassesOwn.never
  · obtain ⟨k, hk1, hk2⟩ := enP_mem (List.mem_of_getElem? hz)
    have hl := (List.getElem?_eq_some_iff.mp hk2).1
    have sz := plStep_len ps one other kind ((enP ps).take i) []
    have sz2 := List.length_take_le' i (enP ps)
    rw [enP_len] at sz2
    refine s_one (s_if (k := true) (P := is (decide ([z.2, one.getD z.1.toNat 0, other.getD z.1.toNat 0] = kind))) (t_eqM cR fl_cR (u64 hr) (e_tup (ds := [.int z.2, .int _, .int _]) (vs_cons (e_dat 6) (vs_cons (e_ixTI (j := z.1) (by omega) (by omega) (e_dat 1) (e_dat 5)) (vs_cons (e_ixTI (j := z.1) (by omega) (by omega) (e_dat 2) (e_dat 5)) vs_nil))) (by simp)) (e_dat 3)) (fun ht => ?_) (fun hf => ?_))
    · refine s_one (s_app (ds := (((enP ps).take i).foldl (plStep ps one other kind) []).map cI.e) 4 (e_dat 5) (fun t ht2 => ⟨_, ht2, .inr rfl, .inr rfl, .inr rfl, .inr rfl, .inr ?_, .inl rfl, .inl rfl, trivial⟩) (by rw [List.length_map]; have e0 : ([] : List Int).length = 0 := rfl; omega))
      show Sl.own _ = Sl.own _
      rw [fold_take hz]
      unfold plStep
      rw [if_pos (of_decide_eq_true ht.symm)]
      simp
    · refine s_nil ⟨.inr rfl, .inr rfl, .inr rfl, .inr rfl, .inr ?_, .inl rfl, .inl rfl, trivial⟩
      show Sl.own _ = Sl.own _
      rw [fold_take hz]
      unfold plStep
      rw [if_neg (of_decide_eq_false hf.symm)]
  · rw [take_all, placesOf_en]
    exact ss_frz 4 (q_ret (e_tupL T.tuple (e_dat 4)) ⟨rfl, rfl⟩)
end
end Mk
namespace Mk
open PySem PySem.Spec PyProof.Rows L2
section
variable {P : Program} {w : World} {K : PySem.W.Frag} {mg : Str → Option Value} {base : Heap} {C : Addr}
/-! ### lots that are barred -/
def barred (c : List Int × List (List Int)) (one other kind : List Int) : List (List Int) := (lotsS (placesOf c.1 one other kind)).filter fun l => !decide (rowSet one other l ∈ c.2)
def c_barred_lots (C : Addr) : Ct := fun ts P => ∃ (cs : List Int) (ks : List (List Int × List (List Int))) (i : Nat) (c : List Int × List (List Int)) (one other kind : List Int), ks[i]? = some c ∧ CkOk c ∧ one.length = c.1.length ∧ other.length = c.1.length ∧ ts = [bkS C cs ks, .dat (.int i), .dat (cR.e one), .dat (cR.e other), .dat (cR.e kind)] ∧ P = is (.dat (.list ((barred c one other kind).map cR.e)))
theorem lotsS_len (ps : List Int) : (lotsS ps).length ≤ 2 ^ ps.length := by
  rw [(lotsS_perm ps).length_eq]
  exact lots_len ps
theorem ca_barred_lots {f : Addr} {fd : FuncData} (T : Bi K mg) (bc : BkC K C) (F : Fun K "barred_lots" "barred_lots" s_barred_lots f fd) (hm : mg "barred_lots" = some (.ref f)) (hb : Binds K fd ["book", "check", "one", "other", "kind"] [])
    (D1 : Ca P w K mg base 1 "places_of" c_places_of) (D2 : Ca P w K mg base 1 "lots_set" c_lots_set) (D3 : Ca P w K mg base 1 "row_set" c_row_set) : Ca P w K mg base 2 "barred_lots" (c_barred_lots C) := by
  refine ca_mk F sc_barred_lots hm hb (fun ts P ⟨_, _, _, _, _, _, _, _, _, _, _, h, _⟩ => by rw [h]; rfl) (fun cdv A outer s H E hr B ts Pr cc => ?_)
  obtain ⟨cs, ks, i, c, one, other, kind, hi, ok, l1, l2, rfl, rfl⟩ := cc
  have nd := sc_barred_lots.nd
  have pl := ok.pl
  have e1 := placesOf_len c.1 one other kind
  refine q_unp (.two 5 6) (d := cC.e c) (e_ixTM cC hi (e_chks bc (e_bk 0)) (e_dat 1)) (g_two 5 6 rfl nd) ⟨_, _, rfl⟩ ?_
  refine q_asg (t := .dat (cR.e (placesOf c.1 one other kind))) 7 (e_callD D1 hr (as_cons (e_dat 5) (as_cons (e_dat 2) (as_cons (e_dat 3) (as_cons (e_dat 4) as_nil)))) ⟨c.1, one, other, kind, by omega, l1, l2, rfl, rfl⟩) ?_ nd
  have e2 := lotsS_len (placesOf c.1 one other kind)
  have e3 : 2 ^ (placesOf c.1 one other kind).length ≤ 8 := Nat.pow_le_pow_right (n := 2) (j := 3) (by decide) (by omega)
  refine q_ret (t := .dat (.list ((barred c one other kind).map cR.e))) (e_frz (e_lcM (xs := lotsS (placesOf c.1 one other kind)) cR (.one 8) [("lot", 8)] (fun l => !decide (rowSet one other l ∈ c.2)) cR.e (i_list (e_callD D2 hr (as_cons (e_dat 7) as_nil) ⟨_, by omega, rfl, rfl⟩)) (fun _ _ _ _ _ => g_one 8 nd) (fun s' H' C cl fp B' l hl => ts_one (t_notInM cR true fl_cR (u65 hr) (e_callD D3 hr (as_cons (e_dat 2) (as_cons (e_dat 3) (as_cons (e_dat 8) as_nil))) ⟨one, other, l, by omega, by omega, ?_, rfl, rfl⟩) (e_dat 6))) (fun s' H' C cl fp B' l hl _ => e_dat 8) (fun _ _ => trivial) (by omega) (blkOk_by (N := n_barred_lots) (sc := defScope s_barred_lots) (by decide +kernel)) nd)) ⟨rfl, rfl⟩
  have := lots_short (ps := placesOf c.1 one other kind) l (lots_mem_up ((lotsS_perm _).mem_iff.mp hl))
  omega
abbrev cPair : Cod (List Int × List Int) := cPr cR cR
/-- no lot of such a kind is barred -/
def c_first_bar (C : Addr) : Ct := fun ts P => ∃ (cs : List Int) (ks : List (List Int × List (List Int))) (kind : List Int) (prs : List (List (List Int × List Int))), prs.length ≤ 10 ∧ (∀ p ∈ prs, p.length ≤ 1000) ∧ (∀ (i : Nat) (p : List (List Int × List Int)), prs[i]? = some p → ∃ c, ks[i]? = some c ∧ CkOk c ∧ ∀ z ∈ p, z.1.length = c.1.length ∧ z.2.length = c.1.length ∧ barred c z.1 z.2 kind = []) ∧ ts = [bkS C cs ks, .dat (cR.e kind), .dat (.list (prs.map (cLi cPair).e))] ∧ P = is (.dat .none)
theorem ca_first_bar {f : Addr} {fd : FuncData} (T : Bi K mg) (F : Fun K "first_bar" "first_bar" s_first_bar f fd) (hm : mg "first_bar" = some (.ref f)) (hb : Binds K fd ["book", "kind", "pairs"] []) (D1 : Ca P w K mg base 2 "barred_lots" (c_barred_lots C)) : Ca P w K mg base 3 "first_bar" (c_first_bar C) := by
  refine ca_mk F sc_first_bar hm hb (fun ts P ⟨_, _, _, _, _, _, _, h, _⟩ => by rw [h]; rfl) (fun cdv A outer s H E hr B ts Pr cc => ?_)
  obtain ⟨cs, ks, kind, prs, p10, p1000, hp, rfl, rfl⟩ := cc
  have nd := sc_first_bar.nd
  let G0 : En := [bkS C cs ks, .dat (cR.e kind), .dat (.list (prs.map (cLi cPair).e)), .any, .any, .any, .any, .any]
  refine q_forM (xs := enP prs) (cPr cI (cLi cPair)) (.two 3 4) (fun _ => G0) (GLe.refl _) (by rw [← enD_eq]; exact i_enum false T.enum (e_dat 2)) (g_two 3 4 rfl nd) (fun _ _ => ⟨_, _, rfl⟩) (fun i z hz => ?_) ?_ PassesOwn.never
  · obtain ⟨k, hk1, hk2⟩ := enP_mem (List.mem_of_getElem? hz)
    obtain ⟨c, hc, ok, hpz⟩ := hp k z.2 hk2
    refine q_forM (xs := z.2) cPair (.two 5 6) (fun _ => [bkS C cs ks, .dat (cR.e kind), .dat (.list (prs.map (cLi cPair).e)), .dat (.int z.1), .dat ((cLi cPair).e z.2), .any, .any, .any]) (GLe.refl _) (i_list (e_dat 4)) (g_two 5 6 rfl nd) (fun _ _ => ⟨_, _, rfl⟩) (fun j y hy => ?_) (s_nil ⟨.inr rfl, .inr rfl, .inr rfl, .inl rfl, .inl rfl, .inr rfl, .inr rfl, .inr rfl, trivial⟩) PassesOwn.never
    obtain ⟨l1, l2, hbar⟩ := hpz y (List.mem_of_getElem? hy)
    refine q_asg (t := .dat (.list ((barred c y.1 y.2 kind).map cR.e))) 7 (e_callD D1 hr (as_cons (e_bk 0) (as_cons (EV.eq (e_dat 3) (by rw [hk1])) (as_cons (e_dat 5) (as_cons (e_dat 6) (as_cons (e_dat 1) as_nil))))) ⟨cs, ks, k, c, y.1, y.2, kind, hc, ok, l1, l2, rfl, rfl⟩) ?_ nd
    rw [hbar]
    refine q_ifRet (k := false) ((t_gt (e_lenL T.len (e_dat 7)) e_int).eq (by decide)) (fun h => nomatch h) fun _ => ?_
    exact s_nil ⟨.inr rfl, .inr rfl, .inr rfl, .inr rfl, .inr rfl, .inl rfl, .inl rfl, .inl rfl, trivial⟩
  · exact q_ret (t := .dat .none) e_non ⟨rfl, rfl⟩

/-! ### what may be an order -/
def okItem (d : PyData) : Prop := (∀ kv, d ≠ .dict kv) ∧ (isSeq d = true → (unL d).length ≤ 1000 ∧ ∀ y ∈ unL d, (isBel 5 y).isSome = true)
def okVal (d : PyData) : Prop := (∀ kv, d ≠ .dict kv) ∧ (isSeq d = true → (unL d).length ≤ 1000 ∧ ∀ y ∈ unL d, okItem y)
def isNumRow (d : PyData) : Bool := isSeq d && (decide ((unL d).length = 3) && (unL d).all fun y => (isBel 5 y).getD false)
theorem seq_dS {d : PyData} (h : isSeq d = true) : ∃ k, d = dS k (unL d) := by
  cases d with
  | list xs => exact ⟨false, rfl⟩
  | tuple xs => exact ⟨true, rfl⟩
  | none => cases h
  | bool _ => cases h
  | int _ => cases h
  | str _ => cases h
  | dict _ => cases h
def c_is_number_row : Ct := fun ts P => ∃ d, okItem d ∧ ts = [.dat d, .dat (cR.e [5, 5, 5])] ∧ P = is (.dat (.bool (isNumRow d)))
theorem ca_is_number_row {f : Addr} {fd : FuncData} (T : Bi K mg) (F : Fun K "is_number_row" "is_number_row" s_is_number_row f fd) (hm : mg "is_number_row" = some (.ref f)) (hb : Binds K fd ["value", "bounds"] []) (D1 : Ca P w K mg base 1 "is_sequence" c_is_sequence) (D2 : Ca P w K mg base 3 "is_below" c_is_below) : Ca P w K mg base 4 "is_number_row" c_is_number_row := by
  refine ca_mk F sc_is_number_row hm hb (fun ts P ⟨_, _, h, _⟩ => by rw [h]; rfl) (fun cdv A outer s H E hr B ts Pr cc => ?_)
  obtain ⟨d, ok, rfl, rfl⟩ := cc
  have nd := sc_is_number_row.nd
  cases hs : isSeq d with
  | false =>
    have e : isNumRow d = false := by unfold isNumRow; rw [hs]; rfl
    rw [e]
    refine q_ifRet (k := true) (t_bool (w_or (x := true) (y := false) (t_not (x := false) (t_val (EV.eq (e_callD D1 hr (as_cons (e_dat 0) as_nil) ⟨d, rfl, ok.1, rfl⟩) (by rw [hs])))) (fun h => nomatch h))) (fun _ => q_ret (t := .dat (.bool false)) e_bl ⟨rfl, rfl⟩) (fun h => nomatch h)
  | true =>
    obtain ⟨k, hd⟩ := seq_dS hs
    obtain ⟨l1, l2⟩ := ok.2 hs
    generalize hds : unL d = ds at hd l1 l2
    have hseq : ∀ {X : Cx} {G : En} {B : Bs} {e : Expr}, EV X B G e d → EV X B G e (dS k ds) := fun h => EV.eq h hd
    refine q_ifRet (k := !decide (ds.length = 3)) (t_bool (w_or (x := false) (y := !decide (ds.length = 3)) (t_not (x := true) (t_val (EV.eq (e_callD D1 hr (as_cons (e_dat 0) as_nil) ⟨d, rfl, ok.1, rfl⟩) (by rw [hs])))) fun _ => w_or1 (t_ne (q := ds.length = 3) (u64 hr) (e_lenS k T.len (hseq (e_dat 0))) (e_lenT T.len (e_dat 1)) (fl_int _) (fl_int _) (by
      rw [PyData.int.injEq]
      show (ds.length : Int) = ((3 : Nat) : Int) ↔ _
      omega)))) (fun ht => ?_) (fun hf => ?_)
    · have hne : ¬ ds.length = 3 := by simpa using ht
      have e : isNumRow d = false := by unfold isNumRow; rw [hs, hds, decide_eq_false hne]; rfl
      rw [e]
      exact q_ret (t := .dat (.bool false)) e_bl ⟨rfl, rfl⟩
    · have h3 : ds.length = 3 := by simpa using hf
      have e : isNumRow d = ((zpP ds ([5, 5, 5] : List Int)).all fun z => (isBel z.2 z.1).getD false) := by
        unfold isNumRow
        rw [hs, hds, decide_eq_true h3]
        match ds, h3 with
        | [a, b, c], _ => simp [zpP]
      rw [e]
      refine q_ret (t := .dat (.bool ((zpP ds ([5, 5, 5] : List Int)).all fun z => (isBel z.2 z.1).getD false))) (e_allM (xs := zpP ds ([5, 5, 5] : List Int)) (cPr cD cI) (.two 2 3) [("number", 2), ("most", 3)] (fun z => (isBel z.2 z.1).getD false) T.all (by
        rw [← zpD_eq]
        have em : ds.map cD.e = ds := List.map_id ds
        rw [em]
        exact i_zip k true T.zip (hseq (e_dat 0)) (e_dat 1)) (fun _ _ _ _ _ => g_two 2 3 rfl nd) (fun s' H' C cl fp B' z hz => ?_) (fun _ _ => ⟨_, _, rfl⟩) (by unfold zpP; rw [List.length_zip]; omega) (blkOk_by (N := n_is_number_row) (sc := defScope s_is_number_row) (by decide +kernel)) nd) ⟨rfl, rfl⟩
      have z1 : z.1 ∈ ds := (List.of_mem_zip hz).1
      have z2 : z.2 = 5 := by
        have := (List.of_mem_zip hz).2
        simpa using this
      have hsome := l2 z.1 z1
      rw [← z2] at hsome
      obtain ⟨b, hbb⟩ := Option.isSome_iff_exists.mp hsome
      exact e_callD D2 hr (as_cons (e_dat 2) (as_cons (e_dat 3) as_nil)) ⟨z.1, z.2, b, rfl, hbb, by rw [hbb]; rfl⟩
def tupK (d : PyData) : Option (List Int) := if isNumRow d = true then some ((unL d).map unI) else none
def optD : Option (List Int) → PyData
  | some k => cR.e k
  | none => .none
theorem ints_of_bel : ∀ {ds : List PyData}, (∀ y ∈ ds, (isBel 5 y).getD false = true) → ds = (ds.map unI).map .int
  | [], _ => rfl
  | d :: ds, h => by
    have h1 := h d List.mem_cons_self
    have h2 := ints_of_bel (ds := ds) fun y hy => h y (List.mem_cons_of_mem _ hy)
    rw [List.map_cons, List.map_cons, ← h2]
    cases d <;> first | rfl | (simp [isBel] at h1)
def c_tuple_of : Ct := fun ts P => ∃ d, okItem d ∧ ts = [.dat d] ∧ P = is (.dat (optD (tupK d)))
theorem ca_tuple_of {f : Addr} {fd : FuncData} (T : Bi K mg) (F : Fun K "tuple_of" "tuple_of" s_tuple_of f fd) (hm : mg "tuple_of" = some (.ref f)) (hb : Binds K fd ["value"] []) (D1 : Ca P w K mg base 4 "is_number_row" c_is_number_row) : Ca P w K mg base 5 "tuple_of" c_tuple_of := by
  refine ca_mk F sc_tuple_of hm hb (fun ts P ⟨_, _, h, _⟩ => by rw [h]; rfl) (fun cdv A outer s H E hr B ts Pr cc => ?_)
  obtain ⟨d, ok, rfl, rfl⟩ := cc
  refine q_ret (t := .dat (optD (tupK d))) (e_if (x := isNumRow d) (t_val (e_callD D1 hr (as_cons (e_dat 0) (as_cons (e_tup (ds := [.int 5, .int 5, .int 5]) (vs_cons e_int (vs_cons e_int (vs_cons e_int vs_nil))) (by simp)) as_nil)) ⟨d, ok, rfl, rfl⟩)) (fun h => ?_) (fun h => ?_)) ⟨rfl, rfl⟩
  · have e : optD (tupK d) = .tuple (unL d) := by
      have hn := h
      unfold isNumRow at hn
      simp only [Bool.and_eq_true, List.all_eq_true] at hn
      unfold tupK
      rw [if_pos h]
      show PyData.tuple (((unL d).map unI).map .int) = _
      rw [← ints_of_bel hn.2.2]
    rw [e]
    have hs : isSeq d = true := by
      unfold isNumRow at h
      simp only [Bool.and_eq_true] at h
      exact h.1
    obtain ⟨k, hd⟩ := seq_dS hs
    cases k with
    | true => exact e_tupT T.tuple (EV.eq (e_dat 0) hd)
    | false => exact e_tupL T.tuple (EV.eq (e_dat 0) hd)
  · have e : optD (tupK d) = .none := by
      unfold tupK
      rw [if_neg (by rw [h]; decide)]
      rfl
    rw [e]
    exact e_non
end
end Mk
namespace Mk
open PySem PySem.Spec PyProof.Rows L2
section
variable {P : Program} {w : World} {K : PySem.W.Frag} {mg : Str → Option Value} {base : Heap} {C : Addr}
def orderK (ks : List (List Int)) (d : PyData) : Option (List (List Int)) :=
  if isSeq d = true ∧ (unL d).length = ks.length ∧ (unL d).all isSeq = true then (if none ∈ (unL d).map tupK then none else if sortR (((unL d).map tupK).filterMap id) = ks then some (((unL d).map tupK).filterMap id) else none) else none
def optO : Option (List (List Int)) → PyData
  | some t => cO.e t
  | none => .none
theorem tupK_len {d : PyData} {k : List Int} (h : tupK d = some k) : k.length = 3 := by
  unfold tupK at h
  split at h
  · rename_i hn
    unfold isNumRow at hn
    simp only [Bool.and_eq_true, decide_eq_true_eq] at hn
    cases h
    rw [List.length_map]
    exact hn.2.1
  · cases h
theorem optD_fl (o : Option (List Int)) : Fl 1 (optD o) := by
  cases o with
  | none => exact fl_non.mono (by decide)
  | some k => exact fl_cR k
theorem eqv_non (o : Option (List Int)) : PyData.eqv (optD o) .none = decide (o = none) := by
  cases o with
  | none => simp [optD, PyData.eqv]
  | some k => simp [optD, PyData.eqv]
theorem somes : ∀ {tk : List (Option (List Int))}, none ∉ tk → tk = (tk.filterMap id).map some
  | [], _ => rfl
  | some k :: tk, h => by
    have := somes (tk := tk) fun z => h (List.mem_cons_of_mem _ z)
    rw [List.filterMap_cons_some (by rfl), List.map_cons, ← this]
  | none :: tk, h => absurd List.mem_cons_self h
def c_order_of (C : Addr) : Ct := fun ts P => ∃ (cs : List Int) (k : PyData) (d : PyData), cs.length ≤ 4 ∧ (∀ c ∈ cs, 0 ≤ c ∧ c ≤ 4) ∧ okVal d ∧ ts = [.bk C (cR.e cs) k, .dat d] ∧ P = is (.dat (optO (orderK (kinds cs) d)))
theorem ca_order_of {f : Addr} {fd : FuncData} (T : Bi K mg) (F : Fun K "order_of" "order_of" s_order_of f fd) (hm : mg "order_of" = some (.ref f)) (hb : Binds K fd ["book", "value"] []) (D1 : Ca P w K mg base 1 "is_sequence" c_is_sequence) (D2 : Ca P w K mg base 1 "kinds_of" (c_kinds_of C)) (D3 : Ca P w K mg base 5 "tuple_of" c_tuple_of) : Ca P w K mg base 6 "order_of" (c_order_of C) := by
  refine ca_mk F sc_order_of hm hb (fun ts P ⟨_, _, _, _, _, _, h, _⟩ => by rw [h]; rfl) (fun cdv A outer s H E hr B ts Pr cc => ?_)
  obtain ⟨cs, kk, d, c4, cv, ok, rfl, rfl⟩ := cc
  have nd := sc_order_of.nd
  refine q_asg (t := .dat (cO.e (kinds cs))) 2 (e_callD D2 hr (as_cons (e_bk 0) as_nil) ⟨cs, kk, c4, cv, rfl, rfl⟩) ?_ nd
  cases hs : isSeq d with
  | false =>
    have e : orderK (kinds cs) d = none := by unfold orderK; rw [if_neg (fun z => by rw [hs] at z; cases z.1)]
    rw [e]
    exact q_ifRet (k := true) (t_bool (w_or (x := true) (y := false) (t_not (x := false) (t_val (EV.eq (e_callD D1 hr (as_cons (e_dat 1) as_nil) ⟨d, rfl, ok.1, rfl⟩) (by rw [hs])))) (fun h => nomatch h))) (fun _ => q_ret (t := .dat .none) e_non ⟨rfl, rfl⟩) (fun h => nomatch h)
  | true =>
    obtain ⟨k, hd⟩ := seq_dS hs
    obtain ⟨l1, l2⟩ := ok.2 hs
    generalize hds : unL d = ds at hd l1 l2
    have hseq : ∀ {X : Cx} {G : En} {B : Bs} {e : Expr}, EV X B G e d → EV X B G e (dS k (ds.map cD.e)) := fun h => EV.eq h (by rw [hd]; show dS k ds = dS k (ds.map id); rw [List.map_id])
    have hseq2 : ∀ {X : Cx} {G : En} {B : Bs} {e : Expr}, EV X B G e d → EV X B G e (dS k ds) := fun h => EV.eq h hd
    refine q_ifRet (k := !decide (ds.length = (kinds cs).length) || !(ds.all isSeq)) (t_bool (w_or (x := false) (y := !decide (ds.length = (kinds cs).length) || !(ds.all isSeq)) (t_not (x := true) (t_val (EV.eq (e_callD D1 hr (as_cons (e_dat 1) as_nil) ⟨d, rfl, ok.1, rfl⟩) (by rw [hs])))) fun _ => w_or (t_ne (q := ds.length = (kinds cs).length) (u64 hr) (e_lenS k T.len (hseq2 (e_dat 1))) (e_lenT T.len (e_dat 2)) (fl_int _) (fl_int _) (by
        rw [PyData.int.injEq, List.length_map]
        omega)) fun _ => w_or1 (t_not (t_val (e_allM (xs := ds) cD (.one 4) [("kind", 4)] isSeq T.all (i_dS k (hseq (e_dat 1))) (fun _ _ _ _ _ => g_one 4 nd) (fun s' H' C cl fp B' y hy => e_callD D1 hr (as_cons (e_dat 4) as_nil) ⟨y, rfl, (l2 y hy).1, rfl⟩) (fun _ _ => trivial) (by omega) (blkOk_by (N := n_order_of) (sc := defScope s_order_of) (by decide +kernel)) nd))))) (fun ht => ?_) (fun hf => ?_)
    · have e : orderK (kinds cs) d = none := by
        unfold orderK
        rw [if_neg]
        rintro ⟨_, a, b⟩
        rw [hds] at a b
        rw [decide_eq_true a, b] at ht
        cases ht
      rw [e]
      exact q_ret (t := .dat .none) e_non ⟨rfl, rfl⟩
    · obtain ⟨hlen, hall⟩ : ds.length = (kinds cs).length ∧ ds.all isSeq = true := by
        rw [Bool.or_eq_false_iff] at hf
        exact ⟨by simpa using hf.1, by simpa using hf.2⟩
      have e : orderK (kinds cs) d = if none ∈ ds.map tupK then none else if sortR ((ds.map tupK).filterMap id) = kinds cs then some ((ds.map tupK).filterMap id) else none := by
        unfold orderK
        rw [hds, if_pos ⟨hs, hlen, hall⟩]
      rw [e]
      have hmap : ds.map (fun y => optD (tupK y)) = (ds.map tupK).map optD := by rw [List.map_map]; rfl
      refine q_asg (t := .dat (.tuple ((ds.map tupK).map optD))) 3 (EV.eq (e_tupL T.tuple (e_mapM (xs := ds) cD (.one 4) [("kind", 4)] (fun y => optD (tupK y)) (i_dS k (hseq (e_dat 1))) (fun _ _ _ _ _ => g_one 4 nd) (fun s' H' C cl fp B' y hy => e_callD D3 hr (as_cons (e_dat 4) as_nil) ⟨y, l2 y hy, rfl, rfl⟩) (fun _ _ => trivial) (by omega) (blkOk_by (N := n_order_of) (sc := defScope s_order_of) (by decide +kernel)) nd)) (by rw [hmap])) ?_ nd
      have tl : ∀ t ∈ (ds.map tupK).filterMap id, t ≠ [] := fun t ht z => by
        obtain ⟨o, ho, h2⟩ := List.mem_filterMap.mp ht
        have h2' : o = some t := h2
        obtain ⟨y, _, hy⟩ := List.mem_map.mp ho
        have := tupK_len (hy.trans h2')
        rw [z] at this
        simp at this
      generalize htk : ds.map tupK = tk at tl
      have hin : ((tk.map optD).any fun z => PyData.eqv z .none) = decide (none ∈ tk) := by
        refine bool_of ?_
        rw [List.any_eq_true]
        constructor
        · rintro ⟨z, hz, q⟩
          obtain ⟨o, ho, rfl⟩ := List.mem_map.mp hz
          rw [eqv_non] at q
          rw [of_decide_eq_true q] at ho
          exact ho
        · intro h
          exact ⟨optD none, List.mem_map.mpr ⟨none, h, rfl⟩, by rw [eqv_non]; rfl⟩
      have fltk : Fl 2 (.tuple (tk.map optD)) := fl_tup fun d hd => by
        obtain ⟨o, _, rfl⟩ := List.mem_map.mp hd
        exact optD_fl o
      refine q_ret (t := .dat (optO (if none ∈ tk then none else if sortR (tk.filterMap id) = kinds cs then some (tk.filterMap id) else none))) (e_if (x := decide (none ∈ tk) || !decide (sortR (tk.filterMap id) = kinds cs)) (t_bool (w_or (t_inT (k := decide (none ∈ tk)) (u65 hr) e_non (e_dat 3) fl_non fltk hin) fun hn => w_or1 (t_neM cO fl_cO (u64 hr) (e_tupL T.tuple (e_frz (e_sortR (bs := tk.filterMap id) true hr T.sorted (EV.eq (e_dat 3) ?_) (.inl tl)))) (e_dat 2)))) (fun h => ?_) (fun h => ?_)) ⟨rfl, rfl⟩
      · have hs' := somes (of_decide_eq_false hn)
        show PyData.tuple (tk.map optD) = PyData.tuple ((tk.filterMap id).map cR.e)
        conv => lhs; rw [hs', List.map_map]
        rfl
      · have e2 : (if none ∈ tk then none else if sortR (tk.filterMap id) = kinds cs then some (tk.filterMap id) else none) = none := by
          by_cases a : none ∈ tk
          · rw [if_pos a]
          · rw [if_neg a]
            by_cases b : sortR (tk.filterMap id) = kinds cs
            · rw [decide_eq_false a, decide_eq_true b] at h
              cases h
            · rw [if_neg b]
        rw [e2]
        exact e_non
      · rw [Bool.or_eq_false_iff] at h
        have a := of_decide_eq_false h.1
        have b : sortR (tk.filterMap id) = kinds cs := by simpa using h.2
        rw [if_neg a, if_pos b]
        refine EV.eq (e_dat 3) ?_
        have hs' := somes a
        show PyData.tuple (tk.map optD) = PyData.tuple ((tk.filterMap id).map cR.e)
        conv => lhs; rw [hs', List.map_map]
        rfl
end
end Mk
namespace Mk
open PySem PySem.Spec PyProof.Rows L2
/-! ### [.. for x in rows for y in rows] over a tuple that stands in a place -/
section
variable {X : Cx} {B : Bs} {G : En} {elt tg tg1 iter : Expr} {scope : Scope} {pos spos py p1 : Pos} {y : Str} {p : Po} {rest : List Stmt}
theorem aside_any {G : En} {vs : List Nat} : aside (wipeG G vs) vs = true := by
  unfold aside
  rw [List.all_eq_true]
  intro j hj
  have wipe_any : ∀ vs : List Nat, j ∈ vs → ∀ u, (wipeG G vs)[j]? = some u → u = .any := fun vs => by
    induction vs with
    | nil => intro h; simp at h
    | cons v vs ih =>
      intro h u e
      have e' : ((wipeG G vs).set v .any)[j]? = some u := e
      by_cases z : v = j
      · subst z
        by_cases l : v < (wipeG G vs).length
        · rw [List.getElem?_set_self l] at e'
          cases e'
          rfl
        · rw [List.getElem?_eq_none (by simp; omega)] at e'
          cases e'
      · rw [List.getElem?_set_ne z] at e'
        rcases List.mem_cons.mp h with h | h
        · exact absurd h.symm z
        · exact ih h u e'
  cases q : (wipeG G vs)[j]? with
  | none => rfl
  | some u =>
    rw [wipe_any vs hj u q]
    rfl
theorem set_owned {G : En} {i j : Nat} {d : PyData} {t : Sl} (h : (G.set i (.dat d))[j]? = some t) (o : t.owned = true) : i ≠ j ∧ G[j]? = some t := by
  by_cases z : i = j
  · subst z
    by_cases l : i < G.length
    · rw [List.getElem?_set_self l] at h
      cases h
      cases o
    · rw [List.getElem?_eq_none (by simp; omega)] at h
      cases h
  · rw [List.getElem?_set_ne z] at h
    exact ⟨z, h⟩
theorem wipe_owned {G : En} {vs : List Nat} {j : Nat} {t : Sl} (h : (wipeG G vs)[j]? = some t) (o : t.owned = true) : j ∉ vs ∧ G[j]? = some t := by
  by_cases z : j ∈ vs
  · have := aside_no (aside_any (G := G) (vs := vs)) h o
    exact absurd z this
  · rw [wipeG_other z] at h
    exact ⟨z, h⟩
theorem lc2_read {β : Type} (c : Cod β) {xs : List β} (ri i1 i2 : Nat) (own : List (Str × Nat)) (vs1 : List Nat) (v : β → β → PyData) (hv1 : vs1 = [i2]) (hown : own.map (·.2) = [i1, i2]) (h12 : i1 ≠ i2) (hr1 : ri ≠ i1) (hr2 : ri ≠ i2) (hri : G[ri]? = some (.dat (.tuple (xs.map c.e))))
    (has : aside G (own.map (·.2)) = true) (hz : xs.length ≤ 100) {s : L2.St} {H : Hp} {Q : VK}
    (h : tE B G (is (.own (xs.flatMap fun x => xs.map (v x)))) s H Q) :
    tLc2 (tI B G (is (xs.map c.e))) ((Tg.one i1).g X.K) (fun s H Q => ∃ B' : Bs, ∃ x ∈ xs, tT B' ((wipeG G [i1, i2]).set i1 (.dat (c.e x))) (is true) s H Q) (iTup X.K (tVar ri)) ((Tg.one i2).g X.K)
      (fun s H Q => ∃ B' : Bs, ∃ x ∈ xs, ∃ y ∈ xs, tT B' ((wipeG ((wipeG G [i1, i2]).set i1 (.dat (c.e x))) [i2]).set i2 (.dat (c.e y))) (is true) s H Q)
      (fun s H Q => ∃ B' : Bs, ∃ x ∈ xs, ∃ y ∈ xs, tE B' ((wipeG ((wipeG G [i1, i2]).set i1 (.dat (c.e x))) [i2]).set i2 (.dat (c.e y))) (is (.dat (v x y))) s H Q) (own.map (·.2)) vs1 s H Q := by
  subst hv1
  rw [hown] at has ⊢
  obtain ⟨F, g, w, q⟩ := h
  refine ⟨F, g, w, fun ds J F1 H1 pd g1 e1 w1 wk => fun D hD => ?_⟩
  have edl : ds.length = xs.length := by rw [show ds = _ from pd, List.length_map]
  have hFD : F1 D = none := g1.h.free hD
  have hMD : B.M D = none := g1.m.free hD
  have hBF : B.F D = none := g1.f.free hFD
  have ap : ∀ (i : Nat) (t : Sl) (a : Addr), G[i]? = some t → t.owned = true → s[i]?.join = some (V.ref a) → a ≠ D := fun i t a e o k z => Sat.apart w1 hD i t a e o k z
  have setD : ∀ {F2 H2 : Hp} {acc : List V} {es : List PyData} {u : V} {d : PyData}, Good B F2 H2 → F2 D = none → Rp F2 u d → Rps F2 acc es → Sat B F2 H2 s G → Good B F2 (upd H2 D (.lst (acc ++ [u]))) ∧ Sat B F2 (upd H2 D (.lst (acc ++ [u]))) s G := fun {F2 H2 acc es u d} g2 fD ru ra w2 => by
    refine ⟨⟨g2.f, fun b x q => ?_, fun b x q => ?_, g2.n⟩, ?_⟩
    · have z : b ≠ D := fun z => by rw [z, fD] at q; cases q
      rw [upd_ne z]
      exact g2.h _ _ q
    · have z : b ≠ D := fun z => by rw [z, hMD] at q; cases q
      rw [upd_ne z]
      exact g2.m _ _ q
    · obtain ⟨ad, w0⟩ := w2
      refine ⟨ad, w0.len, fun j t ej => (w0.ok j t ej).go (Same.refl _) fun o => ⟨?_, ((w0.ok j t ej).here o).2.1⟩, w0.inj⟩
      exact upd_ne (ap j t _ ej o ((w0.ok j t ej).here o).1)
  let OB : Nat → List PyData := fun i => (xs.take i).flatMap fun x => xs.map (v x)
  have flen : ∀ i, (OB i).length ≤ 100 * 100 := fun i => by
    have h1 : (OB i).length ≤ xs.length * (xs.take i).length := flat_len fun x _ => by rw [List.length_map]; exact Nat.le_refl _
    have h2 := List.length_take_le' i xs
    exact Nat.le_trans h1 (Nat.mul_le_mul hz (Nat.le_trans h2 hz))
  refine ⟨fun i m H' => m = ds.length - i ∧ i ≤ ds.length ∧ ∃ F' acc, Good B F' H' ∧ Same F1 F' ∧ Sat B F' H' s G ∧ H' D = some (.lst acc) ∧ F' D = none ∧ Rps F' acc (OB i), ⟨ds.length, by simp, Nat.zero_le _, F1, [], g1.grow (Grow.loose g1.h hD), Same.refl _, w1.grow (Grow.loose g1.h hD), upd_same, hFD, .nil⟩, ?_⟩
  rintro i m H' ⟨rfl, hle, F', acc, g', e', w', hD', hFD', rp⟩
  by_cases hlt : i < ds.length
  · refine .inr ⟨wk.goes i F' H' e' g' hlt, fun H2 => ∃ F2 acc, Good B F2 H2 ∧ Same F1 F2 ∧ Sat B F2 H2 s G ∧ H2 D = some (.lst acc) ∧ F2 D = none ∧ Rps F2 acc (OB (i + 1)), fun H2 ⟨F2, a2, r2, r3, r4, r5, r6, r7⟩ => ⟨ds.length - (i + 1), by omega, rfl, hlt, F2, a2, r2, r3, r4, r5, r6, r7⟩, fun z H2 yy => ?_⟩
    obtain ⟨F2, d, hd, gr, r⟩ := wk.yld i F' H' z H2 e' g' hlt yy
    rw [show ds = _ from pd] at hd
    obtain ⟨x, hx, rfl⟩ := get_map hd
    have hxm := List.mem_of_getElem? hx
    have g2 := g'.grow gr
    have w2 := w'.grow gr
    have hD2 : H2 D = some (.lst acc) := gr.h _ _ hD'
    have hFD2 : F2 D = none := by
      cases zz : F2 D with
      | none => rfl
      | some u =>
        have k := gr.n D u zz hFD'
        rw [hD'] at k
        rcases k with k | ⟨_, k⟩ <;> cases k
    -- the first name is stored
    let Ga : En := (wipeG G [i1, i2]).set i1 (.dat (c.e x))
    let sa : L2.St := (wipe s [i1, i2]).set i1 (some z)
    have wa : Sat B F2 H2 sa Ga := ((w2.wipe [i1, i2]).pushD r).set
    have gaOwn : ∀ (j : Nat) (t : Sl), Ga[j]? = some t → t.owned = true → G[j]? = some t ∧ sa[j]? = s[j]? := fun j t ej oj => by
      obtain ⟨n1, e2⟩ := set_owned ej oj
      obtain ⟨n2, e3⟩ := wipe_owned e2 oj
      refine ⟨e3, ?_⟩
      show ((wipe s [i1, i2]).set i1 (some z))[j]? = _
      rw [List.getElem?_set_ne n1, wipe_at, if_neg fun z => n2 z.1]
    have gOwn : ∀ (j : Nat) (t : Sl), G[j]? = some t → t.owned = true → Ga[j]? = some t ∧ sa[j]? = s[j]? := fun j t ej oj => by
      have nj := aside_no has ej oj
      have n1 : i1 ≠ j := fun z => nj (by rw [← z]; simp)
      refine ⟨?_, ?_⟩
      · show ((wipeG G [i1, i2]).set i1 (.dat (c.e x)))[j]? = _
        rw [List.getElem?_set_ne n1, wipeG_other nj]
        exact ej
      · show ((wipe s [i1, i2]).set i1 (some z))[j]? = _
        rw [List.getElem?_set_ne n1, wipe_at, if_neg fun z => nj z.1]
    have apa : ∀ (j : Nat) (t : Sl) (a : Addr), Ga[j]? = some t → t.owned = true → sa[j]?.join = some (V.ref a) → a ≠ D := fun j t a ej oj k => by
      obtain ⟨h1, h2⟩ := gaOwn j t ej oj
      rw [h2] at k
      exact ap j t a h1 oj k
    have backA : ∀ {F3 H3 : Hp}, Same F2 F3 → Sat B F3 H3 sa Ga → Sat B F3 H3 s G := fun {F3 H3} e3 w3 => Sat.back w2 w3 e3 fun j t ej oj => by
      obtain ⟨h1, h2⟩ := gOwn j t ej oj
      exact ⟨h1, by rw [h2]⟩
    have toA : ∀ {F3 H3 : Hp}, Same F2 F3 → Sat B F3 H3 s G → Sat B F3 H3 sa Ga := fun {F3 H3} e3 w3 => Sat.back wa w3 e3 fun j t ej oj => by
      obtain ⟨h1, h2⟩ := gaOwn j t ej oj
      exact ⟨h1, by rw [h2]⟩
    show (wipe sa [i1, i2] = wipe s [i1, i2]) ∧ _
    refine ⟨Stores.wipe (l := [i1]) (.cons z (.nil _)) (by simp), B.plus D (.lst acc), x, hxm, F2, g2.plus hD2 hFD2, wa.plus apa, fun b F3 H3 tb g3 e3 w3' => ?_⟩
    rw [show b = true from tb]
    obtain ⟨g3', hD3, hFD3⟩ := g3.minus hMD
    have w3 := Sat.minus w3'
    refine iteT ?_
    -- the tuple walked again
    have rag : Ga[ri]? = some (.dat (.tuple (xs.map c.e))) := by
      show ((wipeG G [i1, i2]).set i1 (.dat (c.e x)))[ri]? = _
      rw [List.getElem?_set_ne (Ne.symm hr1), wipeG_other (by simp; exact ⟨hr1, hr2⟩)]
      exact hri
    obtain ⟨tv, htv, rtv⟩ := w3.dat rag
    cases rtv with
    | @tup ta tvs _ ht rt =>
    refine ⟨.ref ta, htv, ta, rfl, ⟨tvs, SqT.of (g3'.h _ _ ht)⟩, ?_⟩
    have sG3 : Sat B F3 H3 s G := backA e3 w3
    refine ⟨fun j k H' => k = xs.length - j ∧ j ≤ xs.length ∧ ∃ F' acc, Good B F' H' ∧ Same F3 F' ∧ Sat B F' H' s G ∧ H' D = some (.lst acc) ∧ F' D = none ∧ Rps F' acc (OB i ++ (xs.take j).map (v x)), ⟨xs.length, by simp, Nat.zero_le _, F3, acc, g3', Same.refl _, sG3, hD3, hFD3 hBF, by simpa using rp.mono (gr.f.trans e3)⟩, ?_⟩
    rintro j k H4 ⟨rfl, hj, F4, acc4, g4, e4, w4, hD4, hFD4, rp4⟩
    have tl : tvs.length = xs.length := by rw [rt.length, List.length_map]
    by_cases hjl : j < xs.length
    · have hjt : j < tvs.length := by omega
      refine .inr ⟨⟨tvs, tvs[j], SqT.of (g4.h _ _ (e4 _ _ ht)), List.getElem?_eq_getElem hjt⟩, fun H5 => ∃ F5 acc, Good B F5 H5 ∧ Same F3 F5 ∧ Sat B F5 H5 s G ∧ H5 D = some (.lst acc) ∧ F5 D = none ∧ Rps F5 acc (OB i ++ (xs.take (j + 1)).map (v x)), fun H5 ⟨F5, a5, r2, r3, r4, r5, r6, r7⟩ => ⟨xs.length - (j + 1), by omega, rfl, hjl, F5, a5, r2, r3, r4, r5, r6, r7⟩, fun z2 H5 yy2 => ?_⟩
      obtain ⟨rfl, yy2⟩ := yy2
      obtain ⟨d2, hd2, r2⟩ := rt.get (yy2 tvs (SqT.of (g4.h _ _ (e4 _ _ ht))))
      obtain ⟨y2, hy2, rfl⟩ := get_map hd2
      have hym := List.mem_of_getElem? hy2
      have r2' := r2.mono e4
      have w5 := toA (e3.trans e4) w4
      let Gb : En := (wipeG Ga [i2]).set i2 (.dat (c.e y2))
      let sb : L2.St := (wipe sa [i2]).set i2 (some z2)
      have wb : Sat B F4 H5 sb Gb := ((w5.wipe [i2]).pushD r2').set
      have gbOwn : ∀ (j : Nat) (t : Sl), Gb[j]? = some t → t.owned = true → G[j]? = some t ∧ sb[j]? = s[j]? := fun j t ej oj => by
        obtain ⟨n1, e2⟩ := set_owned ej oj
        obtain ⟨n2, e3⟩ := wipe_owned e2 oj
        obtain ⟨h1, h2⟩ := gaOwn j t e3 oj
        refine ⟨h1, ?_⟩
        show ((wipe sa [i2]).set i2 (some z2))[j]? = _
        rw [List.getElem?_set_ne n1, wipe_at, if_neg fun z => n2 z.1, h2]
      have gOwnb : ∀ (j : Nat) (t : Sl), G[j]? = some t → t.owned = true → Gb[j]? = some t ∧ sb[j]? = s[j]? := fun j t ej oj => by
        obtain ⟨h1, h2⟩ := gOwn j t ej oj
        have nj := aside_no has ej oj
        have n2 : i2 ≠ j := fun z => nj (by rw [← z]; simp)
        have n3 : j ∉ [i2] := by simp; exact fun z => n2 z.symm
        refine ⟨?_, ?_⟩
        · show ((wipeG Ga [i2]).set i2 (.dat (c.e y2)))[j]? = _
          rw [List.getElem?_set_ne n2, wipeG_other n3]
          exact h1
        · show ((wipe sa [i2]).set i2 (some z2))[j]? = _
          rw [List.getElem?_set_ne n2, wipe_at, if_neg fun z => n3 z.1, h2]
      have apb : ∀ (j : Nat) (t : Sl) (a : Addr), Gb[j]? = some t → t.owned = true → sb[j]?.join = some (V.ref a) → a ≠ D := fun j t a ej oj k => by
        obtain ⟨h1, h2⟩ := gbOwn j t ej oj
        rw [h2] at k
        exact ap j t a h1 oj k
      show (wipe sb [i2] = wipe sa [i2]) ∧ _
      refine ⟨Stores.wipe (l := [i2]) (.cons z2 (.nil _)) (by simp), B.plus D (.lst acc4), x, hxm, y2, hym, F4, g4.plus hD4 hFD4, wb.plus apb, fun b6 F6 H6 tb6 g6 e6 w6 => ?_⟩
      rw [show b6 = true from tb6]
      refine iteT ⟨B.plus D (.lst acc4), x, hxm, y2, hym, F6, g6, w6, fun u t F7 H7 pt g7 e7 w7 => ?_⟩
      rw [show t = Sl.dat (v x y2) from pt] at w7
      obtain ⟨g7', hD7, hFD7⟩ := g7.minus hMD
      have w7m := Sat.minus w7
      have fD := hFD7 hBF
      have ru : Rp F7 u (v x y2) := w7m.topI rfl
      have al : acc4.length = (OB i ++ (xs.take j).map (v x)).length := rp4.length
      have al2 : acc4.length < sizeLine := by
        rw [al, List.length_append, List.length_map]
        have h1 := flen i
        have h2 := List.length_take_le' j xs
        exact Nat.lt_of_le_of_lt (by omega : _ ≤ 100000) (by decide)
      have w8 : Sat B F7 H7 s G := Sat.back w4 w7m.pop (e6.trans e7) fun j t ej oj => by
        obtain ⟨h1, h2⟩ := gOwnb j t ej oj
        exact ⟨h1, by rw [h2]⟩
      obtain ⟨g8, w9⟩ := setD g7' fD ru (rp4.mono (e6.trans e7)) w8
      refine ⟨acc4, hD7, al2, F7, acc4 ++ [u], g8, e4.trans (e6.trans e7), w9, upd_same, fD, ?_⟩
      have tk : (xs.take (j + 1)).map (v x) = (xs.take j).map (v x) ++ [v x y2] := by rw [List.take_add_one, hy2]; simp
      rw [tk, ← List.append_assoc]
      exact (rp4.mono (e6.trans e7)).snoc ru
    · have ej : j = xs.length := by omega
      subst ej
      refine .inl ⟨⟨tvs, SqT.of (g4.h _ _ (e4 _ _ ht)), by omega⟩, F4, acc4, g4, ((e'.trans gr.f).trans e3).trans e4, w4, hD4, hFD4, ?_⟩
      rw [List.take_length] at rp4
      have eo : OB (i + 1) = OB i ++ xs.map (v x) := flat_take hx
      rw [eo]
      exact rp4
  · have ei : i = ds.length := by omega
    subst ei
    refine .inl ⟨wk.stops F' H' e' g', ?_⟩
    have eo : OB ds.length = xs.flatMap fun x => xs.map (v x) := by
      show ((xs.take ds.length).flatMap fun x => xs.map (v x)) = _
      rw [edl, List.take_length]
    rw [eo] at rp
    refine q _ _ F' H' rfl g' (e1.trans e') ?_
    exact w'.pushO ⟨rfl, hFD', hMD, acc, hD', rp⟩ ap
end
end Mk
namespace Mk
open PySem PySem.Spec PyProof.Rows L2
section
variable {β : Type} {X : Cx} {B : Bs} {G : En} {elt tg tg1 : Expr} {scope : Scope} {pos spos py p1 p2 q1 q2 : Pos} {y n1 n2 nr : Str} {p : Po} {rest : List Stmt}
/-- name = [elt for n1 in rows for n2 in rows], name and rows plain -/
theorem q_lc2 (c : Cod β) {xs : List β} (i ri i1 i2 : Nat) (v : β → β → PyData) (h12 : i1 ≠ i2 := by decide) (hr1 : ri ≠ i1 := by decide) (hr2 : ri ≠ i2 := by decide) (hri : G[ri]? = some (.dat (.tuple (xs.map c.e))) := by rfl) (hz : xs.length ≤ 100)
    (he : ∀ (s : Shared) (H : Hp) (C : Addr) (cl : List (Str × Addr)) (fp : List Addr) (B' : Bs) (x : β), x ∈ xs → ∀ z ∈ xs, EV (X.blk s H scope (compEnvC scope cl C X.env) fp) B' ((wipeG ((wipeG G [i1, i2]).set i1 (.dat (c.e x))) [i2]).set i2 (.dat (c.e z))) elt (v x z))
    (k : SS X B (G.set i (.own (xs.flatMap fun x => xs.map (v x)))) rest p)
    (hg : ∀ (s : Shared) (H : Hp) (C : Addr) (cl : List (Str × Addr)) (fp : List Addr), PG (X.blk s H scope (compEnvC scope cl C X.env) fp) (.Name n1 q1) ((Tg.one i1).g X.K)) (hg1 : ∀ (s : Shared) (H : Hp) (C : Addr) (cl : List (Str × Addr)) (fp : List Addr), PG (X.blk s H scope (compEnvC scope cl C X.env) fp) (.Name n2 q2) ((Tg.one i2).g X.K))
    (hi1 : ∀ (s : Shared) (H : Hp) (C : Addr) (cl : List (Str × Addr)) (fp : List Addr), PI (X.blk s H scope (compEnvC scope cl C X.env) fp) (.Name n2 q2) (.Name nr p2) (iTup X.K (tVar ri)))
    (ok : BlkOk X.N X.env.scope scope [(n1, i1), (n2, i2)]) (hN : X.N.Nodup) (hiy : X.N[i]? = some y := by rfl) (hyl : X.env.scope.names.lookup y = some .local := by rfl) (hir : X.N[ri]? = some nr := by rfl) (hvr : Vis X.env.scope nr := by first | exact Or.inl rfl | exact Or.inr (Or.inl rfl) | exact Or.inr (Or.inr rfl)) (hd : (nr == ("__debug__" : Str)) = false := by decide) (hcd : (nr == ("__classdict__" : Str)) = false := by decide)
    (hsw : swapsWith (.ListComp elt [⟨.Name n1 q1, .Name nr p1, [], 0⟩, ⟨.Name n2 q2, .Name nr p2, [], 0⟩] scope pos) (some (.Name y py)) spos.line X.env = pure true := by exact sw_true rfl rfl rfl (by decide +kernel))
    (has : aside G [i1, i2] = true := by rfl) (hc : X.calm = true := by rfl) (hs : ∀ x, foldedSetIterable (.Name nr p1) X.env x = pure x := by intro _; rfl) (hs1 : ∀ env x, foldedSetIterable (.Name nr p2) env x = pure x := by intro _ _; rfl) :
    SS X B G (.Assign [.Name y py] (.ListComp elt [⟨.Name n1 q1, .Name nr p1, [], 0⟩, ⟨.Name n2 q2, .Name nr p2, [], 0⟩] scope pos) spos :: rest) p :=
  s_cons (Mid := is (G.set i (.own (xs.flatMap fun x => xs.map (v x))))) (PS.weak (ps_setLc2 (vs1 := [i2]) (tt := fun s H Q => ∃ B' : Bs, ∃ x ∈ xs, tT B' ((wipeG G [i1, i2]).set i1 (.dat (c.e x))) (is true) s H Q)
      (tt1 := fun s H Q => ∃ B' : Bs, ∃ x ∈ xs, ∃ y ∈ xs, tT B' ((wipeG ((wipeG G [i1, i2]).set i1 (.dat (c.e x))) [i2]).set i2 (.dat (c.e y))) (is true) s H Q)
      (te := fun s H Q => ∃ B' : Bs, ∃ x ∈ xs, ∃ y ∈ xs, tE B' ((wipeG ((wipeG G [i1, i2]).set i1 (.dat (c.e x))) [i2]).set i2 (.dat (c.e y))) (is (.dat (v x y))) s H Q)
      hc hN hiy hyl hsw (i_tup (e_dat ri hri hir hvr hd hcd)) ok (fun j hj => by simp at hj; simp [hj]) hg
      (fun s H C cl fp => ⟨fun pins s' σ H' Q I ⟨B', x, _, q⟩ => (ts_nil : ETs _ B' _ [] (is true)).run pins s' σ H' Q I q⟩) hi1 hg1
      (fun s H C cl fp => ⟨fun pins s' σ H' Q I ⟨B', x, _, y, _, q⟩ => (ts_nil : ETs _ B' _ [] (is true)).run pins s' σ H' Q I q⟩)
      (fun s H C cl fp => ⟨fun pins s' σ H' Q I ⟨B', x, hx, y, hy, q⟩ => (he s H C cl fp B' x hx y hy).run pins s' σ H' Q I q⟩) hs hs1)
    fun D s H ⟨F, g, w, q1, _⟩ => lc2_read c ri i1 i2 [(n1, i1), (n2, i2)] [i2] v rfl rfl h12 hr1 hr2 hri has hz ⟨F, g, w, fun u t F1 H1 pt g1 e1 w1 => by
      rw [show t = _ from pt] at w1
      exact q1 _ _ F1 H1 rfl g1 e1 w1.set⟩) fun G' h => by rw [show G' = _ from h]; exact k
end

/-! ### stages -/
def stStep (ps one other : List Int) (z : List (List Int × List Int × List Int) × List Int) (k : List Int) : List (List Int × List Int × List Int) × List Int := (z.1 ++ (lotsS (placesOf ps one other k)).map (fun l => (k, l, rowSet one other (z.2 ++ l))), z.2 ++ placesOf ps one other k)
def stagesP (ps one other : List Int) (o : List (List Int)) : List (List Int × List Int × List Int) := (o.foldl (stStep ps one other) ([], [])).1
theorem st_snd (ps one other : List Int) (o : List (List Int)) : (o.foldl (stStep ps one other) ([], [])).2 = wayAhead ps one other o := by
  refine snoc_ind (P := fun o => (o.foldl (stStep ps one other) ([], [])).2 = wayAhead ps one other o) rfl (fun o k ih => ?_) o
  rw [List.foldl_append]
  show (o.foldl (stStep ps one other) ([], [])).2 ++ placesOf ps one other k = _
  rw [ih, wayAhead_snoc]
/-- the rows are those of the way -/
theorem stages_mem (ps one other : List Int) (o : List (List Int)) (r : List Int) : (∃ z ∈ stagesP ps one other o, z.2.2 = r) ↔ r ∈ way ps one other o := by
  refine snoc_ind (P := fun o => (∃ z ∈ stagesP ps one other o, z.2.2 = r) ↔ r ∈ way ps one other o) (by simp [stagesP, way]) (fun o k ih => ?_) o
  have e : stagesP ps one other (o ++ [k]) = stagesP ps one other o ++ (lotsS (placesOf ps one other k)).map (fun l => (k, l, rowSet one other (wayAhead ps one other o ++ l))) := by
    unfold stagesP
    rw [List.foldl_append]
    show (o.foldl (stStep ps one other) ([], [])).1 ++ _ = _
    rw [st_snd]
  rw [way_snoc, List.mem_append, ← ih, e]
  constructor
  · rintro ⟨z, hz, rfl⟩
    rcases List.mem_append.mp hz with h | h
    · exact .inl ⟨z, h, rfl⟩
    · obtain ⟨l, hl, rfl⟩ := List.mem_map.mp h
      exact .inr (List.mem_map.mpr ⟨l, (lotsS_perm _).mem_iff.mp hl, rfl⟩)
  · rintro (⟨z, hz, rfl⟩ | h)
    · exact ⟨z, List.mem_append_left _ hz, rfl⟩
    · obtain ⟨l, hl, rfl⟩ := List.mem_map.mp h
      exact ⟨_, List.mem_append_right _ (List.mem_map.mpr ⟨l, (lotsS_perm _).mem_iff.mpr hl, rfl⟩), rfl⟩
theorem st_len (ps one other : List Int) (hp : ps.length ≤ 3) (o : List (List Int)) : (o.foldl (stStep ps one other) ([], [])).1.length ≤ 8 * o.length ∧ (o.foldl (stStep ps one other) ([], [])).2.length ≤ 3 * o.length := by
  suffices h : ∀ (z : List (List Int × List Int × List Int) × List Int), (o.foldl (stStep ps one other) z).1.length ≤ z.1.length + 8 * o.length ∧ (o.foldl (stStep ps one other) z).2.length ≤ z.2.length + 3 * o.length by
    simpa using h ([], [])
  induction o with
  | nil => intro z; simp
  | cons k o ih =>
    intro z
    obtain ⟨h1, h2⟩ := ih (stStep ps one other z k)
    have e1 : (lotsS (placesOf ps one other k)).length ≤ 8 := Nat.le_trans (lotsS_len _) (Nat.pow_le_pow_right (n := 2) (j := 3) (by decide) (Nat.le_trans (placesOf_len _ _ _ _) hp))
    have e2 := placesOf_len ps one other k
    simp only [stStep, List.length_append, List.length_map, List.foldl_cons, List.length_cons] at h1 h2 ⊢
    constructor <;> omega
section
variable {P : Program} {w : World} {K : PySem.W.Frag} {mg : Str → Option Value} {base : Heap} {C : Addr}
abbrev cSt : Cod (List Int × List Int × List Int) := cTr cR cR cR
def c_stages : Ct := fun ts P => ∃ (ps one other : List Int) (o : List (List Int)), ps.length ≤ 3 ∧ one.length = ps.length ∧ other.length = ps.length ∧ o.length ≤ 4 ∧ ts = [.dat (cR.e ps), .dat (cR.e one), .dat (cR.e other), .dat (cO.e o)] ∧ P = is (.dat (.list ((stagesP ps one other o).map cSt.e)))
theorem ca_stages {f : Addr} {fd : FuncData} (T : Bi K mg) (F : Fun K "stages" "stages" s_stages f fd) (hm : mg "stages" = some (.ref f)) (hb : Binds K fd ["columns", "one", "other", "ranking"] [])
    (D1 : Ca P w K mg base 1 "places_of" c_places_of) (D2 : Ca P w K mg base 1 "lots_set" c_lots_set) (D3 : Ca P w K mg base 1 "row_set" c_row_set) : Ca P w K mg base 2 "stages" c_stages := by
  refine ca_mk F sc_stages hm hb (fun ts P ⟨_, _, _, _, _, _, _, _, h, _⟩ => by rw [h]; rfl) (fun cdv A outer s H E hr B ts Pr c => ?_)
  obtain ⟨ps, one, other, o, h1, h2, h3, h4, rfl, rfl⟩ := c
  have nd := sc_stages.nd
  have small : ∀ i, ((o.take i).foldl (stStep ps one other) ([], [])).1.length ≤ 32 ∧ ((o.take i).foldl (stStep ps one other) ([], [])).2.length ≤ 12 := fun i => by
    have h := st_len ps one other h1 (o.take i)
    have := List.length_take_le' i o
    omega
  refine q_asg (t := .own (([] : List (List Int × List Int × List Int)).map cSt.e)) 4 (e_lstO (ds := []) vs_nil (by decide)) ?_ nd
  refine q_asg (t := .dat (cR.e [])) 5 (e_tup (ds := []) vs_nil (by decide)) ?_ nd
  refine q_forM (xs := o) cR (.one 6) (fun i => [.dat (cR.e ps), .dat (cR.e one), .dat (cR.e other), .dat (cO.e o), .own (((o.take i).foldl (stStep ps one other) ([], [])).1.map cSt.e), .dat (cR.e ((o.take i).foldl (stStep ps one other) ([], [])).2), .any, .any, .any]) ⟨.inr rfl, .inr rfl, .inr rfl, .inr rfl, .inr rfl, .inr rfl, .inr rfl, .inr rfl, .inr rfl, trivial⟩ (i_tup (e_dat 3)) (g_one 6 nd) (fun _ _ => trivial) (fun i k hk => ?_) ?_ PassesOwn.never
  · have e1 := placesOf_len ps one other k
    have e2 := lotsS_len (placesOf ps one other k)
    have e3 : 2 ^ (placesOf ps one other k).length ≤ 8 := Nat.pow_le_pow_right (n := 2) (j := 3) (by decide) (by omega)
    have sm := small i
    have tk : (o.take (i + 1)).foldl (stStep ps one other) ([], []) = stStep ps one other ((o.take i).foldl (stStep ps one other) ([], [])) k := fold_take hk
    generalize hz : (o.take i).foldl (stStep ps one other) ([], []) = z at sm tk
    refine q_asg (t := .dat (cR.e (placesOf ps one other k))) 7 (e_callD D1 hr (as_cons (e_dat 0) (as_cons (e_dat 1) (as_cons (e_dat 2) (as_cons (e_dat 6) as_nil)))) ⟨ps, one, other, k, by omega, h2, h3, rfl, rfl⟩) ?_ nd
    refine q_forM (xs := lotsS (placesOf ps one other k)) cR (.one 8) (fun j => [.dat (cR.e ps), .dat (cR.e one), .dat (cR.e other), .dat (cO.e o), .own ((z.1 ++ ((lotsS (placesOf ps one other k)).take j).map (fun l => (k, l, rowSet one other (z.2 ++ l)))).map cSt.e), .dat (cR.e z.2), .dat (cR.e k), .dat (cR.e (placesOf ps one other k)), .any]) ⟨.inr rfl, .inr rfl, .inr rfl, .inr rfl, .inr (by simp), .inr rfl, .inr rfl, .inr rfl, .inr rfl, trivial⟩ (i_list (e_callD D2 hr (as_cons (e_dat 7) as_nil) ⟨_, by omega, rfl, rfl⟩)) (g_one 8 nd) (fun _ _ => trivial) (fun j l hl => ?_) ?_ PassesOwn.never
    · have ll : l.length ≤ 3 := Nat.le_trans (lots_short (ps := placesOf ps one other k) l (lots_mem_up ((lotsS_perm _).mem_iff.mp (List.mem_of_getElem? hl)))) (by omega)
      have jl := List.length_take_le' j (lotsS (placesOf ps one other k))
      refine s_one (s_app (ds := (z.1 ++ ((lotsS (placesOf ps one other k)).take j).map (fun l => (k, l, rowSet one other (z.2 ++ l)))).map cSt.e) 4 (P := is (.dat (cSt.e (k, l, rowSet one other (z.2 ++ l))))) (e_tup (ds := [_, _, _]) (vs_cons (e_dat 6) (vs_cons (e_dat 8) (vs_cons (e_callD D3 hr (as_cons (e_dat 1) (as_cons (e_dat 2) (as_cons (EV.eq (e_catT (ds := z.2.map cI.e) (es := l.map cI.e) (e_dat 5) (e_dat 8) (by simp; omega)) (by rw [← List.map_append])) as_nil))) ⟨one, other, z.2 ++ l, by omega, by omega, by rw [List.length_append]; omega, rfl, rfl⟩) vs_nil))) (by simp)) (fun t ht => ⟨_, ht, .inr rfl, .inr rfl, .inr rfl, .inr rfl, .inr ?_, .inr rfl, .inr rfl, .inr rfl, .inl rfl, trivial⟩) (by simp; omega))
      show Sl.own _ = Sl.own _
      rw [List.take_add_one, hl]
      simp
    · rw [take_all]
      refine q_augT (ds := z.2.map cI.e) (es := (placesOf ps one other k).map cI.e) 5 (e_dat 7) (by simp; omega) (s_nil ⟨.inr rfl, .inr rfl, .inr rfl, .inr rfl, .inr ?_, .inr ?_, .inl rfl, .inl rfl, .inr rfl, trivial⟩) nd
      · rw [tk]
        rfl
      · rw [tk]
        show Sl.dat (.tuple (z.2.map cI.e ++ (placesOf ps one other k).map cI.e)) = Sl.dat (.tuple ((z.2 ++ placesOf ps one other k).map cI.e))
        rw [List.map_append]
  · rw [take_all]
    exact ss_frz 4 (q_ret (e_dat 4) ⟨rfl, rfl⟩)
end
end Mk
namespace Mk
open PySem PySem.Spec PyProof.Rows L2

/-! ### the hull by a stack of pairs -/
abbrev GSt := List (List Int) × List (List Int × List Int)
def morePairs (fd : List (List Int)) (r : List Int) : List (List Int × List Int) := (r, r) :: (fd.map fun k => (r, k)) ++ fd.map fun k => (k, r)
def gstep (z : GSt) (r : List Int) : GSt := if r ∈ z.1 then z else (z.1 ++ [r], z.2 ++ morePairs z.1 r)
structure GInv (ps : List Int) (rows o U : List (List Int)) (ex : List Int → List Int → Prop) (z : GSt) : Prop where
  hs : HS ps rows o U z.1
  sub : ∀ q ∈ z.2, q.1 ∈ z.1 ∧ q.2 ∈ z.1
  cov : ∀ a ∈ z.1, ∀ b ∈ z.1, (a, b) ∈ z.2 ∨ ex a b ∨ ∀ r ∈ way ps a b o, r ∈ z.1
def gmeas (z : GSt) : Nat := z.2.length + (64 - z.1.length * z.1.length)
section
variable {ps : List Int} {rows o U : List (List Int)} {ex : List Int → List Int → Prop}
theorem gstep_ok (uv : Univ ps U) {z : GSt} {r : List Int} (h : GInv ps rows o U ex z) (hr : r ∈ U) (hc : Cl ps rows o r) : GInv ps rows o U ex (gstep z r) ∧ r ∈ (gstep z r).1 ∧ (∀ x ∈ z.1, x ∈ (gstep z r).1) ∧ gmeas (gstep z r) ≤ gmeas z ∧ z.1.length ≤ (gstep z r).1.length := by
  by_cases hm : r ∈ z.1
  · have e : gstep z r = z := if_pos hm
    rw [e]
    exact ⟨h, hm, fun _ h => h, Nat.le_refl _, Nat.le_refl _⟩
  · have e : gstep z r = (z.1 ++ [r], z.2 ++ morePairs z.1 r) := if_neg hm
    have hs' : HS ps rows o U (z.1 ++ [r]) := by
      refine ⟨List.nodup_append.mpr ⟨h.hs.nd, by simp, fun a ha b hb e => hm (by rw [← (by simpa using hb : b = r), ← e]; exact ha)⟩, fun x hx => ?_, fun x hx => List.mem_append_left _ (h.hs.bs x hx), fun x hx => ?_⟩
      · rcases List.mem_append.mp hx with q | q
        · exact h.hs.sub x q
        · rw [(by simpa using q : x = r)]; exact hr
      · rcases List.mem_append.mp hx with q | q
        · exact h.hs.cl x q
        · rw [(by simpa using q : x = r)]; exact hc
    rw [e]
    refine ⟨⟨hs', fun q hq => ?_, fun a ha b hb => ?_⟩, by simp, fun x hx => List.mem_append_left _ hx, ?_, by simp⟩
    · rcases List.mem_append.mp hq with q1 | q1
      · exact ⟨List.mem_append_left _ (h.sub q q1).1, List.mem_append_left _ (h.sub q q1).2⟩
      · unfold morePairs at q1
        rcases List.mem_append.mp q1 with q2 | q2
        · rcases List.mem_cons.mp q2 with rfl | q3
          · simp
          · obtain ⟨k, hk, rfl⟩ := List.mem_map.mp q3
            exact ⟨by simp, List.mem_append_left _ hk⟩
        · obtain ⟨k, hk, rfl⟩ := List.mem_map.mp q2
          exact ⟨List.mem_append_left _ hk, by simp⟩
    · rcases List.mem_append.mp ha with a1 | a1 <;> rcases List.mem_append.mp hb with b1 | b1
      · rcases h.cov a a1 b b1 with c | c | c
        · exact .inl (List.mem_append_left _ c)
        · exact .inr (.inl c)
        · exact .inr (.inr fun x hx => List.mem_append_left _ (c x hx))
      · have hb' : b = r := by simpa using b1
        subst hb'
        exact .inl (List.mem_append_right _ (by unfold morePairs; exact List.mem_append_right _ (List.mem_map.mpr ⟨a, a1, rfl⟩)))
      · have ha' : a = r := by simpa using a1
        subst ha'
        exact .inl (List.mem_append_right _ (by unfold morePairs; exact List.mem_append_left _ (List.mem_cons_of_mem _ (List.mem_map.mpr ⟨b, b1, rfl⟩))))
      · have ha' : a = r := by simpa using a1
        have hb' : b = r := by simpa using b1
        subst ha' hb'
        exact .inl (List.mem_append_right _ (by unfold morePairs; simp))
    · have l8 := HS.len uv hs'
      rw [List.length_append, List.length_singleton] at l8
      unfold gmeas morePairs
      simp only [List.length_append, List.length_cons, List.length_map, List.length_nil]
      have hn : z.1.length ≤ 7 := by omega
      have e2 : (z.1.length + 1) * (z.1.length + 1) = z.1.length * z.1.length + 2 * z.1.length + 1 := by
        rw [Nat.add_mul, Nat.mul_add]
        omega
      have e3 : z.1.length * z.1.length ≤ 7 * 7 := Nat.mul_le_mul hn hn
      have e4 : (z.1.length + 0 + 1) = z.1.length + 1 := rfl
      rw [show z.1.length + (0 + 1) = z.1.length + 1 by omega, e2]
      omega
theorem gfold_ok (uv : Univ ps U) : ∀ {rs : List (List Int)} {z : GSt}, GInv ps rows o U ex z → (∀ r ∈ rs, r ∈ U ∧ Cl ps rows o r) → GInv ps rows o U ex (rs.foldl gstep z) ∧ (∀ r ∈ rs, r ∈ (rs.foldl gstep z).1) ∧ (∀ x ∈ z.1, x ∈ (rs.foldl gstep z).1) ∧ gmeas (rs.foldl gstep z) ≤ gmeas z
  | [], z, h, _ => ⟨h, fun _ h => (by cases h), fun _ h => h, Nat.le_refl _⟩
  | r :: rs, z, h, hr => by
    obtain ⟨a1, a2, a3, a4, _⟩ := gstep_ok uv h (hr r List.mem_cons_self).1 (hr r List.mem_cons_self).2
    obtain ⟨b1, b2, b3, b4⟩ := gfold_ok uv (rs := rs) a1 fun x hx => hr x (List.mem_cons_of_mem _ hx)
    rw [List.foldl_cons]
    refine ⟨b1, fun x hx => ?_, fun x hx => b3 x (a3 x hx), Nat.le_trans b4 a4⟩
    rcases List.mem_cons.mp hx with rfl | hx
    · exact b3 _ a2
    · exact b2 x hx
/-- one pair is taken and done -/
theorem gturn_ok (uv : Univ ps U) {fd : List (List Int)} {wt : List (List Int × List Int)} {a b : List Int} {rs : List (List Int)} (h : GInv ps rows o U (fun _ _ => False) (fd, wt ++ [(a, b)])) (hrs : ∀ r, r ∈ rs ↔ r ∈ way ps a b o) :
    GInv ps rows o U (fun _ _ => False) (rs.foldl gstep (fd, wt)) ∧ gmeas (rs.foldl gstep (fd, wt)) < gmeas (fd, wt ++ [(a, b)]) := by
  obtain ⟨ha, hb⟩ := h.sub (a, b) (by simp)
  have h1 : GInv ps rows o U (fun x y => x = a ∧ y = b) (fd, wt) := ⟨h.hs, fun q hq => h.sub q (List.mem_append_left _ hq), fun x hx y hy => by
    rcases h.cov x hx y hy with c | c | c
    · rcases List.mem_append.mp c with d | d
      · exact .inl d
      · have : (x, y) = (a, b) := by simpa using d
        exact .inr (.inl ⟨congrArg Prod.fst this, congrArg Prod.snd this⟩)
    · exact c.elim
    · exact .inr (.inr c)⟩
  obtain ⟨k1, k2, k3, k4⟩ := gfold_ok uv h1 (rs := rs) fun r hr => ⟨way_univ uv (h.hs.sub a ha) (h.hs.sub b hb) ((hrs r).mp hr), .step (h.hs.cl a ha) (h.hs.cl b hb) ((hrs r).mp hr)⟩
  refine ⟨⟨k1.hs, k1.sub, fun x hx y hy => ?_⟩, ?_⟩
  · rcases k1.cov x hx y hy with c | ⟨rfl, rfl⟩ | c
    · exact .inl c
    · exact .inr (.inr fun r hr => k2 r ((hrs r).mpr hr))
    · exact .inr (.inr c)
  · refine Nat.lt_of_le_of_lt k4 ?_
    unfold gmeas
    simp only [List.length_append, List.length_singleton]
    omega
theorem gend (h : GInv ps rows o U (fun _ _ => False) (z : GSt)) (hz : z.2 = []) : IsHull ps rows o (sortR z.1) := by
  have hs := h.hs.sort
  refine ⟨hs.nd, sortR_sorted _, fun r => ⟨hs.cl r, fun c => ?_⟩⟩
  rw [(sortR_perm z.1).mem_iff]
  induction c with
  | base hm => exact h.hs.bs _ hm
  | step _ _ hw iha ihb =>
    rcases h.cov _ iha _ ihb with d | d | d
    · rw [hz] at d; cases d
    · exact d.elim
    · exact d _ hw
end
section
variable {P : Program} {w : World} {K : PySem.W.Frag} {mg : Str → Option Value} {base : Heap} {C : Addr}
def c_grown : Ct := fun ts P => ∃ (ps : List Int) (U rows o : List (List Int)), 1 ≤ ps.length ∧ ps.length ≤ 3 ∧ Univ ps U ∧ (∀ r ∈ rows, r ∈ U) ∧ rows.Nodup ∧ OrdOk o ∧ o.length ≤ 4 ∧ ts = [.dat (cR.e ps), .dat (cO.e rows), .dat (cO.e o)] ∧ P = is (.dat (cO.e (hullF ps rows o)))
theorem ca_grown {f : Addr} {fd : FuncData} (T : Bi K mg) (F : Fun K "grown" "grown" s_grown f fd) (hm : mg "grown" = some (.ref f)) (hb : Binds K fd ["columns", "rows", "ranking"] [])
    (D1 : Ca P w K mg base 2 "stages" c_stages) : Ca P w K mg base 3 "grown" c_grown := by
  refine ca_mk F sc_grown hm hb (fun ts P ⟨_, _, _, _, _, _, _, _, _, _, _, h, _⟩ => by rw [h]; rfl) (fun cdv A outer s H E hr B ts Pr c => ?_)
  obtain ⟨ps, U, rows, o, p1, p3, uv, hsub, rnd, ok, o4, rfl, rfl⟩ := c
  have nd := sc_grown.nd
  have rl : rows.length ≤ 8 := Nat.le_trans (nodup_len rnd hsub) uv.len
  refine q_dcT (xs := rows) 3 (.one 9) [("row", 9)] (u1 hr) (i_tup (e_dat 1)) (fun _ _ _ _ _ => g_one 9 nd) (fun s' H' C cl fp B' r hr' => e_dat 9) (fun s' H' C cl fp B' r hr' => e_bl) (fun _ _ => trivial) (by omega) ?_ (blkOk_by (N := n_grown) (sc := defScope s_grown) (by decide +kernel)) nd
  rw [dicOf_self rnd]
  refine q_lc2 cR (xs := rows) 4 1 5 6 (fun a b => cPair.e (a, b)) (hz := by omega) (he := fun s' H' C cl fp B' a ha b hb => e_tup (ds := [_, _]) (vs_cons (e_dat 5) (vs_cons (e_dat 6) vs_nil)) (by simp)) (k := ?_) (hg := fun _ _ _ _ _ => g_one 5 nd) (hg1 := fun _ _ _ _ _ => g_one 6 nd) (hi1 := fun _ _ _ _ _ => pi_tup (pe_var rfl (by first | exact Or.inl rfl | exact Or.inr (Or.inl rfl) | exact Or.inr (Or.inr rfl)))) (ok := blkOk_by (N := n_grown) (sc := defScope s_grown) (by decide +kernel)) (hN := nd)
  let Gi : GSt → En := fun z => [.dat (cR.e ps), .dat (cO.e rows), .dat (cO.e o), .dic z.1, .own (z.2.map cPair.e), .any, .any, .any, .any, .any, .any]
  let z0 : GSt := (rows, rows.flatMap fun a => rows.map fun b => (a, b))
  have e0 : (rows.flatMap fun x => rows.map fun b => cPair.e (x, b)) = z0.2.map cPair.e := by
    rw [map_flat]
    congr 1
    funext a
    rw [List.map_map]
    rfl
  have i0 : GInv ps rows o U (fun _ _ => False) z0 := ⟨⟨rnd, hsub, fun _ h => h, fun r h => .base h⟩, fun q hq => by
    obtain ⟨a, ha, hq⟩ := List.mem_flatMap.mp hq
    obtain ⟨b, hb, rfl⟩ := List.mem_map.mp hq
    exact ⟨ha, hb⟩, fun a ha b hb => .inl (List.mem_flatMap.mpr ⟨a, ha, List.mem_map.mpr ⟨b, hb, rfl⟩⟩)⟩
  have wl : ∀ {z : GSt}, GInv ps rows o U (fun _ _ => False) z → gmeas z ≤ 200 → z.2.length ≤ 200 := fun h hm => by
    unfold gmeas at hm
    omega
  have m0 : gmeas z0 ≤ 200 := by
    have h1 : (rows.flatMap fun a => rows.map fun b => (a, b)).length ≤ rows.length * rows.length := flat_len fun a _ => by rw [List.length_map]; exact Nat.le_refl _
    have h2 : rows.length * rows.length ≤ 8 * 8 := Nat.mul_le_mul rl rl
    show (rows.flatMap fun a => rows.map fun b => (a, b)).length + (64 - rows.length * rows.length) ≤ 200
    omega
  refine s_cons (Mid := fun G' => ∃ z : GSt, (GInv ps rows o U (fun _ _ => False) z ∧ z.2 = []) ∧ G' = Gi z) (s_while (β := GSt) Gi gmeas z0 (fun z => GInv ps rows o U (fun _ _ => False) z ∧ gmeas z ≤ 200) ⟨i0, m0⟩ (by show Gi z0 = _; rw [e0]; rfl) (fun z => decide (0 < z.2.length)) (fun z ⟨hz, hm⟩ => ?_) (fun z ⟨hz, hm⟩ hk => ?_) (fun z ⟨hz, hm⟩ hk => ⟨z, ⟨hz, List.eq_nil_of_length_eq_zero (by have := of_decide_eq_false hk; omega)⟩, rfl⟩) PassesOwn.never) (fun G' ⟨z, ⟨hz, hz2⟩, hG⟩ => ?_)
  · exact (t_gt (e_lenO (ds := z.2.map cPair.e) 4 T.len) e_int).eq (by
      rw [List.length_map]
      by_cases q : 0 < z.2.length <;> simp [q] <;> omega)
  · have hlen := of_decide_eq_true hk
    obtain ⟨fd, wt'⟩ := z
    have hne : wt' ≠ [] := List.length_pos_iff.mp hlen
    obtain ⟨wt, ⟨a, b⟩, rfl⟩ : ∃ wt q, wt' = wt ++ [q] := ⟨wt'.dropLast, wt'.getLast hne, (List.dropLast_concat_getLast hne).symm⟩
    have wl' : wt.length ≤ 200 := by
      have := wl hz hm
      simp only [List.length_append, List.length_singleton] at this
      omega
    obtain ⟨ha, hb⟩ := hz.sub (a, b) (by simp)
    have la := uv.el a (hz.hs.sub a ha)
    have lb := uv.el b (hz.hs.sub b hb)
    let rs : List (List Int) := (stagesP ps a b o).map fun z => z.2.2
    have hrs : ∀ r, r ∈ rs ↔ r ∈ way ps a b o := fun r => by
      rw [← stages_mem]
      show r ∈ (stagesP ps a b o).map (fun z => z.2.2) ↔ _
      rw [List.mem_map]
    obtain ⟨t1, t2⟩ := gturn_ok uv hz hrs
    have part : ∀ i, GInv ps rows o U (fun x y => x = a ∧ y = b) ((rs.take i).foldl gstep (fd, wt)) ∧ gmeas ((rs.take i).foldl gstep (fd, wt)) ≤ gmeas (fd, wt) := fun i => by
      have h1 : GInv ps rows o U (fun x y => x = a ∧ y = b) (fd, wt) := ⟨hz.hs, fun q hq => hz.sub q (List.mem_append_left _ hq), fun x hx y hy => by
        rcases hz.cov x hx y hy with c | c | c
        · rcases List.mem_append.mp c with d | d
          · exact .inl d
          · have : (x, y) = (a, b) := by simpa using d
            exact .inr (.inl ⟨congrArg Prod.fst this, congrArg Prod.snd this⟩)
        · exact c.elim
        · exact .inr (.inr c)⟩
      obtain ⟨k1, _, _, k4⟩ := gfold_ok uv h1 (rs := rs.take i) fun r hr => by
        have hr' := (hrs r).mp (List.mem_of_mem_take hr)
        exact ⟨way_univ uv (hz.hs.sub a ha) (hz.hs.sub b hb) hr', .step (hz.hs.cl a ha) (hz.hs.cl b hb) hr'⟩
      exact ⟨k1, k4⟩
    have mw : gmeas (fd, wt) ≤ 264 := by
      unfold gmeas
      show wt.length + (64 - fd.length * fd.length) ≤ 264
      omega
    refine q_popTo (ds := wt.map cPair.e) (d := cPair.e (a, b)) 4 (.two 5 6) (g_two 5 6 rfl nd) ⟨_, _, rfl⟩ ?_ (by show some (Sl.own ((wt ++ [(a, b)]).map cPair.e)) = _; rw [List.map_append]; rfl) rfl
    let Gj : GSt → En := fun z => [.dat (cR.e ps), .dat (cO.e rows), .dat (cO.e o), .dic z.1, .own (z.2.map cPair.e), .dat (cR.e a), .dat (cR.e b), .any, .any, .any, .any]
    refine q_forM (xs := stagesP ps a b o) cSt (.three 7 8 9) (fun j => Gj ((rs.take j).foldl gstep (fd, wt))) ⟨.inr rfl, .inr rfl, .inr rfl, .inr rfl, .inr rfl, .inr rfl, .inr rfl, .inr rfl, .inr rfl, .inr rfl, .inr rfl, trivial⟩ (i_list (e_callD D1 hr (as_cons (e_dat 0) (as_cons (e_dat 5) (as_cons (e_dat 6) (as_cons (e_dat 2) as_nil)))) ⟨ps, a, b, o, p3, la, lb, o4, rfl, rfl⟩)) (g_three 7 8 9 rfl nd) (fun _ _ => ⟨_, _, _, rfl⟩) (fun j x hx => ?_) ?_ PassesOwn.never
    · have hxr : rs[j]? = some x.2.2 := by
        show ((stagesP ps a b o).map fun z => z.2.2)[j]? = _
        rw [List.getElem?_map, hx]
        rfl
      have stp : (rs.take (j + 1)).foldl gstep (fd, wt) = gstep ((rs.take j).foldl gstep (fd, wt)) x.2.2 := fold_take hxr
      obtain ⟨pj, mj⟩ := part j
      generalize hzj : (rs.take j).foldl gstep (fd, wt) = zj at stp pj mj
      have f8 := HS.len uv pj.hs
      have w264 : zj.2.length ≤ 264 := by
        have h := Nat.le_trans mj mw
        unfold gmeas at h
        omega
      refine s_one (s_if (k := true) (P := is (!decide (x.2.2 ∈ zj.1))) (t_dNotIn 3 (u1 hr) (e_dat 9)) (fun ht => ?_) (fun hf => ?_))
      · have hn : x.2.2 ∉ zj.1 := by
          have h' : (!decide (x.2.2 ∈ zj.1)) = true := ht.symm
          simpa using h'
        have e1 : gstep zj x.2.2 = (zj.1 ++ [x.2.2], zj.2 ++ morePairs zj.1 x.2.2) := if_neg hn
        refine s_cons (Mid := is [.dat (cR.e ps), .dat (cO.e rows), .dat (cO.e o), .dic zj.1, .own ((zj.2 ++ morePairs zj.1 x.2.2).map cPair.e), .dat (cR.e a), .dat (cR.e b), .dat (cR.e x.1), .dat (cR.e x.2.1), .dat (cR.e x.2.2), .any]) (s_ext (ds := zj.2.map cPair.e) (es := (morePairs zj.1 x.2.2).map cPair.e) 4 (EV.eq (e_catL (e_catL (e_lst (ds := [cPair.e (x.2.2, x.2.2)]) (vs_cons (e_tup (ds := [_, _]) (vs_cons (e_dat 9) (vs_cons (e_dat 9) vs_nil)) (by simp)) vs_nil)) (e_frz (e_lcDic (ks := zj.1) 3 (.one 10) [("known", 10)] (fun k => cPair.e (x.2.2, k)) (fun _ _ _ _ _ => g_one 10 nd) (fun s' H' C cl fp B' k hk => e_tup (ds := [_, _]) (vs_cons (e_dat 9) (vs_cons (e_dat 10) vs_nil)) (by simp)) (fun _ _ => trivial) (by omega) (blkOk_by (N := n_grown) (sc := defScope s_grown) (by decide +kernel)) nd)) (by simp; omega)) (e_frz (e_lcDic (ks := zj.1) 3 (.one 10) [("known", 10)] (fun k => cPair.e (k, x.2.2)) (fun _ _ _ _ _ => g_one 10 nd) (fun s' H' C cl fp B' k hk => e_tup (ds := [_, _]) (vs_cons (e_dat 10) (vs_cons (e_dat 9) vs_nil)) (by simp)) (fun _ _ => trivial) (by omega) (blkOk_by (N := n_grown) (sc := defScope s_grown) (by decide +kernel)) nd)) (by simp; omega)) ?_) ?_ ?_) (fun G' hG => ?_)
        · unfold morePairs
          rw [List.map_append, List.map_cons, List.map_map, List.map_map]
          rfl
        · show _ = _
          rw [List.map_append]
          rfl
        · unfold morePairs
          simp
          omega
        · rw [show G' = _ from hG]
          refine q_dset (ks := zj.1) (k := x.2.2) 3 (u1 hr) e_bl (e_dat 9) (by omega) (s_nil ⟨.inr rfl, .inr rfl, .inr rfl, .inr ?_, .inr ?_, .inr rfl, .inr rfl, .inl rfl, .inl rfl, .inl rfl, .inr rfl, trivial⟩)
          · rw [stp, e1]
            unfold putR
            rw [if_neg hn]
          · rw [stp, e1]
      · have hm' : x.2.2 ∈ zj.1 := by
          have h' : (!decide (x.2.2 ∈ zj.1)) = false := hf.symm
          simpa using h'
        have e1 : gstep zj x.2.2 = zj := if_pos hm'
        refine s_nil ⟨.inr rfl, .inr rfl, .inr rfl, .inr ?_, .inr ?_, .inr rfl, .inr rfl, .inl rfl, .inl rfl, .inl rfl, .inr rfl, trivial⟩
        · rw [stp, e1]
        · rw [stp, e1]
    · have rsl : rs.length = (stagesP ps a b o).length := by show ((stagesP ps a b o).map fun z => z.2.2).length = _; rw [List.length_map]
      rw [← rsl, take_all]
      refine ss_le (A := Gi (rs.foldl gstep (fd, wt))) ⟨.inr rfl, .inr rfl, .inr rfl, .inr rfl, .inr rfl, .inl rfl, .inl rfl, .inr rfl, .inr rfl, .inr rfl, .inr rfl, trivial⟩ (s_nil ⟨_, ⟨t1, by omega⟩, t2, rfl⟩)
  · rw [hG]
    refine q_ret (t := .dat (cO.e (hullF ps rows o))) (EV.eq (e_tupL T.tuple (e_frz (e_sortR (bs := z.1) false hr T.sorted (e_frz (e_listD 3 T.list)) (.inl fun r hr' q => ?_)))) ?_) ⟨rfl, rfl⟩
    · have := uv.el r (hz.hs.sub r hr')
      rw [q] at this
      simp at this
      omega
    · rw [(gend hz hz2).uniq (hullF_is uv ok hsub)]
end
end Mk
namespace PySem.W
open PySem PySem.Calls PyProof.Rows PyProof.V PySem.Spec
section
variable {prog : Program} {w : World} {A : Around} {E : Value → Shared → Prop} {s : Shared} {z TI TO T i1 i2 i3 : Addr} {fp1 fp2 fp3 : List Addr} {n : Nat} {P1 P2 P3 : Nat → Value → Prop} {St1 St2 St3 : Nat → Heap → Prop} {i : Nat} {f : Bool} {oT : Obj}
/-- zip of three whose tuple is held: the next one is new -/
theorem zip3_held_item {Q : Value → Shared → Prop} (S : ZipSep3 z TI TO i1 i2 i3 fp1 fp2 fp3) (D1 : Draws prog w A i1 fp1 n P1 St1) (D2 : Draws prog w A i2 fp2 n P2 St2) (D3 : Draws prog w A i3 fp3 n P3 St3)
    (hz : IsZipHeld s.heap z TI TO T f) (hT : s.heap.get? T = some oT) (hTI : IsTupOf3 s.heap TI (.ref i1) (.ref i2) (.ref i3)) (st1 : St1 i s.heap) (st2 : St2 i s.heap) (st3 : St3 i s.heap) (hlt : i < n)
    (hQ : ∀ x1 x2 x3 h' tk, P1 i x1 → P2 i x2 → P3 i x3 → IsZipHeld h' z TI TO T true → St1 (i + 1) h' → St2 (i + 1) h' → St3 (i + 1) h' → IsTupOf3 h' s.heap.objs.size x1 x2 x3 → h'.objs.size = s.heap.objs.size + 1 →
      (∀ c o, c ≠ z → c ≠ i1 → c ≠ i2 → c ≠ i3 → s.heap.get? c = some o → h'.get? c = some o) → Q (.ref s.heap.objs.size) { s with heap := h', toks := tk }) :
    wpAny (model prog w) A (Builtin.«zip.__next__» ⟨[.ref z], []⟩) (fun fin s' => ∃ v, fin = .done (.ret v) ∧ Q v s') E s := by
  obtain ⟨hp, g, d, tk0, os⟩ := s
  show wpAny _ _ (field (.ref z) 2 >>= _) _ _ _
  refine wpAny_bind (wpAny_field hz rfl (x := .bool false) rfl ?_)
  show wpAny _ _ (field (.ref z) 3 >>= _) _ _ _
  refine wpAny_bind (wpAny_field hz rfl (x := .ref TI) rfl ?_)
  refine wpAny_bind (wpAny_seqItems hTI rfl ?_)
  show wpAny _ _ (Builtin.SmallTypes.ownedTupleIsFree (.ref z) >>= _) _ _ _
  refine wpAny_bind (wpAny_tupleHeld_zip hz hT fun g0 hz0 hs0 => ?_)
  replace hs0 : Heap.SameBut z hp g0 := hs0
  simp only [Bool.false_eq_true, if_false]
  refine wpAny_bind ?_
  rw [← Array.forIn_toList]
  simp only [List.forIn_cons, List.forIn_nil]
  refine wpAny_bind (wpAny_bind (wpAny_holding ?_))
  show wpAny _ _ (Builtin.SmallTypes.nextOf (.ref i1) >>= _) _ _ ⟨g0, g, d, tk0, os⟩
  refine wpAny_bind (D1.item i _ _ _ hlt (D1.over st1 hs0 S.zf1) fun x1 p1 tk1 hx1 sn1 hp1 => wpAny_pure ?_)
  replace hp1 : Heap.SameBut i1 g0 p1 := hp1
  refine wpAny_pure ?_
  refine wpAny_bind (wpAny_bind (wpAny_holding ?_))
  show wpAny _ _ (Builtin.SmallTypes.nextOf (.ref i2) >>= _) _ _ ⟨p1, g, d, tk1, os⟩
  refine wpAny_bind (D2.item i _ _ _ hlt (D2.over (D2.over st2 hs0 S.zf2) hp1 S.sep1_2) fun x2 p2 tk2 hx2 sn2 hp2 => wpAny_pure ?_)
  replace hp2 : Heap.SameBut i2 p1 p2 := hp2
  refine wpAny_pure ?_
  refine wpAny_bind (wpAny_bind (wpAny_holding ?_))
  show wpAny _ _ (Builtin.SmallTypes.nextOf (.ref i3) >>= _) _ _ ⟨p2, g, d, tk2, os⟩
  refine wpAny_bind (D3.item i _ _ _ hlt (D3.over (D3.over (D3.over st3 hs0 S.zf3) hp1 S.sep1_3) hp2 S.sep2_3) fun x3 p3 tk3 hx3 sn3 hp3 => wpAny_pure ?_)
  replace hp3 : Heap.SameBut i3 p2 p3 := hp3
  refine wpAny_pure (wpAny_pure ?_)
  show wpAny _ _ (newTuple [x1, x2, x3] >>= _) _ _ _
  refine wpAny_bind (wpAny_newTuple ?_)
  have hsz : p3.objs.size = hp.objs.size := by rw [hp3.1, hp2.1, hp1.1, hs0.1]
  have hz3 : IsZipHeld p3 z TI TO T true := hp3.extBut _ _ S.zi3 (hp2.extBut _ _ S.zi2 (hp1.extBut _ _ S.zi1 hz0))
  have hk : ∀ c o, c ≠ z → c ≠ i1 → c ≠ i2 → c ≠ i3 → hp.get? c = some o → p3.get? c = some o := fun c o c0 c1 c2 c3 e => hp3.extBut _ _ c3 (hp2.extBut _ _ c2 (hp1.extBut _ _ c1 (hs0.extBut _ _ c0 e)))
  have hj1 : St1 (i + 1) p3 := D1.over (D1.over sn1 hp2 S.sep2_1) hp3 S.sep3_1
  have hj2 : St2 (i + 1) p3 := D2.over sn2 hp3 S.sep3_2
  refine wpAny_pure ⟨_, rfl, ?_⟩
  show Q (.ref p3.objs.size) _
  have hp4 : IsTupOf3 (p3.push { cls := .type "tuple", data := .seq #[x1, x2, x3] }) p3.objs.size x1 x2 x3 := Heap.get?_push_size _ rfl
  have hz4 : (p3.push { cls := .type "tuple", data := .seq #[x1, x2, x3] }).objs.size = p3.objs.size + 1 := Heap.size_push ..
  rw [hsz] at hp4 hz4 ⊢
  exact hQ x1 x2 x3 _ tk3 hx1 hx2 hx3 (Heap.get?_push_of_some _ hz3) (D1.frame _ _ _ hj1 fun b _ o e => Heap.get?_push_of_some _ e) (D2.frame _ _ _ hj2 fun b _ o e => Heap.get?_push_of_some _ e) (D3.frame _ _ _ sn3 fun b _ o e => Heap.get?_push_of_some _ e) hp4 hz4 fun c o c0 c1 c2 c3 e => Heap.get?_push_of_some _ (hk c o c0 c1 c2 c3 e)
theorem zip3_held_end {Q : PySem.Fin → Shared → Prop} (S : ZipSep3 z TI TO i1 i2 i3 fp1 fp2 fp3) (D1 : Draws prog w A i1 fp1 n P1 St1)
    (hz : IsZipHeld s.heap z TI TO T f) (hT : s.heap.get? T = some oT) (hTI : IsTupOf3 s.heap TI (.ref i1) (.ref i2) (.ref i3)) (st1 : St1 n s.heap)
    (hE : ∀ h' e, (∀ c o, c ≠ z → c ≠ i1 → s.heap.get? c = some o → h'.get? c = some o) → (∃ o, h'.get? e = some o ∧ o.cls = .type "StopIteration") → E (.ref e) { s with heap := h' }) :
    wpAny (model prog w) A (Builtin.«zip.__next__» ⟨[.ref z], []⟩) Q E s := by
  show wpAny _ _ (field (.ref z) 2 >>= _) _ _ _
  refine wpAny_bind (wpAny_field hz rfl (x := .bool false) rfl ?_)
  show wpAny _ _ (field (.ref z) 3 >>= _) _ _ _
  refine wpAny_bind (wpAny_field hz rfl (x := .ref TI) rfl ?_)
  refine wpAny_bind (wpAny_seqItems hTI rfl ?_)
  show wpAny _ _ (Builtin.SmallTypes.ownedTupleIsFree (.ref z) >>= _) _ _ _
  refine wpAny_bind (wpAny_tupleHeld_zip hz hT fun g0 hz0 hs0 => ?_)
  simp only [Bool.false_eq_true, if_false]
  refine wpAny_bind ?_
  rw [← Array.forIn_toList]
  simp only [List.forIn_cons, List.forIn_nil]
  refine wpAny_bind (wpAny_bind (wpAny_holding ?_))
  show wpAny _ _ (Builtin.SmallTypes.nextOf (.ref i1) >>= _) _ _ _
  refine wpAny_bind (D1.done _ _ _ (D1.over st1 hs0 S.zf1) fun h2 e hs2 he => ?_)
  exact hE h2 e (fun c o c0 c1 x => hs2 _ _ c1 (hs0.extBut _ _ c0 x)) he
theorem pyNext_zip3_held_item {Q : Option Value → Shared → Prop} (S : ZipSep3 z TI TO i1 i2 i3 fp1 fp2 fp3) (D1 : Draws prog w A.in1 i1 fp1 n P1 St1) (D2 : Draws prog w A.in1 i2 fp2 n P2 St2) (D3 : Draws prog w A.in1 i3 fp3 n P3 St3)
    (hz : IsZipHeld s.heap z TI TO T f) (hT : s.heap.get? T = some oT) (hTI : IsTupOf3 s.heap TI (.ref i1) (.ref i2) (.ref i3)) (st1 : St1 i s.heap) (st2 : St2 i s.heap) (st3 : St3 i s.heap) (hlt : i < n)
    (hQ : ∀ x1 x2 x3 h' tk, P1 i x1 → P2 i x2 → P3 i x3 → IsZipHeld h' z TI TO T true → St1 (i + 1) h' → St2 (i + 1) h' → St3 (i + 1) h' → IsTupOf3 h' s.heap.objs.size x1 x2 x3 → h'.objs.size = s.heap.objs.size + 1 →
      (∀ c o, c ≠ z → c ≠ i1 → c ≠ i2 → c ≠ i3 → s.heap.get? c = some o → h'.get? c = some o) → Q (some (.ref s.heap.objs.size)) { s with heap := h', toks := tk }) :
    wpAny (model prog w) A (pyNext (.ref z)) Q E s := by
  have hTy : s.TypeIs (.ref z) "zip" := ⟨_, hz, rfl⟩
  unfold pyNext
  exact wpAny_bind (wpAny_attempt (wpAny_callSpecial?_slot (name := Str.ofString "__next__") hTy PySem.F.slot_zip_next
    (wpAny_call_entry PySem.F.slot_zip_next hTy PySem.F.entry_zip_next
      (zip3_held_item S D1 D2 D3 hz hT hTI st1 st2 st3 hlt fun x1 x2 x3 h' tk y1 y2 y3 b1 d1 d2 d3 b5 b6 b7 => wpAny_pure (hQ x1 x2 x3 h' tk y1 y2 y3 b1 d1 d2 d3 b5 b6 b7)) (PySem.F.args_zip_next_1 _))))
theorem pyNext_zip3_held_end {Q : Option Value → Shared → Prop} (S : ZipSep3 z TI TO i1 i2 i3 fp1 fp2 fp3) (D1 : Draws prog w A.in1 i1 fp1 n P1 St1)
    (hz : IsZipHeld s.heap z TI TO T f) (hT : s.heap.get? T = some oT) (hTI : IsTupOf3 s.heap TI (.ref i1) (.ref i2) (.ref i3)) (st1 : St1 n s.heap)
    (hQ : ∀ h', (∀ c o, c ≠ z → c ≠ i1 → s.heap.get? c = some o → h'.get? c = some o) → Q none { s with heap := h' }) : wpAny (model prog w) A (pyNext (.ref z)) Q E s := by
  have hTy : s.TypeIs (.ref z) "zip" := ⟨_, hz, rfl⟩
  unfold pyNext
  refine wpAny_bind (wpAny_attempt (wpAny_callSpecial?_slot (name := Str.ofString "__next__") hTy PySem.F.slot_zip_next
    (wpAny_call_entry PySem.F.slot_zip_next hTy PySem.F.entry_zip_next (zip3_held_end S D1 hz hT hTI st1 fun h' e hk he => ?_) (PySem.F.args_zip_next_1 _))))
  obtain ⟨o, ho, hc⟩ := he
  refine wpAny_bind (wpAny_isInstance (T := "StopIteration") (b := true) ⟨o, ho, hc⟩ isSubtype_stop ?_)
  exact wpAny_pure (hQ _ hk)

/-! the zip's items laid in a list -/
/-- before the first item, or the first tuple held -/
def ZNow (h : Heap) (z TI TO : Addr) (as : List Addr) : Prop := (as = [] ∧ IsZip h z TI TO .none) ∨ ∃ T f, T ∈ as ∧ IsZipHeld h z TI TO T f
structure ZGot (P1 P2 P3 : Nat → Value → Prop) (N0 : Addr) (h : Heap) (as : List Addr) : Prop where
  above : ∀ a ∈ as, N0 ≤ a
  nd : as.Nodup
  at_ : ∀ (j : Nat) (a : Addr), as[j]? = some a → ∃ x1 x2 x3, P1 j x1 ∧ P2 j x2 ∧ P3 j x3 ∧ IsTupOf3 h a x1 x2 x3
theorem ZGot.low {N0 : Addr} {h h' : Heap} {as : List Addr} (g : ZGot P1 P2 P3 N0 h as) (k : ∀ c o, N0 ≤ c → h.get? c = some o → h'.get? c = some o) : ZGot P1 P2 P3 N0 h' as :=
  ⟨g.above, g.nd, fun j a e => by
    obtain ⟨x1, x2, x3, p1, p2, p3, q⟩ := g.at_ j a e
    exact ⟨x1, x2, x3, p1, p2, p3, k a _ (g.above a (List.mem_of_getElem? e)) q⟩⟩
theorem ZGot.snoc {N0 a : Addr} {h : Heap} {as : List Addr} {x1 x2 x3 : Value} (g : ZGot P1 P2 P3 N0 h as) (ha : N0 ≤ a) (hnew : a ∉ as) (q1 : P1 as.length x1) (q2 : P2 as.length x2) (q3 : P3 as.length x3) (q : IsTupOf3 h a x1 x2 x3) : ZGot P1 P2 P3 N0 h (as ++ [a]) :=
  ⟨fun b hb => by
    rcases List.mem_append.mp hb with m | m
    · exact g.above b m
    · rw [List.mem_singleton.mp m]; exact ha, List.nodup_append.mpr ⟨g.nd, by simp, fun x hx y hy e => hnew (by rw [List.mem_singleton.mp hy] at e; rw [← e]; exact hx)⟩, fun j b e => by
    rcases Nat.lt_trichotomy j as.length with h1 | h1 | h1
    · rw [List.getElem?_append_left h1] at e
      exact g.at_ j b e
    · subst h1
      have hb : a = b := by simpa using e
      subst hb
      exact ⟨x1, x2, x3, q1, q2, q3, q⟩
    · rw [List.getElem?_eq_none (by rw [List.length_append, List.length_singleton]; omega)] at e
      cases e⟩
theorem zip3_loop {R : Result → Shared → Prop} {s : Shared} {Sl N0 : Addr} (S : ZipSep3 z TI TO i1 i2 i3 fp1 fp2 fp3) (D1 : Draws prog w A.in1.in1 i1 fp1 n P1 St1) (D2 : Draws prog w A.in1.in1 i2 fp2 n P2 St2) (D3 : Draws prog w A.in1.in1 i3 fp3 n P3 St3)
    (hSf : Sl ≠ z ∧ Sl ≠ TI ∧ Sl ≠ TO ∧ Sl ∉ fp1 ∧ Sl ∉ fp2 ∧ Sl ∉ fp3) (hN : Sl < N0 ∧ z < N0 ∧ TI < N0 ∧ TO < N0 ∧ i1 < N0 ∧ i2 < N0 ∧ i3 < N0) (hn : n ≤ 1000) (res : Value) {h1 : Heap}
    (hR : ∀ h' tk acc c as, (∀ b o, b ≠ Sl → b ≠ z → b ≠ TO → b ≠ i1 → b ≠ i2 → b ≠ i3 → h1.get? b = some o → h'.get? b = some o) → h'.get? Sl = some { cls := .type "list", dict := none, data := .seq acc c, slots := #[] } → as.length = n → ZGot P1 P2 P3 N0 h' as →
      acc.toList = as.map Value.ref → R (.ok (.ret res)) { s with heap := h', toks := tk }) :
    ∀ (k i : Nat) (h : Heap) (tk c : Nat) (acc : Array Value) (as : List Addr), n - i = k → i ≤ n → ZNow h z TI TO as → IsTupOf3 h TI (.ref i1) (.ref i2) (.ref i3) → (∃ a1 a2 a3, IsTupOf3 h TO a1 a2 a3) → St1 i h → St2 i h → St3 i h →
      (∀ b o, b ≠ Sl → b ≠ z → b ≠ TO → b ≠ i1 → b ≠ i2 → b ≠ i3 → h1.get? b = some o → h.get? b = some o) →
      h.get? Sl = some { cls := .type "list", dict := none, data := .seq acc c, slots := #[] } → acc.toList = as.map Value.ref → as.length = i → ZGot P1 P2 P3 N0 h as → N0 ≤ h.objs.size →
      codeAny (model prog w) A (.builtin "list.extend.loop" ⟨[.ref Sl, .ref z, res], []⟩) R { s with heap := h, toks := tk } := by
  obtain ⟨s1, s2, s3, s4, s5, s6⟩ := hSf
  obtain ⟨n0, n1, n2, n3, n4, n5, n6⟩ := hN
  have si1 : Sl ≠ i1 := fun e => s4 (e ▸ S.mem1)
  have si2 : Sl ≠ i2 := fun e => s5 (e ▸ S.mem2)
  have si3 : Sl ≠ i3 := fun e => s6 (e ▸ S.mem3)
  have far : ∀ {c : Addr}, N0 ≤ c → c ≠ z ∧ c ≠ TO ∧ c ≠ i1 ∧ c ≠ i2 ∧ c ≠ i3 ∧ c ≠ Sl := fun {c} hc => ⟨fun e => Nat.lt_irrefl _ (Nat.lt_of_lt_of_le n1 (e ▸ hc)), fun e => Nat.lt_irrefl _ (Nat.lt_of_lt_of_le n3 (e ▸ hc)), fun e => Nat.lt_irrefl _ (Nat.lt_of_lt_of_le n4 (e ▸ hc)), fun e => Nat.lt_irrefl _ (Nat.lt_of_lt_of_le n5 (e ▸ hc)), fun e => Nat.lt_irrefl _ (Nat.lt_of_lt_of_le n6 (e ▸ hc)), fun e => Nat.lt_irrefl _ (Nat.lt_of_lt_of_le n0 (e ▸ hc))⟩
  intro k
  induction k with
  | zero =>
    intro i h tk c acc as hk hi hz hTI hTO st1 st2 st3 hkeep hS hacc hal hG hbig
    have hin : i = n := by omega
    subst hin
    refine codeAny_builtin PySem.F.entry_extend_loop ?_
    rw [Around.under_plainId PySem.F.plain_extend_loop _]
    show wpAny _ A.in1 (pyNext (.ref z) >>= _) _ _ _
    have fin : ∀ h' tk', (∀ b o, b ≠ z → b ≠ TO → b ≠ i1 → b ≠ i2 → b ≠ i3 → h.get? b = some o → h'.get? b = some o) → R (.ok (.ret res)) { s with heap := h', toks := tk' } := fun h' tk' hk' =>
      hR h' tk' acc c as (fun b o b1 b2 b3 b4 b5 b6 e => hk' b o b2 b3 b4 b5 b6 (hkeep b o b1 b2 b3 b4 b5 b6 e)) (hk' Sl _ s1 s3 si1 si2 si3 hS) hal (hG.low fun c o hc e => hk' c o (far hc).1 (far hc).2.1 (far hc).2.2.1 (far hc).2.2.2.1 (far hc).2.2.2.2.1 e) hacc
    rcases hz with ⟨_, hz⟩ | ⟨T, f, hTm, hz⟩
    · obtain ⟨a1, a2, a3, hTO⟩ := hTO
      exact wpAny_bind (wpAny_pyNext_zipD3_end (s := { s with heap := h, toks := tk }) S D1 D2 D3 hz hTI hTO st1 st2 st3 (Nat.le_refl _) (Nat.le_refl _) (Nat.le_refl _) (.inl rfl) fun h' tk' hk' => wpAny_pure (fin h' tk' fun b o b2 b3 b4 b5 b6 e => hk' b o b2 b3 b4 b5 b6 e))
    · obtain ⟨j, hj⟩ := List.mem_iff_getElem?.mp hTm
      obtain ⟨x1, x2, x3, _, _, _, hTo⟩ := hG.at_ j T hj
      exact wpAny_bind (pyNext_zip3_held_end (s := { s with heap := h, toks := tk }) S D1 hz hTo hTI st1 fun h' hk' => wpAny_pure (fin h' tk fun b o b2 b3 b4 b5 b6 e => hk' b o b2 b4 e))
  | succ k ih =>
    intro i h tk c acc as hk hi hz hTI hTO st1 st2 st3 hkeep hS hacc hal hG hbig
    have hlt : i < n := by omega
    have hsz : acc.size = i := by rw [← Array.length_toList, hacc, List.length_map, hal]
    refine codeAny_builtin PySem.F.entry_extend_loop ?_
    rw [Around.under_plainId PySem.F.plain_extend_loop _]
    show wpAny _ A.in1 (pyNext (.ref z) >>= _) _ _ _
    have step : ∀ x1 x2 x3 h' tk', P1 i x1 → P2 i x2 → P3 i x3 → ZNow h' z TI TO (as ++ [h.objs.size]) → (∃ a1 a2 a3, IsTupOf3 h' TO a1 a2 a3) → St1 (i + 1) h' → St2 (i + 1) h' → St3 (i + 1) h' → IsTupOf3 h' h.objs.size x1 x2 x3 → h'.objs.size = h.objs.size + 1 →
        (∀ b o, b ≠ z → b ≠ TO → b ≠ i1 → b ≠ i2 → b ≠ i3 → h.get? b = some o → h'.get? b = some o) →
        wpAny (model prog w) A.in1 (updateSeq Sl (·.push (.ref h.objs.size)) >>= fun _ => again (.builtin "list.extend.loop" ⟨[.ref Sl, .ref z, res], []⟩)) (fun fin s' => match fin with | .done f => R (.ok f) s' | .again c' => c'.quiet = true ∧ codeAny (model prog w) A c' R s') (fun e s' => R (.error e) s') { s with heap := h', toks := tk' } := by
      intro x1 x2 x3 h' tk' q1 q2 q3 hz' hTO' st1' st2' st3' ht hz1 hk'
      have hS' := hk' Sl _ s1 s3 si1 si2 si3 hS
      have up : ∀ b o, b ≠ Sl → h'.get? b = some o → (h'.update Sl (Obj.mapSeq (·.push (Value.ref h.objs.size)))).get? b = some o := fun b o hb e => (Heap.get?_update_other _ _ (Ne.symm hb)).trans e
      have bigS : h.objs.size ≠ Sl := fun e => Nat.lt_irrefl _ (Nat.lt_of_lt_of_le n0 (e ▸ hbig))
      refine wpAny_bind ?_
      refine wpAny_updateSeq hS' rfl (wpAny_pure ⟨plainId_quiet PySem.F.plain_extend_loop _, ih (i + 1) _ tk' _ (acc.push (Value.ref h.objs.size)) (as ++ [h.objs.size]) (by omega) hlt ?_ ?_ ?_ ?_ ?_ ?_ ?_ (Heap.get?_update_self _ hS' rfl) (by rw [Array.toList_push, hacc, List.map_append]; rfl) (by rw [List.length_append, hal]; rfl) ?_ ?_⟩) (by rw [hsz]; have : sizeLine = 16777216 := sizeLine_eq; omega) (by show (acc.push (Value.ref h.objs.size)).size ≤ sizeLine + 1; rw [Array.size_push, hsz]; have : sizeLine = 16777216 := sizeLine_eq; omega)
      · rcases hz' with ⟨e, q⟩ | ⟨T, f, hm, q⟩
        · simp at e
        · exact .inr ⟨T, f, hm, up z _ (Ne.symm s1) q⟩
      · exact up TI _ (Ne.symm s2) (hk' TI _ S.TIz S.TITO (fun e => S.TIi1 e) (fun e => S.TIi2 e) (fun e => S.TIi3 e) hTI)
      · obtain ⟨a1, a2, a3, q⟩ := hTO'
        exact ⟨a1, a2, a3, up TO _ (Ne.symm s3) q⟩
      · exact D1.frame _ _ _ st1' fun b hb o e => up b o (fun q => s4 (q ▸ hb)) e
      · exact D2.frame _ _ _ st2' fun b hb o e => up b o (fun q => s5 (q ▸ hb)) e
      · exact D3.frame _ _ _ st3' fun b hb o e => up b o (fun q => s6 (q ▸ hb)) e
      · exact fun b o b1 b2 b3 b4 b5 b6 e => up b o b1 (hk' b o b2 b3 b4 b5 b6 (hkeep b o b1 b2 b3 b4 b5 b6 e))
      · have g1 := hG.low (h' := h'.update Sl (Obj.mapSeq (·.push (Value.ref h.objs.size)))) fun c o hc e => up c o (far hc).2.2.2.2.2 (hk' c o (far hc).1 (far hc).2.1 (far hc).2.2.1 (far hc).2.2.2.1 (far hc).2.2.2.2.1 e)
        subst hal
        refine g1.snoc hbig (fun m => ?_) q1 q2 q3 (up _ _ bigS ht)
        obtain ⟨j, hj⟩ := List.mem_iff_getElem?.mp m
        obtain ⟨y1, y2, y3, _, _, _, hTo⟩ := hG.at_ j _ hj
        exact Nat.lt_irrefl _ (Heap.lt_size hTo)
      · rw [Heap.size_update, hz1]
        exact Nat.le_succ_of_le hbig
    rcases hz with ⟨e0, hz⟩ | ⟨T, f, hTm, hz⟩
    · obtain ⟨a1, a2, a3, hTO⟩ := hTO
      refine wpAny_bind (wpAny_pyNext_zipD3_item (s := { s with heap := h, toks := tk }) S D1 D2 D3 hz hTI hTO st1 st2 st3 hlt hlt hlt fun x1 x2 x3 h' tk' q1 q2 q3 hz' hTO' t1 t2 t3 ht hz1 hk' => ?_)
      exact step x1 x2 x3 h' tk' q1 q2 q3 (.inr ⟨_, false, by simp, hz'⟩) ⟨_, _, _, hTO'⟩ t1 t2 t3 ht hz1 hk'
    · obtain ⟨j, hj⟩ := List.mem_iff_getElem?.mp hTm
      obtain ⟨y1, y2, y3, _, _, _, hTo⟩ := hG.at_ j T hj
      refine wpAny_bind (pyNext_zip3_held_item (s := { s with heap := h, toks := tk }) S D1 D2 D3 hz hTo hTI st1 st2 st3 hlt fun x1 x2 x3 h' tk' q1 q2 q3 hz' t1 t2 t3 ht hz1 hk' => ?_)
      obtain ⟨a1, a2, a3, hTO⟩ := hTO
      exact step x1 x2 x3 h' tk' q1 q2 q3 (.inr ⟨T, true, List.mem_append_left _ hTm, hz'⟩) ⟨_, _, _, hk' TO _ S.TOz S.Ti1 S.Ti2 S.Ti3 hTO⟩ t1 t2 t3 ht hz1 fun b o b2 b3 b4 b5 b6 e => hk' b o b2 b4 b5 b6 e
theorem zipL_nolen : typeLookup (.type "zip") "__len__" = pure none := by rw [typeLookup_type, builtinLookup_eq_fast]; kernel_rfl
theorem zipL_nohint : typeLookup (.type "zip") "__length_hint__" = pure none := by rw [typeLookup_type, builtinLookup_eq_fast]; kernel_rfl
/-- list(z) of such a zip, not begun -/
theorem call_list_zip3 {Q : Value → Shared → Prop} {s : Shared} (hh : A.handled = none) (S : ZipSep3 z TI TO i1 i2 i3 fp1 fp2 fp3) (D1 : Draws prog w A.in1.in1.in1 i1 fp1 n P1 St1) (D2 : Draws prog w A.in1.in1.in1 i2 fp2 n P2 St2) (D3 : Draws prog w A.in1.in1.in1 i3 fp3 n P3 St3)
    (hz : IsZip s.heap z TI TO .none) (hTI : IsTupOf3 s.heap TI (.ref i1) (.ref i2) (.ref i3)) (hTO : ∃ a1 a2 a3, IsTupOf3 s.heap TO a1 a2 a3) (st1 : St1 0 s.heap) (st2 : St2 0 s.heap) (st3 : St3 0 s.heap) (hn : n ≤ 1000)
    (hf1 : ∀ b ∈ fp1, b < s.heap.objs.size) (hf2 : ∀ b ∈ fp2, b < s.heap.objs.size) (hf3 : ∀ b ∈ fp3, b < s.heap.objs.size)
    (hQ : ∀ h' tk acc c as, (∀ b o, b ≠ z → b ≠ TO → b ≠ i1 → b ≠ i2 → b ≠ i3 → s.heap.get? b = some o → h'.get? b = some o) → h'.get? s.heap.objs.size = some { cls := .type "list", dict := none, data := .seq acc c, slots := #[] } → as.length = n → ZGot P1 P2 P3 (s.heap.objs.size + 1) h' as →
      acc.toList = as.map Value.ref → Q (.ref s.heap.objs.size) { s with heap := h', toks := tk }) :
    wpAny (model prog w) A (call (.type "list") [.ref z]) Q E s := by
  refine callType_codes (Q₁ := fun obj s₁ => obj = .ref s.heap.objs.size ∧ s₁ = { s with heap := s.heap.push { cls := .type "list", data := .seq #[] } }) PySem.F.called_list (PySem.F.typeCall_list_1 _) PySem.F.entry_list_init
    (code_list_new _ ⟨rfl, rfl⟩) fun obj s₁ h₁ => ?_
  obtain ⟨rfl, rfl⟩ := h₁
  have hS : (s.heap.push { cls := .type "list", data := .seq #[] }).get? s.heap.objs.size = some { cls := .type "list", data := .seq #[] } := Heap.get?_push_size _ rfl
  have up0 : ∀ b o, s.heap.get? b = some o → (s.heap.push { cls := .type "list", data := .seq #[] }).get? b = some o := fun b o e => Heap.get?_push_of_some _ e
  obtain ⟨a1, a2, a3, hTO⟩ := hTO
  have lz := Heap.lt_size hz
  have lTI := Heap.lt_size hTI
  have lTO := Heap.lt_size hTO
  have li1 := hf1 _ S.mem1
  have li2 := hf2 _ S.mem2
  have li3 := hf3 _ S.mem3
  generalize hSl : s.heap.objs.size = Sl at hS lz lTI lTO li1 li2 li3 hf1 hf2 hf3
  generalize hs1 : (s.heap.push { cls := .type "list", data := .seq #[] }) = g0 at hS up0
  have g0z : g0.objs.size = Sl + 1 := by rw [← hs1, ← hSl, Heap.size_push]
  refine ⟨⟨_, hS, rfl⟩, PySem.F.args_list_init_2 _ _, ?_⟩
  show wpAny _ _ (do let old ← Builtin.List.listItems (.ref Sl); Builtin.List.listUpdate (.ref Sl) (fun _ => #[]); letGo old.toList.reverse; Builtin.List.listExtendWith (.ref Sl) (.ref z) .none) _ _ _
  refine wpAny_bind ?_
  unfold Builtin.List.listItems
  refine wpAny_bind (wpAny_seqItems (s := { s with heap := g0 }) hS rfl (wpAny_pure ?_))
  show wpAny _ _ (updateSeq Sl (fun _ => #[]) >>= fun _ => letGo (#[] : Array Value).toList.reverse >>= fun _ => Builtin.List.listExtendWith (.ref Sl) (.ref z) .none) _ _ { s with heap := g0 }
  refine wpAny_bind (wpAny_updateSeq (s := { s with heap := g0 }) hS rfl ?_)
  have hS₂ := Heap.get?_update_self (Obj.mapSeq (fun _ => (#[] : Array Value))) hS rfl
  have oth : ∀ b o, b ≠ Sl → g0.get? b = some o → (g0.update Sl (Obj.mapSeq (fun _ => (#[] : Array Value)))).get? b = some o := fun b o hb e => (Heap.get?_update_other _ _ (Ne.symm hb)).trans e
  refine wpAny_bind (wpAny_letGo ?_)
  have nz : z ≠ Sl := Nat.ne_of_lt lz
  have nTI : TI ≠ Sl := Nat.ne_of_lt lTI
  have nTO : TO ≠ Sl := Nat.ne_of_lt lTO
  have hz1 : IsZip (g0.update Sl (Obj.mapSeq (fun _ => (#[] : Array Value)))) z TI TO .none := oth z _ nz (up0 z _ hz)
  have hT1 : IsTupOf3 (g0.update Sl (Obj.mapSeq (fun _ => (#[] : Array Value)))) TI (.ref i1) (.ref i2) (.ref i3) := oth TI _ nTI (up0 TI _ hTI)
  have hTO1 : IsTupOf3 (g0.update Sl (Obj.mapSeq (fun _ => (#[] : Array Value)))) TO a1 a2 a3 := oth TO _ nTO (up0 TO _ hTO)
  have key : ∀ (h : Heap) (c₁ tk : Nat), (∀ b o, b ≠ Sl → s.heap.get? b = some o → h.get? b = some o) → h.get? Sl = some { cls := .type "list", data := .seq #[] c₁ } → Sl + 1 ≤ h.objs.size →
      codeAny (model prog w) A.in1 (.builtin "list.extend.loop" ⟨[.ref Sl, .ref z, .none], []⟩) (wants (fun r s₂ => r = .none ∧ Q (.ref Sl) s₂) E) { s with heap := h, toks := tk } := fun h c₁ tk hk hS1 hbig => by
    refine zip3_loop (A := A.in1) (s := s) (h1 := s.heap) (N0 := Sl + 1) S D1 D2 D3 ⟨Ne.symm nz, Ne.symm nTI, Ne.symm nTO, fun m => Nat.lt_irrefl _ (hf1 _ m), fun m => Nat.lt_irrefl _ (hf2 _ m), fun m => Nat.lt_irrefl _ (hf3 _ m)⟩ ⟨Nat.lt_succ_self _, Nat.lt_succ_of_lt lz, Nat.lt_succ_of_lt lTI, Nat.lt_succ_of_lt lTO, Nat.lt_succ_of_lt li1, Nat.lt_succ_of_lt li2, Nat.lt_succ_of_lt li3⟩ hn .none (fun h' tk' acc c as hk' hS' hl hG hacc => ?_)
      n 0 h tk c₁ #[] [] (Nat.sub_zero _) (Nat.zero_le _) (.inl ⟨rfl, hk z _ nz hz⟩) (hk TI _ nTI hTI) ⟨a1, a2, a3, hk TO _ nTO hTO⟩ (D1.frame _ _ _ st1 fun b hb o e => hk b o (Nat.ne_of_lt (hf1 b hb)) e) (D2.frame _ _ _ st2 fun b hb o e => hk b o (Nat.ne_of_lt (hf2 b hb)) e) (D3.frame _ _ _ st3 fun b hb o e => hk b o (Nat.ne_of_lt (hf3 b hb)) e)
      (fun b o b1 _ _ _ _ _ e => hk b o b1 e) hS1 rfl rfl ⟨fun a ha => (by cases ha), List.nodup_nil, fun j a e => (by simp at e)⟩ hbig
    refine ⟨rfl, ?_⟩
    have hG' : ZGot P1 P2 P3 (Sl + 1) h' as := hG
    subst hSl
    exact hQ h' tk' acc c as (fun b o b2 b3 b4 b5 b6 e => hk' b o (Nat.ne_of_lt (Heap.lt_size e)) b2 b3 b4 b5 b6 e) hS' hl hG' hacc
  have hk1 : ∀ b o, b ≠ Sl → s.heap.get? b = some o → (g0.update Sl (Obj.mapSeq (fun _ => (#[] : Array Value)))).get? b = some o := fun b o hb e => oth b o hb (up0 b o e)
  show wpAny _ A.in1.in1 (Builtin.List.listExtendWith (.ref Sl) (.ref z) .none) _ _ { s with heap := g0.update Sl (Obj.mapSeq (fun _ => (#[] : Array Value))) }
  unfold Builtin.List.listExtendWith
  refine wpAny_bind (wpAny_typeOf (T := "zip") ⟨_, hz1, rfl⟩ ?_)
  have h1 : Builtin.List.listSameRef (.ref Sl) (.ref z) = false := by simp [Builtin.List.listSameRef, Ne.symm nz]
  have h2 : (Value.type "zip" == Value.type "list") = false := by decide
  have h3 : (Value.type "zip" == Value.type "tuple") = false := by decide
  simp only [h1, h2, h3, Bool.or_false, Bool.false_eq_true, if_false]
  refine wpAny_bind (wpAny_pyIter_zip hz1 ?_)
  refine wpAny_bind (wpAny_holding ?_)
  unfold Builtin.List.listLengthHint
  refine wpAny_bind (wpAny_specialOf (T := "zip") ⟨_, hz1, rfl⟩ zipL_nolen ?_)
  show wpAny _ A.in1.in1 (specialOf (Value.ref z) (Str.ofString "__length_hint__") >>= _) _ _ _
  refine wpAny_bind (wpAny_specialOf (T := "zip") ⟨_, hz1, rfl⟩ zipL_nohint ?_)
  refine wpAny_pure ?_
  show wpAny _ A.in1.in1 (rule "list.extend.makes-room" >>= fun _ => Builtin.List.listTouch (.ref Sl) >>= fun _ => again (.builtin "list.extend.loop" ⟨[.ref Sl, .ref z, .none], []⟩)) _ _ _
  refine wpAny_bind (wpAny_rule ?_)
  refine wpAny_bind ?_
  show wpAny _ _ (updateSeq Sl (·.push .none) >>= fun _ => updateSeq Sl (·.pop)) _ _ _
  refine wpAny_bind (wpAny_updateSeq hS₂ rfl ?_)
  have hS₃ := Heap.get?_update_self (Obj.mapSeq (·.push Value.none)) hS₂ rfl
  refine wpAny_updateSeq hS₃ rfl ?_
  have hS₄ := Heap.get?_update_self (Obj.mapSeq (·.pop)) hS₃ rfl
  refine wpAny_pure ⟨plainId_quiet PySem.F.plain_extend_loop _, key _ _ _ (fun b o hb e => ?_) hS₄ ?_⟩
  · exact (Heap.get?_update_other _ _ (Ne.symm hb)).trans ((Heap.get?_update_other _ _ (Ne.symm hb)).trans (hk1 b o hb e))
  · rw [Heap.size_update, Heap.size_update, Heap.size_update, g0z]
    exact Nat.le_refl _
end
end PySem.W
namespace L2
open PySem PySem.Spec PyProof.Rows
/-- records of ours have turned and many new objects are laid -/
theorem Inv.turnedMany {X : Cx} {pins : List (Addr × Obj)} {σ : St} {H H' : Hp} {s : Shared} {h' : Heap} {t' : Nat} {ch : List Addr} (I : Inv X pins σ H s) (k : ∀ b o, b ∉ ch → s.heap.get? b = some o → h'.get? b = some o) (hf : ∀ b ∈ ch, FpOk X pins H b)
    (hlo : ∀ b, b < s.heap.objs.size → H' b = H b) (new : ∀ b o, s.heap.objs.size ≤ b → H' b = some o → ObjOk X.prog X.w H' h' b o) : Inv X pins σ H' { s with heap := h', toks := t' } := by
  have nit : ∀ b u, H b = some u → b ∉ ch := fun b u e z => by
    have q := (hf b z).1
    rw [q] at e; cases e
  have same : ∀ b u, H b = some u → H' b = some u := fun b u e => by rw [hlo b (I.hok b u e).lt]; exact e
  refine I.step (g' := s.gens) (d' := s.drawn) (ch := ch) (fun b hb => ⟨(hf b hb).2.2.2.1, (hf b hb).2.1, (hf b hb).2.2.2.2.1, (hf b hb).2.2.2.2.2⟩) (fun b o _ _ hc e _ => k b o hc e) (fun b o _ _ hc e _ => ⟨o.slots, k b o hc e⟩)
    (fun b o _ e n => ?_) (fun b o hc e => ⟨o, k b o hc e⟩) (fun b xs e => same _ _ e) (fun b o u e => same _ _ e) (fun b ps e => ⟨#[], ?_⟩) (fun m hm => ?_) (fun b u e => ?_) I.bare
  · rw [hlo b (Heap.lt_size e)]; exact n
  · rw [same _ _ e]; simp
  · obtain ⟨o, es, ep, ho, r⟩ := hm
    exact ⟨o, es, ep, k _ o (fun z => (hf _ z).2.1 rfl) ho, r⟩
  · by_cases hb : b < s.heap.objs.size
    · rw [hlo b hb] at e
      refine (I.hok b u e).stay (fun c v hc q => k c v ?_ q) (fun c q => same _ _ q) fun c xs q => same _ _ q
      rcases hc with z | z
      · rw [z]; exact nit b u e
      · exact nit c _ z
    · exact new b u (Nat.le_of_not_lt hb) e
end L2
namespace Mk
open PySem PySem.Spec PyProof.Rows L2
theorem vals_refs : ∀ as : List Addr, Vals (as.map V.ref) (as.map Value.ref)
  | [] => .nil
  | a :: as => .cons rfl (vals_refs as)
theorem hpS_keep {h h' : Heap} {a : Addr} {its : Array Value} (k : ∀ b o, h.get? b = some o → h'.get? b = some o) (p : hpS true h a its) : hpS true h' a its := by
  have p' : h.IsTuple a its := p
  obtain ⟨o, k1, k2⟩ := p'
  exact ⟨o, k _ _ k1, k2⟩
/-- the heap with a list of new tuples -/
def TupAt (as : List Addr) (xs ys zs : List V) (b : Addr) (o : HO) : Prop := ∃ (j : Nat) (x y z : V), as[j]? = some b ∧ xs[j]? = some x ∧ ys[j]? = some y ∧ zs[j]? = some z ∧ o = .tup [x, y, z]
open Classical in
noncomputable def zipH (H : Hp) (l : Addr) (as : List Addr) (xs ys zs : List V) : Hp := fun b => if b = l then some (.lst (as.map .ref)) else if h : ∃ o, TupAt as xs ys zs b o then some (choose h) else H b
theorem TupAt.one {as : List Addr} {xs ys zs : List V} {b : Addr} {o o' : HO} (nd : as.Nodup) (h : TupAt as xs ys zs b o) (h' : TupAt as xs ys zs b o') : o = o' := by
  obtain ⟨j, x, y, z, e1, e2, e3, e4, rfl⟩ := h
  obtain ⟨j', x', y', z', f1, f2, f3, f4, rfl⟩ := h'
  obtain ⟨g1, g2⟩ := List.getElem?_eq_some_iff.mp e1
  obtain ⟨g3, g4⟩ := List.getElem?_eq_some_iff.mp f1
  have : j = j' := (List.getElem_inj nd).mp (g2.trans g4.symm)
  subst this
  rw [e2] at f2
  rw [e3] at f3
  rw [e4] at f4
  cases f2
  cases f3
  cases f4
  rfl
theorem zipH_l {H : Hp} {l : Addr} {as : List Addr} {xs ys zs : List V} : zipH H l as xs ys zs l = some (.lst (as.map .ref)) := if_pos rfl
theorem zipH_at {H : Hp} {l b : Addr} {as : List Addr} {xs ys zs : List V} {o : HO} (nd : as.Nodup) (hb : b ≠ l) (h : TupAt as xs ys zs b o) : zipH H l as xs ys zs b = some o := by
  unfold zipH
  rw [if_neg hb, dif_pos ⟨o, h⟩]
  exact congrArg some (TupAt.one nd (Classical.choose_spec (p := fun o => TupAt as xs ys zs b o) ⟨o, h⟩) h)
theorem zipH_ne {H : Hp} {l b : Addr} {as : List Addr} {xs ys zs : List V} (hb : b ≠ l) (h : b ∉ as) : zipH H l as xs ys zs b = H b := by
  unfold zipH
  rw [if_neg hb, dif_neg fun ⟨o, j, x, y, z, e, _⟩ => h (List.mem_of_getElem? e)]
theorem zipH_tups {H : Hp} {l : Addr} {as : List Addr} {xs ys zs : List V} (nd : as.Nodup) (hl : l ∉ as) (h1 : as.length = xs.length) (h2 : ys.length = xs.length) (h3 : zs.length = xs.length) (j : Nat) (a : Addr) (e : as[j]? = some a) : ∃ x y z, xs[j]? = some x ∧ ys[j]? = some y ∧ zs[j]? = some z ∧ zipH H l as xs ys zs a = some (.tup [x, y, z]) := by
  have hj := (List.getElem?_eq_some_iff.mp e).1
  have k1 : j < xs.length := by omega
  have k2 : j < ys.length := by omega
  have k3 : j < zs.length := by omega
  exact ⟨xs[j], ys[j], zs[j], List.getElem?_eq_getElem k1, List.getElem?_eq_getElem k2, List.getElem?_eq_getElem k3, zipH_at nd (fun z => hl (z ▸ List.mem_of_getElem? e)) ⟨j, _, _, _, e, List.getElem?_eq_getElem k1, List.getElem?_eq_getElem k2, List.getElem?_eq_getElem k3, rfl⟩⟩
/-- the tuples of a zip -/
def tupL (H' : Hp) (xs ys zs : List V) (as : List Addr) : Prop := ∀ (j : Nat) (a : Addr), as[j]? = some a → ∃ x y z, xs[j]? = some x ∧ ys[j]? = some y ∧ zs[j]? = some z ∧ H' a = some (.tup [x, y, z])
def tLZ3 (K : PySem.W.Frag) (ta : TA) : TE := fun σ H R => ta σ H fun vs H1 => ∃ a1 a2 a3 xs ys zs, vs = [.ref a1, .ref a2, .ref a3] ∧ SqT K H1 a1 xs ∧ SqT K H1 a2 ys ∧ SqT K H1 a3 zs ∧ ys.length = xs.length ∧ zs.length = xs.length ∧ xs.length ≤ 1000 ∧
  ∀ (l : Addr) (as : List Addr) (H' : Hp), H1 l = none → (∀ a ∈ as, H1 a = none) → l ∉ as → as.length = xs.length → tupL H' xs ys zs as → H' l = some (.lst (as.map .ref)) → (∀ b, b ≠ l → b ∉ as → H' b = H1 b) → R (.ref l) H'
theorem pe_listZip3 {X : Cx} {e e2 e3 : Expr} {ta : TA} {p p2 pos pos2 : Pos} (hc : X.calm = true) (hm : X.mg "zip" = none) (hm2 : X.mg "list" = none) (hg : Gl X "zip") (hg2 : Gl X "list") (ha : PA X [e, e2, e3] ta)
    (hs : starEach [e, e2, e3] X.env = (false, eval e X.env) :: starEach [e2, e3] X.env := by rfl) (hpl : (backTo pos (starEach [e2, e3] X.env)).any (·.1) = false := by rfl)
    (hs2 : starEach [Expr.Call (.Name "zip" p) [e, e2, e3] [] pos] X.env = (false, eval (.Call (.Name "zip" p) [e, e2, e3] [] pos) X.env) :: starEach [] X.env := by rfl) (hpl2 : (backTo pos2 (starEach [] X.env)).any (·.1) = false := by rfl) :
    PE X (.Call (.Name "list" p2) [.Call (.Name "zip" p) [e, e2, e3] [] pos] [] pos2) (tLZ3 X.K ta) := by
  refine ⟨fun pins s σ H Q I h => ?_⟩
  refine wpAny_Call_Name_kw (ld_blt I hg2 hm2 PyProof.Rows.boot_list ?_)
  refine PyProof.Rows.callWith_type1 ?_ hs2 hpl2
  rw [hs2]
  show wpAny _ _ (spliced ((false, eval (.Call (.Name "zip" p) [e, e2, e3] [] pos) X.env) :: backTo pos2 (starEach [] X.env))) _ _ s
  refine Calls.spliced_cons ?_
  refine Call_ (ld_blt I hg hm PyProof.Rows.boot_zip (PyProof.Rows.callWith_type1 (thn (ha.run pos pins s σ H _ I h) fun us s1 ⟨vs, H1, I1, r1, q1⟩ => ?_) hs hpl))
  obtain ⟨a1, a2, a3, xs, ys, zs, ex, hqx, hqy, hqz, hl2, hl3, hle, q⟩ := q1
  subst ex
  cases r1 with
  | cons r rr =>
    cases rr with
    | cons r' rr =>
      cases rr with
      | cons r'' rr =>
        cases rr
        cases r
        cases r'
        cases r''
        obtain ⟨its, rv, p1, _⟩ := src_of (b := true) I1 hqx
        obtain ⟨its2, rv2, p2, _⟩ := src_of (b := true) I1 hqy
        obtain ⟨its3, rv3, p3, _⟩ := src_of (b := true) I1 hqz
        have l1 := hpS_lt p1
        have l2 := hpS_lt p2
        have l3 := hpS_lt p3
        have hh : X.A.handled = none := I1.ok.hd hc
        refine zip_begins3 (begins_of true a1 its.toArray) (begins_of true a2 its2.toArray) (begins_of true a3 its3.toArray) p1 p2 p3 fun h' hz hTI hTO h1 h2 h3 hsz hk => ?_
        have I2 : Inv X pins σ H1 { s1 with heap := h' } := I1.kept (t' := s1.toks) hk
        refine Calls.spliced_nil ?_
        have at1 : hpS true h' a1 its.toArray := hpS_keep hk p1
        have at2 : hpS true h' a2 its2.toArray := hpS_keep hk p2
        have at3 : hpS true h' a3 its3.toArray := hpS_keep hk p3
        have m1 := rv.length
        have m2 := rv2.length
        have m3 := rv3.length
        have z1 : its.toArray.size = xs.length := by rw [List.size_toArray, m1]
        have z2 : its2.toArray.size = xs.length := by rw [List.size_toArray, ← m2, hl2]
        have z3 : its3.toArray.size = xs.length := by rw [List.size_toArray, ← m3, hl3]
        have D1 := draws_of (prog := X.prog) (w := X.w) (A := X.A.in1.in1.in1) hh true s1.heap.objs.size a1 (Nat.ne_of_lt l1) its.toArray
        have D2 := draws_of (prog := X.prog) (w := X.w) (A := X.A.in1.in1.in1) hh true (s1.heap.objs.size + 1) a2 (Nat.ne_of_lt (Nat.lt_succ_of_lt l2)) its2.toArray
        have D3 := draws_of (prog := X.prog) (w := X.w) (A := X.A.in1.in1.in1) hh true (s1.heap.objs.size + 2) a3 (Nat.ne_of_lt (Nat.lt_succ_of_lt (Nat.lt_succ_of_lt l3))) its3.toArray
        rw [z1] at D1
        rw [z2] at D2
        rw [z3] at D3
        have lo : ∀ k < 6, s1.heap.objs.size + k < h'.objs.size := fun k hk => by rw [hsz]; omega
        have old : ∀ b, b < s1.heap.objs.size → b < h'.objs.size := fun b hb => by rw [hsz]; omega
        have S := zip_sep3 (N := s1.heap.objs.size) (fp1 := [a1]) (fp2 := [a2]) (fp3 := [a3]) (fun c hc => by rw [List.mem_singleton.mp hc]; exact l1) (fun c hc => by rw [List.mem_singleton.mp hc]; exact l2) (fun c hc => by rw [List.mem_singleton.mp hc]; exact l3)
        have in2 : ∀ {k a}, k < 6 → a < s1.heap.objs.size → ∀ b ∈ [s1.heap.objs.size + k, a], b < h'.objs.size := fun {k a} hk ha b hb => by
          simp only [List.mem_cons, List.not_mem_nil, or_false] at hb
          rcases hb with z | z
          · rw [z]; exact lo k hk
          · rw [z]; exact old a ha
        refine PySem.W.call_list_zip3 (s := { s1 with heap := h' }) hh S D1 D2 D3 hz hTI ⟨_, _, _, hTO⟩ ⟨itS_new h1, at1⟩ ⟨itS_new h2, at2⟩ ⟨itS_new h3, at3⟩ hle (in2 (k := 0) (by decide) l1) (in2 (k := 1) (by decide) l2) (in2 (k := 2) (by decide) l3) fun h2 tk acc c as hk2 hL hlen G hacc => ?_
        have hl : h'.objs.size ∉ as := fun m => Nat.lt_irrefl _ (G.above _ m)
        have tl := zipH_tups (H := H1) (l := h'.objs.size) (xs := xs) (ys := ys) (zs := zs) G.nd hl hlen hl2 hl3
        have fr : ∀ b, h'.objs.size ≤ b → H1 b = none := fun b hb => I2.hok.fresh hb
        have rvx : ∀ {j : Nat} {x : V} {v : Value} {xs : List V} {its : List Value}, Vals xs its → xs[j]? = some x → its.toArray[j]? = some v → RelV x v := fun {j x v xs its} r e e' => by
          obtain ⟨u, hu, ru⟩ := r.get e
          have e2 : its[j]? = some v := by simpa using e'
          rw [hu] at e2
          cases e2
          exact ru
        have I3 : Inv X pins σ (zipH H1 h'.objs.size as xs ys zs) { s1 with heap := h2, toks := tk } := by
          refine I2.turnedMany (s := { s1 with heap := h' }) (ch := [s1.heap.objs.size + 5, s1.heap.objs.size + 4, s1.heap.objs.size, s1.heap.objs.size + 1, s1.heap.objs.size + 2]) (fun b o hb e => hk2 b o (fun z => hb (by simp [z])) (fun z => hb (by simp [z])) (fun z => hb (by simp [z])) (fun z => hb (by simp [z])) (fun z => hb (by simp [z])) e) (fun b hb => ?_) (fun b hb => zipH_ne (Nat.ne_of_lt hb) fun m => Nat.lt_irrefl _ (Nat.lt_of_lt_of_le hb (Nat.le_of_succ_le (G.above _ m)))) (fun b o hb e => ?_)
          · have hle : s1.heap.objs.size ≤ b := by
              simp only [List.mem_cons, List.not_mem_nil, or_false] at hb
              rcases hb with z | z | z | z | z
              · rw [z]; exact Nat.le_add_right _ _
              · rw [z]; exact Nat.le_add_right _ _
              · rw [z]; exact Nat.le_refl _
              · rw [z]; exact Nat.le_add_right _ _
              · rw [z]; exact Nat.le_add_right _ _
            exact I1.fpOk hle (I1.hok.fresh hle)
          · by_cases hbl : b = h'.objs.size
            · subst hbl
              rw [zipH_l] at e
              cases e
              refine ⟨by rw [List.length_map, hlen]; exact Nat.le_trans hle (by decide), as.map Value.ref, c, ?_, by rw [hL, ← hacc]⟩
              exact vals_refs as
            · by_cases hm : b ∈ as
              · obtain ⟨j, hj⟩ := List.mem_iff_getElem?.mp hm
                obtain ⟨x, y, z, ex, ey, ez, et⟩ := tl j b hj
                rw [et] at e
                cases e
                obtain ⟨v1, v2, v3, w1, w2, w3, hT⟩ := G.at_ j b hj
                have new : ObjOk X.prog X.w (zipH H1 h'.objs.size as xs ys zs) h2 b (.tup [x, y, z]) := by
                  exact ⟨by show 3 ≤ sizeLine; decide, [v1, v2, v3], .cons (rvx rv ex w1) (.cons (rvx rv2 ey w2) (.cons (rvx rv3 ez w3) .nil)), ⟨_, hT, rfl, _, rfl⟩⟩
                exact new
              · rw [zipH_ne hbl hm, fr b hb] at e
                cases e
        exact ⟨.ref h'.objs.size, _, I3, rfl, q _ as _ (fr _ (Nat.le_refl _)) (fun a ha => fr a (Nat.le_of_succ_le (G.above a ha))) hl hlen tl zipH_l fun b hb hm => zipH_ne hb hm⟩

theorem rps_zip3 {F : Hp} : ∀ {xs ys zs : List V} {ds es fs : List PyData} {as : List Addr}, Rps F xs ds → Rps F ys es → Rps F zs fs → as.length = xs.length → ys.length = xs.length → zs.length = xs.length → tupL F xs ys zs as → Rps F (as.map .ref) (zp3 ds es fs)
  | [], _, _, _, _, _, [], .nil, .nil, .nil, _, _, _, _ => .nil
  | x :: xs, y :: ys, z :: zs, d :: ds, e :: es, f :: fs, a :: as, .cons r rs, .cons r2 rs2, .cons r3 rs3, h1, h2, h3, t => by
    obtain ⟨x', y', z', e1, e2, e3, h⟩ := t 0 a rfl
    cases e1
    cases e2
    cases e3
    exact .cons (.tup h (.cons r (.cons r2 (.cons r3 .nil)))) (rps_zip3 rs rs2 rs3 (by simpa using h1) (by simpa using h2) (by simpa using h3) fun j b hj => t (j + 1) b hj)
section
variable {X : Cx} {B : Bs} {G : En} {e e2 e3 : Expr} {ds es fs : List PyData} {p p2 pos pos2 : Pos}
/-- list(zip(a, b, c)) of tuples of one length -/
theorem e_listZip3 (hm : X.mg "zip" = none) (hm2 : X.mg "list" = none) (ha : EV X B G e (.tuple ds)) (hb : EV X B G e2 (.tuple es)) (hc : EV X B G e3 (.tuple fs)) (h1 : es.length = ds.length) (h2 : fs.length = ds.length) (h3 : ds.length ≤ 1000) (hca : X.calm = true := by rfl) (hg : Gl X "zip" := by rfl) (hg2 : Gl X "list" := by rfl)
    (hs : starEach [e, e2, e3] X.env = (false, eval e X.env) :: starEach [e2, e3] X.env := by rfl) (hs2 : starEach [e2, e3] X.env = (false, eval e2 X.env) :: starEach [e3] X.env := by rfl)
    (hs3 : starEach [e3] X.env = (false, eval e3 X.env) :: starEach [] X.env := by rfl) (hpl : (backTo pos (starEach [e2, e3] X.env)).any (·.1) = false := by rfl)
    (hs4 : starEach [Expr.Call (.Name "zip" p) [e, e2, e3] [] pos] X.env = (false, eval (.Call (.Name "zip" p) [e, e2, e3] [] pos) X.env) :: starEach [] X.env := by rfl) (hpl2 : (backTo pos2 (starEach [] X.env)).any (·.1) = false := by rfl) :
    EE X B G (.Call (.Name "list" p2) [.Call (.Name "zip" p) [e, e2, e3] [] pos] [] pos2) (is (.own (zp3 ds es fs))) :=
  e_of (pe_listZip3 hca hm hm2 hg hg2 (pa_cons ha (pa_cons hb (pa_cons hc pa_nil hs3) hs2) hs) hs hpl hs4 hpl2) fun s F H Q g w q => ⟨F, g, w, fun v t F1 H1 p1 g1 e1 w1 => ⟨F1, g1, w1.pop, fun v2 t2 F2 H2 p2 g2 e2 w2 => ⟨F2, g2, w2.pop, fun v3 t3 F3 H3 p3 g3 e3 w3 => by
    rw [show t = Sl.dat (.tuple ds) from p1] at w1
    rw [show t2 = Sl.dat (.tuple es) from p2] at w2
    rw [show t3 = Sl.dat (.tuple fs) from p3] at w3
    have r1 : Rp F3 v (.tuple ds) := (w1.topI rfl : Rp F1 v (.tuple ds)).mono (e2.trans e3)
    have r2 : Rp F3 v2 (.tuple es) := (w2.topI rfl : Rp F2 v2 (.tuple es)).mono e3
    have r3 : Rp F3 v3 (.tuple fs) := w3.topI rfl
    cases r1 with
    | @tup a1 xs _ k1 l1 =>
    cases r2 with
    | @tup a2 ys _ k2 l2 =>
    cases r3 with
    | @tup a3 zs _ k3 l3 =>
    have n1 := l1.length
    have n2 := l2.length
    have n3 := l3.length
    refine ⟨a1, a2, a3, xs, ys, zs, rfl, SqT.of (g3.h _ _ k1), SqT.of (g3.h _ _ k2), SqT.of (g3.h _ _ k3), by omega, by omega, by omega, fun l as H' hl has hla hlen ht hL hoth => ?_⟩
    let F' : Hp := fun b => if b ∈ as then H' b else F3 b
    let H4 : Hp := fun b => if b = l then none else H' b
    have Fnew : ∀ b, b ∈ as → F' b = H' b := fun b hb => if_pos hb
    have Fold : ∀ b, b ∉ as → F' b = F3 b := fun b hb => if_neg hb
    have H4l : H4 l = none := if_pos rfl
    have H4n : ∀ b, b ≠ l → H4 b = H' b := fun b hb => if_neg hb
    have gr : Grow F3 H3 F' H4 := by
      refine ⟨fun b o q2 => ?_, fun b o q2 => ?_, fun b o q2 => ?_, fun b o q2 n => ?_⟩
      · rw [Fold b fun m => by have z := g3.h _ _ q2; rw [has b m] at z; cases z]
        exact q2
      · have hb : b ≠ l := fun z => by rw [z, hl] at q2; cases q2
        rw [H4n b hb, hoth b hb fun m => by rw [has b m] at q2; cases q2]
        exact q2
      · by_cases hm : b ∈ as
        · rw [Fnew b hm] at q2
          rw [H4n b fun z => hla (z ▸ hm)]
          exact q2
        · rw [Fold b hm] at q2
          have q3 := g3.h _ _ q2
          have hb : b ≠ l := fun z => by rw [z, hl] at q3; cases q3
          rw [H4n b hb, hoth b hb hm]
          exact q3
      · by_cases hm : b ∈ as
        · exact .inl (has b hm)
        · rw [Fold b hm, n] at q2
          cases q2
    have eH : H' = upd H4 l (.lst (as.map .ref)) := funext fun b => by
      by_cases hb : b = l
      · rw [hb, upd_same]
        exact hL
      · rw [upd_ne hb, H4n b hb]
    have tF : tupL F' xs ys zs as := fun j a ej => by
      obtain ⟨x, y, z, e4, e5, e6, e7⟩ := ht j a ej
      exact ⟨x, y, z, e4, e5, e6, by rw [Fnew a (List.mem_of_getElem? ej)]; exact e7⟩
    have rr : Rps F' (as.map .ref) (zp3 ds es fs) := rps_zip3 (l1.mono gr.f) (l2.mono gr.f) (l3.mono gr.f) hlen (by omega) (by omega) tF
    have g4 := g3.grow gr
    rw [eH]
    exact q _ _ F' _ rfl (g4.grow (Grow.loose g4.h H4l)) ((e1.trans (e2.trans e3)).trans gr.f) (Sat.pushNew g4 (w3.pop.grow gr) H4l rr)⟩⟩⟩
end
end Mk
namespace Mk
open PySem PySem.Spec PyProof.Rows L2
section
variable {P : Program} {w : World} {K : PySem.W.Frag} {mg : Str → Option Value} {base : Heap} {C : Addr}
/-! ### pairs unlike by some kinds alone -/
def endsP (ps one other : List Int) : List (List Int) := (zpP3 ps one other).map fun z => [z.1, z.2.1, z.2.2]
def pairOk (ps : List Int) (kk : List (List Int)) (one other : List Int) : Bool := !decide (one = other) && ((endsP ps one other).filter fun e => !decide (e.getD 1 0 = e.getD 2 0)).all fun e => decide (e ∈ dicOf kk)
def pairsOf (c : List Int × List (List Int)) (kk : List (List Int)) : List (List Int × List Int) := c.2.flatMap fun one => (c.2.filter fun other => pairOk c.1 kk one other).map fun other => (one, other)
theorem pairOk_iff {ps : List Int} {kk : List (List Int)} {one other : List Int} : pairOk ps kk one other = true ↔ one ≠ other ∧ ∀ u ∈ unlikeP ps one other, u ∈ kk := by
  unfold pairOk endsP unlikeP
  rw [Bool.and_eq_true, List.all_eq_true]
  refine and_congr (by simp) ⟨fun h u hu => ?_, fun h u hu => ?_⟩
  · obtain ⟨z, hz, rfl⟩ := List.mem_map.mp hu
    obtain ⟨h1, h2⟩ := List.mem_filter.mp hz
    have h3 := h [z.1, z.2.1, z.2.2] (List.mem_filter.mpr ⟨List.mem_map.mpr ⟨z, h1, rfl⟩, h2⟩)
    exact dicOf_mem.mp (of_decide_eq_true h3)
  · obtain ⟨h1, h2⟩ := List.mem_filter.mp hu
    obtain ⟨z, hz, rfl⟩ := List.mem_map.mp h1
    exact decide_eq_true (dicOf_mem.mpr (h _ (List.mem_map.mpr ⟨z, List.mem_filter.mpr ⟨hz, h2⟩, rfl⟩)))
theorem pairsOf_len {c : List Int × List (List Int)} {kk : List (List Int)} (h : c.2.length ≤ 8) : (pairsOf c kk).length ≤ 64 := by
  have e := flat_len (f := fun one => (c.2.filter fun other => pairOk c.1 kk one other).map fun other => (one, other)) (k := 8) (xs := c.2) fun x _ => by
    rw [List.length_map]
    exact Nat.le_trans (List.length_filter_le _ _) h
  have : 8 * c.2.length ≤ 8 * 8 := Nat.mul_le_mul (Nat.le_refl _) h
  unfold pairsOf
  omega
theorem take1 {β : Type} {xs : List β} {i : Nat} {x : β} (h : xs[i]? = some x) : xs.take (i + 1) = xs.take i ++ [x] := by rw [List.take_add_one, h]; rfl
def c_unlike_pairs (C : Addr) : Ct := fun ts P => ∃ (cs : List Int) (ks : List (List Int × List (List Int))) (i : Nat) (c : List Int × List (List Int)) (kk : List (List Int)), ks[i]? = some c ∧ CkOk c ∧ kk.length ≤ 8 ∧ ts = [bkS C cs ks, .dat (.int i), .dat (cO.e kk)] ∧ P = is (.dat ((cLi cPair).e (pairsOf c kk)))
theorem ca_unlike_pairs {f : Addr} {fd : FuncData} (T : Bi K mg) (bc : BkC K C) (F : Fun K "unlike_pairs" "unlike_pairs" s_unlike_pairs f fd) (hm : mg "unlike_pairs" = some (.ref f)) (hb : Binds K fd ["book", "check", "kinds"] []) : Ca P w K mg base 1 "unlike_pairs" (c_unlike_pairs C) := by
  refine ca_mk F sc_unlike_pairs hm hb (fun ts P ⟨_, _, _, _, _, _, _, _, h, _⟩ => by rw [h]; rfl) (fun cdv A outer s H E hr B ts Pr cc => ?_)
  obtain ⟨cs, ks, ci, c, kk, hi, ok, k8, rfl, rfl⟩ := cc
  have nd := sc_unlike_pairs.nd
  have pl := ok.pl
  have rl := ok.rl
  refine q_unp (.two 3 4) (d := cC.e c) (e_ixTM cC hi (e_chks bc (e_bk 0)) (e_dat 1)) (g_two 3 4 rfl nd) ⟨_, _, rfl⟩ ?_
  refine q_asg (t := .dic (dicOf kk)) 5 (e_dcT (xs := kk) (.one 10) [("kind", 10)] (u1 hr) (i_tup (e_dat 2)) (fun _ _ _ _ _ => g_one 10 nd) (fun s' H' C cl fp B' r hr' => e_dat 10) (fun s' H' C cl fp B' r hr' => e_bl) (fun _ _ => trivial) (by omega) (blkOk_by (N := n_unlike_pairs) (sc := defScope s_unlike_pairs) (by decide +kernel)) nd) ?_ nd
  refine q_asg (t := .own (([] : List (List Int × List Int)).map cPair.e)) 6 (e_lstO (ds := []) vs_nil (by decide)) ?_ nd
  let pr : List Int → List (List Int × List Int) := fun one => (c.2.filter fun other => pairOk c.1 kk one other).map fun other => (one, other)
  let Gi : List (List Int × List Int) → Sl → En := fun fd t => [bkS C cs ks, .dat (.int ci), .dat (cO.e kk), .dat (cR.e c.1), .dat (cO.e c.2), .dic (dicOf kk), .own (fd.map cPair.e), t, .any, .any, .any, .any]
  refine q_forM (xs := c.2) cR (.one 7) (fun i => Gi ((c.2.take i).flatMap pr) .any) ⟨.inr rfl, .inr rfl, .inr rfl, .inr rfl, .inr rfl, .inr rfl, .inr rfl, .inr rfl, .inr rfl, .inr rfl, .inr rfl, .inr rfl, trivial⟩ (i_tup (e_dat 4)) (g_one 7 nd) (fun _ _ => trivial) (fun i one ho => ?_) ?_ PassesOwn.never
  · have lo := ok.el one (List.mem_of_getElem? ho)
    refine q_forM (xs := c.2) cR (.one 8) (fun j => Gi ((c.2.take i).flatMap pr ++ ((c.2.take j).filter fun other => pairOk c.1 kk one other).map fun other => (one, other)) (.dat (cR.e one))) ⟨.inr rfl, .inr rfl, .inr rfl, .inr rfl, .inr rfl, .inr rfl, .inr (by simp), .inr rfl, .inr rfl, .inr rfl, .inr rfl, .inr rfl, trivial⟩ (i_tup (e_dat 4)) (g_one 8 nd) (fun _ _ => trivial) (fun j other hj => ?_) ?_ PassesOwn.never
    · have lt := ok.el other (List.mem_of_getElem? hj)
      have big : ((c.2.take i).flatMap pr ++ ((c.2.take j).filter fun other => pairOk c.1 kk one other).map fun other => (one, other)).length < 100000 := by
        have e1 : ((c.2.take i).flatMap pr).length ≤ 8 * (c.2.take i).length := flat_len fun x _ => by
          show ((c.2.filter fun other => pairOk c.1 kk x other).map fun other => (x, other)).length ≤ 8
          rw [List.length_map]
          exact Nat.le_trans (List.length_filter_le _ _) rl
        have e2 := List.length_take_le' i c.2
        have e3 := List.length_filter_le (fun other => pairOk c.1 kk one other) (c.2.take j)
        have e4 := List.length_take_le' j c.2
        rw [List.length_append, List.length_map]
        omega
      have el : (zp3 (c.1.map .int) (one.map .int) (other.map .int)) = (endsP c.1 one other).map cR.e := by
        have := zp3_eq cI cI cI c.1 one other
        rw [show zp3 (c.1.map .int) (one.map .int) (other.map .int) = _ from this]
        unfold endsP
        rw [List.map_map]
        rfl
      have el3 : ∀ e ∈ endsP c.1 one other, e.length = 3 := fun e he => by
        obtain ⟨z, _, rfl⟩ := List.mem_map.mp he
        rfl
      have ell : (endsP c.1 one other).length ≤ 3 := by
        unfold endsP
        rw [List.length_map, zpP3_len]
        omega
      refine q_asg (t := .dat (.list ((endsP c.1 one other).map cR.e))) 9 (EV.eq (e_frz (e_listZip3 (ds := c.1.map .int) (es := one.map .int) (fs := other.map .int) T.zip T.list (e_dat 3) (e_dat 7) (e_dat 8) (by simp [lo]) (by simp [lt]) (by simp; omega))) (by rw [el])) ?_ nd
      refine s_one (s_if (k := true) (P := is (pairOk c.1 kk one other)) (t_bool (w_and (t_neM cR fl_cR (u64 hr) (e_dat 7) (e_dat 8)) fun _ => w_and1 (t_val (EV.eq (e_all (bs := ((endsP c.1 one other).filter fun e => !decide (e.getD 1 0 = e.getD 2 0)).map fun e => decide (e ∈ dicOf kk)) T.all (EV.eq (e_frz (e_lcM (xs := endsP c.1 one other) cR (.one 11) [("end", 11)] (fun e => !decide (e.getD 1 0 = e.getD 2 0)) (fun e => .bool (decide (e ∈ dicOf kk))) (i_list (e_dat 9)) (fun _ _ _ _ _ => g_one 11 nd) (fun s' H' C cl fp B' e he => ts_one (t_neM cI fl_int (u64 hr) (e_ixTI (j := 1) (by decide) (by rw [el3 e he]; decide) (e_dat 11) e_int) (e_ixTI (j := 2) (by decide) (by rw [el3 e he]; decide) (e_dat 11) e_int))) (fun s' H' C cl fp B' e he _ => e_dIn 5 (u1 hr) (e_dat 11)) (fun _ _ => trivial) (by omega) (blkOk_by (N := n_unlike_pairs) (sc := defScope s_unlike_pairs) (by decide +kernel)) nd)) (by rw [List.map_map]; rfl))) (by rw [List.all_map]; rfl)))))
        (fun ht => ?_) (fun hf => ?_))
      · have ht' : pairOk c.1 kk one other = true := ht.symm
        refine s_one (s_app (ds := ((c.2.take i).flatMap pr ++ ((c.2.take j).filter fun other => pairOk c.1 kk one other).map fun other => (one, other)).map cPair.e) 6 (P := is (.dat (cPair.e (one, other)))) (e_tup (ds := [_, _]) (vs_cons (e_dat 7) (vs_cons (e_dat 8) vs_nil)) (by simp)) (fun t ht2 => ⟨_, ht2, .inr rfl, .inr rfl, .inr rfl, .inr rfl, .inr rfl, .inr rfl, .inr ?_, .inr rfl, .inl rfl, .inl rfl, .inr rfl, .inr rfl, trivial⟩) (by rw [List.length_map]; exact big))
        show Sl.own _ = Sl.own _
        rw [take1 hj, List.filter_append, List.filter_cons_of_pos (by exact ht')]
        simp only [List.map_append, List.filter_nil, List.map_cons, List.map_nil, List.append_assoc]
      · have hf' : pairOk c.1 kk one other = false := hf.symm
        refine s_nil ⟨.inr rfl, .inr rfl, .inr rfl, .inr rfl, .inr rfl, .inr rfl, .inr ?_, .inr rfl, .inl rfl, .inl rfl, .inr rfl, .inr rfl, trivial⟩
        show Sl.own _ = Sl.own _
        rw [take1 hj, List.filter_append, List.filter_cons_of_neg (by rw [hf']; decide)]
        simp
    · rw [take_all, show (c.2.take i).flatMap pr ++ ((c.2.filter fun other => pairOk c.1 kk one other).map fun other => (one, other)) = (c.2.take (i + 1)).flatMap pr by rw [flat_take ho]]
      exact s_nil ⟨.inr rfl, .inr rfl, .inr rfl, .inr rfl, .inr rfl, .inr rfl, .inr rfl, .inl rfl, .inr rfl, .inr rfl, .inr rfl, .inr rfl, trivial⟩
  · rw [take_all]
    exact ss_frz 6 (q_ret (t := .dat ((cLi cPair).e (pairsOf c kk))) (e_dat 6) ⟨rfl, rfl⟩)
end
end Mk
namespace Mk
open PySem PySem.Spec PyProof.Rows L2
section
variable {X : Cx} {B : Bs} {G : En} {a : Expr} {pos : Pos} {d : PyData}
theorem t_isN {j : Nat} {pos3 : Pos} (ha : EV X B G a d) {k : Bool} (hk : (match d with | .none => true | _ => false) = k) : ET X B G (.Compare a [.Is] [.Constant .none j pos3] pos) (is k) :=
  tt_cmp2 (pt_cmp (pc_isN ha) rfl) fun s F H Q g w q => ⟨F, g, w, fun v t F1 H1 p1 g1 e1 w1 => by
    rw [show t = Sl.dat d from p1] at w1
    have r : Rp F1 v d := w1.topI rfl
    have e : decide (v = .non) = k := by
      rw [← hk]
      cases r <;> simp
    rw [e]
    exact q _ F1 H1 rfl g1 e1 w1.pop⟩
end
section
variable {P : Program} {w : World} {K : PySem.W.Frag} {mg : Str → Option Value} {base : Heap} {C : Addr}
def c_all_unlike (C : Addr) : Ct := fun ts P => ∃ (cs : List Int) (ks : List (List Int × List (List Int))) (kk : List (List Int)), ks.length ≤ 10 ∧ (∀ c ∈ ks, CkOk c) ∧ kk.length ≤ 8 ∧ ts = [bkS C cs ks, .dat (cO.e kk)] ∧ P = is (.dat (.list ((ks.map fun c => pairsOf c kk).map (cLi cPair).e)))
theorem ca_all_unlike {f : Addr} {fd : FuncData} (T : Bi K mg) (bc : BkC K C) (F : Fun K "all_unlike" "all_unlike" s_all_unlike f fd) (hm : mg "all_unlike" = some (.ref f)) (hb : Binds K fd ["book", "kinds"] []) (D1 : Ca P w K mg base 1 "unlike_pairs" (c_unlike_pairs C)) : Ca P w K mg base 2 "all_unlike" (c_all_unlike C) := by
  refine ca_mk F sc_all_unlike hm hb (fun ts P ⟨_, _, _, _, _, _, h, _⟩ => by rw [h]; rfl) (fun cdv A outer s H E hr B ts Pr cc => ?_)
  obtain ⟨cs, ks, kk, k10, ok, k8, rfl, rfl⟩ := cc
  have nd := sc_all_unlike.nd
  refine q_ret (t := .dat (.list ((ks.map fun c => pairsOf c kk).map (cLi cPair).e))) (EV.eq (e_mapM (xs := rgI ks.length) cI (.one 2) [("check", 2)] (fun i => (cLi cPair).e (pairsOf (ks.getD i.toNat ([], [])) kk)) (i_rangeM (EV.eq (e_lenT T.len (e_chks bc (e_bk 0))) (by rw [List.length_map])) (by omega) T.range) (fun _ _ _ _ _ => g_one 2 nd) (fun s' H' C' cl fp B' i hi => ?_) (fun _ _ => trivial) (by rw [rgI_len]; omega) (blkOk_by (N := n_all_unlike) (sc := defScope s_all_unlike) (by decide +kernel)) nd) ?_) ⟨rfl, rfl⟩
  · obtain ⟨k, hk⟩ := List.mem_iff_getElem?.mp hi
    obtain ⟨rfl, hlt⟩ := rgI_get hk
    have hc : ks[k]? = some (ks[k]) := List.getElem?_eq_getElem hlt
    have hg : ks.getD (Int.toNat (k : Int)) ([], []) = ks[k] := by rw [Int.toNat_natCast]; simp [List.getD, hlt]
    rw [hg]
    exact e_callD D1 hr (as_cons (e_bk 0) (as_cons (e_dat 2) (as_cons (e_dat 1) as_nil))) ⟨cs, ks, k, ks[k], kk, hc, ok _ (List.getElem_mem hlt), k8, rfl, rfl⟩
  · congr 1
    apply List.ext_getElem?
    intro i
    rw [List.getElem?_map, List.getElem?_map, List.getElem?_map]
    by_cases h : i < ks.length
    · have e : (rgI ks.length)[i]? = some (i : Int) := by unfold rgI; rw [List.getElem?_map, List.getElem?_range h]; rfl
      rw [e, List.getElem?_eq_getElem h]
      simp [List.getD, h]
    · rw [List.getElem?_eq_none (by rw [rgI_len]; omega), List.getElem?_eq_none (by omega)]
      rfl
/-- an order by which each kind can go first behind those ahead -/
def Ranked (ks : List (List Int × List (List Int))) (o : List (List Int)) : Prop := ∀ (i : Nat) (k : List Int), o[i]? = some k → ∀ c ∈ ks, ∀ z ∈ pairsOf c (o.drop i), barred c z.1 z.2 k = []
def c_is_ranking (C : Addr) : Ct := fun ts P => ∃ (cs : List Int) (ks : List (List Int × List (List Int))) (d : PyData) (o : List (List Int)), cs.length ≤ 4 ∧ (∀ c ∈ cs, 0 ≤ c ∧ c ≤ 4) ∧ okVal d ∧ ks.length ≤ 10 ∧ (∀ c ∈ ks, CkOk c) ∧ orderK (kinds cs) d = some o ∧ o.length ≤ 8 ∧ Ranked ks o ∧ ts = [bkS C cs ks, .dat d] ∧ P = is (.dat (.bool true))
theorem pairsOf_mem {c : List Int × List (List Int)} {kk : List (List Int)} {z : List Int × List Int} (h : z ∈ pairsOf c kk) : z.1 ∈ c.2 ∧ z.2 ∈ c.2 ∧ pairOk c.1 kk z.1 z.2 = true := by
  obtain ⟨one, h1, h2⟩ := List.mem_flatMap.mp h
  obtain ⟨other, h3, rfl⟩ := List.mem_map.mp h2
  obtain ⟨h4, h5⟩ := List.mem_filter.mp h3
  exact ⟨h1, h4, h5⟩
theorem ca_is_ranking {f : Addr} {fd : FuncData} (T : Bi K mg) (F : Fun K "is_ranking" "is_ranking" s_is_ranking f fd) (hm : mg "is_ranking" = some (.ref f)) (hb : Binds K fd ["book", "value"] []) (D1 : Ca P w K mg base 6 "order_of" (c_order_of C)) (D2 : Ca P w K mg base 3 "first_bar" (c_first_bar C)) (D3 : Ca P w K mg base 2 "all_unlike" (c_all_unlike C)) : Ca P w K mg base 7 "is_ranking" (c_is_ranking C) := by
  refine ca_mk F sc_is_ranking hm hb (fun ts P ⟨_, _, _, _, _, _, _, _, _, _, _, _, h, _⟩ => by rw [h]; rfl) (fun cdv A outer s H E hr B ts Pr cc => ?_)
  obtain ⟨cs, ks, d, o, c4, cv, okv, k10, ok, ho, o8, rk, rfl, rfl⟩ := cc
  have nd := sc_is_ranking.nd
  refine q_asg (t := .dat (cO.e o)) 2 (EE.imp (e_callD D1 hr (as_cons (e_bk 0) (as_cons (e_dat 1) as_nil)) ⟨cs, _, d, c4, cv, okv, rfl, rfl⟩) fun t ht => by rw [show t = _ from ht, ho]; rfl) ?_ nd
  refine q_ifRet (k := false) (t_isN (e_dat 2) rfl) (fun h => nomatch h) fun _ => ?_
  refine q_ret (t := .dat (.bool true)) (EV.eq (e_allM (xs := enP o) (cPr cI cR) (.two 3 4) [("at", 3), ("kind", 4)] (fun _ => true) T.all (by rw [← enD_eq]; exact i_enum true T.enum (e_dat 2)) (fun _ _ _ _ _ => g_two 3 4 rfl nd) (fun s' H' C' cl fp B' z hz => ?_) (fun _ _ => ⟨_, _, rfl⟩) (by rw [enP_len]; omega) (blkOk_by (N := n_is_ranking) (sc := defScope s_is_ranking) (by decide +kernel)) nd) (by simp)) ⟨rfl, rfl⟩
  obtain ⟨i, hi1, hi2⟩ := enP_mem hz
  refine e_isN (d := .none) (e_callD D2 hr (as_cons (e_bk 0) (as_cons (e_dat 4) (as_cons (e_callD D3 hr (as_cons (e_bk 0) (as_cons (t := .dat (cO.e (o.drop i))) (EV.eq (e_slT (l := some (i : Int)) (h := none) (ds := o.map cR.e) (e_dat 2) (o_some (EV.eq (e_dat 3) (by rw [hi1]))) o_none) ?_) as_nil)) ⟨cs, ks, o.drop i, k10, ok, by rw [List.length_drop]; omega, rfl, rfl⟩) as_nil))) ⟨cs, ks, z.2, ks.map fun c => pairsOf c (o.drop i), by rw [List.length_map]; exact k10, ?_, ?_, rfl, rfl⟩) rfl
  · rw [cut_from, ← List.map_drop]
  · intro p hp
    obtain ⟨c, hc, rfl⟩ := List.mem_map.mp hp
    exact Nat.le_trans (pairsOf_len (ok c hc).rl) (by decide)
  · intro j p hp
    rw [List.getElem?_map] at hp
    cases hj : ks[j]? with
    | none => rw [hj] at hp; cases hp
    | some c =>
      rw [hj] at hp
      cases hp
      have hc := List.mem_of_getElem? hj
      exact ⟨c, rfl, ok c hc, fun y hy => ⟨(ok c hc).el _ (pairsOf_mem hy).1, (ok c hc).el _ (pairsOf_mem hy).2.1, rk i z.2 hi2 c hc y hy⟩⟩
/-- how many rows an order adds -/
def c_added_by (C : Addr) : Ct := fun ts P => ∃ (cs : List Int) (ks : List (List Int × List (List Int))) (o : List (List Int)), ColsOk cs ∧ ks.length ≤ 10 ∧ (∀ c ∈ ks, CkU cs c) ∧ OrdOk o ∧ o.length ≤ 4 ∧ ts = [bkS C cs ks, .dat (cO.e o)] ∧ P = is (.dat (.int (addedF ks o)))
theorem ca_added_by {f : Addr} {fd : FuncData} (T : Bi K mg) (bc : BkC K C) (F : Fun K "added_by" "added_by" s_added_by f fd) (hm : mg "added_by" = some (.ref f)) (hb : Binds K fd ["book", "order"] []) (D1 : Ca P w K mg base 3 "grown" c_grown) : Ca P w K mg base 4 "added_by" (c_added_by C) := by
  refine ca_mk F sc_added_by hm hb (fun ts P ⟨_, _, _, _, _, _, _, _, h, _⟩ => by rw [h]; rfl) (fun cdv A outer s H E hr B ts Pr c => ?_)
  obtain ⟨cols, ks, o, cok, c10, hcs, ok, o4, rfl, rfl⟩ := c
  have nd := sc_added_by.nd
  refine q_ret (t := .dat (.int (addedF ks o))) ?_ ⟨rfl, rfl⟩
  refine EV.eq (e_sum (ns := ks.map fun c => ((hullF c.1 c.2 o).length : Int) - (c.2.length : Int)) T.sum ?_) rfl
  rw [← sum_int]
  refine e_mapM cC (.two 2 3) [("columns", 2), ("rows", 3)] (fun c => .int (((hullF c.1 c.2 o).length : Int) - (c.2.length : Int))) (i_tup (e_chks bc (e_bk 0))) (fun _ _ _ _ _ => g_two 2 3 rfl nd) (fun s' H' C' cl fp B' c hc => ?_) (fun _ _ => ⟨_, _, rfl⟩) (by omega) (blkOk_by (N := n_added_by) (sc := defScope s_added_by) (by decide +kernel)) nd
  have h := hcs c hc
  have rl := (h.ck cok).rl
  refine EV.eq (e_subI (e_lenT T.len (e_callD D1 hr (as_cons (e_dat 2) (as_cons (e_dat 3) (as_cons (e_dat 1) as_nil))) ⟨c.1, allRows cols c.1, c.2, o, h.p1, h.p3, h.univ cok, h.sub, h.nd, ok, o4, rfl, rfl⟩)) (e_lenT T.len (e_dat 3))) ?_
  rw [List.length_map, List.length_map]
end
end Mk
namespace Mk
open PySem PySem.Spec PyProof.Rows L2
section
variable {P : Program} {w : World} {K : PySem.W.Frag} {mg : Str → Option Value} {base : Heap} {C : Addr}
def c_Book : CtO := fun ts c k => ∃ (cs : List Int) (ks : List (List Int × List (List Int))) (b : Bool), ColsOk cs ∧ ks.length ≤ 6 ∧ (∀ c ∈ ks, CkU cs c) ∧ ts = [.dat (cR.e cs), .dat (dS b (ks.map cC.e))] ∧ c = cR.e cs ∧ k = .tuple (ks.map cC.e)
theorem isSeq_dS (b : Bool) (ds : List PyData) : isSeq (dS b ds) = true := by cases b <;> rfl
theorem dS_nodic (b : Bool) (ds : List PyData) (kv : List (PyData × PyData)) : dS b ds ≠ .dict kv := by cases b <;> (intro h; cases h)
theorem ca_Book {params : Arguments} {f : Addr} {fd : FuncData} {dvs : List V} {kws : List (Str × V)} (T : Bi K mg) (U : Nu mg) (bc : BkC K C) (F : FunD K "__init__" "Book.__init__" params (defBody s_Book_init) (defScope s_Book_init) dvs kws f fd) (hm : mg "Book" = some (.ref C)) (M : L2.Mk K C f) (hb : Binds K fd ["self", "columns", "checks"] [])
    (D1 : Ca P w K mg base 3 "check_columns" c_check_columns) (D2 : Ca P w K mg base 1 "is_sequence" c_is_sequence) (D3 : Ca P w K mg base 5 "is_check" c_is_check) (D4 : Ca P w K mg base 1 "told_check" c_told_check) : CaO P w K mg base 6 "Book" C c_Book := by
  refine caO_mk F sc_Book_init hm M hb (fun ts c k ⟨_, _, _, _, _, _, h, _⟩ => by rw [h]; rfl) (fun cdv A outer s H E hr B p ts c k cc => ?_)
  obtain ⟨cs, ks, b, cok, k6, hks, rfl, rfl, rfl⟩ := cc
  have nd := sc_Book_init.nd
  obtain ⟨tk, mk⟩ := U.mch
  have oc : okCols cs := ⟨cok.l1, Nat.le_succ_of_le cok.l3, fun c hc => by have := cok.v c hc; omega⟩
  refine q_obSet (fs := []) (d := cR.e cs) 0 bc.cls bc.co (e_callD D1 hr (as_cons (e_dat 1) as_nil) ⟨cs, oc, rfl, rfl⟩) ?_ (by decide) (by decide) rfl rfl
  refine q_ifRet (k := false) (t_bool (w_or (x := false) (y := false) (t_not (x := true) (t_val (EV.eq (e_callD D2 hr (as_cons (e_dat 2) as_nil) ⟨dS b (ks.map cC.e), rfl, dS_nodic b _, rfl⟩) (by rw [isSeq_dS])))) fun _ => w_or1 ((t_gt (EV.eq (e_lenS b T.len (e_dat 2)) (by rw [List.length_map])) (e_globI mk)).eq (by simp; omega)))) (fun h => nomatch h) fun _ => ?_
  refine q_forM (xs := enP ks) (cPr cI cC) (.two 3 4) (fun _ => [.ob C p [("columns", cR.e cs)], .dat (cR.e cs), .dat (dS b (ks.map cC.e)), .any, .any]) (GLe.refl _) (by rw [← enD_eq]; exact i_enum b T.enum (e_dat 2)) (g_two 3 4 rfl nd) (fun _ _ => ⟨_, _, rfl⟩) (fun i z hz => ?_) ?_ PassesOwn.never
  · obtain ⟨j, hj1, hj2⟩ := enP_mem (List.mem_of_getElem? hz)
    have hc := hks _ (List.mem_of_getElem? hj2)
    refine q_ifRet (k := false) (t_not (x := true) (t_val (e_callD D3 hr (as_cons (e_obFld (C := C) (q := p) (fs := [("columns", cR.e cs)]) 0 bc.cls bc.co rfl rfl rfl) (as_cons (e_dat 4) as_nil)) ⟨cs, z.2, cok, hc, rfl, rfl⟩))) (fun h => nomatch h) fun _ => ?_
    exact s_nil ⟨.inr rfl, .inr rfl, .inr rfl, .inl rfl, .inl rfl, trivial⟩
  · refine q_obSet (fs := [("columns", cR.e cs)]) (d := .tuple (ks.map cC.e)) 0 bc.cls bc.ch (e_tupL T.tuple (e_mapM (xs := ks) cC (.one 4) [("check", 4)] cC.e (i_dS b (e_dat 2)) (fun _ _ _ _ _ => g_one 4 nd) (fun s' H' C' cl fp B' c hc => e_callD D4 hr (as_cons (e_dat 4) as_nil) ⟨cs, c, cok, hks c hc, rfl, rfl⟩) (fun _ _ => trivial) (by omega) (blkOk_by (N := n_Book_init) (sc := defScope s_Book_init) (by decide +kernel)) nd)) ?_ (show ("checks" : Str) ∉ [("columns" : Str)] by decide) (show 1 < 1000 by decide) rfl rfl
    exact s_nil rfl
end
end Mk
namespace PySem.W
open PySem PySem.Calls PyProof.Rows PyProof.V PySem.Spec
section
variable {prog : Program} {w : World} {A : Around} {E : Value → Shared → Prop} {s : Shared} {K : Frag} {x C L f : Addr} {h₀ : Heap} {m : Str → Option Value} {ox : Obj} {od : Option Obj} {b tb : Value}
theorem ifBound_Kb {M : Model} {name : Str} {T id : String} {args : List Value} {Q : Option Value → Shared → Prop} (X : K.In s.heap) (I : InstAt s.heap x ox C od) (hs : findIn K (.ref C) name = some (some (.builtin id))) (S : Slot T name id)
    (h : wpAny M A (call (.builtin id) (.ref x :: args)) (fun v => Q (some v)) E s) : wpAny M A (callSpecialIfBound? (.ref x) name args) Q E s := by
  simp only [callSpecialIfBound?, bindSpecialIfBound?]
  refine wpAny_holding (wpAny_bind (wpAny_bind (wpAny_bind (I.type.here ((looks_findIn X hs).here ?_)))))
  simp only [S.bind]
  refine wpAny_bind (wpAny_askSetting (wpAny_ite ?_))
  have fin : wpAny M A (call (.builtin id) ([.ref x] ++ args) >>= fun v => pure (some v)) Q E s := wpAny_bind (wpAny_mono h (fun v s' h' => wpAny_pure h') fun _ _ h' => h')
  split
  · exact wpAny_bind (wpAny_pure (wpAny_pure fin))
  · exact wpAny_tryCatch (wpAny_bind (wpAny_pure (wpAny_pure fin)))
theorem ne_K {Q : Value → Shared → Prop} (hu : A.units + 1 < cLine) (F : Fr h₀ L s.heap m) (X₀ : K.In h₀) (I : InstAt s.heap x ox C od) (hb : Looks (model prog w) s.heap (typeOf b) tb) (hn : notFirst K C tb = true)
    (hs : findIn K (.ref C) "__ne__" = some (some (.builtin "object.__ne__"))) (hs2 : findIn K (.ref C) "__eq__" = some (some (.ref f))) (hf : isFn K (.ref f) = true) (hm : mroIn K C (.type "object") = some true)
    (h : wpAny (model prog w) A.in1 (call (.ref f) [.ref x, b]) (fun v s' => ∃ k, v = .bool k ∧ Q (.bool (!k)) s') E s) : wpAny (model prog w) A (richCompare .NotEq (.ref x) b) Q E s := by
  have X := X₀.keeps F.keep
  have sub : Looks (model prog w) s.heap (isInstance (.ref x) (.type "object")) true := I.type.andThen (looks_mroIn X hm)
  have chk : ∀ (E' : Value → Shared → Prop) (Q' : Unit → Shared → Prop), Q' () s → wpAny (model prog w) A.in1 (checkBuiltinCall "object.__ne__" ⟨[.ref x, b], []⟩) Q' E' s := fun E' Q' hq => by
    simp only [checkBuiltinCall, PySem.F.cmpKind_ne, PySem.F.cmpSplit_ne]
    refine wpAny_bind (sub.here ?_)
    simp only [Bool.not_true, Bool.false_eq_true, if_false]
    have ha := PySem.F.cmpArgs_ne (.ref x) b
    cases hsig : Manifest.signature? "object.__ne__" with
    | none => exact wpAny_pure hq
    | some sig =>
      simp only [argsOk, hsig] at ha
      have h2 : Bind.checkArgs "object.__ne__" sig ⟨[.ref x, b], []⟩ = pure () := ha
      show wpAny _ _ (Bind.checkArgs "object.__ne__" sig ⟨[.ref x, b], []⟩) Q' E' _
      rw [h2]; exact wpAny_pure hq
  have body : ∀ (Q' : PySem.Fin → Shared → Prop), (∀ k s', Q (.bool (!k)) s' → Q' (.done (.ret (.bool (!k)))) s') → wpAny (model prog w) A.in1 (Builtin.«object.__ne__» ⟨[.ref x, b], []⟩) Q' E s := fun Q' hq => by
    unfold Builtin.«object.__ne__»
    repeat (first
      | with_reducible refine wpAny_cRoomFor (show A.in1.units < cLine from hu) ?_
      | (refine wpAny_bind (m := callSpecialIfBound? (.ref x) (Str.ofString "__eq__") [b])
          (ifBound_K X I hs2 hf (wpAny_mono h (fun r s' hr => by
            obtain ⟨k, rfl, hk⟩ := hr
            have hz := hq k s' hk
            repeat (first | exact hz | exact wpAny_pure hz | exact wpAny_truthy_bool hz | (refine wpAny_bind (m := truthy (.bool _)) (wpAny_truthy_bool ?_)) | wp_step)) fun _ _ e => e)))
      | wp_step)
  have one : wpAny (model prog w) A (tryCompare (.ref x) "__ne__" b) (fun r s' => ∃ v, r = some v ∧ Q v s') E s := by
    unfold tryCompare
    refine wpAny_bind (ifBound_Kb X I hs PySem.F.cmp_object.ne (wpAny_call (codeAny_call_builtin PySem.F.cmp_object.ne.plain PySem.F.cmpEntry_ne (chk _ _ ?_))))
    refine body _ fun k s' hk => ?_
    first | exact wpAny_pure ⟨_, rfl, hk⟩ | exact wpAny_pure (wpAny_pure ⟨_, rfl, hk⟩) | exact ⟨_, rfl, hk⟩
  unfold richCompare
  simp only [oneThing_ref]
  refine wpAny_holding (wpAny_bind (wpAny_cRoomFor (Nat.lt_of_succ_lt hu) ?_))
  rw [cmpInfo_NotEq]
  dsimp only
  refine wpAny_bind (I.type.here (wpAny_bind (hb.here ?_)))
  split
  · rename_i q
    have e : subIn K tb (.ref C) = some false := by
      rcases Bool.or_eq_true_iff.mp hn with e | e
      · rw [beq_iff_eq.mp e] at q; simp at q
      · exact beq_iff_eq.mp e
    refine wpAny_bind ((looks_subIn X e).here ?_)
    simp only [Bool.false_eq_true, if_false]
    refine wpAny_bind (wpAny_mono one (fun r s' z => ?_) fun _ _ e => e)
    obtain ⟨v, rfl, hq⟩ := z
    exact wpAny_pure hq
  · refine wpAny_bind (wpAny_pure ?_)
    simp only [Bool.false_eq_true, if_false]
    refine wpAny_bind (wpAny_mono one (fun r s' z => ?_) fun _ _ e => e)
    obtain ⟨v, rfl, hq⟩ := z
    exact wpAny_pure hq
end
end PySem.W
namespace Mk
open PySem PySem.Spec PyProof.Rows L2

/-! ### equal books -/
def c_BookEq (C : Addr) : Ct := fun ts P => ∃ c k, ts = [.bk C c k, .bk C c k] ∧ (∃ n m, Fl n c ∧ Fl m k ∧ n ≤ 64 ∧ m ≤ 64) ∧ P = is (.dat (.bool true))
structure BkE (P : Program) (w : World) (K : PySem.W.Frag) (mg : Str → Option Value) (base : Heap) (k : Nat) (C : Addr) : Prop where
  h : ∃ (f : Addr) (fd : FuncData), FnOk P w K mg base CX0 k f fd ["self", "other"] (spP (c_BookEq C)) ∧ Binds K fd ["self", "other"] [] ∧ PySem.W.findIn K (.ref C) "__eq__" = some (some (.ref f)) ∧ PySem.W.isFn K (.ref f) = true
  ne : PySem.W.findIn K (.ref C) "__ne__" = some (some (.builtin "object.__ne__"))
  mr : PySem.W.mroIn K C (.type "object") = some true
def rNeB (C : Addr) : R2 := fun x y H Q => ∃ F c k, BkAt C F x c k ∧ BkAt C F y c k ∧ (∃ n m, Fl n c ∧ Fl m k ∧ n ≤ 64 ∧ m ≤ 64) ∧ Same F H ∧ ∀ F' H', Grow F H F' H' → Q (.bl false) H'
section
variable {X : Cx} {B : Bs} {G : En} {a b : Expr} {pos : Pos} {C : Addr} {c ck : PyData} {n k : Nat}
theorem op_neB (D : BkE X.prog X.w X.K X.mg X.base k C) (hr : Room (n + 1) X.A) (hk : k ≤ n) : OpR X (compareOp .NotEq) (rNeB C) := by
  intro pins s σ H x y v u Q I rx ry hq
  obtain ⟨⟨f, fd, F, hb, hs, hf⟩, hne, hmr⟩ := D
  obtain ⟨F0, c, k', ⟨a, dx, v1, v2, rfl, ha, r1, r2⟩, ⟨b, dy, u1, u2, rfl, hb', r3, r4⟩, fl, hsame, q⟩ := hq
  cases rx
  cases ry
  show wpAny (model X.prog X.w) X.A (richCompare .NotEq (.ref a) (.ref b)) (EP X pins σ Q) X.xe s
  have ha' := hsame _ _ ha
  have hb2 := hsame _ _ hb'
  obtain ⟨mA, J, _⟩ := ins_get I.hok ha'
  obtain ⟨mB, J', _⟩ := ins_get I.hok hb2
  obtain ⟨od, J, _⟩ := J.look
  obtain ⟨od', J', _⟩ := J'.look
  obtain ⟨m, hF⟩ := I.fr
  have hu : X.A.units + 1 < cLine := by have := hr.un; omega
  refine PySem.W.ne_K (tb := .ref C) hu hF I.ok.mod.kin J J'.type (by simp [PySem.W.notFirst]) hne hs hf hmr ?_
  have hsp : spP (c_BookEq C) [.ref a, .ref b] H (fun v H' => v = .bl true ∧ ∃ F', Grow F0 H F' H') (fun _ _ _ => False) := ⟨F0, [.bk C c k', .bk C c k'], is (.dat (.bool true)), ⟨c, k', rfl, fl, rfl⟩, hsame, ⟨⟨a, dx, v1, v2, rfl, ha, r1, r2⟩, ⟨b, dy, u1, u2, rfl, hb', r3, r4⟩, trivial⟩, fun v t F' H' pt im gr iv => by
    rw [show t = _ from pt] at iv
    have r : Rp F' v (.bool true) := iv
    cases r
    exact ⟨rfl, F', gr⟩⟩
  have sb : Room n X.A.in1 := hr.in1
  have e0 : Env0 X.prog X.w X.K X.mg X.base X.A.in1 X.stack s H := by
    have e := I.env0
    exact ⟨by show X.A.frames = _; exact e.frames, e.mod, e.bs, e.bsz, e.funs, e.frf, e.hok, e.bare⟩
  have rr : Vals [V.ref a, V.ref b] [Value.ref a, Value.ref b] := .cons rfl (.cons rfl .nil)
  refine wpAny_call (codeAny_mono ((F.mono hk).run X.A.in1 X.stack s H ⟨[.ref a, .ref b], []⟩ [.ref a, .ref b] [.ref a, .ref b] _ _ sb e0 (by
    have := hb s [.ref a, .ref b] I.kIn rfl
    simpa using this) rr hsp) fun r s' hq => ?_)
  cases r with
  | error e => exact (show False from hq).elim
  | ok fl =>
    cases fl with
    | ret w =>
      obtain ⟨z, H', I', rz, ez, F', gr⟩ := I.after hq
      subst ez
      cases rz
      exact ⟨true, rfl, .bl false, H', I', rfl, q F' H' gr⟩
    | next => exact False.elim hq
    | brk => exact False.elim hq
    | cont => exact False.elim hq
/-- a != b of equal books -/
theorem t_neBk (D : BkE X.prog X.w X.K X.mg X.base k C) (hr : Room (n + 1) X.A) (ha : EE X B G a (is (.bk C c ck))) (hb : EE X B G b (is (.bk C c ck))) (fl : ∃ n m, Fl n c ∧ Fl m ck ∧ n ≤ 64 ∧ m ≤ 64) (hk : k ≤ n := by decide) (hm : behindInMarks .NotEq b = false := by rfl) : ET X B G (.Compare a [.NotEq] [b] pos) (is false) :=
  tt_cmp2 (pt_cmpR (op_neB D hr hk) ha hb hm) fun s F H Q g w q => ⟨F, g, w, fun x t F1 H1 p1 g1 e1 w1 => ⟨F1, g1, w1.pop, fun y u F2 H2 p2 g2 e2 w2 => by
    rw [show t = _ from p1] at w1
    rw [show u = _ from p2] at w2
    refine ⟨F2, c, ck, BkAt.mono e2 (w1.topI rfl), w2.topI rfl, fl, g2.h, fun F3 H3 gr => ?_⟩
    exact q false F3 H3 rfl (g2.grow gr) ((e1.trans e2).trans gr.f) (w2.pop.grow gr)⟩⟩
end
end Mk
namespace Mk
open PySem PySem.Spec PyProof.Rows L2
/-- what isinstance(book, Book) asks of the class -/
structure BkI (K : PySem.W.Frag) (C : Addr) : Prop where
  ty : ∀ (H : Hp) (a dx : Addr) (fs : List (Str × V)), H a = some (.ins C dx fs) → TyOf K H (.ref a) (.ref C)
  one : PySem.W.kitOne K (.ref C) (.ref C) = some true
section
variable {X : Cx} {B : Bs} {G : En} {e : Expr} {p p1 pos : Pos} {y : Str} {C : Addr} {c k : PyData}
theorem e_isiC (bi : BkI X.K C) (hm : X.mg "isinstance" = none) (ha : EE X B G e (is (.bk C c k))) (hT : X.mg y = some (.ref C)) (hg : Gl X "isinstance" := by rfl) (hg2 : Gl X y := by rfl)
    (hd : (y == ("__debug__" : Str)) = false := by decide)
    (he : starEach [e, .Name y p1] X.env = (false, eval e X.env) :: starEach [.Name y p1] X.env := by rfl) (he2 : starEach [Expr.Name y p1] X.env = (false, eval (.Name y p1) X.env) :: starEach [] X.env := by rfl)
    (hpl : (backTo pos (starEach [Expr.Name y p1] X.env)).any (·.1) = false := by rfl) : EV X B G (.Call (.Name "isinstance" p) [e, .Name y p1] [] pos) (.bool true) :=
  e_of (pe_callB call_isi hg hm (by decide +kernel) (pa_cons ha (pa_cons (pe_glob (v := .ref C) hg2 hT rfl hd) pa_nil he2) he) (by decide) (by decide) he hpl) fun s F H Q g w q => ⟨F, g, w, fun v t F1 H1 p1 g1 e1 w1 => by
    rw [show t = _ from p1] at w1
    obtain ⟨a, dx, v1, v2, rfl, h1, _, _⟩ := (w1.topI rfl : BkAt C F1 v c k)
    exact ⟨.ref a, .ref C, _, _, true, rfl, .own C, .base (bi.ty H1 a dx _ (g1.h _ _ h1)), bi.one, q _ _ F1 H1 rfl g1 e1 (w1.pop.pushD (.bl true))⟩⟩
end
section
variable {P : Program} {w : World} {K : PySem.W.Frag} {mg : Str → Option Value} {base : Heap} {C : Addr}
theorem ca_BookEq {f : Addr} {fd : FuncData} (T : Bi K mg) (bc : BkC K C) (bi : BkI K C) (F : Fun K "__eq__" "Book.__eq__" s_Book_eq f fd) (hm : mg "Book" = some (.ref C)) : FnOk P w K mg base CX0 1 f fd ["self", "other"] (spP (c_BookEq C)) := by
  refine fn_mk F sc_Book_eq (fun ts P ⟨_, _, h, _⟩ => by rw [h]; rfl) (fun cdv A outer s H E hr B ts Pr cc => ?_)
  obtain ⟨c, k, rfl, ⟨n, m, fc, fk, n64, m64⟩, rfl⟩ := cc
  refine q_ret (t := .dat (.bool true)) (EV.eq (e_and (x := true) (y := true) (e_isiC bi T.isi (e_bk 1) hm) fun _ => EV.eq (e_and (x := true) (y := true) (EV.eq (e_eq (q := True) (u64 hr) (e_cols bc (e_bk 0)) (e_cols bc (e_bk 1)) fc fc (by simp) n64 n64) (by simp)) fun _ => e_one (EV.eq (e_eq (q := True) (u64 hr) (e_chks bc (e_bk 0)) (e_chks bc (e_bk 1)) fk fk (by simp) m64 m64) (by simp))) rfl) rfl) ⟨rfl, rfl⟩
end
end Mk
namespace Mk
open PySem PySem.Spec PyProof.Rows L2
section
variable {P : Program} {w : World} {K : PySem.W.Frag} {mg : Str → Option Value} {base : Heap} {C : Addr}
def c_check_order (C : Addr) : Ct := fun ts P => ∃ (cs : List Int) (k d : PyData) (o : List (List Int)), cs.length ≤ 4 ∧ (∀ c ∈ cs, 0 ≤ c ∧ c ≤ 4) ∧ okVal d ∧ orderK (kinds cs) d = some o ∧ ts = [.bk C (cR.e cs) k, .dat d] ∧ P = is (.dat (cO.e o))
theorem ca_check_order {f : Addr} {fd : FuncData} (F : Fun K "check_order" "check_order" s_check_order f fd) (hm : mg "check_order" = some (.ref f)) (hb : Binds K fd ["book", "value"] []) (D1 : Ca P w K mg base 6 "order_of" (c_order_of C)) : Ca P w K mg base 7 "check_order" (c_check_order C) := by
  refine ca_mk F sc_check_order hm hb (fun ts P ⟨_, _, _, _, _, _, _, _, h, _⟩ => by rw [h]; rfl) (fun cdv A outer s H E hr B ts Pr cc => ?_)
  obtain ⟨cs, k, d, o, c4, cv, okv, ho, rfl, rfl⟩ := cc
  have nd := sc_check_order.nd
  refine q_asg (t := .dat (cO.e o)) 2 (EE.imp (e_callD D1 hr (as_cons (e_bk 0) (as_cons (e_dat 1) as_nil)) ⟨cs, _, d, c4, cv, okv, rfl, rfl⟩) fun t ht => by rw [show t = _ from ht, ho]; rfl) ?_ nd
  refine q_ifRet (k := false) (t_isN (e_dat 2) rfl) (fun h => nomatch h) fun _ => ?_
  exact q_ret (t := .dat (cO.e o)) (e_dat 2) ⟨rfl, rfl⟩
/-- the checks with their hulls -/
noncomputable def hullC (o : List (List Int)) (c : List Int × List (List Int)) : List Int × List (List Int) := (c.1, hullF c.1 c.2 o)
theorem hullC_ok {cs : List Int} {o : List (List Int)} {c : List Int × List (List Int)} (cok : ColsOk cs) (ok : OrdOk o) (h : CkU cs c) : CkU cs (hullC o c) := by
  have hh := hullF_is (h.univ cok) ok h.sub
  exact ⟨h.p1, h.p3, h.pin, hh.sub (h.univ cok) h.sub, hh.nd, hh.so⟩
def c_hull_book (C : Addr) : Ct := fun ts P => ∃ (cs : List Int) (ks : List (List Int × List (List Int))) (d : PyData) (o : List (List Int)), ColsOk cs ∧ ks.length ≤ 6 ∧ (∀ c ∈ ks, CkU cs c) ∧ okVal d ∧ orderK (kinds cs) d = some o ∧ OrdOk o ∧ o.length ≤ 4 ∧ ts = [bkS C cs ks, .dat d] ∧ P = is (.bk C (cR.e cs) (.tuple ((ks.map (hullC o)).map cC.e)))
theorem ca_hull_book {f : Addr} {fd : FuncData} (bc : BkC K C) (F : Fun K "hull_book" "hull_book" s_hull_book f fd) (hm : mg "hull_book" = some (.ref f)) (hb : Binds K fd ["book", "ranking"] []) (D1 : Ca P w K mg base 7 "check_order" (c_check_order C)) (D2 : Ca P w K mg base 3 "grown" c_grown) (D3 : CaO P w K mg base 6 "Book" C c_Book) : Ca P w K mg base 8 "hull_book" (c_hull_book C) := by
  refine ca_mk F sc_hull_book hm hb (fun ts P ⟨_, _, _, _, _, _, _, _, _, _, _, h, _⟩ => by rw [h]; rfl) (fun cdv A outer s H E hr B ts Pr cc => ?_)
  obtain ⟨cs, ks, d, o, cok, k6, hks, okv, ho, ok, o4, rfl, rfl⟩ := cc
  have nd := sc_hull_book.nd
  refine q_asg (t := .dat (cO.e o)) 2 (e_callD D1 hr (as_cons (e_bk 0) (as_cons (e_dat 1) as_nil)) ⟨cs, _, d, o, Nat.le_succ_of_le cok.l3, fun c hc => by have := cok.v c hc; omega, okv, ho, rfl, rfl⟩) ?_ nd
  refine q_ret (t := .bk C (cR.e cs) (.tuple ((ks.map (hullC o)).map cC.e))) (e_make (n := 6) D3 hr (as_cons (e_cols bc (e_bk 0)) (as_cons (t := .dat (.list ((ks.map (hullC o)).map cC.e))) (EV.eq (e_mapM (xs := ks) cC (.two 3 4) [("columns", 3), ("rows", 4)] (fun c => cC.e (hullC o c)) (i_tup (e_chks bc (e_bk 0))) (fun _ _ _ _ _ => g_two 3 4 rfl nd) (fun s' H' C' cl fp B' c hc => ?_) (fun _ _ => ⟨_, _, rfl⟩) (by omega) (blkOk_by (N := n_hull_book) (sc := defScope s_hull_book) (by decide +kernel)) nd) (by rw [List.map_map]; rfl)) as_nil)) ⟨cs, ks.map (hullC o), false, cok, by rw [List.length_map]; exact k6, fun c hc => ?_, rfl, rfl, rfl⟩) ⟨rfl, rfl⟩
  · have h := hks c hc
    exact e_tup (ds := [_, _]) (vs_cons (e_dat 3) (vs_cons (e_callD D2 hr (as_cons (e_dat 3) (as_cons (e_dat 4) (as_cons (e_dat 2) as_nil))) ⟨c.1, allRows cs c.1, c.2, o, h.p1, h.p3, h.univ cok, h.sub, h.nd, ok, o4, rfl, rfl⟩) vs_nil)) (by simp)
  · obtain ⟨c0, h0, rfl⟩ := List.mem_map.mp hc
    exact hullC_ok cok ok (hks c0 h0)
end
end Mk
namespace Mk
open PySem PySem.Spec PyProof.Rows L2
/-! ### orders as the leaves of a tree -/
def leavesN (ks : List (List Int)) : Nat → List (List Int) → List (List (List Int))
  | 0, w => [w]
  | n + 1, w => (ks.filter fun k => !decide (k ∈ w)).flatMap fun k => leavesN ks n (w ++ [k])
def ordIt (ks : List (List Int)) : Nat → List (List (List Int)) → List (List (List Int))
  | 0, f => f
  | n + 1, f => ordIt ks n (ordStep ks f)
theorem ordIt_leaves (ks : List (List Int)) : ∀ (n : Nat) (f : List (List (List Int))), ordIt ks n f = f.flatMap (leavesN ks n)
  | 0, f => by
    show f = f.flatMap fun w => [w]
    induction f with
    | nil => rfl
    | cons a f ih => rw [List.flatMap_cons, ← ih]; rfl
  | n + 1, f => by
    show ordIt ks n (ordStep ks f) = _
    rw [ordIt_leaves ks n]
    unfold ordStep
    rw [List.flatMap_assoc]
    congr 1
    funext o
    rw [List.flatMap_map]
    rfl
theorem ordIt_ordN (ks : List (List Int)) : ∀ (n m : Nat), ordIt ks n (ordN ks m) = ordN ks (m + n)
  | 0, m => rfl
  | n + 1, m => by
    show ordIt ks n (ordStep ks (ordN ks m)) = _
    rw [show ordStep ks (ordN ks m) = ordN ks (m + 1) from rfl, ordIt_ordN ks n (m + 1), show m + 1 + n = m + (n + 1) by omega]
theorem orders_leaves (ks : List (List Int)) : orders ks = leavesN ks ks.length [] := by
  have h1 := ordIt_ordN ks ks.length 0
  have h2 := ordIt_leaves ks ks.length (ordN ks 0)
  unfold orders
  rw [h1, Nat.zero_add] at h2
  rw [h2, show ordN ks 0 = [[]] from rfl]
  simp
theorem leaves_pre {ks : List (List Int)} : ∀ {n : Nat} {w o : List (List Int)}, o ∈ leavesN ks n w → ∃ t, o = w ++ t
  | 0, w, o, h => ⟨[], by rw [List.append_nil]; simpa [leavesN] using h⟩
  | n + 1, w, o, h => by
    obtain ⟨k, _, h2⟩ := List.mem_flatMap.mp h
    obtain ⟨t, rfl⟩ := leaves_pre h2
    exact ⟨k :: t, by simp⟩
theorem leaves_perm {ks : List (List Int)} (nd : ks.Nodup) : ∀ {n : Nat} {w o : List (List Int)}, w.Nodup → (∀ k ∈ w, k ∈ ks) → w.length + n = ks.length → o ∈ leavesN ks n w → o.Perm ks
  | 0, w, o, wn, ws, hl, h => by
    have e : o = w := by simpa [leavesN] using h
    subst e
    refine (List.perm_ext_iff_of_nodup wn nd).mpr fun k => ⟨ws k, fun hk => ?_⟩
    by_cases hm : k ∈ o
    · exact hm
    · have := nodup_len (xs := k :: o) (U := ks) (List.nodup_cons.mpr ⟨hm, wn⟩) fun x hx => by
        rcases List.mem_cons.mp hx with rfl | hx
        · exact hk
        · exact ws x hx
      rw [List.length_cons] at this
      omega
  | n + 1, w, o, wn, ws, hl, h => by
    obtain ⟨k, h1, h2⟩ := List.mem_flatMap.mp h
    obtain ⟨hk, hn⟩ := List.mem_filter.mp h1
    have hn' : k ∉ w := by simpa using hn
    refine leaves_perm nd (n := n) (w := w ++ [k]) (List.nodup_append.mpr ⟨wn, by simp, fun a ha b hb e => hn' (by rw [← (by simpa using hb : b = k), ← e]; exact ha)⟩) (fun x hx => ?_) (by rw [List.length_append, List.length_singleton]; omega) h2
    rcases List.mem_append.mp hx with q | q
    · exact ws x q
    · rw [(by simpa using q : x = k)]; exact hk
theorem orders_perm {ks o : List (List Int)} (nd : ks.Nodup) (h : o ∈ orders ks) : o.Perm ks := by
  rw [orders_leaves] at h
  exact leaves_perm nd List.nodup_nil (fun _ h => (by cases h)) (by simp) h
theorem lex_pre {α : Type} [LT α] [DecidableEq α] {k k' : α} (h : k < k') : ∀ (w t t' : List α), w ++ k :: t < w ++ k' :: t'
  | [], t, t' => List.Lex.rel h
  | a :: w, t, t' => List.Lex.cons (lex_pre h w t t')
theorem leaves_asc {ks : List (List Int)} (asc : ks.Pairwise (· < ·)) : ∀ (n : Nat) (w : List (List Int)), (leavesN ks n w).Pairwise (· < ·)
  | 0, w => List.pairwise_singleton _ _
  | n + 1, w => by
    show ((ks.filter fun k => !decide (k ∈ w)).flatMap fun k => leavesN ks n (w ++ [k])).Pairwise (· < ·)
    rw [List.pairwise_flatMap]
    refine ⟨fun k _ => leaves_asc asc n _, (asc.filter _).imp fun {a b} hab x hx y hy => ?_⟩
    obtain ⟨t, rfl⟩ := leaves_pre hx
    obtain ⟨t', rfl⟩ := leaves_pre hy
    have := lex_pre hab w t t'
    simpa using this
theorem orders_asc {ks : List (List Int)} (asc : ks.Pairwise (· < ·)) : (orders ks).Pairwise (· < ·) := by
  rw [orders_leaves]
  exact leaves_asc asc _ _
end Mk
namespace Mk
open PySem PySem.Spec PyProof.Rows L2
/-! ### the least order, looked for with an early end -/
abbrev Ord := List (List Int)
def prLt (x y : Int × Ord) : Prop := x.1 < y.1 ∨ (x.1 = y.1 ∧ x.2 < y.2)
instance (x y : Int × Ord) : Decidable (prLt x y) := inferInstanceAs (Decidable (_ ∨ _))
def updF (ad : Ord → Int) (l : Option (Int × Ord)) (o : Ord) : Int × Ord :=
  match l with
  | none => (ad o, o)
  | some m => if prLt (ad o, o) m then (ad o, o) else m
def runF (ad : Ord → Int) : List Ord → Option (Int × Ord) → Nat → Option (Int × Ord) × Nat
  | [], l, n => (l, n)
  | o :: os, l, n => if (updF ad l o).1 = 0 then (some (updF ad l o), n + 1) else runF ad os (some (updF ad l o)) (n + 1)
theorem runF_ge (ad : Ord → Int) : ∀ (os : List Ord) (l : Option (Int × Ord)) (n : Nat), n ≤ (runF ad os l n).2 ∧ (runF ad os l n).2 ≤ n + os.length
  | [], l, n => ⟨Nat.le_refl _, Nat.le_refl _⟩
  | o :: os, l, n => by
    unfold runF
    split
    · simp
    · have := runF_ge ad os (some (updF ad l o)) (n + 1)
      rw [List.length_cons]
      omega
theorem runF_looked (ad : Ord → Int) {o : Ord} {os : List Ord} {l : Option (Int × Ord)} {n : Nat} : n + 1 ≤ (runF ad (o :: os) l n).2 := by
  unfold runF
  split
  · exact Nat.le_refl _
  · exact (runF_ge ad os _ (n + 1)).1
/-- m is the least of all -/
def LeastOf (ad : Ord → Int) (L : List Ord) (m : Int × Ord) : Prop := m.2 ∈ L ∧ m.1 = ad m.2 ∧ ∀ o ∈ L, o = m.2 ∨ prLt m (ad o, o)
theorem ord_irrefl (o : Ord) : ¬ o < o := List.lt_irrefl o
theorem ord_trans {a b c : Ord} (h : a < b) (h2 : b < c) : a < c := List.lt_trans h h2
theorem prLt_trans {x y z : Int × Ord} (h : prLt x y) (h2 : prLt y z) : prLt x z := by
  rcases h with h | ⟨h, g⟩ <;> rcases h2 with h2 | ⟨h2, g2⟩
  · exact .inl (by omega)
  · exact .inl (by omega)
  · exact .inl (by omega)
  · exact .inr ⟨by omega, ord_trans g g2⟩
theorem LeastOf.uniq {ad : Ord → Int} {L : List Ord} {m m' : Int × Ord} (h : LeastOf ad L m) (h' : LeastOf ad L m') : m = m' := by
  obtain ⟨a1, a2, a3⟩ := h
  obtain ⟨b1, b2, b3⟩ := h'
  have e : m.2 = m'.2 := by
    rcases a3 m'.2 b1 with k | k
    · exact k.symm
    · rcases b3 m.2 a1 with q | q
      · exact q
      · rw [← b2] at k
        rw [← a2] at q
        have z := prLt_trans k q
        rcases z with z | ⟨_, z⟩
        · exact absurd z (Int.lt_irrefl _)
        · exact absurd z (ord_irrefl _)
  exact Prod.ext (by rw [a2, b2, e]) e
/-- the orders ahead all come before those behind -/
theorem runF_least {ad : Ord → Int} (ad0 : ∀ o, 0 ≤ ad o) : ∀ (os pre : List Ord) (l : Option (Int × Ord)) (n : Nat), (pre ++ os).Pairwise (· < ·) → (∀ m, l = some m → LeastOf ad pre m ∧ m.1 ≠ 0) → (l = none → pre = []) → pre ++ os ≠ [] → ∃ m, (runF ad os l n).1 = some m ∧ LeastOf ad (pre ++ os) m
  | [], pre, l, n, asc, h1, h2, ne => by
    cases l with
    | none => exact absurd (by rw [h2 rfl]; rfl) ne
    | some m => exact ⟨m, rfl, by rw [List.append_nil]; exact (h1 m rfl).1⟩
  | o :: os, pre, l, n, asc, h1, h2, ne => by
    have asc' := List.pairwise_append.mp asc
    have step : LeastOf ad (pre ++ [o]) (updF ad l o) := by
      cases l with
      | none =>
        rw [h2 rfl]
        exact ⟨by simp [updF], rfl, fun x hx => .inl (by simpa [updF] using hx)⟩
      | some m =>
        obtain ⟨⟨m1, m2, m3⟩, m4⟩ := h1 m rfl
        have lt : m.2 < o := asc'.2.2 m.2 m1 o List.mem_cons_self
        show LeastOf ad (pre ++ [o]) (if prLt (ad o, o) m then (ad o, o) else m)
        by_cases hp : prLt (ad o, o) m
        · rw [if_pos hp]
          refine ⟨by simp, rfl, fun x hx => ?_⟩
          rcases List.mem_append.mp hx with q | q
          · rcases m3 x q with rfl | z
            · rw [← m2]; exact .inr hp
            · exact .inr (prLt_trans hp z)
          · exact .inl (by simpa using q)
        · rw [if_neg hp]
          refine ⟨List.mem_append_left _ m1, m2, fun x hx => ?_⟩
          rcases List.mem_append.mp hx with q | q
          · exact m3 x q
          · have e : x = o := by simpa using q
            subst e
            refine .inr ?_
            rcases Int.lt_trichotomy m.1 (ad x) with z | z | z
            · exact .inl z
            · exact .inr ⟨z, lt⟩
            · exact absurd (.inl z) hp
    unfold runF
    split
    · rename_i hz
      refine ⟨_, rfl, List.mem_append.mpr ?_, step.2.1, fun x hx => ?_⟩
      · rcases List.mem_append.mp step.1 with q | q
        · exact .inl q
        · exact .inr (by rw [(by simpa using q : (updF ad l o).2 = o)]; exact List.mem_cons_self)
      · have hx' : x ∈ (pre ++ [o]) ++ os := by simpa using hx
        rcases List.mem_append.mp hx' with q | q
        · exact step.2.2 x q
        · have lt : (updF ad l o).2 < x := by
            have a2 : ((pre ++ [o]) ++ os).Pairwise (· < ·) := by simpa using asc
            exact (List.pairwise_append.mp a2).2.2 _ step.1 x q
          refine .inr ?_
          have := ad0 x
          rcases Int.lt_trichotomy (updF ad l o).1 (ad x) with z | z | z
          · exact .inl z
          · exact .inr ⟨z, lt⟩
          · omega
    · rename_i hz
      have := runF_least ad0 os (pre ++ [o]) (some (updF ad l o)) (n + 1) (by simpa using asc) (fun m hm => by cases hm; exact ⟨step, hz⟩) (fun h => by cases h) (by simp)
      simpa using this
end Mk
namespace Mk
open PySem PySem.Spec PyProof.Rows L2

/-! ### found < least -/
abbrev TyO := Int × PySem.W.Tup (PySem.W.Tup Int)
def toO (x : Int × Ord) : TyO := (x.1, ⟨x.2.map fun r => ⟨r⟩⟩)
def eO (x : Int × Ord) : PyData := .tuple [.int x.1, cO.e x.2]
theorem eO_eq (x : Int × Ord) : PySem.W.Datum.toD (toO x) = eO x := by
  show PyData.tuple [.int x.1, .tuple ((x.2.map fun r => (⟨r⟩ : PySem.W.Tup Int)).map PySem.W.Datum.toD)] = _
  rw [List.map_map]
  rfl
theorem listLt_int : ∀ a b : List Int, PySem.W.listLt a b = decide (a < b)
  | [], [] => by simp [PySem.W.listLt]
  | [], _ :: _ => by simp [PySem.W.listLt]
  | _ :: _, [] => by simp [PySem.W.listLt]
  | x :: xs, y :: ys => by
    have ih := listLt_int xs ys
    show (if x = y then PySem.W.listLt xs ys else decide (x < y)) = _
    by_cases h : x = y
    · subst h
      rw [if_pos rfl, ih]
      simp [List.cons_lt_cons_iff]
    · rw [if_neg h]
      simp [List.cons_lt_cons_iff, h]
theorem listLt_ord : ∀ a b : Ord, PySem.W.listLt (a.map fun r => (⟨r⟩ : PySem.W.Tup Int)) (b.map fun r => (⟨r⟩ : PySem.W.Tup Int)) = decide (a < b)
  | [], [] => by simp [PySem.W.listLt]
  | [], _ :: _ => by simp [PySem.W.listLt]
  | _ :: _, [] => by simp [PySem.W.listLt]
  | x :: xs, y :: ys => by
    have ih := listLt_ord xs ys
    show (if (⟨x⟩ : PySem.W.Tup Int) = ⟨y⟩ then PySem.W.listLt (xs.map _) (ys.map _) else PySem.W.listLt x y) = _
    by_cases h : x = y
    · subst h
      rw [if_pos rfl, ih]
      simp [List.cons_lt_cons_iff]
    · have h' : (⟨x⟩ : PySem.W.Tup Int) ≠ ⟨y⟩ := fun z => h (by cases z; rfl)
      rw [if_neg h', listLt_int]
      simp [List.cons_lt_cons_iff, h]
theorem lt_toO (x y : Int × Ord) : PySem.W.DatumOrd.lt (toO x) (toO y) = decide (prLt x y) := by
  have h1 := listLt_ord x.2 y.2
  show (if x.1 = y.1 then PySem.W.listLt (x.2.map _) (y.2.map _) else decide (x.1 < y.1)) = _
  unfold prLt
  by_cases h : x.1 = y.1
  · rw [if_pos h, h1]
    simp [h]
  · rw [if_neg h]
    simp [h]
def rLtO : R2 := fun x y H Q => ∃ (F : Hp) (a b : Int × Ord), Same F H ∧ Rp F x (eO a) ∧ Rp F y (eO b) ∧ Q (.bl (decide (prLt a b))) H
theorem op_ltO {X : Cx} (hu : X.A.units + 64 < cLine) : OpR X (compareOp .Lt) rLtO := by
  intro pins s σ H x y v u Q I rx ry hq
  obtain ⟨F, a, b, hs, r1, r2, q⟩ := hq
  obtain ⟨as, ra⟩ := Dp.reads I (eO a) x v (r1.dp hs) rx
  obtain ⟨bs, rb⟩ := Dp.reads I (eO b) y u (r2.dp hs) ry
  have hd : PySem.W.Datum.depth TyO ≤ 60 := by decide
  refine PySem.W.lt_datum (α := TyO) (x := toO a) (y := toO b) ⟨as, by rw [eO_eq]; exact ra⟩ ⟨bs, by rw [eO_eq]; exact rb⟩ (by omega) ?_
  rw [lt_toO]
  exact ⟨.bl _, H, I, rfl, q⟩
section
variable {X : Cx} {B : Bs} {G : En} {a b : Expr} {pos : Pos} {x y : Int × Ord}
theorem t_ltO (hu : X.A.units + 64 < cLine) (ha : EV X B G a (eO x)) (hb : EV X B G b (eO y)) : ET X B G (.Compare a [.Lt] [b] pos) (is (decide (prLt x y))) :=
  t_cmp (r := rLtO) (fun F H v u Q hs r1 r2 q => ⟨F, x, y, hs, r1, r2, q _ F H (.refl hs) (.bl _)⟩) (op_ltO hu) (nomark _) ha hb
end
end Mk
namespace Mk
open PySem PySem.Spec PyProof.Rows L2
section
variable {X : Cx} {B : Bs} {G : En} {tg e : Expr} {ds : List PyData} {p pos : Pos}
/-- reversed(tuple) -/
theorem i_revT (hm : X.mg "reversed" = none) (h : EV X B G e (.tuple ds)) (hg : Gl X "reversed" := by rfl) (hs : starEach [e] X.env = (false, eval e X.env) :: starEach [] X.env := by rfl) : EI X B G tg (.Call (.Name "reversed" p) [e] [] pos) (is ds.reverse) :=
  PI.weak (RT.pi_revA hg hm h hs) fun s H R ⟨F, g, w, q⟩ => ⟨F, g, w, fun v t F1 H1 p1 g1 e1 w1 => by
    rw [show t = Sl.dat (.tuple ds) from p1] at w1
    have r : Rp F1 v (.tuple ds) := w1.topI rfl
    cases r with
    | @tup a xs _ h1 r1 =>
      have n1 := r1.length
      refine ⟨a, xs, rfl, .inr ⟨SqT.of (g1.h _ _ h1), q ds.reverse _ F1 H1 rfl g1 e1 w1.pop ⟨fun i F2 H2 e2 g2 hi => ?_, fun F2 H2 e2 g2 => ?_, fun i F2 H2 x H3 e2 g2 hi y => ?_⟩⟩⟩
      · rw [List.length_reverse] at hi
        have hl : xs.length - 1 - i < xs.length := by omega
        exact ⟨by omega, xs, xs[xs.length - 1 - i], SqT.of (g2.h _ _ (e2 _ _ h1)), List.getElem?_eq_getElem hl⟩
      · show xs.length ≤ ds.reverse.length
        rw [List.length_reverse]
        omega
      · obtain ⟨rfl, y⟩ := y
        rw [List.length_reverse] at hi
        obtain ⟨d, hd, rd⟩ := r1.get (y xs (SqT.of (g2.h _ _ (e2 _ _ h1))))
        refine ⟨F2, d, ?_, .refl g2.h, rd.mono e2⟩
        rw [List.getElem?_reverse hi]
        rw [show ds.length - 1 - i = xs.length - 1 - i by omega]
        exact hd⟩
end
end Mk
namespace Mk
open PySem PySem.Spec PyProof.Rows L2
/-! ### the search's state -/
abbrev FSt := List Ord × Option (Int × Ord) × Nat
def leavesW (ks : Ord) (w : Ord) : List Ord := leavesN ks (ks.length - w.length) w
def remF (ks : Ord) (wt : List Ord) : List Ord := wt.reverse.flatMap (leavesW ks)
def extF (ks w : Ord) : List Ord := (ks.reverse.filter fun k => !decide (k ∈ w)).map fun k => w ++ [k]
def nodesN (ks : Ord) : Nat → Ord → Nat
  | 0, _ => 1
  | n + 1, w => 1 + ((ks.reverse.filter fun k => !decide (k ∈ w)).map fun k => nodesN ks n (w ++ [k])).sum
def nodesW (ks w : Ord) : Nat := nodesN ks (ks.length - w.length) w
def fmeas (ks : Ord) (z : FSt) : Nat := (z.1.map (nodesW ks)).sum
structure FInv (ks : Ord) (ad : Ord → Int) (R : Option (Int × Ord) × Nat) (z : FSt) : Prop where
  ok : ∀ w ∈ z.1, w.Nodup ∧ (∀ k ∈ w, k ∈ ks) ∧ w.length ≤ ks.length
  run : runF ad (remF ks z.1) z.2.1 z.2.2 = R
theorem rem_snoc (ks : Ord) (wt : List Ord) (w : Ord) : remF ks (wt ++ [w]) = leavesW ks w ++ remF ks wt := by
  unfold remF
  rw [List.reverse_append]
  rfl
theorem rem_ext {ks : Ord} {wt : List Ord} {w : Ord} (h : w.length < ks.length) : remF ks (wt ++ extF ks w) = leavesW ks w ++ remF ks wt := by
  unfold remF extF
  rw [List.reverse_append, List.flatMap_append]
  congr 1
  rw [← List.map_reverse, ← List.filter_reverse, List.reverse_reverse, List.flatMap_map]
  unfold leavesW
  have e : ks.length - w.length = (ks.length - (w.length + 1)) + 1 := by omega
  rw [e]
  show _ = (ks.filter fun k => !decide (k ∈ w)).flatMap fun k => leavesN ks (ks.length - (w.length + 1)) (w ++ [k])
  congr 1
  funext k
  rw [List.length_append]
  rfl
theorem leaf {ks w : Ord} (h : ks.length ≤ w.length) : leavesW ks w = [w] := by
  unfold leavesW
  rw [show ks.length - w.length = 0 by omega]
  rfl
theorem nodes_ext {ks w : Ord} (h : w.length < ks.length) : nodesW ks w = 1 + ((extF ks w).map (nodesW ks)).sum := by
  unfold nodesW extF
  have e : ks.length - w.length = (ks.length - (w.length + 1)) + 1 := by omega
  rw [e, List.map_map]
  show 1 + ((ks.reverse.filter fun k => !decide (k ∈ w)).map fun k => nodesN ks (ks.length - (w.length + 1)) (w ++ [k])).sum = _
  congr 3
  funext k
  show _ = nodesN ks (ks.length - (w ++ [k]).length) (w ++ [k])
  rw [List.length_append]
  rfl
theorem nodes_pos {ks w : Ord} : ∀ n, 1 ≤ nodesN ks n w
  | 0 => Nat.le_refl _
  | n + 1 => Nat.le_add_right _ _
theorem sum_le {α : Type} {f : α → Nat} {m : Nat} : ∀ {xs : List α}, (∀ x ∈ xs, f x ≤ m) → (xs.map f).sum ≤ m * xs.length
  | [], _ => by simp
  | x :: xs, h => by
    have h1 := h x List.mem_cons_self
    have h2 := sum_le (xs := xs) fun y hy => h y (List.mem_cons_of_mem _ hy)
    rw [List.map_cons, List.sum_cons, List.length_cons, Nat.mul_add]
    omega
theorem nodes_le {ks : Ord} (h : ks.length ≤ 4) : ∀ n w, nodesN ks n w ≤ 5 ^ n
  | 0, _ => Nat.le_refl _
  | n + 1, w => by
    have h1 := sum_le (f := fun k => nodesN ks n (w ++ [k])) (m := 5 ^ n) (xs := ks.reverse.filter fun k => !decide (k ∈ w)) fun k _ => nodes_le h n _
    have h2 := List.length_filter_le (fun k => !decide (k ∈ w)) ks.reverse
    rw [List.length_reverse] at h2
    have h3 : 5 ^ n * (ks.reverse.filter fun k => !decide (k ∈ w)).length ≤ 5 ^ n * 4 := Nat.mul_le_mul (Nat.le_refl _) (by omega)
    have h4 : 1 ≤ 5 ^ n := Nat.one_le_pow _ _ (by decide)
    show 1 + _ ≤ 5 ^ (n + 1)
    rw [Nat.pow_succ]
    omega
theorem wait_le (ks : Ord) : ∀ wt : List Ord, wt.length ≤ (wt.map (nodesW ks)).sum
  | [] => Nat.le_refl _
  | w :: wt => by
    have := wait_le ks wt
    have h := nodes_pos (ks := ks) (w := w) (ks.length - w.length)
    rw [List.map_cons, List.sum_cons, List.length_cons]
    show wt.length + 1 ≤ nodesN ks (ks.length - w.length) w + _
    omega
theorem ext_ok {ks w : Ord} (wn : w.Nodup) (ws : ∀ k ∈ w, k ∈ ks) (h : w.length < ks.length) : ∀ v ∈ extF ks w, v.Nodup ∧ (∀ k ∈ v, k ∈ ks) ∧ v.length ≤ ks.length := fun v hv => by
  obtain ⟨k, hk, rfl⟩ := List.mem_map.mp hv
  obtain ⟨h1, h2⟩ := List.mem_filter.mp hk
  have hn : k ∉ w := by simpa using h2
  refine ⟨List.nodup_append.mpr ⟨wn, by simp, fun a ha b hb e => hn (by rw [← (by simpa using hb : b = k), ← e]; exact ha)⟩, fun x hx => ?_, by rw [List.length_append, List.length_singleton]; omega⟩
  rcases List.mem_append.mp hx with q | q
  · exact ws x q
  · rw [(by simpa using q : x = k)]; exact List.mem_reverse.mp h1
end Mk
namespace Mk
open PySem PySem.Spec PyProof.Rows L2
section
variable {P : Program} {w : World} {K : PySem.W.Frag} {mg : Str → Option Value} {base : Heap} {C : Addr}
def optP : Option (Int × Ord) → PyData
  | none => .none
  | some x => eO x
noncomputable def fewF (cs : List Int) (cks : List (List Int × List (List Int))) : Option (Int × Ord) × Nat := runF (addedF cks) (orders (kinds cs)) none 0
def c_fewest (C : Addr) : Ct := fun ts P => ∃ (cs : List Int) (cks : List (List Int × List (List Int))) (m : Int), ColsOk cs ∧ cks.length ≤ 6 ∧ (∀ c ∈ cks, CkU cs c) ∧ ((fewF cs cks).2 : Int) ≤ m ∧ ts = [bkS C cs cks, .dat (.int m)] ∧ P = is (.dat (optP (fewF cs cks).1))
theorem fn_fewest {f : Addr} {fd : FuncData} (T : Bi K mg) (bc : BkC K C) (F : Fun K "fewest_added" "fewest_added" s_fewest_added f fd) (D1 : Ca P w K mg base 1 "kinds_of" (c_kinds_of C)) (D2 : Ca P w K mg base 4 "added_by" (c_added_by C)) : FnOk P w K mg base CX0 5 f fd ["book", "most"] (spP (c_fewest C)) := by
  refine fn_mk F sc_fewest_added (fun ts P ⟨_, _, _, _, _, _, _, h, _⟩ => by rw [h]; rfl) (fun cdv A outer s H E hr B ts Pr cc => ?_)
  obtain ⟨cs, cks, m, cok, k6, hks, hR, rfl, rfl⟩ := cc
  have nd := sc_fewest_added.nd
  have kl := kinds_len cok
  have knd := kinds_nodup cs
  generalize hRR : fewF cs cks = R at hR
  refine q_asg (t := .dat (cO.e (kinds cs))) 2 (e_callD D1 hr (as_cons (e_bk 0) as_nil) ⟨cs, _, Nat.le_succ_of_le cok.l3, fun c hc => by have := cok.v c hc; omega, rfl, rfl⟩) ?_ nd
  refine q_asg (t := .dat .none) 3 e_non ?_ nd
  refine q_asg (t := .dat (.int 0)) 4 e_int ?_ nd
  refine q_asg (t := .own (([[]] : List Ord).map cO.e)) 5 (e_lstO (ds := [.tuple []]) (vs_cons (e_tup (ds := []) vs_nil (by decide)) vs_nil) (by decide)) ?_ nd
  let Gi : FSt → En := fun z => [bkS C cs cks, .dat (.int m), .dat (cO.e (kinds cs)), .dat (optP z.2.1), .dat (.int (z.2.2 : Int)), .own (z.1.map cO.e), .any, .any, .any]
  have i0 : FInv (kinds cs) (addedF cks) R ([[]], none, 0) := ⟨fun w hw => by
    rw [(by simpa using hw : w = [])]
    exact ⟨List.nodup_nil, fun _ h => (by cases h), Nat.zero_le _⟩, by
    rw [← hRR]
    show runF _ (leavesW (kinds cs) [] ++ []) none 0 = _
    unfold fewF leavesW
    rw [orders_leaves, List.append_nil]
    rfl⟩
  have m0 : fmeas (kinds cs) ([[]], none, 0) ≤ 1000 := by
    have h := nodes_le (ks := kinds cs) kl ((kinds cs).length) []
    have h2 : 5 ^ (kinds cs).length ≤ 5 ^ 4 := Nat.pow_le_pow_right (by decide) kl
    show nodesN (kinds cs) ((kinds cs).length - 0) [] + 0 ≤ 1000
    rw [Nat.sub_zero]
    omega
  refine s_cons (Mid := fun G' => ∃ z : FSt, (FInv (kinds cs) (addedF cks) R z ∧ z.1 = []) ∧ G' = Gi z) (s_while (β := FSt) Gi (fmeas (kinds cs)) ([[]], none, 0) (fun z => FInv (kinds cs) (addedF cks) R z ∧ fmeas (kinds cs) z ≤ 1000) ⟨i0, m0⟩ rfl (fun z => decide (0 < z.1.length)) (fun z ⟨hz, hm⟩ => ?_) (fun z ⟨hz, hm⟩ hk => ?_) (fun z ⟨hz, hm⟩ hk => ⟨z, ⟨hz, List.eq_nil_of_length_eq_zero (by have := of_decide_eq_false hk; omega)⟩, rfl⟩) PassesOwn.never) (fun G' ⟨z, ⟨hz, hz2⟩, hG⟩ => ?_)
  · exact (t_gt (e_lenO (ds := z.1.map cO.e) 5 T.len) e_int).eq (by
      rw [List.length_map]
      by_cases q : 0 < z.1.length <;> simp [q] <;> omega)
  · have hlen := of_decide_eq_true hk
    obtain ⟨wt', l, n⟩ := z
    have hne : wt' ≠ [] := List.length_pos_iff.mp hlen
    obtain ⟨wt, o, rfl⟩ : ∃ wt q, wt' = wt ++ [q] := ⟨wt'.dropLast, wt'.getLast hne, (List.dropLast_concat_getLast hne).symm⟩
    obtain ⟨on, os, ol⟩ := hz.ok o (by simp)
    have wl := wait_le (kinds cs) wt
    have hms : fmeas (kinds cs) (wt ++ [o], l, n) = (wt.map (nodesW (kinds cs))).sum + nodesW (kinds cs) o := by
      unfold fmeas
      simp
    have run : runF (addedF cks) (leavesW (kinds cs) o ++ remF (kinds cs) wt) l n = R := by
      have h := hz.run
      rw [rem_snoc] at h
      exact h
    refine q_popTo (ds := wt.map cO.e) (d := cO.e o) 5 (.one 6) (g_one 6 nd) trivial ?_ (by show some (Sl.own ((wt ++ [o]).map cO.e)) = _; rw [List.map_append]; rfl) rfl
    refine q_ifRet (k := decide (o.length < (kinds cs).length)) ((t_lt (e_lenT T.len (e_dat 6)) (e_lenT T.len (e_dat 2))).eq (by
      rw [List.length_map, List.length_map]
      by_cases q : o.length < (kinds cs).length <;> simp [q] <;> omega)) (fun ht => ?_) (fun hf => ?_)
    · have hlt := of_decide_eq_true ht
      have ne := nodes_ext hlt
      have hnew : FInv (kinds cs) (addedF cks) R (wt ++ extF (kinds cs) o, l, n) := ⟨fun w hw => by
        rcases List.mem_append.mp hw with q | q
        · exact hz.ok w (List.mem_append_left _ q)
        · exact ext_ok on os hlt w q, by
        show runF _ (remF (kinds cs) (wt ++ extF (kinds cs) o)) l n = R
        rw [rem_ext hlt]
        exact run⟩
      have hme : fmeas (kinds cs) (wt ++ extF (kinds cs) o, l, n) < fmeas (kinds cs) (wt ++ [o], l, n) := by
        rw [hms, ne]
        unfold fmeas
        rw [List.map_append, List.sum_append]
        omega
      have el : (extF (kinds cs) o).length ≤ 4 := by
        unfold extF
        rw [List.length_map]
        exact Nat.le_trans (List.length_filter_le _ _) (by rw [List.length_reverse]; exact kl)
      refine s_cons (Mid := is [bkS C cs cks, .dat (.int m), .dat (cO.e (kinds cs)), .dat (optP l), .dat (.int (n : Int)), .own ((wt ++ extF (kinds cs) o).map cO.e), .dat (cO.e o), .any, .any]) (s_ext (ds := wt.map cO.e) (es := (extF (kinds cs) o).map cO.e) 5 (EV.eq (e_frz (e_lcM (xs := (kinds cs).reverse) cR (.one 8) [("kind", 8)] (fun k => !decide (k ∈ o)) (fun k => cO.e (o ++ [k])) (by rw [List.map_reverse]; exact i_revT T.rev (e_dat 2)) (fun _ _ _ _ _ => g_one 8 nd) (fun s' H' C' cl fp B' k hk2 => ts_one (t_notInM cR true fl_cR (u65 hr) (e_dat 8) (e_dat 6))) (fun s' H' C' cl fp B' k hk2 _ => EV.eq (e_catT (ds := o.map cR.e) (es := [cR.e k]) (e_dat 6) (e_tup (vs_cons (e_dat 8) vs_nil) (by simp)) (by simp; omega)) (by simp [cTu])) (fun _ _ => trivial) (by rw [List.length_reverse]; omega) (blkOk_by (N := n_fewest_added) (sc := defScope s_fewest_added) (by decide +kernel)) nd)) ?_) ?_ ?_) (fun G' hG => ?_)
      · unfold extF
        rw [List.map_map]
        rfl
      · show _ = _
        rw [List.map_append]
        rfl
      · simp
        omega
      · rw [show G' = _ from hG]
        refine ss_le (A := Gi (wt ++ extF (kinds cs) o, l, n)) ⟨.inr rfl, .inr rfl, .inr rfl, .inr rfl, .inr rfl, .inr rfl, .inl rfl, .inr rfl, .inr rfl, trivial⟩ (s_one (s_cont ⟨_, ⟨hnew, by omega⟩, hme, rfl⟩))
    · have hge : (kinds cs).length ≤ o.length := by
        have := of_decide_eq_false hf
        omega
      rw [leaf hge] at run
      have lk := runF_looked (addedF cks) (o := o) (os := remF (kinds cs) wt) (l := l) (n := n)
      rw [show (o :: remF (kinds cs) wt) = [o] ++ remF (kinds cs) wt from rfl, run] at lk
      have oOk : OrdOk o := ⟨on, fun k hk2 => kinds_ok (os k hk2)⟩
      refine q_augI (a := (n : Int)) (b := 1) 4 e_int ?_ nd
      refine q_ifRet (k := false) ((t_gt (e_dat 4) (e_dat 1)).eq (by simp; omega)) (fun h => nomatch h) fun _ => ?_
      refine q_asg (t := .dat (eO (addedF cks o, o))) 7 (e_tup (ds := [_, _]) (vs_cons (e_callD D2 hr (as_cons (e_bk 0) (as_cons (e_dat 6) as_nil)) ⟨cs, cks, o, cok, by omega, hks, oOk, by omega, rfl, rfl⟩) (vs_cons (e_dat 6) vs_nil)) (by simp)) ?_ nd
      refine q_asg (t := .dat (eO (updF (addedF cks) l o))) 3 ?_ ?_ nd
      · cases l with
        | none => exact e_if (x := true) (t_bool (w_or (x := true) (y := false) (t_isN (e_dat 3) rfl) fun h => nomatch h)) (fun _ => e_dat 7) (fun h => nomatch h)
        | some y =>
          refine e_if (x := decide (prLt (addedF cks o, o) y)) (t_bool (w_or (x := false) (y := decide (prLt (addedF cks o, o) y)) (t_isN (d := eO y) (e_dat 3) rfl) fun _ => w_or1 (t_ltO (u64 hr) (e_dat 7) (e_dat 3)))) (fun h => ?_) (fun h => ?_)
          · have e : updF (addedF cks) (some y) o = (addedF cks o, o) := if_pos (of_decide_eq_true h)
            rw [e]
            exact e_dat 7
          · have e : updF (addedF cks) (some y) o = y := if_neg (of_decide_eq_false h)
            rw [e]
            exact e_dat 3
      · have hun : runF (addedF cks) (o :: remF (kinds cs) wt) l n = R := run
        unfold runF at hun
        refine q_ifRet (k := decide ((updF (addedF cks) l o).1 = 0)) (t_eqM cI fl_int (u64 hr) (e_ixT (d := .int (updF (addedF cks) l o).1) rfl (e_dat 3) e_int) e_int) (fun ht => ?_) (fun hf2 => ?_)
        · rw [if_pos (of_decide_eq_true ht)] at hun
          rw [← hun]
          exact q_ret (t := .dat (eO (updF (addedF cks) l o))) (e_dat 3) ⟨rfl, rfl⟩
        · rw [if_neg (of_decide_eq_false hf2)] at hun
          have hme : fmeas (kinds cs) (wt, some (updF (addedF cks) l o), n + 1) < fmeas (kinds cs) (wt ++ [o], l, n) := by
            rw [hms]
            have := nodes_pos (ks := kinds cs) (w := o) ((kinds cs).length - o.length)
            show (wt.map (nodesW (kinds cs))).sum < _ + nodesN (kinds cs) ((kinds cs).length - o.length) o
            omega
          refine ss_le (A := Gi (wt, some (updF (addedF cks) l o), n + 1)) ⟨.inr rfl, .inr rfl, .inr rfl, .inr rfl, .inr (by simp), .inr rfl, .inl rfl, .inl rfl, .inr rfl, trivial⟩ (s_nil ⟨_, ⟨⟨fun w hw => hz.ok w (List.mem_append_left _ hw), hun⟩, by omega⟩, hme, rfl⟩)
  · rw [hG]
    obtain ⟨wt, l, n⟩ := z
    have e : wt = [] := hz2
    subst e
    have hr2 : (l, n) = R := hz.run
    rw [← hr2]
    exact q_ret (t := .dat (optP l)) (e_dat 3) ⟨rfl, rfl⟩
end
end Mk
namespace Mk
open PySem PySem.Spec PyProof.Rows L2

/-! ### raising, by data -/
section
variable {X : Cx} {B : Bs} {G : En} {e : Expr} {es : List Expr} {p pos : Pos} {q : Po} {x f : Str} {C fI : Addr} {n k : Nat} {t : Sl} {ts : List Sl} {W : WX}
/-- raise C(e) -/
theorem s_raise (S : SupF X.prog X.K C fI f) (hr : Room (n + 2) X.A) (tk : Takes X W) (he : EE X B G e (is t)) (him : t.imm = true)
    (hW : ∀ s F H dd v, Good B F H → Sat B F H s G → F dd = some (.xd [(f, v)]) → Imm F v t → W (.ref C) (some dd) s H) (hm : X.mg x = some (.ref C)) (hc : X.calm = true := by rfl) (hg : Gl X x := by rfl)
    (hdb : (x == ("__debug__" : Str)) = false := by decide) (hes : starEach [e] X.env = (false, eval e X.env) :: starEach [] X.env := by rfl) (hpl : (backTo pos (starEach [] X.env)).any (·.1) = false := by rfl) {pos2 : Pos} :
    S1 X B G (.Raise (some (.Call (.Name x p) [e] [] pos)) none pos2) q :=
  PS.weak (ps_raise hc tk (pmk_sup S hr hg hm (pa_cons he pa_nil hes) hdb hes hpl)) fun D s H ⟨F, g, w, _⟩ => ⟨F, g, w, fun v u F1 H1 p1 g1 e1 w1 => ⟨v, rfl, fun d hd => by
    rw [show u = t from p1] at w1
    have gr := Grow.new (o := .xd [(f, v)]) g1.h hd
    exact hW s _ _ d v (g1.grow gr) (w1.pop.grow gr) upd_same (Imm.mono gr.f (w1.topI him))⟩⟩
end
/-- what a def that raises promises: its arguments, what the error keeps -/
abbrev CtX := List Sl → Sl → Prop
def spX (C : Addr) (f : Str) (Ck : CtX) : Sp := fun vs H _ E => ∃ F ts t, Ck ts t ∧ t.imm = true ∧ Same F H ∧ Imms F vs ts ∧ ∀ dd v F' H', Grow F H F' H' → F' dd = some (.xd [(f, v)]) → Imm F' v t → E (.ref C) (some dd) H'
structure CaX (P : Program) (w : World) (K : PySem.W.Frag) (mg : Str → Option Value) (base : Heap) (k : Nat) (x : Str) (C : Addr) (f : Str) (Ck : CtX) : Prop where
  h : ∃ (fa : Addr) (fd : FuncData) (ps : List Str), mg x = some (.ref fa) ∧ PySem.W.keepIn K (.ref fa) = true ∧ Binds K fd ps [] ∧ FnOk P w K mg base (L2.CX P w) k fa fd ps (spX C f Ck)
section
variable {P : Program} {w : World} {K : PySem.W.Frag} {mg : Str → Option Value} {base : Heap} {x qual f : Str} {st : Stmt} {fa C : Addr} {fd : FuncData} {N ps : List Str} {k : Nat} {Ck : CtX}
/-- the context of a body that lets an error out -/
abbrev cxX (P : Program) (w : World) (K : PySem.W.Frag) (mg : Str → Option Value) (base : Heap) (N : List Str) (qual : Str) (st : Stmt) (f : Addr) (cdv : Value) (A : Around) (outer : List Env) (s : Shared) (H : Hp) (E : XK) : Cx := cxOf (L2.CX P w) P w K mg base N qual (defScope st) f cdv A outer s H E
theorem fnX_mk (F : Fun K x qual st fa fd) (S : FnScope N ps (defScope st)) (len : ∀ ts t, Ck ts t → ts.length = ps.length)
    (body : ∀ (cdv : Value) (A : Around) (outer : List Env) (s : Shared) (H : Hp) (E : XK), Room k (A.deeper (envOfC qual (defScope st) s.heap.objs.size fa cdv)) → ∀ (B : Bs) (ts : List Sl) (t : Sl), Ck ts t → t.imm = true → ∀ (W : WX), Takes (cxX P w K mg base N qual st fa cdv A outer s H E) W →
      (∀ s F H dd v, Good B F H → F dd = some (.xd [(f, v)]) → Imm F v t → W (.ref C) (some dd) s H) →
      SS (cxX P w K mg base N qual st fa cdv A outer s H E) B (ts ++ List.replicate (N.length - ts.length) .any) (defBody st) {}) : FnOk P w K mg base (L2.CX P w) (k + 1) fa fd ps (spX C f Ck) := by
  refine F.okX S (fun vs H Q E h => ?_) (fun cdv A outer s H vs Q E hr h => ?_)
  · obtain ⟨F, ts, t, c, _, hs, im, _⟩ := h
    rw [im.len]
    exact len ts t c
  · obtain ⟨F0, ts, t, c, ti, hs, im, q⟩ := h
    refine ⟨_, body cdv A outer s H E hr ⟨F0, H⟩ ts t c ti (fun cls d _ H => E cls d H) (takes_of rfl rfl rfl rfl) (fun s F H dd v g h1 h2 => q dd v F H g.grow_of h1 h2), F0, Good.start hs, ?_, fun _ _ _ _ z => z.elim, fun _ _ _ _ _ _ z => z.elim, fun _ _ _ _ z => z.elim, fun _ _ _ _ z => z.elim⟩
    unfold L2.start
    rw [im.len]
    exact sat_start _ im
theorem caX_mk (F : Fun K x qual st fa fd) (S : FnScope N ps (defScope st)) (hm : mg x = some (.ref fa)) (hb : Binds K fd ps []) (len : ∀ ts t, Ck ts t → ts.length = ps.length)
    (body : ∀ (cdv : Value) (A : Around) (outer : List Env) (s : Shared) (H : Hp) (E : XK), Room k (A.deeper (envOfC qual (defScope st) s.heap.objs.size fa cdv)) → ∀ (B : Bs) (ts : List Sl) (t : Sl), Ck ts t → t.imm = true → ∀ (W : WX), Takes (cxX P w K mg base N qual st fa cdv A outer s H E) W →
      (∀ s F H dd v, Good B F H → F dd = some (.xd [(f, v)]) → Imm F v t → W (.ref C) (some dd) s H) →
      SS (cxX P w K mg base N qual st fa cdv A outer s H E) B (ts ++ List.replicate (N.length - ts.length) .any) (defBody st) {}) : CaX P w K mg base (k + 1) x C f Ck := ⟨fa, fd, ps, hm, F.kp, hb, fnX_mk F S len body⟩
theorem CaX.mono {j : Nat} (D : CaX P w K mg base k x C f Ck) (h : k ≤ j) : CaX P w K mg base j x C f Ck := by
  obtain ⟨fa, fd, ps, hm, kp, hb, F⟩ := D.h
  exact ⟨fa, fd, ps, hm, kp, hb, F.mono h⟩
end
section
variable {X : Cx} {B : Bs} {G : En} {e : Expr} {es : List Expr} {p pos : Pos} {x f : Str} {C : Addr} {n k : Nat} {t : Sl} {ts : List Sl} {W : WX} {Ck : CtX} {P : Sl → Prop}
/-- f(e, ..) that raises -/
theorem e_callX (D : CaX X.prog X.w X.K X.mg X.base k x C f Ck) (hr : Room n X.A) (tk : Takes X W) (ha : EAI X B G (e :: es) (is ts)) (hC : Ck ts t) (him : t.imm = true)
    (hW : ∀ s F H dd v, Good B F H → Sat B F H s G → F dd = some (.xd [(f, v)]) → Imm F v t → W (.ref C) (some dd) s H) (hk : k ≤ n := by decide) (hg : Gl X x := by rfl) (hdb : (x == ("__debug__" : Str)) = false := by decide)
    (he : starEach (e :: es) X.env = (false, eval e X.env) :: starEach es X.env := by rfl) (hpl : (backTo pos (starEach es X.env)).any (·.1) = false := by rfl) : EE X B G (.Call (.Name x p) (e :: es) [] pos) P := by
  obtain ⟨fa, fd, ps, hm, kp, hb, F⟩ := D.h
  refine e_of (pe_callSD (E := WE W) F (hr.mono hk) hg hm kp hb .nil (fun σ => passAt tk σ) ha hdb he hpl) fun s F H Q g w q => ⟨F, g, w, fun vs us F1 H1 p1 g1 e1 w1 i1 => ?_⟩
  rw [show us = ts from p1] at i1
  rw [List.append_nil]
  exact ⟨F1, ts, t, hC, him, g1.h, i1, fun dd v F2 H2 gr h1 h2 => hW s F2 H2 dd v (g1.grow gr) (w1.grow gr) h1 h2⟩
end
end Mk
namespace Mk
open PySem PySem.Spec PyProof.Rows L2
section
variable {P : Program} {w : World} {K : PySem.W.Frag} {mg : Str → Option Value} {base : Heap} {C CR CT fR fT : Addr}
def x_check_order (C : Addr) : CtX := fun ts t => ∃ (cs : List Int) (k d : PyData), cs.length ≤ 4 ∧ (∀ c ∈ cs, 0 ≤ c ∧ c ≤ 4) ∧ okVal d ∧ orderK (kinds cs) d = none ∧ ts = [.bk C (cR.e cs) k, .dat d] ∧ t = .dat d
theorem cx_check_order {f : Addr} {fd : FuncData} (S : SupF P K CR fR "at") (hR : mg "Refused" = some (.ref CR)) (F : Fun K "check_order" "check_order" s_check_order f fd) (hm : mg "check_order" = some (.ref f)) (hb : Binds K fd ["book", "value"] []) (D1 : Ca P w K mg base 6 "order_of" (c_order_of C)) : CaX P w K mg base 7 "check_order" CR "at" (x_check_order C) := by
  refine caX_mk F sc_check_order hm hb (fun ts t ⟨_, _, _, _, _, _, _, h, _⟩ => by rw [h]; rfl) (fun cdv A outer s H E hr B ts t cc ti W tk hW => ?_)
  obtain ⟨cs, k, d, c4, cv, okv, ho, rfl, rfl⟩ := cc
  have nd := sc_check_order.nd
  refine q_asg (t := .dat .none) 2 (EE.imp (e_callD D1 hr (as_cons (e_bk 0) (as_cons (e_dat 1) as_nil)) ⟨cs, _, d, c4, cv, okv, rfl, rfl⟩) fun t ht => by rw [show t = _ from ht, ho]; rfl) ?_ nd
  exact q_ifRet (k := true) (t_isN (e_dat 2) rfl) (fun _ => s_one (s_raise (n := 4) S hr tk (e_dat 1) rfl (fun s F H dd v g _ h1 h2 => hW s F H dd v g h1 h2) hR)) (fun h => nomatch h)
def x_hull_book (C : Addr) : CtX := fun ts t => ∃ (cs : List Int) (k d : PyData), cs.length ≤ 4 ∧ (∀ c ∈ cs, 0 ≤ c ∧ c ≤ 4) ∧ okVal d ∧ orderK (kinds cs) d = none ∧ ts = [.bk C (cR.e cs) k, .dat d] ∧ t = .dat d
theorem cx_hull_book {f : Addr} {fd : FuncData} (F : Fun K "hull_book" "hull_book" s_hull_book f fd) (hm : mg "hull_book" = some (.ref f)) (hb : Binds K fd ["book", "ranking"] []) (D1 : CaX P w K mg base 7 "check_order" CR "at" (x_check_order C)) : CaX P w K mg base 8 "hull_book" CR "at" (x_hull_book C) := by
  refine caX_mk F sc_hull_book hm hb (fun ts t ⟨_, _, _, _, _, _, _, h, _⟩ => by rw [h]; rfl) (fun cdv A outer s H E hr B ts t cc ti W tk hW => ?_)
  obtain ⟨cs, k, d, c4, cv, okv, ho, rfl, rfl⟩ := cc
  have nd := sc_hull_book.nd
  exact q_asgP (P := fun _ => False) 2 (e_callX D1 hr tk (as_cons (e_bk 0) (as_cons (e_dat 1) as_nil)) ⟨cs, k, d, c4, cv, okv, ho, rfl, rfl⟩ rfl (fun s F H dd v g _ h1 h2 => hW s F H dd v g h1 h2)) (fun _ h => h.elim) nd
end
end Mk
namespace Mk
open PySem PySem.Spec PyProof.Rows L2
section
variable {P : Program} {w : World} {K : PySem.W.Frag} {mg : Str → Option Value} {base : Heap} {C CT fT : Addr}
def x_fewest (C : Addr) : CtX := fun ts t => ∃ (cs : List Int) (cks : List (List Int × List (List Int))) (m : Int), ColsOk cs ∧ cks.length ≤ 6 ∧ (∀ c ∈ cks, CkU cs c) ∧ 0 ≤ m ∧ m < ((fewF cs cks).2 : Int) ∧ ts = [bkS C cs cks, .dat (.int m)] ∧ t = .dat (.int m)
theorem fnx_fewest {f : Addr} {fd : FuncData} (S : SupF P K CT fT "most") (hT : mg "TooGreat" = some (.ref CT)) (T : Bi K mg) (bc : BkC K C) (F : Fun K "fewest_added" "fewest_added" s_fewest_added f fd) (D1 : Ca P w K mg base 1 "kinds_of" (c_kinds_of C)) (D2 : Ca P w K mg base 4 "added_by" (c_added_by C)) : FnOk P w K mg base (L2.CX P w) 5 f fd ["book", "most"] (spX CT "most" (x_fewest C)) := by
  refine fnX_mk F sc_fewest_added (fun ts t ⟨_, _, _, _, _, _, _, _, h, _⟩ => by rw [h]; rfl) (fun cdv A outer s H E hr B ts t cc ti W tk hW => ?_)
  obtain ⟨cs, cks, m, cok, k6, hks, m0', hR, rfl, rfl⟩ := cc
  have nd := sc_fewest_added.nd
  have kl := kinds_len cok
  have knd := kinds_nodup cs
  generalize hRR : fewF cs cks = R at hR
  refine q_asg (t := .dat (cO.e (kinds cs))) 2 (e_callD D1 hr (as_cons (e_bk 0) as_nil) ⟨cs, _, Nat.le_succ_of_le cok.l3, fun c hc => by have := cok.v c hc; omega, rfl, rfl⟩) ?_ nd
  refine q_asg (t := .dat .none) 3 e_non ?_ nd
  refine q_asg (t := .dat (.int 0)) 4 e_int ?_ nd
  refine q_asg (t := .own (([[]] : List Ord).map cO.e)) 5 (e_lstO (ds := [.tuple []]) (vs_cons (e_tup (ds := []) vs_nil (by decide)) vs_nil) (by decide)) ?_ nd
  let Gi : FSt → En := fun z => [bkS C cs cks, .dat (.int m), .dat (cO.e (kinds cs)), .dat (optP z.2.1), .dat (.int (z.2.2 : Int)), .own (z.1.map cO.e), .any, .any, .any]
  have i0 : FInv (kinds cs) (addedF cks) R ([[]], none, 0) := ⟨fun w hw => by
    rw [(by simpa using hw : w = [])]
    exact ⟨List.nodup_nil, fun _ h => (by cases h), Nat.zero_le _⟩, by
    rw [← hRR]
    show runF _ (leavesW (kinds cs) [] ++ []) none 0 = _
    unfold fewF leavesW
    rw [orders_leaves, List.append_nil]
    rfl⟩
  have m0 : fmeas (kinds cs) ([[]], none, 0) ≤ 1000 := by
    have h := nodes_le (ks := kinds cs) kl ((kinds cs).length) []
    have h2 : 5 ^ (kinds cs).length ≤ 5 ^ 4 := Nat.pow_le_pow_right (by decide) kl
    show nodesN (kinds cs) ((kinds cs).length - 0) [] + 0 ≤ 1000
    rw [Nat.sub_zero]
    omega
  refine s_cons (Mid := fun _ => False) (s_while (β := FSt) Gi (fmeas (kinds cs)) ([[]], none, 0) (fun z => (FInv (kinds cs) (addedF cks) R z ∧ (z.2.2 : Int) ≤ m) ∧ fmeas (kinds cs) z ≤ 1000) ⟨⟨i0, m0'⟩, m0⟩ rfl (fun z => decide (0 < z.1.length)) (fun z ⟨⟨hz, hzm⟩, hm⟩ => ?_) (fun z ⟨⟨hz, hzm⟩, hm⟩ hk => ?_) (fun z ⟨⟨hz, hzm⟩, hm⟩ hk => ?_) (passes_of rfl)) (fun G' hG => hG.elim)
  · exact (t_gt (e_lenO (ds := z.1.map cO.e) 5 T.len) e_int).eq (by
      rw [List.length_map]
      by_cases q : 0 < z.1.length <;> simp [q] <;> omega)
  · have hlen := of_decide_eq_true hk
    obtain ⟨wt', l, n⟩ := z
    have hne : wt' ≠ [] := List.length_pos_iff.mp hlen
    obtain ⟨wt, o, rfl⟩ : ∃ wt q, wt' = wt ++ [q] := ⟨wt'.dropLast, wt'.getLast hne, (List.dropLast_concat_getLast hne).symm⟩
    obtain ⟨on, os, ol⟩ := hz.ok o (by simp)
    have wl := wait_le (kinds cs) wt
    have hms : fmeas (kinds cs) (wt ++ [o], l, n) = (wt.map (nodesW (kinds cs))).sum + nodesW (kinds cs) o := by
      unfold fmeas
      simp
    have run : runF (addedF cks) (leavesW (kinds cs) o ++ remF (kinds cs) wt) l n = R := by
      have h := hz.run
      rw [rem_snoc] at h
      exact h
    refine q_popTo (ds := wt.map cO.e) (d := cO.e o) 5 (.one 6) (g_one 6 nd) trivial ?_ (by show some (Sl.own ((wt ++ [o]).map cO.e)) = _; rw [List.map_append]; rfl) rfl
    refine q_ifRet (k := decide (o.length < (kinds cs).length)) ((t_lt (e_lenT T.len (e_dat 6)) (e_lenT T.len (e_dat 2))).eq (by
      rw [List.length_map, List.length_map]
      by_cases q : o.length < (kinds cs).length <;> simp [q] <;> omega)) (fun ht => ?_) (fun hf => ?_)
    · have hlt := of_decide_eq_true ht
      have ne := nodes_ext hlt
      have hnew : FInv (kinds cs) (addedF cks) R (wt ++ extF (kinds cs) o, l, n) := ⟨fun w hw => by
        rcases List.mem_append.mp hw with q | q
        · exact hz.ok w (List.mem_append_left _ q)
        · exact ext_ok on os hlt w q, by
        show runF _ (remF (kinds cs) (wt ++ extF (kinds cs) o)) l n = R
        rw [rem_ext hlt]
        exact run⟩
      have hme : fmeas (kinds cs) (wt ++ extF (kinds cs) o, l, n) < fmeas (kinds cs) (wt ++ [o], l, n) := by
        rw [hms, ne]
        unfold fmeas
        rw [List.map_append, List.sum_append]
        omega
      have el : (extF (kinds cs) o).length ≤ 4 := by
        unfold extF
        rw [List.length_map]
        exact Nat.le_trans (List.length_filter_le _ _) (by rw [List.length_reverse]; exact kl)
      refine s_cons (Mid := is [bkS C cs cks, .dat (.int m), .dat (cO.e (kinds cs)), .dat (optP l), .dat (.int (n : Int)), .own ((wt ++ extF (kinds cs) o).map cO.e), .dat (cO.e o), .any, .any]) (s_ext (ds := wt.map cO.e) (es := (extF (kinds cs) o).map cO.e) 5 (EV.eq (e_frz (e_lcM (xs := (kinds cs).reverse) cR (.one 8) [("kind", 8)] (fun k => !decide (k ∈ o)) (fun k => cO.e (o ++ [k])) (by rw [List.map_reverse]; exact i_revT T.rev (e_dat 2)) (fun _ _ _ _ _ => g_one 8 nd) (fun s' H' C' cl fp B' k hk2 => ts_one (t_notInM cR true fl_cR (u65 hr) (e_dat 8) (e_dat 6))) (fun s' H' C' cl fp B' k hk2 _ => EV.eq (e_catT (ds := o.map cR.e) (es := [cR.e k]) (e_dat 6) (e_tup (vs_cons (e_dat 8) vs_nil) (by simp)) (by simp; omega)) (by simp [cTu])) (fun _ _ => trivial) (by rw [List.length_reverse]; omega) (blkOk_by (N := n_fewest_added) (sc := defScope s_fewest_added) (by decide +kernel)) nd)) ?_) ?_ ?_) (fun G' hG => ?_)
      · unfold extF
        rw [List.map_map]
        rfl
      · show _ = _
        rw [List.map_append]
        rfl
      · simp
        omega
      · rw [show G' = _ from hG]
        refine ss_le (A := Gi (wt ++ extF (kinds cs) o, l, n)) ⟨.inr rfl, .inr rfl, .inr rfl, .inr rfl, .inr rfl, .inr rfl, .inl rfl, .inr rfl, .inr rfl, trivial⟩ (s_one (s_cont ⟨_, ⟨⟨hnew, hzm⟩, by omega⟩, hme, rfl⟩))
    · have hge : (kinds cs).length ≤ o.length := by
        have := of_decide_eq_false hf
        omega
      rw [leaf hge] at run
      have lk := runF_looked (addedF cks) (o := o) (os := remF (kinds cs) wt) (l := l) (n := n)
      rw [show (o :: remF (kinds cs) wt) = [o] ++ remF (kinds cs) wt from rfl, run] at lk
      have oOk : OrdOk o := ⟨on, fun k hk2 => kinds_ok (os k hk2)⟩
      refine q_augI (a := (n : Int)) (b := 1) 4 e_int ?_ nd
      refine q_ifRet (k := decide (m < ((n + 1 : Nat) : Int))) ((t_gt (e_dat 4) (e_dat 1)).eq (by simp)) (fun _ => s_one (s_raise (n := 2) S hr tk (e_dat 1) rfl (fun s F H dd v g _ h1 h2 => hW s F H dd v g h1 h2) hT)) fun hle => ?_
      have hle' : ((n + 1 : Nat) : Int) ≤ m := by
        have := of_decide_eq_false hle
        omega
      refine q_asg (t := .dat (eO (addedF cks o, o))) 7 (e_tup (ds := [_, _]) (vs_cons (e_callD D2 hr (as_cons (e_bk 0) (as_cons (e_dat 6) as_nil)) ⟨cs, cks, o, cok, by omega, hks, oOk, by omega, rfl, rfl⟩) (vs_cons (e_dat 6) vs_nil)) (by simp)) ?_ nd
      refine q_asg (t := .dat (eO (updF (addedF cks) l o))) 3 ?_ ?_ nd
      · cases l with
        | none => exact e_if (x := true) (t_bool (w_or (x := true) (y := false) (t_isN (e_dat 3) rfl) fun h => nomatch h)) (fun _ => e_dat 7) (fun h => nomatch h)
        | some y =>
          refine e_if (x := decide (prLt (addedF cks o, o) y)) (t_bool (w_or (x := false) (y := decide (prLt (addedF cks o, o) y)) (t_isN (d := eO y) (e_dat 3) rfl) fun _ => w_or1 (t_ltO (u64 hr) (e_dat 7) (e_dat 3)))) (fun h => ?_) (fun h => ?_)
          · have e : updF (addedF cks) (some y) o = (addedF cks o, o) := if_pos (of_decide_eq_true h)
            rw [e]
            exact e_dat 7
          · have e : updF (addedF cks) (some y) o = y := if_neg (of_decide_eq_false h)
            rw [e]
            exact e_dat 3
      · have hun : runF (addedF cks) (o :: remF (kinds cs) wt) l n = R := run
        unfold runF at hun
        refine q_ifRet (k := decide ((updF (addedF cks) l o).1 = 0)) (t_eqM cI fl_int (u64 hr) (e_ixT (d := .int (updF (addedF cks) l o).1) rfl (e_dat 3) e_int) e_int) (fun ht => ?_) (fun hf2 => ?_)
        · rw [if_pos (of_decide_eq_true ht)] at hun
          have e2 : R.2 = n + 1 := by rw [← hun]
          exact ss_no (by omega)
        · rw [if_neg (of_decide_eq_false hf2)] at hun
          have hme : fmeas (kinds cs) (wt, some (updF (addedF cks) l o), n + 1) < fmeas (kinds cs) (wt ++ [o], l, n) := by
            rw [hms]
            have := nodes_pos (ks := kinds cs) (w := o) ((kinds cs).length - o.length)
            show (wt.map (nodesW (kinds cs))).sum < _ + nodesN (kinds cs) ((kinds cs).length - o.length) o
            omega
          refine ss_le (A := Gi (wt, some (updF (addedF cks) l o), n + 1)) ⟨.inr rfl, .inr rfl, .inr rfl, .inr rfl, .inr (by simp), .inr rfl, .inl rfl, .inl rfl, .inr rfl, trivial⟩ (s_nil ⟨_, ⟨⟨⟨fun w hw => hz.ok w (List.mem_append_left _ hw), hun⟩, hle'⟩, by omega⟩, hme, rfl⟩)
  · obtain ⟨wt, l, n⟩ := z
    have e : wt = [] := List.eq_nil_of_length_eq_zero (by have q : ¬ 0 < wt.length := of_decide_eq_false hk; omega)
    subst e
    have hr2 : (l, n) = R := hz.run
    have hz2 : (n : Int) ≤ m := hzm
    have e2 : R.2 = n := by rw [← hr2]
    show False
    omega
end
end Mk
namespace Mk
open PySem PySem.Spec PyProof.Rows L2
section
variable {P : Program} {w : World} {K : PySem.W.Frag} {mg : Str → Option Value} {base : Heap} {C : Addr}
theorem fn_hull_book {f : Addr} {fd : FuncData} (bc : BkC K C) (F : Fun K "hull_book" "hull_book" s_hull_book f fd) (D1 : Ca P w K mg base 7 "check_order" (c_check_order C)) (D2 : Ca P w K mg base 3 "grown" c_grown) (D3 : CaO P w K mg base 6 "Book" C c_Book) : FnOk P w K mg base CX0 8 f fd ["book", "ranking"] (spP (c_hull_book C)) := by
  refine fn_mk F sc_hull_book (fun ts P ⟨_, _, _, _, _, _, _, _, _, _, _, h, _⟩ => by rw [h]; rfl) (fun cdv A outer s H E hr B ts Pr cc => ?_)
  obtain ⟨cs, ks, d, o, cok, k6, hks, okv, ho, ok, o4, rfl, rfl⟩ := cc
  have nd := sc_hull_book.nd
  refine q_asg (t := .dat (cO.e o)) 2 (e_callD D1 hr (as_cons (e_bk 0) (as_cons (e_dat 1) as_nil)) ⟨cs, _, d, o, Nat.le_succ_of_le cok.l3, fun c hc => by have := cok.v c hc; omega, okv, ho, rfl, rfl⟩) ?_ nd
  refine q_ret (t := .bk C (cR.e cs) (.tuple ((ks.map (hullC o)).map cC.e))) (e_make (n := 6) D3 hr (as_cons (e_cols bc (e_bk 0)) (as_cons (t := .dat (.list ((ks.map (hullC o)).map cC.e))) (EV.eq (e_mapM (xs := ks) cC (.two 3 4) [("columns", 3), ("rows", 4)] (fun c => cC.e (hullC o c)) (i_tup (e_chks bc (e_bk 0))) (fun _ _ _ _ _ => g_two 3 4 rfl nd) (fun s' H' C' cl fp B' c hc => ?_) (fun _ _ => ⟨_, _, rfl⟩) (by omega) (blkOk_by (N := n_hull_book) (sc := defScope s_hull_book) (by decide +kernel)) nd) (by rw [List.map_map]; rfl)) as_nil)) ⟨cs, ks.map (hullC o), false, cok, by rw [List.length_map]; exact k6, fun c hc => ?_, rfl, rfl, rfl⟩) ⟨rfl, rfl⟩
  · have h := hks c hc
    exact e_tup (ds := [_, _]) (vs_cons (e_dat 3) (vs_cons (e_callD D2 hr (as_cons (e_dat 3) (as_cons (e_dat 4) (as_cons (e_dat 2) as_nil))) ⟨c.1, allRows cs c.1, c.2, o, h.p1, h.p3, h.univ cok, h.sub, h.nd, ok, o4, rfl, rfl⟩) vs_nil)) (by simp)
  · obtain ⟨c0, h0, rfl⟩ := List.mem_map.mp hc
    exact hullC_ok cok ok (hks c0 h0)
end
end Mk
namespace Mk
open PySem PySem.Spec PyProof.Rows L2

/-! ### data whose text is short -/
mutual
def smD : PyData → Bool
  | .none => true
  | .bool _ => true
  | .int i => decide (0 ≤ i) && decide (i < 1000)
  | .str x => PyData.strOk x && PyData.strOk (reprText x)
  | .list xs => smAll xs
  | .tuple xs => smAll xs
  | .dict _ => false
def smAll : List PyData → Bool
  | [] => true
  | x :: xs => smD x && smAll xs
end
theorem short_fin : ∀ n : Fin 1000, (PyData.shown (.int (n.val : Int))).length ≤ 13 := by decide +kernel
theorem short_int {i : Int} (h0 : 0 ≤ i) (h1 : i < 1000) : (PyData.shown (.int i)).length ≤ 13 := by
  have h := short_fin ⟨i.toNat, by omega⟩
  have e : ((i.toNat : Nat) : Int) = i := by omega
  rw [show ((⟨i.toNat, by omega⟩ : Fin 1000).val : Int) = i from e] at h
  exact h
mutual
theorem sm_lay : ∀ d : PyData, smD d = true → d.canLay0 = true ∧ d.showable = true ∧ d.intsShort 13 = true
  | .none, _ => ⟨by simp [PyData.canLay0], by simp [PyData.showable], by simp [PyData.intsShort]⟩
  | .bool _, _ => ⟨by simp [PyData.canLay0], by simp [PyData.showable], by simp [PyData.intsShort]⟩
  | .int i, h => by
    simp only [smD, Bool.and_eq_true, decide_eq_true_eq] at h
    refine ⟨by simp [PyData.canLay0], ?_, by simp only [PyData.intsShort, decide_eq_true_eq]; exact short_int h.1 h.2⟩
    simp only [PyData.showable, decide_eq_true_eq]
    have := Nat.log2_le_self i.natAbs
    omega
  | .str x, h => by
    simp only [smD, Bool.and_eq_true] at h
    exact ⟨by simpa [PyData.canLay0] using h.1, by simp [PyData.showable], by simp [PyData.intsShort]⟩
  | .list xs, h => by
    obtain ⟨a, b, c⟩ := sm_layAll xs (by simpa [smD] using h)
    exact ⟨by simpa [PyData.canLay0] using a, by simpa [PyData.showable] using b, by simpa [PyData.intsShort] using c⟩
  | .tuple xs, h => by
    obtain ⟨a, b, c⟩ := sm_layAll xs (by simpa [smD] using h)
    exact ⟨by simpa [PyData.canLay0] using a, by simpa [PyData.showable] using b, by simpa [PyData.intsShort] using c⟩
  | .dict _, h => by simp [smD] at h
theorem sm_layAll : ∀ xs : List PyData, smAll xs = true → PyData.canLayAll0 xs = true ∧ PyData.showableAll xs = true ∧ PyData.intsShortAll 13 xs = true
  | [], _ => ⟨by simp [PyData.canLayAll0], by simp [PyData.showableAll], by simp [PyData.intsShortAll]⟩
  | x :: xs, h => by
    simp only [smAll, Bool.and_eq_true] at h
    obtain ⟨a, b, c⟩ := sm_lay x h.1
    obtain ⟨a', b', c'⟩ := sm_layAll xs h.2
    exact ⟨by simp [PyData.canLayAll0, a, a'], by simp [PyData.showableAll, b, b'], by simp [PyData.intsShortAll, c, c']⟩
end
theorem wt_fin : ∀ n : Fin 1000, PyData.weight (.int (n.val : Int)) ≤ 10 := by decide +kernel
theorem wt_int {i : Int} (h0 : 0 ≤ i) (h1 : i < 1000) : PyData.weight (.int i) ≤ 10 := by
  have h := wt_fin ⟨i.toNat, by omega⟩
  have e : ((i.toNat : Nat) : Int) = i := by omega
  rw [show ((⟨i.toNat, by omega⟩ : Fin 1000).val : Int) = i from e] at h
  exact h
structure Sm (n m : Nat) (d : PyData) : Prop where
  pl : smD d = true
  dp : d.depth ≤ n
  wt : d.weight ≤ m
theorem Sm.mono {n m n' m' : Nat} {d : PyData} (h : Sm n m d) (l : n ≤ n') (l2 : m ≤ m') : Sm n' m' d := ⟨h.pl, Nat.le_trans h.dp l, Nat.le_trans h.wt l2⟩
theorem sm_all {ds : List PyData} {n m : Nat} (h : ∀ d ∈ ds, Sm n m d) : smAll ds = true ∧ PyData.depthAll ds ≤ n ∧ PyData.weightAll ds ≤ ds.length * (m + 1) := by
  induction ds with
  | nil => exact ⟨by simp [smAll], by simp [PyData.depthAll], by simp [PyData.weightAll]⟩
  | cons d ds ih =>
    obtain ⟨h1, h2, h3⟩ := ih fun e he => h e (List.mem_cons_of_mem _ he)
    have h0 := h d List.mem_cons_self
    have := h0.dp
    have := h0.wt
    refine ⟨by simp [smAll, h0.pl, h1], by simp only [PyData.depthAll]; omega, ?_⟩
    simp only [PyData.weightAll, List.length_cons]
    rw [Nat.succ_mul]
    omega
theorem sm_tup {ds : List PyData} {n m k : Nat} (h : ∀ d ∈ ds, Sm n m d) (hl : ds.length ≤ k) : Sm (n + 1) (k * (m + 1)) (.tuple ds) := by
  obtain ⟨h1, h2, h3⟩ := sm_all h
  have := Nat.mul_le_mul_right (m + 1) hl
  exact ⟨by simpa [smD] using h1, by simp only [PyData.depth]; omega, by simp only [PyData.weight]; omega⟩
theorem sm_lst {ds : List PyData} {n m k : Nat} (h : ∀ d ∈ ds, Sm n m d) (hl : ds.length ≤ k) : Sm (n + 1) (k * (m + 1)) (.list ds) := by
  obtain ⟨h1, h2, h3⟩ := sm_all h
  have := Nat.mul_le_mul_right (m + 1) hl
  exact ⟨by simpa [smD] using h1, by simp only [PyData.depth]; omega, by simp only [PyData.weight]; omega⟩
theorem sm_int {i : Int} (h0 : 0 ≤ i) (h1 : i < 1000) : Sm 0 10 (.int i) := ⟨by simp [smD, h0, h1], by simp [PyData.depth], wt_int h0 h1⟩
theorem Sm.shown {n m : Nat} {d : PyData} (h : Sm n m d) (hn : n ≤ 60) (hm : m ≤ 2 ^ 20) : d.shown.length ≤ sizeLine := by
  obtain ⟨a, _, c⟩ := sm_lay d h.pl
  have hl : PyData.layable0 d = true := by
    show (PyData.canLay0 d && decide (PyData.depth d ≤ 64) && decide (PyData.weight d ≤ 2 ^ 20)) = true
    rw [a, decide_eq_true (Nat.le_trans h.dp (by omega)), decide_eq_true (Nat.le_trans h.wt hm)]
    rfl
  have := shown_le13 hl c
  rw [sizeLine_eq]
  omega

/-! ### the text of such data can be laid -/
theorem okS_lit (x : String) : PyData.strOk (Str.ofString x) = true := by
  rw [Str.ofString_eq_toList]
  unfold PyData.strOk
  rw [← Array.all_toList]
  simp only [List.all_map, List.all_eq_true, Function.comp, decide_eq_true_eq]
  intro c _
  have h := c.valid
  simp only [UInt32.isValidChar, Nat.isValidChar] at h
  show c.val.toNat < 0x110000
  omega
theorem okS_app {x y : Str} (h1 : PyData.strOk x = true) (h2 : PyData.strOk y = true) : PyData.strOk (x ++ y) = true := by
  show (x.cps ++ y.cps).all (· < 0x110000) = true
  rw [Array.all_append]
  exact Bool.and_eq_true_iff.mpr ⟨h1, h2⟩
theorem okS_join {z : Str} (hz : PyData.strOk z = true) : ∀ {ts : List Str}, (∀ t ∈ ts, PyData.strOk t = true) → PyData.strOk (Str.join z ts) = true
  | [], _ => by
    show PyData.strOk Str.empty = true
    decide +kernel
  | [x], h => h x List.mem_cons_self
  | x :: y :: r, h => okS_app (okS_app (h x List.mem_cons_self) hz) (okS_join hz fun t ht => h t (List.mem_cons_of_mem _ ht))
theorem okS_from : ∀ (ts : List Str) (k : Nat) (acc : Str), PyData.strOk acc = true → (∀ t ∈ ts, PyData.strOk t = true) → PyData.strOk (textFrom k acc ts) = true
  | [], _, _, h, _ => h
  | t :: ts, k, acc, h, h2 => okS_from ts (k + 1) _ (okS_app (okS_app h (by split <;> exact okS_lit _)) (h2 t List.mem_cons_self)) fun u hu => h2 u (List.mem_cons_of_mem _ hu)
theorem okS_tup {ts : List Str} (h : ∀ t ∈ ts, PyData.strOk t = true) : PyData.strOk (tupleText ts) = true := okS_app (okS_app (okS_lit _) (okS_join (okS_lit _) h)) (by split <;> exact okS_lit _)
mutual
theorem okS_shown : ∀ d : PyData, smD d = true → PyData.strOk d.shown = true
  | .none, _ => by simp only [PyData.shown]; exact okS_lit _
  | .bool b, _ => by simp only [PyData.shown]; cases b <;> exact okS_lit _
  | .int i, _ => by simp only [PyData.shown]; exact okS_lit _
  | .str x, h => by
    simp only [smD, Bool.and_eq_true] at h
    simpa only [PyData.shown] using h.2
  | .list xs, h => by
    simp only [PyData.shown]
    exact okS_app (okS_from _ 0 _ (okS_lit _) (okS_all xs (by simpa [smD] using h))) (okS_lit _)
  | .tuple xs, h => by
    simp only [PyData.shown]
    exact okS_tup (okS_all xs (by simpa [smD] using h))
  | .dict _, h => by simp [smD] at h
theorem okS_all : ∀ xs : List PyData, smAll xs = true → ∀ t ∈ PyData.shownAll xs, PyData.strOk t = true
  | [], _, t, h => by simp [PyData.shownAll] at h
  | x :: xs, h, t, ht => by
    simp only [smAll, Bool.and_eq_true] at h
    simp only [PyData.shownAll, List.mem_cons] at ht
    rcases ht with rfl | ht
    · exact okS_shown x h.1
    · exact okS_all xs h.2 t ht
end

/-! ### repr -/
def rRepr (K : PySem.W.Frag) : List V → Hp → VK → Prop := fun xs H Q => ∃ v d n m, xs = [v] ∧ Dp K H v d ∧ Sm n m d ∧ n ≤ 60 ∧ m ≤ 2 ^ 20 ∧ Q (.str d.shown) H
theorem call_reprD {X : Cx} (hg : X.A.guards = some []) (hu : X.A.units + 64 < cLine) : CallR X (.builtin "repr") (rRepr X.K) := by
  intro pins s σ H xs us Q I r h
  obtain ⟨v, d, n, m, rfl, hd, sm, hn, hm, q⟩ := h
  obtain ⟨u, rfl, rv⟩ := vals1 r
  obtain ⟨as, rd⟩ := Dp.reads I d v u hd rv
  have sz := sm.shown hn hm
  obtain ⟨c1, c2, _⟩ := sm_lay d sm.pl
  have dep := sm.dp
  have ref : ∀ a, u = .ref a → wpAny (model X.prog X.w) X.A (call (.builtin "repr") [u]) (EP X pins σ Q) X.xe s := fun a e => by
    subst e
    exact repr_of_reads' rd c2 (PyData.noDict_hsm (PyData.hasDict_of_canLay d c1)) hg (by omega) (fun _ _ e => e) (fun h' u' tk k => ⟨.str d.shown, H, I.kept (t' := tk) k, ⟨_, rfl⟩, q⟩) sz
  cases rd with
  | none => exact PySem.P.repr_of_none ⟨.str _, H, I.tok _, ⟨_, rfl⟩, by simpa only [PyData.shown] using q⟩
  | bool b => exact PySem.P.repr_of_bool ⟨.str _, H, I.tok _, ⟨_, rfl⟩, by simpa only [PyData.shown] using q⟩
  | int i => exact PySem.P.repr_of_int (by simpa [PyData.showable] using c2) ⟨.str _, H, I.tok _, ⟨_, rfl⟩, by simpa only [PyData.shown] using q⟩
  | str x => exact PySem.P.repr_of_str ⟨.str _, H, I.tok _, ⟨_, rfl⟩, by simpa only [PyData.shown] using q⟩ (by simpa only [PyData.shown] using sz)
  | list h1 h2 h3 h4 => exact ref _ rfl
  | tuple h1 h2 h3 h4 => exact ref _ rfl
  | dict h1 h2 h3 h4 h5 => exact ref _ rfl
section
variable {X : Cx} {B : Bs} {G : En} {a : Expr} {d : PyData} {p pos : Pos} {n m : Nat}
theorem e_repr (hg : X.A.guards = some []) (hu : X.A.units + 64 < cLine) (hm : X.mg "repr" = none) (ha : EV X B G a d) (sm : Sm n m d) (hn : n ≤ 60 := by decide) (hm2 : m ≤ 2 ^ 20 := by decide) (hgl : Gl X "repr" := by rfl) (he : starEach (a :: []) X.env = (false, eval a X.env) :: starEach [] X.env := by rfl) (hpl : (backTo pos (starEach [] X.env)).any (·.1) = false := by rfl) : EV X B G (.Call (.Name "repr" p) [a] [] pos) (.str d.shown) :=
  e_callB (r := rRepr X.K) (ds := [d]) (fun F H vs Q hs r q => by
    obtain ⟨v, rfl, h⟩ := rps1 r
    exact ⟨v, d, n, m, rfl, h.dp hs, sm, hn, hm2, q _ F H (.refl hs) (.str _)⟩) (call_reprD hg hu) hm (by decide +kernel) (vs_cons ha vs_nil he) hgl (by decide) (by decide) he hpl
/-- != of one datum with itself -/
theorem dNeSame {K : PySem.W.Frag} (h1 : d.canLay0 = true) (h2 : d.depth ≤ 64) : DOp (rNeD K) d d (.bool false) := fun F H x y Q hs rx ry q => by
  have sh : SeqAt.shaped d = true := by
    show (d.canLay0 && decide (d.depth ≤ 64)) = true
    rw [h1, decide_eq_true h2]
    rfl
  refine ⟨d, d, rx.dp hs, ry.dp hs, sh, sh, ?_⟩
  rw [SeqAt.eqv_refl d h1]
  exact q _ F H (.refl hs) (.bl _)
theorem t_neSame {b : Expr} (hu : X.A.units + 64 < cLine) (ha : EV X B G a d) (hb : EV X B G b d) (h1 : d.canLay0 = true) (h2 : d.depth ≤ 64) : ET X B G (.Compare a [.NotEq] [b] pos) (is false) := t_cmp (dNeSame h1 h2) (op_neD hu) (nomark _) ha hb
theorem lay_shown (h : smD d = true) : (PyData.str d.shown).canLay0 = true := by simpa [PyData.canLay0] using okS_shown d h
theorem Sm.lay (h : Sm n m d) : d.canLay0 = true := (sm_lay d h.pl).1
end
end Mk
set_option maxHeartbeats 2000000
namespace Mk
open PySem PySem.Spec PyProof.Rows L2

/-! ### try .. except C as n (the error is of C), whatever clauses follow -/
def wFst (K : PySem.W.Frag) (c : Value) (i : Nat) (ts : Addr → Value → Option Addr → TS) (D : Ends) : WX := fun cls d σ H =>
  PySem.W.exmOne K cls c = some true ∧ ∀ a, H a = none → ts a cls d { nx := fun σ' H' => D.nx (σ'.set i none) H', rt := D.rt, bk := fun σ' H' => D.bk (σ'.set i none) H', ct := fun σ' H' => D.ct (σ'.set i none) H' } (σ.set i (some (.ref a))) H
section
variable {X : Cx} {x n : Str} {c : Value} {i : Nat} {body suite : List Stmt} {b₀ : Stmt} {np pos pos' : Pos} {more : List ExceptHandler} {tb : WX → TS} {ts : Addr → Value → Option Addr → TS}
theorem ps_try_fst (hs : X.stack = X.env :: X.outer) (hf : X.env.frame = some X.env.locals) (hN : X.N.Nodup) (hi : X.N[i]? = some n) (hln : X.env.kindOf n = some .local) (hc : Names X x c)
    (hb : ∀ (W : WX) (pn : List (Addr × Obj)) (xe : Value → Shared → Prop), Takes (X.tr pn xe) W → PassesOwn (model X.prog X.w) X.A X.env xe → PSs (X.tr pn xe) body (tb W))
    (hsu : ∀ (a : Addr) (oe : Obj) (cls : Value) (d : Option Addr) (pn : List (Addr × Obj)), Zc cls d oe → (∃ vs, oe.data = .fields vs) → PSs (X.suite a ((a, oe) :: pn)) (b₀ :: suite) (ts a cls d)) :
    PS X (.Try body (.ExceptHandler (some (.Name x np)) (some n) (b₀ :: suite) pos' :: more) [] [] pos) (fun D σ H => tb (wFst X.K c i ts D) D σ H) := by
  refine ⟨fun pins s σ H D I h => ?_⟩
  have ok := I.ok
  have fr1 : X.A.frames = some (X.env :: X.outer) := ok.frames.trans (congrArg some hs)
  refine wpAny_Try_except ?_
  refine wpAny_mono ((hb (wFst X.K c i ts D) (X.pn ++ pins) (fun e s₁ => wpAny (model X.prog X.w) X.A (noteFrame e X.env) (fun _ s₂ => wpAny (model X.prog X.w) X.A (setFlight e none) (fun _ s₃ =>
    wpAny (model X.prog X.w) X.A (handleBy e X.env (.ExceptHandler (some (.Name x np)) (some n) (b₀ :: suite) pos' :: more)) (SP X pins D) X.xe s₃) X.xe s₂) X.xe s₁) (fun u s' xx => ?_) PassesOwn.looking).run [] s σ H D (I.toTry _) h) (fun f s1 hsp => ?_) (fun e s1 he => he)
  · obtain ⟨a, Gr, sI, pins', σ', H', cls, d, rfl, J', nb, up, sky, na, os, ag, hb1, hyes⟩ := xx
    have J : Inv X pins σ' H' sI := J'.ofTry ok
    have sky2 : Sky Gr (X.env :: X.outer) a (Zc cls d) X.env.locals s'.heap := by
      rw [← hs]
      exact sky
    show wpAny (model X.prog X.w) X.A (noteFrame (.ref a) X.env) _ _ _
    refine Sky.land Zc.steady fr1 hf sky2 fun h3 fl3 up3 => ?_
    have J3 : Inv X pins σ' H' { s' with heap := h3 } := J.landed nb fl3.1 (up.trans up3) os ag
    obtain ⟨o3, v3, he3, hz3, hd3⟩ := fl3.there
    have out : a ∉ frs (X.env :: X.outer) := fun hm => by
      obtain ⟨_, o', e', hnf⟩ := fl3.2.2.1.mem hm
      rw [he3] at e'
      cases e'
      exact hnf _ hd3
    have nL : a ≠ X.env.locals := fun z => out (List.mem_filterMap.mpr ⟨X.env, List.mem_cons_self, by rw [hf, z]⟩)
    have nF : a ∉ X.fs := fun hm => by
      obtain ⟨e, he, q⟩ := List.mem_filterMap.mp hm
      exact out (List.mem_filterMap.mpr ⟨e, List.mem_cons_of_mem _ he, q⟩)
    have S3 := J3.suite he3 hd3 na nL nF
    refine wpAny_handleBy_cons (codeAny_handlers_test ?_) (by intro q; cases q)
    have LT : PySem.W.Looks (model X.prog X.w) h3 (typeOf (.ref a)) cls := fun A Q E s k q => wpAny_typeOf_ref (k _ _ he3) (by rw [hz3.1]; exact q)
    have LM := PySem.W.exm_one (M := model X.prog X.w) (J3.kIn) LT hb1
    have test : ∀ {Q : Value → Shared → Prop} {E : Value → Shared → Prop}, Q c { s' with heap := h3 } → wpAny (model X.prog X.w) (X.A.mark (some (.ref a))) (eval (.Name x np) X.env) Q E { s' with heap := h3 } := fun {Q E} q => by
      obtain ⟨hg, hdbg, hm | ⟨hm, hv, hnn⟩⟩ := hc
      · exact ld_glob (X := X.suite a ((a, o3) :: (X.pn ++ pins))) S3 hg hm q hdbg
      · exact ld_blt (X := X.suite a ((a, o3) :: (X.pn ++ pins))) S3 hg hm hv q hnn hdbg
    refine test (LM.here ?_)
    refine codeAny_handlers_suite_as ?_
    refine HandSPX.lands_againZ fl3 fun h4 fl4 up4 => ?_
    have J4 : Inv X pins σ' H' { s' with heap := h4 } := J.landed nb fl4.1 ((up.trans up3).trans up4) os ag
    obtain ⟨o4, v4, he4, hz4, hd4⟩ := fl4.there
    have S4 := J4.suite he4 hd4 na nL nF
    refine store_ok (X := X.suite a ((a, o4) :: (X.pn ++ pins))) (v := .ref a) S4 hN hi (.inl hln) rfl (fun s5 S5 => ?_) (.inr hln)
    refine wpAny_mono ((hsu a o4 cls d (X.pn ++ pins) hz4 ⟨_, hd4⟩).run [] s5 _ H' _ S5 (hyes a na)) (fun f s6 hsp => ?_) (fun _ _ z => False.elim z)
    have fin : ∀ {σ6 : L2.St} {H6 : Hp} {Q : Shared → Prop}, Inv (X.suite a ((a, o4) :: (X.pn ++ pins))) [] σ6 H6 s6 → (∀ s7, Inv X pins (σ6.set i none) H6 s7 → Q s7) →
        wpAny (model X.prog X.w) X.A (do bindName X.env n .none; unbindBehindTheSuite X.env n pos') (fun _ s7 => Q s7) X.xe s6 := fun {σ6 H6 Q} S6 hq => gone_ok (S6.unsuite ok) hN hi hln hq
    cases f with
    | next =>
      obtain ⟨σ6, H6, S6, q6⟩ := hsp
      exact fin S6 fun s7 J7 => ⟨_, _, J7, q6⟩
    | brk =>
      obtain ⟨σ6, H6, S6, q6⟩ := hsp
      exact fin S6 fun s7 J7 => ⟨_, _, J7, q6⟩
    | cont =>
      obtain ⟨σ6, H6, S6, q6⟩ := hsp
      exact fin S6 fun s7 J7 => ⟨_, _, J7, q6⟩
    | ret u =>
      obtain ⟨v6, σ6, H6, S6, r6, q6⟩ := hsp
      exact fin S6 fun s7 J7 => ⟨_, _, _, J7, r6, q6⟩
  · cases f with
    | next =>
      obtain ⟨σ', H', J', q⟩ := hsp
      exact wpAny_execs_nil ⟨σ', H', J'.ofTry ok, q⟩
    | brk =>
      obtain ⟨σ', H', J', q⟩ := hsp
      exact ⟨σ', H', J'.ofTry ok, q⟩
    | cont =>
      obtain ⟨σ', H', J', q⟩ := hsp
      exact ⟨σ', H', J'.ofTry ok, q⟩
    | ret u =>
      obtain ⟨v, σ', H', J', r, q⟩ := hsp
      exact ⟨v, σ', H', J'.ofTry ok, r, q⟩
end
/-! ### isinstance of the caught error -/
theorem call_isX {X : Cx} {a D CB : Addr} {oe : Obj} {cls : Value} {d : Option Addr} {pn : List (Addr × Obj)} (hz : Zc cls d oe) (e : PySem.W.isIn X.K (.ref D) CB = true) : CallR (X.suite a ((a, oe) :: pn)) (.builtin "isinstance") (fun xs H Q => cls = .ref D ∧ xs = [.ref a, .ref CB] ∧ Q (.bl true) H) := by
  intro pins s σ H xs us Q I r h
  obtain ⟨rfl, rfl, q⟩ := h
  cases r with
  | cons rx rr =>
    cases rr with
    | cons rt rr =>
      cases rr
      cases rx
      cases rt
      obtain ⟨hget, _⟩ := I.pin (a, oe) (List.mem_append.mpr (.inl List.mem_cons_self))
      exact PySem.W.isi_call I.kIn (fun M A Q E s k q => wpAny_typeOf_ref (k _ _ hget) (by rw [hz.1]; exact q)) e (fun z => nomatch z) ⟨.bl true, H, I, rfl, q⟩
theorem PSs.weakL {X : Cx} {e : List Stmt} {t t' : TS} (h : PSs X e t) (k : ∀ D s H, s.length = X.N.length → t' D s H → t D s H) : PSs X e t' := ⟨fun pins s σ H D I q => h.run pins s σ H D I (k _ _ _ I.len q)⟩
/-! ### _law_fault of a call that raises Refused -/
def TTf (K : PySem.W.Frag) (CR : Addr) : (XK → Hp → VK → Prop) → Hp → VK → Prop := fun tl H Q => ∀ N : VK, tl (fun cls d H' => ∃ dd v d0 n m, cls = .ref CR ∧ d = some dd ∧ H' dd = some (.xd [("at", v)]) ∧ Dp K H' v d0 ∧ Sm n m d0 ∧ n ≤ 60 ∧ m ≤ 2 ^ 20 ∧
  ∀ p, H' p = none → Q (.ref p) (upd H' p (.lst [.str "refused", .str d0.shown, .bl true]))) H N
theorem fault_gives {X : Cx} {g CR CB : Addr} {cdg : Value} {q : Str} (hR : X.mg "Refused" = some (.ref CR)) (hB : X.mg "BatchError" = some (.ref CB)) (hrep : X.mg "repr" = none) (hisi : X.mg "isinstance" = none) (xf : XfC X.K CR) (hno : PySem.W.findIn X.K (.ref CR) "at" = some none)
    (hex : PySem.W.exmOne X.K (.ref CR) (.ref CR) = some true) (isB : PySem.W.isIn X.K (.ref CR) CB = true) (hg : X.A.guards = some []) (hu : X.A.units + 100 < cLine) :
    LamX.GivesTo X n_l_fault "_law_fault" (defScope s_l_fault) g cdg (defBody s_l_fault) "_law_call" q (TTf X.K CR) := by
  intro f c' s H Q tl act hc h
  have nd := sc_l_fault.nd
  have hu2 : (X.A.deeper (envOfC "_law_fault" (defScope s_l_fault) s.heap.objs.size g cdg)).units + 64 < cLine := by
    show X.A.units + 3 + 64 < cLine
    omega
  refine ⟨_, pss_cons (ps_try_fst (X := (cxOf C8.CX0 X.prog X.w X.K X.mg X.base n_l_fault "_law_fault" (defScope s_l_fault) g cdg X.A X.stack s H C8.E0).nox) (i := 1) (c := .ref CR)
      (tb := fun W D σ H => ∃ Ech : XK, (∀ cls d σ' H', Ech cls d H' → W cls d σ' H') ∧ σ[0]? = some (some (.ref f)) ∧ H c' = some (LamX.CodeO c' q) ∧ tl Ech H (fun _ H' => D.nx σ H'))
      (ts := fun a cls d D σ H => (σ.length = 2 → σ[1]? = some (some (.ref a))) ∧ ∃ dd v d0 n m, cls = .ref CR ∧ d = some dd ∧ H dd = some (.xd [("at", v)]) ∧ Dp X.K H v d0 ∧ Sm n m d0 ∧ n ≤ 60 ∧ m ≤ 2 ^ 20 ∧
        ∀ p, H p = none → D.rt (.ref p) (upd H p (.lst [.str "refused", .str d0.shown, .bl true])))
      rfl rfl nd rfl rfl ⟨rfl, by decide, .inl hR⟩ (fun W pn xe tk _ => ?_) (fun a oe cls d pn hz hf => ?_)) (pss_one (ps_ret (pe_lst (pa_cons pe_str (pa_cons pe_str (pa_cons pe_bl pa_nil)))))), ?_⟩
  · refine ⟨fun pins s' σ H' D I h' => ?_⟩
    obtain ⟨Ech, hW, h1, h2, h3⟩ := h'
    exact (pss_one (ps_expr (act W pn xe Ech _ _ tk hW))).run pins s' σ H' D I ⟨h1, h2, h3⟩
  · refine PSs.weakL (pss_one (ps_ret (pe_lst (pa_cons pe_str (pa_cons (pe_callB (call_reprD hg hu2) rfl hrep (by decide +kernel) (pa_cons (pe_xf (C := CR) xf hno hz hf (pe_var (i := 1) rfl (.inl rfl))) pa_nil) (by decide)) (pa_cons (pe_callB (call_isX (D := CR) hz isB) rfl hisi (by decide +kernel) (pa_cons (pe_var (i := 1) rfl (.inl rfl)) (pa_cons (pe_glob (v := .ref CB) rfl hB rfl) pa_nil)) (by decide)) pa_nil)))))) fun D σ H' hl h' => ?_
    obtain ⟨h0, dd, v, d0, n, m, rfl, rfl, hx, dp, sm, hn, hm, hq⟩ := h'
    have hs := h0 hl
    exact ⟨.ref a, hs, rfl, rfl, dd, _, v, rfl, hx, rfl, v, d0, n, m, rfl, dp, sm, hn, hm, .ref a, hs, rfl, rfl, (by show 3 ≤ sizeLine; decide), hq⟩
  · refine ⟨_, fun cls d σ' H' hE => ?_, rfl, hc, h _⟩
    obtain ⟨dd, v, d0, n, m, rfl, rfl, hx, dp, sm, hn, hm, hq⟩ := hE
    exact ⟨hex, fun a ha => ⟨fun hl => List.getElem?_set_self (by rw [List.length_set] at hl; omega), dd, v, d0, n, m, rfl, rfl, hx, dp, sm, hn, hm, hq⟩⟩
end Mk
namespace Mk
open PySem PySem.Spec PyProof.Rows L2
/-! ### min of all -/
theorem updF_least {ad : Ord → Int} {pre : List Ord} {m : Int × Ord} {o : Ord} (h : LeastOf ad pre m) (lt : m.2 < o) : LeastOf ad (pre ++ [o]) (updF ad (some m) o) := by
  obtain ⟨m1, m2, m3⟩ := h
  show LeastOf ad (pre ++ [o]) (if prLt (ad o, o) m then (ad o, o) else m)
  by_cases hp : prLt (ad o, o) m
  · rw [if_pos hp]
    refine ⟨by simp, rfl, fun x hx => ?_⟩
    rcases List.mem_append.mp hx with q | q
    · rcases m3 x q with rfl | z
      · rw [← m2]; exact .inr hp
      · exact .inr (prLt_trans hp z)
    · exact .inl (by simpa using q)
  · rw [if_neg hp]
    refine ⟨List.mem_append_left _ m1, m2, fun x hx => ?_⟩
    rcases List.mem_append.mp hx with q | q
    · exact m3 x q
    · have e : x = o := by simpa using q
      subst e
      refine .inr ?_
      rcases Int.lt_trichotomy m.1 (ad x) with z | z | z
      · exact .inl z
      · exact .inr ⟨z, lt⟩
      · exact absurd (.inl z) hp
theorem minOf_least {ad : Ord → Int} : ∀ (os pre : List Ord) (m : Int × Ord), (pre ++ os).Pairwise (· < ·) → LeastOf ad pre m → ∃ m', PySem.W.minOf (toO m) (os.map fun p => toO (ad p, p)) = toO m' ∧ LeastOf ad (pre ++ os) m'
  | [], pre, m, asc, h => ⟨m, rfl, by rw [List.append_nil]; exact h⟩
  | o :: os, pre, m, asc, h => by
    have lt : m.2 < o := (List.pairwise_append.mp asc).2.2 m.2 h.1 o List.mem_cons_self
    have st := updF_least h lt
    obtain ⟨m', e1, e2⟩ := minOf_least os (pre ++ [o]) (updF ad (some m) o) (by simpa using asc) st
    refine ⟨m', ?_, by simpa using e2⟩
    rw [← e1]
    show List.foldl _ _ _ = List.foldl _ _ _
    rw [List.map_cons, List.foldl_cons]
    congr 1
    rw [lt_toO]
    show (if decide (prLt (ad o, o) m) = true then toO (ad o, o) else toO m) = toO (if prLt (ad o, o) m then (ad o, o) else m)
    by_cases hp : prLt (ad o, o) m
    · rw [if_pos (by simpa using hp), if_pos hp]
    · rw [if_neg (by simpa using hp), if_neg hp]
end Mk
namespace Mk
open PySem PySem.Spec PyProof.Rows L2
/-! ### what an order is -/
theorem orderK_some {ks o : List (List Int)} {d : PyData} (h : orderK ks d = some o) : (unL d).map tupK = o.map some ∧ o.Perm ks ∧ (unL d).length = ks.length ∧ isSeq d = true := by
  unfold orderK at h
  split at h
  · rename_i c
    split at h
    · cases h
    · rename_i hn
      split at h
      · rename_i hs
        cases h
        refine ⟨somes hn, ?_, c.2.1, c.1⟩
        have p := sortR_perm (((unL d).map tupK).filterMap id)
        rw [hs] at p
        exact p.symm
      · cases h
  · cases h
theorem orderK_none {ks : List (List Int)} {d : PyData} (h : ∀ o, orderK ks d ≠ some o) : orderK ks d = none := by
  cases e : orderK ks d with
  | none => rfl
  | some o => exact absurd e (h o)
theorem odd_item {ks : List (List Int)} {xs : List PyData} {e : PyData} (hm : e ∈ xs) (ht : tupK e = none) : orderK ks (.list xs) = none := orderK_none fun o h => by
  have h1 := (orderK_some h).1
  have h2 : tupK e ∈ (unL (.list xs)).map tupK := List.mem_map.mpr ⟨e, hm, rfl⟩
  rw [h1, ht] at h2
  obtain ⟨_, _, z⟩ := List.mem_map.mp h2
  cases z
theorem odd_len {ks : List (List Int)} {xs : List PyData} (hl : xs.length ≠ ks.length) : orderK ks (.list xs) = none := orderK_none fun o h => hl (orderK_some h).2.2.1
end Mk
namespace Mk
open PySem PySem.Spec PyProof.Rows L2
theorem odd_none {ks : List (List Int)} (nd : ks.Nodup) (h0 : [0, 0, 0] ∉ ks) (h3 : ∀ k ∈ ks, k.length = 3) : ∀ d ∈ oddL ks, orderK ks d = none := fun d hd => by
  unfold oddL at hd
  rcases List.mem_append.mp hd with hd | hd
  · simp only [List.mem_cons, List.not_mem_nil, or_false] at hd
    rcases hd with rfl | rfl | rfl | rfl | rfl | rfl | rfl
    · exact orderK_none fun o h => by cases (orderK_some h).2.2.2
    · exact orderK_none fun o h => by cases (orderK_some h).2.2.2
    · exact orderK_none fun o h => by cases (orderK_some h).2.2.2
    · exact odd_len (by simp)
    · by_cases hk : ks = []
      · rw [if_pos hk]
        exact odd_len (by rw [hk]; simp)
      · rw [if_neg hk]
        exact odd_item (e := .none) (List.mem_replicate.mpr ⟨fun z => hk (List.eq_nil_of_length_eq_zero z), rfl⟩) rfl
    · refine orderK_none fun o h => ?_
      obtain ⟨e1, e2, _, _⟩ := orderK_some h
      have h2 : tupK (cR.e [0, 0, 0]) ∈ (unL (.list (ks.tail.map cLI.e ++ [cR.e [0, 0, 0]]))).map tupK := List.mem_map.mpr ⟨_, by show _ ∈ ks.tail.map cLI.e ++ [cR.e [0, 0, 0]]; simp, rfl⟩
      rw [e1] at h2
      obtain ⟨k, hk, z⟩ := List.mem_map.mp h2
      have e3 : tupK (cR.e [0, 0, 0]) = some [0, 0, 0] := by decide
      rw [e3] at z
      cases z
      exact h0 (e2.mem_iff.mp hk)
    · exact odd_len (by simp)
  · by_cases hk : ks = []
    · rw [if_pos hk] at hd
      cases hd
    · rw [if_neg hk] at hd
      simp only [List.mem_cons, List.not_mem_nil, or_false] at hd
      have hp := List.length_pos_iff.mpr hk
      rcases hd with rfl | rfl | rfl | rfl | rfl | rfl
      · exact odd_len (by simp; omega)
      · by_cases h1 : 1 < ks.length
        · rw [if_pos h1]
          refine orderK_none fun o h => ?_
          obtain ⟨e1, e2, _, _⟩ := orderK_some h
          have ond : o.Nodup := e2.nodup_iff.mpr nd
          have ol : o.length = ks.length := e2.length_eq
          have e1' : (ks.tail.map cLI.e ++ [cLI.e (ks.getD (ks.length - 1) [])]).map tupK = o.map some := e1
          have g1 : (o.map some)[ks.length - 1]? = some (tupK (cLI.e (ks.getD (ks.length - 1) []))) := by
            rw [← e1', List.getElem?_map, List.getElem?_append_right (by simp)]
            simp
          have g2 : (o.map some)[ks.length - 2]? = some (tupK (cLI.e (ks.getD (ks.length - 1) []))) := by
            have q1 : ks.tail[ks.length - 2]? = some (ks.getD (ks.length - 1) []) := by
              rw [List.getElem?_tail, show ks.length - 2 + 1 = ks.length - 1 by omega]
              have hx : ks.length - 1 < ks.length := by omega
              simp [List.getD, hx]
            rw [← e1', List.getElem?_map, List.getElem?_append_left (by simp; omega), List.getElem?_map, q1]
            rfl
          rw [List.getElem?_map] at g1 g2
          have h1' : ks.length - 1 < o.length := by omega
          have h2' : ks.length - 2 < o.length := by omega
          rw [List.getElem?_eq_getElem h1'] at g1
          rw [List.getElem?_eq_getElem h2'] at g2
          have z : o[ks.length - 1] = o[ks.length - 2] := by
            have z1 := (Option.some.inj g1).trans (Option.some.inj g2).symm
            exact Option.some.inj z1
          have := (List.getElem_inj ond).mp z
          omega
        · rw [if_neg h1]
          exact odd_len (by simp; omega)
      · exact odd_item (e := .list [.int 0, .int 0, .bool true]) (by simp) (by decide)
      · exact odd_item (e := .str (Str.ofString "001")) (by simp) rfl
      · refine odd_item (e := cLI.e ((ks.getD 0 []).take 2)) (by simp) ?_
        unfold tupK
        rw [if_neg]
        intro hh
        unfold isNumRow at hh
        simp only [Bool.and_eq_true, decide_eq_true_eq] at hh
        have hl : (unL (cLI.e ((ks.getD 0 []).take 2))).length = 3 := hh.2.1
        have : (unL (cLI.e ((ks.getD 0 []).take 2))).length ≤ 2 := by
          show (((ks.getD 0 []).take 2).map PyData.int).length ≤ 2
          rw [List.length_map, List.length_take]
          omega
        omega
      · exact odd_item (e := cLI.e [9, 0, 1]) (by simp) (by decide)
end Mk
namespace Mk
open PySem PySem.Spec PyProof.Rows L2
/-! ### a list of an order's kinds is that order -/
theorem tupK_row {k : List Int} (h3 : k.length = 3) (hb : ∀ i ∈ k, 0 ≤ i ∧ i < 5) (b : Bool) : tupK (dS b (k.map cI.e)) = some k := by
  have hu : unL (dS b (k.map cI.e)) = k.map .int := by cases b <;> rfl
  have hs : isSeq (dS b (k.map cI.e)) = true := isSeq_dS b _
  have hn : isNumRow (dS b (k.map cI.e)) = true := by
    unfold isNumRow
    rw [hs, hu]
    simp only [List.length_map, h3, decide_true, Bool.true_and, List.all_map, List.all_eq_true]
    intro i hi
    have := hb i hi
    simp [isBel, this]
  unfold tupK
  rw [if_pos hn, hu, List.map_map]
  congr 1
  conv => rhs; rw [← List.map_id k]
  rfl
theorem orderK_rows {ks o : List (List Int)} (so : ks.Pairwise (· < ·)) (pm : o.Perm ks) (h3 : ∀ k ∈ ks, k.length = 3 ∧ ∀ i ∈ k, 0 ≤ i ∧ i < 5) (b b2 : Bool) : orderK ks (dS b2 (o.map fun k => dS b (k.map cI.e))) = some o := by
  have hu : unL (dS b2 (o.map fun k => dS b (k.map cI.e))) = o.map fun k => dS b (k.map cI.e) := by cases b2 <;> rfl
  have hm : (unL (dS b2 (o.map fun k => dS b (k.map cI.e)))).map tupK = o.map some := by
    rw [hu, List.map_map]
    apply List.map_congr_left
    intro k hk
    have := h3 k (pm.mem_iff.mp hk)
    exact tupK_row this.1 this.2 b
  have hf : (o.map some).filterMap id = o := by
    rw [List.filterMap_map]
    conv => rhs; rw [← List.filterMap_some (l := o)]
    rfl
  have hs : sortR o = ks := sortR_uniq (sortR_sorted o) (so.imp fun h => List.le_of_lt h) ((sortR_perm o).trans pm)
  unfold orderK
  rw [if_pos ⟨isSeq_dS _ _, by rw [hu, List.length_map]; exact pm.length_eq, by rw [hu, List.all_map, List.all_eq_true]; exact fun k _ => isSeq_dS b _⟩, hm, if_neg (by simp), hf, if_pos hs]
end Mk
namespace Mk
open PySem PySem.Spec PyProof.Rows L2
/-! ### kinds by which rows are unlike -/
theorem zpP3_mem {z : Int × Int × Int} : ∀ {as bs cs : List Int}, z ∈ zpP3 as bs cs ↔ ∃ i : Nat, as[i]? = some z.1 ∧ bs[i]? = some z.2.1 ∧ cs[i]? = some z.2.2
  | a :: as, b :: bs, c :: cs => by
    show z ∈ (a, b, c) :: zpP3 as bs cs ↔ _
    rw [List.mem_cons, zpP3_mem (as := as) (bs := bs) (cs := cs)]
    constructor
    · rintro (rfl | ⟨i, h⟩)
      · exact ⟨0, rfl, rfl, rfl⟩
      · exact ⟨i + 1, h⟩
    · rintro ⟨i, h1, h2, h3⟩
      cases i with
      | zero =>
        simp at h1 h2 h3
        exact .inl (by rw [h1, h2, h3])
      | succ i => exact .inr ⟨i, by simpa using h1, by simpa using h2, by simpa using h3⟩
  | [], _, _ => by simp [zpP3]
  | _ :: _, [], _ => by simp [zpP3]
  | _ :: _, _ :: _, [] => by simp [zpP3]
theorem unlike_mem {ps one other u : List Int} (h1 : one.length = ps.length) (h2 : other.length = ps.length) : u ∈ unlikeP ps one other ↔ ∃ i, i ∈ placesOf ps one other u ∧ one.getD i.toNat 0 ≠ other.getD i.toNat 0 := by
  unfold unlikeP
  constructor
  · intro h
    obtain ⟨z, hz, rfl⟩ := List.mem_map.mp h
    obtain ⟨hz, hd⟩ := List.mem_filter.mp hz
    obtain ⟨i, e1, e2, e3⟩ := zpP3_mem.mp hz
    have hi : i < ps.length := (List.getElem?_eq_some_iff.mp e1).1
    have g1 : ps.getD i 0 = z.1 := by simp [List.getD, e1]
    have g2 : one.getD i 0 = z.2.1 := by simp [List.getD, e2]
    have g3 : other.getD i 0 = z.2.2 := by simp [List.getD, e3]
    refine ⟨(i : Int), placesOf_mem.mpr ⟨⟨by omega, by omega⟩, ?_⟩, ?_⟩
    · show [ps.getD i 0, one.getD i 0, other.getD i 0] = _
      rw [g1, g2, g3]
    · show one.getD i 0 ≠ other.getD i 0
      rw [g2, g3]
      simpa using hd
  · rintro ⟨i, hi, hd⟩
    obtain ⟨⟨i0, i1⟩, e⟩ := placesOf_mem.mp hi
    have l : i.toNat < ps.length := by omega
    refine List.mem_map.mpr ⟨(ps.getD i.toNat 0, one.getD i.toNat 0, other.getD i.toNat 0), List.mem_filter.mpr ⟨zpP3_mem.mpr ⟨i.toNat, ?_, ?_, ?_⟩, by simpa using hd⟩, e⟩
    · simp [List.getD, List.getElem?_eq_getElem l]
    · simp [List.getD, List.getElem?_eq_getElem (h1 ▸ l : i.toNat < one.length)]
    · simp [List.getD, List.getElem?_eq_getElem (h2 ▸ l : i.toNat < other.length)]
theorem full_lotsUp (ps : List Int) : ps ∈ lotsUp ps := by
  refine snoc_ind (P := fun ps => ps ∈ lotsUp ps) (by simp [lotsUp]) (fun ps p ih => ?_) ps
  rw [lotsUp_snoc]
  exact List.mem_append_right _ (List.mem_map.mpr ⟨ps, ih, rfl⟩)
theorem full_lots {ps : List Int} (h : ps ≠ []) : ps ∈ lots ps := by
  have q := full_lotsUp ps
  rw [lotsUp_cons] at q
  rcases List.mem_cons.mp q with e | e
  · exact absurd e h
  · exact e
/-! ### a check's table that suits an order -/
def Suit (c : List Int × List (List Int)) (o : List (List Int)) : Prop := ∀ a ∈ c.2, ∀ b ∈ c.2, ∀ r ∈ way c.1 a b o, r ∈ c.2
theorem LetC.mono {left left' : List (List Int)} {k : List Int} {c : List Int × List (List Int)} (h : LetC left k c) (s : ∀ u ∈ left', u ∈ left) : LetC left' k c := fun one h1 other h2 hu => h one h1 other h2 fun u q => s u (hu u q)
theorem rowSet_nil_app {one other : List Int} : rowSet one other [] = one := by
  refine row_ext rowSet_len fun n hn => ?_
  rw [rowSet_len] at hn
  rw [rowSet_get hn, if_neg (by simp)]
theorem suit_let {c : List Int × List (List Int)} {pre post : List (List Int)} {k : List Int} (el : ∀ r ∈ c.2, r.length = c.1.length) (ok : OrdOk (pre ++ k :: post)) (s : Suit c (pre ++ k :: post)) : LetC (k :: post) k c := by
  intro one h1 other h2 hu l hl
  have e : wayAhead c.1 one other pre = [] := by
    cases q : wayAhead c.1 one other pre with
    | nil => rfl
    | cons i r =>
      have hi : i ∈ wayAhead c.1 one other pre := by rw [q]; exact List.mem_cons_self
      obtain ⟨k', hk', hp⟩ := wayAhead_mem.mp hi
      have hd := placesOf_diff (ok.ok k' (List.mem_append_left _ hk')) hp
      have hm := hu k' ((unlike_mem (el one h1) (el other h2)).mpr ⟨i, hp, hd⟩)
      exact absurd rfl ((List.nodup_append.mp ok.nd).2.2 k' hk' k' hm)
  have hw : rowSet one other (wayAhead c.1 one other pre ++ l) ∈ way c.1 one other (pre ++ k :: post) := way_mem.mpr ⟨pre, k, post, rfl, l, hl, rfl⟩
  rw [e, List.nil_append] at hw
  exact s one h1 other h2 _ hw
/-- each can go first of those left -/
def Rk (c : List Int × List (List Int)) (o : List (List Int)) : Prop := ∀ pre k post, o = pre ++ k :: post → LetC (k :: post) k c
theorem rk_step {c : List Int × List (List Int)} {o pre post : List (List Int)} {k a b : List Int} (el : ∀ r ∈ c.2, r.length = c.1.length) (ok : OrdOk o) (rk : Rk c o) (e : o = pre ++ k :: post) (ha : a ∈ c.2) (hb : b ∈ c.2)
    (un : ∀ u ∈ unlikeP c.1 a b, u ∈ o) (hx : rowSet a b (wayAhead c.1 a b pre) ∈ c.2) : ∀ l ∈ lots (placesOf c.1 a b k), rowSet a b (wayAhead c.1 a b pre ++ l) ∈ c.2 := by
  have la := el a ha
  have lb := el b hb
  have nd := ok.nd
  rw [e] at nd
  have nd' := List.nodup_append.mp nd
  have kpre : k ∉ pre := fun z => nd'.2.2 k z k List.mem_cons_self rfl
  have okk : KOk k := ok.ok k (by rw [e]; simp)
  have gx : ∀ n, n < a.length → (rowSet a b (wayAhead c.1 a b pre)).getD n 0 = if (n : Int) ∈ wayAhead c.1 a b pre then b.getD n 0 else a.getD n 0 := fun n hn => rowSet_get hn
  have noAh : ∀ i, i ∈ placesOf c.1 a b k → i ∉ wayAhead c.1 a b pre := fun i hi z => by
    obtain ⟨k', hk', hp⟩ := wayAhead_mem.mp z
    exact places_apart (fun e : k = k' => kpre (by rw [e]; exact hk')) hi hp
  have pl : placesOf c.1 (rowSet a b (wayAhead c.1 a b pre)) b k = placesOf c.1 a b k := by
    unfold placesOf
    refine List.filter_congr fun i hi => ?_
    obtain ⟨i0, i1⟩ := mem_rgI.mp hi
    have hn : i.toNat < a.length := by omega
    have ei : ((i.toNat : Nat) : Int) = i := by omega
    rw [gx i.toNat hn, ei]
    by_cases z : i ∈ wayAhead c.1 a b pre
    · rw [if_pos z]
      have h1 : ¬ [c.1.getD i.toNat 0, b.getD i.toNat 0, b.getD i.toNat 0] = k := fun q => by
        obtain ⟨x, y, w, ek, hne⟩ := okk
        rw [ek] at q
        simp only [List.cons.injEq, and_true] at q
        exact hne (q.2.1.symm.trans q.2.2)
      have h2 : ¬ [c.1.getD i.toNat 0, a.getD i.toNat 0, b.getD i.toNat 0] = k := fun q => noAh i (placesOf_mem.mpr ⟨⟨i0, by omega⟩, q⟩) z
      rw [decide_eq_false h1, decide_eq_false h2]
    · rw [if_neg z]
  intro l hl
  have h := rk pre k post e _ hx b hb (fun u hu => by
    obtain ⟨i, hi, hd⟩ := (unlike_mem (by rw [rowSet_len, la]) lb).mp hu
    obtain ⟨⟨i0, i1⟩, eu⟩ := placesOf_mem.mp hi
    have hn : i.toNat < a.length := by omega
    have ei : ((i.toNat : Nat) : Int) = i := by omega
    rw [gx i.toNat hn, ei] at hd eu
    by_cases z : i ∈ wayAhead c.1 a b pre
    · rw [if_pos z] at hd
      exact absurd rfl hd
    · rw [if_neg z] at hd eu
      have hp : i ∈ placesOf c.1 a b u := placesOf_mem.mpr ⟨⟨i0, i1⟩, eu⟩
      have hm := un u ((unlike_mem la lb).mpr ⟨i, hp, hd⟩)
      rw [e] at hm
      rcases List.mem_append.mp hm with q | q
      · exact absurd (wayAhead_mem.mpr ⟨u, q, hp⟩) z
      · exact q) l (by rw [pl]; exact hl)
  have ex : rowSet (rowSet a b (wayAhead c.1 a b pre)) b l = rowSet a b (wayAhead c.1 a b pre ++ l) := by
    refine row_ext (by rw [rowSet_len, rowSet_len, rowSet_len]) fun n hn => ?_
    rw [rowSet_len, rowSet_len] at hn
    rw [rowSet_get (by rw [rowSet_len]; exact hn), rowSet_get hn, rowSet_get hn]
    by_cases z1 : (n : Int) ∈ l <;> by_cases z2 : (n : Int) ∈ wayAhead c.1 a b pre <;> simp [z1, z2]
  rw [ex] at h
  exact h
theorem rk_ahead {c : List Int × List (List Int)} {o : List (List Int)} {a b : List Int} (el : ∀ r ∈ c.2, r.length = c.1.length) (ok : OrdOk o) (rk : Rk c o) (ha : a ∈ c.2) (hb : b ∈ c.2) (un : ∀ u ∈ unlikeP c.1 a b, u ∈ o) :
    ∀ pre post, o = pre ++ post → rowSet a b (wayAhead c.1 a b pre) ∈ c.2 := by
  intro pre
  refine snoc_ind (P := fun pre => ∀ post, o = pre ++ post → rowSet a b (wayAhead c.1 a b pre) ∈ c.2) (fun post _ => ?_) (fun pre k ih post e => ?_) pre
  · have e0 : wayAhead c.1 a b [] = [] := rfl
    rw [e0, rowSet_nil_app]
    exact ha
  · have e' : o = pre ++ k :: post := by rw [e]; simp
    have hx := ih (k :: post) e'
    have st := rk_step el ok rk e' ha hb un hx
    have ew : wayAhead c.1 a b (pre ++ [k]) = wayAhead c.1 a b pre ++ placesOf c.1 a b k := by
      unfold wayAhead
      rw [List.flatMap_append]
      simp
    rw [ew]
    by_cases hz : placesOf c.1 a b k = []
    · rw [hz, List.append_nil]
      exact hx
    · exact st _ (full_lots hz)
theorem rk_suit {c : List Int × List (List Int)} {o : List (List Int)} (el : ∀ r ∈ c.2, r.length = c.1.length) (ok : OrdOk o) (rk : Rk c o) (un : ∀ a ∈ c.2, ∀ b ∈ c.2, ∀ u ∈ unlikeP c.1 a b, u ∈ o) : Suit c o := fun a ha b hb r hr => by
  obtain ⟨pre, k, post, e, l, hl, rfl⟩ := way_mem.mp hr
  exact rk_step el ok rk e ha hb (un a ha b hb) (rk_ahead el ok rk ha hb (un a ha b hb) pre (k :: post) e) l hl
theorem suit_rk {c : List Int × List (List Int)} {o : List (List Int)} (el : ∀ r ∈ c.2, r.length = c.1.length) (ok : OrdOk o) (s : Suit c o) : Rk c o := fun pre k post e => by
  rw [e] at ok s
  exact suit_let el ok s
end Mk
namespace Mk
open PySem PySem.Spec PyProof.Rows L2
/-! ### none are added just where the tables suit -/
theorem hull_ge {ps : List Int} {rows o us : List (List Int)} (nd : rows.Nodup) (h : IsHull ps rows o us) : rows.length ≤ us.length := nodup_len nd fun r hr => (h.mem r).mpr (.base hr)
theorem hull_suit {ps : List Int} {rows o us : List (List Int)} (h : IsHull ps rows o us) : Suit (ps, us) o := fun a ha b hb r hr => (h.mem r).mpr (.step ((h.mem a).mp ha) ((h.mem b).mp hb) hr)
theorem suit_hull {ps : List Int} {rows o us : List (List Int)} (s : Suit (ps, rows) o) (h : IsHull ps rows o us) : us.length ≤ rows.length := by
  refine nodup_len h.nd fun r hr => ?_
  have c := (h.mem r).mp hr
  clear hr
  induction c with
  | base hm => exact hm
  | step _ _ hw iha ihb => exact s _ iha _ ihb _ hw
theorem same_suit {ps : List Int} {rows o us : List (List Int)} (nd : rows.Nodup) (h : IsHull ps rows o us) (e : us.length = rows.length) : Suit (ps, rows) o := by
  have sub : ∀ r ∈ rows, r ∈ us := fun r hr => (h.mem r).mpr (.base hr)
  have back : ∀ r ∈ us, r ∈ rows := fun r hr => by
    by_cases z : r ∈ rows
    · exact z
    · have := nodup_len (xs := r :: rows) (U := us) (List.nodup_cons.mpr ⟨z, nd⟩) fun y hy => by
        rcases List.mem_cons.mp hy with rfl | hy
        · exact hr
        · exact sub y hy
      rw [List.length_cons] at this
      omega
  exact fun a ha b hb r hr => back r (hull_suit h a (sub a ha) b (sub b hb) r hr)
theorem sum_zero : ∀ {xs : List Int}, (∀ x ∈ xs, 0 ≤ x) → (0 ≤ xs.sum ∧ (xs.sum = 0 ↔ ∀ x ∈ xs, x = 0))
  | [], _ => by simp
  | x :: xs, h => by
    obtain ⟨h1, h2⟩ := sum_zero fun y hy => h y (List.mem_cons_of_mem _ hy)
    have h0 := h x List.mem_cons_self
    rw [List.sum_cons]
    refine ⟨by omega, ⟨fun e y hy => ?_, fun e => ?_⟩⟩
    · rcases List.mem_cons.mp hy with rfl | hy
      · omega
      · exact h2.mp (by omega) y hy
    · have a := e x List.mem_cons_self
      have b := h2.mpr fun y hy => e y (List.mem_cons_of_mem _ hy)
      omega
section
variable {cs : List Int} {cks : List (List Int × List (List Int))} {o : List (List Int)}
theorem CkU.hull (cok : ColsOk cs) (ok : OrdOk o) {c : List Int × List (List Int)} (h : CkU cs c) : IsHull c.1 c.2 o (hullF c.1 c.2 o) := hullF_is (h.univ cok) ok h.sub
theorem added_nn (cok : ColsOk cs) (hks : ∀ c ∈ cks, CkU cs c) (ok : OrdOk o) : 0 ≤ addedF cks o ∧ (addedF cks o = 0 ↔ ∀ c ∈ cks, Suit c o) := by
  have h : ∀ x ∈ cks.map fun c => ((hullF c.1 c.2 o).length : Int) - (c.2.length : Int), 0 ≤ x := fun x hx => by
    obtain ⟨c, hc, rfl⟩ := List.mem_map.mp hx
    have := hull_ge (hks c hc).nd ((hks c hc).hull cok ok)
    omega
  obtain ⟨h1, h2⟩ := sum_zero h
  refine ⟨h1, h2.trans ⟨fun e c hc => ?_, fun e x hx => ?_⟩⟩
  · have q := e _ (List.mem_map.mpr ⟨c, hc, rfl⟩)
    exact same_suit (hks c hc).nd ((hks c hc).hull cok ok) (by omega)
  · obtain ⟨c, hc, rfl⟩ := List.mem_map.mp hx
    have a := hull_ge (hks c hc).nd ((hks c hc).hull cok ok)
    have b := suit_hull (e c hc) ((hks c hc).hull cok ok)
    omega
theorem added_le (cok : ColsOk cs) (hks : ∀ c ∈ cks, CkU cs c) (ok : OrdOk o) : addedF cks o ≤ 8 * cks.length := by
  have key : ∀ (l : List (List Int × List (List Int))), (∀ c ∈ l, CkU cs c) → addedF l o ≤ 8 * l.length := fun l => by
    induction l with
    | nil => intro _; simp [addedF]
    | cons c l ih =>
      intro h
      have h1 := ih fun d hd => h d (List.mem_cons_of_mem _ hd)
      have hc := h c List.mem_cons_self
      have h2 := (hc.hull cok ok).len (hc.univ cok) hc.sub
      unfold addedF at h1 ⊢
      rw [List.map_cons, List.sum_cons, List.length_cons]
      omega
  exact key cks hks
end
/-! ### orders of all kinds -/
theorem leaves_mem {ks : List (List Int)} (nd : ks.Nodup) : ∀ (t w : List (List Int)), (w ++ t).Perm ks → w ++ t ∈ leavesN ks t.length w
  | [], w, _ => by
    rw [List.append_nil]
    exact List.mem_singleton.mpr rfl
  | k :: t, w, p => by
    have nd' := p.nodup_iff.mpr nd
    have hk : k ∈ ks := p.mem_iff.mp (by simp)
    have hn : k ∉ w := fun z => (List.nodup_append.mp nd').2.2 k z k List.mem_cons_self rfl
    show _ ∈ (ks.filter fun k => !decide (k ∈ w)).flatMap fun k => leavesN ks t.length (w ++ [k])
    refine List.mem_flatMap.mpr ⟨k, List.mem_filter.mpr ⟨hk, by simpa using hn⟩, ?_⟩
    have ih := leaves_mem nd t (w ++ [k]) (by rw [List.append_assoc]; exact p)
    rwa [List.append_assoc] at ih
theorem orders_mem {ks o : List (List Int)} (nd : ks.Nodup) (p : o.Perm ks) : o ∈ orders ks := by
  rw [orders_leaves]
  have := leaves_mem nd o [] p
  rwa [p.length_eq] at this
theorem leaves_ne {ks : List (List Int)} (nd : ks.Nodup) : orders ks ≠ [] := fun z => by
  have h := orders_mem nd (List.Perm.refl ks)
  rw [z] at h
  cases h
/-! ### layers by greed -/
section
variable {cs : List (List Int × List (List Int))}
open Classical in
theorem lay_mem {left : List (List Int)} {k : List Int} : k ∈ gLay cs left ↔ k ∈ left ∧ LetP cs left k := by
  unfold gLay
  rw [List.mem_filter, decide_eq_true_iff]
open Classical in
theorem rest_mem {left : List (List Int)} {k : List Int} : k ∈ gRest cs left ↔ k ∈ left ∧ k ∉ gLay cs left := by
  unfold gRest
  rw [List.mem_filter]
  simp
theorem LetP.mono {left left' : List (List Int)} {k : List Int} (h : LetP cs left k) (s : ∀ u ∈ left', u ∈ left) : LetP cs left' k := fun c hc => (h c hc).mono s
open Classical in
theorem lay_rest_perm (left : List (List Int)) : (gLay cs left ++ gRest cs left).Perm left := by
  have e : gRest cs left = left.filter fun k => !(decide (LetP cs left k)) := by
    unfold gRest
    refine List.filter_congr fun k hk => ?_
    have : k ∈ gLay cs left ↔ LetP cs left k := lay_mem.trans ⟨fun h => h.2, fun h => ⟨hk, h⟩⟩
    simp [this]
  rw [e]
  unfold gLay
  exact List.filter_append_perm _ _
theorem rest_len (left : List (List Int)) : (gRest cs left).length + (gLay cs left).length = left.length := by
  have := (lay_rest_perm (cs := cs) left).length_eq
  rw [List.length_append] at this
  omega
/-- the layers one behind another -/
noncomputable def flatL (cs : List (List Int × List (List Int))) : Nat → List (List Int) → List (List Int)
  | 0, _ => []
  | m + 1, left => gLay cs left ++ flatL cs m (gRest cs left)
noncomputable def itR (cs : List (List Int × List (List Int))) : Nat → List (List Int) → List (List Int)
  | 0, left => left
  | m + 1, left => itR cs m (gRest cs left)
theorem itR_gN (ks : List (List Int)) : ∀ (m i : Nat), itR cs m (gN cs ks i) = gN cs ks (i + m)
  | 0, i => rfl
  | m + 1, i => by
    show itR cs m (gN cs ks (i + 1)) = _
    rw [itR_gN ks m (i + 1), show i + 1 + m = i + (m + 1) by omega]
theorem flat_perm : ∀ (m : Nat) (left : List (List Int)), itR cs m left = [] → (flatL cs m left).Perm left
  | 0, left, h => by
    have h' : left = [] := h
    rw [h']
    exact List.Perm.refl _
  | m + 1, left, h => ((flat_perm m (gRest cs left) h).append_left _).trans (lay_rest_perm left)
theorem app_mid {α : Type} {a b pre post : List α} {k : α} (h : a ++ b = pre ++ k :: post) : (∃ t, a = pre ++ k :: t ∧ post = t ++ b) ∨ ∃ q, b = q ++ k :: post := by
  rcases List.append_eq_append_iff.mp h with ⟨q, e1, e2⟩ | ⟨q, e1, e2⟩
  · exact .inr ⟨q, e2⟩
  · cases q with
    | nil =>
      rw [List.nil_append] at e2
      exact .inr ⟨[], e2.symm⟩
    | cons z t =>
      rw [List.cons_append] at e2
      obtain ⟨e3, e4⟩ := List.cons.inj e2
      subst e3
      exact .inl ⟨t, e1, e4⟩
theorem flat_rk : ∀ (m : Nat) (left : List (List Int)), itR cs m left = [] → ∀ pre k post, flatL cs m left = pre ++ k :: post → LetP cs (k :: post) k
  | 0, left, _, pre, k, post, e => by
    have e' : ([] : List (List Int)) = pre ++ k :: post := e
    simp at e'
  | m + 1, left, h, pre, k, post, e => by
    rcases app_mid (show gLay cs left ++ flatL cs m (gRest cs left) = pre ++ k :: post from e) with ⟨t, e1, e2⟩ | ⟨q, e1⟩
    · have hk : k ∈ gLay cs left := by rw [e1]; simp
      refine (lay_mem.mp hk).2.mono fun u hu => ?_
      have pm := flat_perm (cs := cs) (m + 1) left h
      refine pm.mem_iff.mp ?_
      rw [e]
      exact List.mem_append_right _ hu
    · exact flat_rk m (gRest cs left) h q k post e1
theorem gN_sub (ks : List (List Int)) : ∀ i, ∀ k ∈ gN cs ks i, k ∈ ks
  | 0, _, h => h
  | i + 1, k, h => gN_sub ks i k (rest_mem.mp h).1
/-- an order in which each can go first empties the layers -/
theorem layers_end {ks o : List (List Int)} (pm : o.Perm ks) (rk : ∀ pre k post, o = pre ++ k :: post → LetP cs (k :: post) k) : gN cs ks ks.length = [] := by
  have step : ∀ i, gN cs ks i ≠ [] → gLay cs (gN cs ks i) ≠ [] := fun i hne => by
    obtain ⟨x, hx⟩ := List.exists_mem_of_ne_nil _ hne
    have first : ∀ (l : List (List Int)), x ∈ l → ∃ pre k post, l = pre ++ k :: post ∧ k ∈ gN cs ks i ∧ ∀ u ∈ pre, u ∉ gN cs ks i := fun l => by
      induction l with
      | nil => intro h; cases h
      | cons a l ih =>
        intro h
        by_cases z : a ∈ gN cs ks i
        · exact ⟨[], a, l, rfl, z, fun u hu => by cases hu⟩
        · rcases List.mem_cons.mp h with e | h
          · rw [e] at hx
            exact absurd hx z
          · obtain ⟨pre, k, post, e, hk, hp⟩ := ih h
            refine ⟨a :: pre, k, post, by rw [e]; rfl, hk, fun u hu => ?_⟩
            rcases List.mem_cons.mp hu with q | q
            · rw [q]; exact z
            · exact hp u q
    obtain ⟨pre, k, post, e, hk, hp⟩ := first o (pm.mem_iff.mpr (gN_sub ks i x hx))
    have hl : LetP cs (gN cs ks i) k := (rk pre k post e).mono fun u hu => by
      have hu' := pm.mem_iff.mpr (gN_sub ks i u hu)
      rw [e] at hu'
      rcases List.mem_append.mp hu' with q | q
      · exact absurd hu (hp u q)
      · exact q
    intro z
    have := lay_mem.mpr ⟨hk, hl⟩
    rw [z] at this
    cases this
  have len : ∀ i, (gN cs ks i).length + i ≤ ks.length ∨ gN cs ks i = [] := fun i => by
    induction i with
    | zero => exact .inl (Nat.le_refl _)
    | succ i ih =>
      by_cases hz : gN cs ks i = []
      · refine .inr ?_
        show gRest cs (gN cs ks i) = []
        rw [hz]
        exact List.eq_nil_iff_forall_not_mem.mpr fun k hk => by
          have := (rest_mem.mp hk).1
          cases this
      · rcases ih with ih | ih
        · have h1 := step i hz
          have h2 := rest_len (cs := cs) (gN cs ks i)
          have h3 := List.length_pos_iff.mpr h1
          refine .inl ?_
          show (gRest cs (gN cs ks i)).length + (i + 1) ≤ _
          omega
        · exact absurd ih hz
  rcases len ks.length with h | h
  · exact List.eq_nil_of_length_eq_zero (by omega)
  · exact h
end
/-- none are added by some order just if the layers leave nothing -/
theorem zero_layers {cs : List Int} {cks : List (List Int × List (List Int))} (cok : ColsOk cs) (hks : ∀ c ∈ cks, CkU cs c)
    (un : ∀ c ∈ cks, ∀ a ∈ c.2, ∀ b ∈ c.2, ∀ u ∈ unlikeP c.1 a b, u ∈ kinds cs) : (∃ o ∈ orders (kinds cs), addedF cks o = 0) ↔ gN cks (kinds cs) (kinds cs).length = [] := by
  have okO : ∀ {o : List (List Int)}, o.Perm (kinds cs) → OrdOk o := fun p => ⟨p.nodup_iff.mpr (kinds_nodup cs), fun k hk => kinds_ok (p.mem_iff.mp hk)⟩
  constructor
  · rintro ⟨o, ho, e⟩
    have pm := orders_perm (kinds_nodup cs) ho
    have s := (added_nn cok hks (okO pm)).2.mp e
    exact layers_end pm fun pre k post e c hc => suit_rk ((hks c hc).ck cok).el (okO pm) (s c hc) pre k post e
  · intro h
    have hz : itR cks (kinds cs).length (kinds cs) = [] := by
      have := itR_gN (cs := cks) (kinds cs) (kinds cs).length 0
      rw [Nat.zero_add, h] at this
      exact this
    have pm := flat_perm _ _ hz
    refine ⟨_, orders_mem (kinds_nodup cs) pm, (added_nn cok hks (okO pm)).2.mpr fun c hc => ?_⟩
    exact rk_suit ((hks c hc).ck cok).el (okO pm) (fun pre k post e => flat_rk _ _ hz pre k post e c hc) fun a ha b hb u hu => pm.mem_iff.mpr (un c hc a ha b hb u hu)
end Mk
namespace Mk
open PySem PySem.Spec PyProof.Rows L2
/-! ### what the law asks, of a book -/
theorem unlike_kinds {cs : List Int} {c : List Int × List (List Int)} (cok : ColsOk cs) (h : CkU cs c) : ∀ a ∈ c.2, ∀ b ∈ c.2, ∀ u ∈ unlikeP c.1 a b, u ∈ kinds cs := fun a ha b hb u hu => by
  obtain ⟨a1, a2⟩ := allRows_mem.mp (h.sub a ha)
  obtain ⟨b1, b2⟩ := allRows_mem.mp (h.sub b hb)
  obtain ⟨i, hi, hd⟩ := (unlike_mem a1 b1).mp hu
  obtain ⟨⟨i0, i1⟩, e⟩ := placesOf_mem.mp hi
  have l : i.toNat < c.1.length := by omega
  have pin := h.pin _ (List.getElem_mem l)
  have g := getD_eq l
  have x1 := a2 i.toNat l
  have x2 := b2 i.toNat l
  rw [← g] at pin
  have lc : (c.1.getD i.toNat 0).toNat < cs.length := by omega
  refine kinds_mem.mpr ⟨(c.1.getD i.toNat 0).toNat, cs.getD (c.1.getD i.toNat 0).toNat 0, a.getD i.toNat 0, b.getD i.toNat 0, by rw [getD_eq (xs := cs) lc]; exact List.getElem?_eq_getElem lc, ?_, x1, x2, hd⟩
  rw [← e]
  have : (((c.1.getD i.toNat 0).toNat : Nat) : Int) = c.1.getD i.toNat 0 := by omega
  rw [this]
theorem ord_okO {cs : List Int} {o : List (List Int)} (p : o.Perm (kinds cs)) : OrdOk o := ⟨p.nodup_iff.mpr (kinds_nodup cs), fun k hk => kinds_ok (p.mem_iff.mp hk)⟩
theorem hull_ranked {cs : List Int} {cks : List (List Int × List (List Int))} {o : List (List Int)} (cok : ColsOk cs) (hks : ∀ c ∈ cks, CkU cs c) (ok : OrdOk o) : Ranked (cks.map (hullC o)) o := fun i k hk c hc z hz => by
  obtain ⟨c0, h0, rfl⟩ := List.mem_map.mp hc
  have hh := (hks c0 h0).hull cok ok
  have cu := hullC_ok cok ok (hks c0 h0)
  have s : Suit (hullC o c0) o := hull_suit hh
  have hi : i < o.length := (List.getElem?_eq_some_iff.mp hk).1
  have ek : o[i] = k := (List.getElem?_eq_some_iff.mp hk).2
  have ed : o.drop i = k :: o.drop (i + 1) := by rw [List.drop_eq_getElem_cons hi, ek]
  have e : o = o.take i ++ k :: o.drop (i + 1) := by rw [← ed, List.take_append_drop]
  have rk := suit_rk (cu.ck cok).el ok s (o.take i) k (o.drop (i + 1)) e
  unfold pairsOf at hz
  obtain ⟨one, h1, hz⟩ := List.mem_flatMap.mp hz
  obtain ⟨other, hz2, rfl⟩ := List.mem_map.mp hz
  obtain ⟨h2, hp⟩ := List.mem_filter.mp hz2
  have hu := (pairOk_iff.mp hp).2
  rw [ed] at hu
  unfold barred
  refine List.filter_eq_nil_iff.mpr fun l hl => ?_
  have hl' := (lotsS_perm _).mem_iff.mp hl
  have := rk one h1 other h2 hu l hl'
  simpa using this
theorem runF_congr {ad ad' : Ord → Int} : ∀ (os : List Ord) (l : Option (Int × Ord)) (n : Nat), (∀ o ∈ os, ad o = ad' o) → runF ad os l n = runF ad' os l n
  | [], _, _, _ => rfl
  | o :: os, l, n, h => by
    have e : updF ad l o = updF ad' l o := by
      unfold updF
      rw [h o List.mem_cons_self]
    unfold runF
    rw [e, runF_congr os _ _ fun p hp => h p (List.mem_cons_of_mem _ hp)]
theorem least_congr {ad ad' : Ord → Int} {L : List Ord} {m : Int × Ord} (h : ∀ o ∈ L, ad o = ad' o) (k : LeastOf ad L m) : LeastOf ad' L m := by
  obtain ⟨k1, k2, k3⟩ := k
  refine ⟨k1, by rw [← h _ k1]; exact k2, fun o ho => ?_⟩
  rw [← h o ho]
  exact k3 o ho
theorem few_least {cs : List Int} {cks : List (List Int × List (List Int))} (cok : ColsOk cs) (hks : ∀ c ∈ cks, CkU cs c) : ∃ m, (fewF cs cks).1 = some m ∧ LeastOf (addedF cks) (orders (kinds cs)) m ∧ (fewF cs cks).2 ≤ (orders (kinds cs)).length := by
  have hc : ∀ o ∈ orders (kinds cs), addedF cks o = max (addedF cks o) 0 := fun o ho => by
    have := (added_nn cok hks (ord_okO (orders_perm (kinds_nodup cs) ho))).1
    omega
  obtain ⟨m, h1, h2⟩ := runF_least (ad := fun o => max (addedF cks o) 0) (fun o => by omega) (orders (kinds cs)) [] none 0 (by rw [List.nil_append]; exact orders_asc (kinds_rise cs)) (fun m h => by cases h) (fun _ => rfl) (by rw [List.nil_append]; exact leaves_ne (kinds_nodup cs))
  refine ⟨m, ?_, ?_, ?_⟩
  · unfold fewF
    rw [runF_congr (ad' := fun o => max (addedF cks o) 0) _ _ _ hc]
    exact h1
  · rw [List.nil_append] at h2
    exact least_congr (fun o ho => (hc o ho).symm) h2
  · have := (runF_ge (addedF cks) (orders (kinds cs)) none 0).2
    unfold fewF
    omega
/-- the least of all pairs, as min finds it -/
theorem min_least {cs : List Int} (ad : Ord → Int) : ∃ (o : Ord) (os : List Ord) (m : Int × Ord), orders (kinds cs) = o :: os ∧ PySem.W.minOf (toO (ad o, o)) (os.map fun p => toO (ad p, p)) = toO m ∧ LeastOf ad (orders (kinds cs)) m := by
  have asc := orders_asc (kinds_rise cs)
  cases e : orders (kinds cs) with
  | nil => exact absurd e (leaves_ne (kinds_nodup cs))
  | cons o os =>
    rw [e] at asc
    obtain ⟨m, h1, h2⟩ := minOf_least (ad := ad) os [o] (ad o, o) asc ⟨by simp, rfl, fun x hx => .inl (by simpa using hx)⟩
    exact ⟨o, os, m, rfl, h1, h2⟩
theorem least_zero {cs : List Int} {cks : List (List Int × List (List Int))} (cok : ColsOk cs) (hks : ∀ c ∈ cks, CkU cs c) {m : Int × Ord} (h : LeastOf (addedF cks) (orders (kinds cs)) m) : m.1 = 0 ↔ gN cks (kinds cs) (kinds cs).length = [] := by
  rw [← zero_layers cok hks fun c hc => unlike_kinds cok (hks c hc)]
  obtain ⟨h1, h2, h3⟩ := h
  constructor
  · intro e
    exact ⟨m.2, h1, by rw [← h2]; exact e⟩
  · rintro ⟨o, ho, e⟩
    have nn := (added_nn cok hks (ord_okO (orders_perm (kinds_nodup cs) h1))).1
    rcases h3 o ho with q | q
    · rw [h2, ← q, e]
    · rcases q with q | ⟨q, _⟩
      · have q' : m.1 < addedF cks o := q
        omega
      · have q' : m.1 = addedF cks o := q
        omega
theorem kind_dims {cs : List Int} (cok : ColsOk cs) : ∀ k ∈ kinds cs, k.length = 3 ∧ ∀ i ∈ k, 0 ≤ i ∧ i < 5 := fun k hk => by
  obtain ⟨i, m, a, b, hm, rfl, ha, hb, _⟩ := kinds_mem.mp hk
  have h3 := cok.l3
  have hi := (List.getElem?_eq_some_iff.mp hm).1
  have hv := cok.v m (List.mem_of_getElem? hm)
  refine ⟨rfl, fun x hx => ?_⟩
  simp only [List.mem_cons, List.not_mem_nil, or_false] at hx
  rcases hx with rfl | rfl | rfl <;> omega
theorem kind_no0 (cs : List Int) : [0, 0, 0] ∉ kinds cs := fun h => by
  obtain ⟨i, m, a, b, _, e, _, _, hne⟩ := kinds_mem.mp h
  simp only [List.cons.injEq, and_true] at e
  exact hne (e.2.1.symm.trans e.2.2)
theorem odd_bad {cs : List Int} (cok : ColsOk cs) : ∀ d ∈ oddL (kinds cs), orderK (kinds cs) d = none := odd_none (kinds_nodup cs) (kind_no0 cs) fun k hk => (kind_dims cok k hk).1
theorem orders_len_le {cs : List Int} (cok : ColsOk cs) : (orders (kinds cs)).length ≤ 256 := by
  have h := ordN_len (kinds cs) (kinds cs).length
  have k := kinds_len cok
  have h2 : (kinds cs).length ^ (kinds cs).length ≤ 4 ^ 4 := Nat.le_trans (Nat.pow_le_pow_left k _) (Nat.pow_le_pow_right (by decide) k)
  unfold orders
  omega
end Mk
namespace Mk
open PySem PySem.Spec PyProof.Rows L2

/-! ### calls with keywords -/
section
variable {X : Cx} {B : Bs} {G : En} {a b e : Expr} {es : List Expr} {kws : List Keyword} {nm : Option Str} {t ta tb : Sl} {ts : List Sl} {p pos kpos q1 q2 : Pos} {x k1 k2 : Str} {k n : Nat} {f : Addr} {fd : FuncData} {ps ks : List Str} {C : Ct}
theorem kw_nil : PK X [] (tAI B G (is [])) := ⟨fun pos pins s σ H Q I ⟨F, g, w, q⟩ => pk_nil.run pos pins s σ H Q I (q [] [] F H rfl g (Same.refl _) w trivial)⟩
theorem kw_cons (ha : EE X B G e (is t)) (hr : PK X kws (tAI B G (is ts))) (him : t.imm = true) : PK X (⟨nm, e, kpos⟩ :: kws) (tAI B G (is (t :: ts))) :=
  ⟨fun pos pins s σ H Q I ⟨F, g, w, q⟩ => (pk_cons ha hr).run pos pins s σ H Q I ⟨F, g, w, fun v u F1 H1 p1 g1 e1 w1 => ⟨F1, g1, w1.pop, fun vs us F2 H2 p2 g2 e2 w2 i2 => by
    rw [show u = t from p1] at w1
    rw [show us = ts from p2] at i2
    exact q (v :: vs) (t :: ts) F2 H2 rfl g2 (e1.trans e2) w2 ⟨Imm.mono e2 (w1.topI him), i2⟩⟩⟩⟩
variable {CX : CXT} {sp : Sp} {E : XK} {Es : L2.St → XK} {tk tp : TA} {g : List Value → List Value → List Value} {gV : List V → List V → List V}
theorem run_fnNS {pins : List (Addr × Obj)} {σ : L2.St} {H : Hp} {s : Shared} {Q : VK} {us ws : List Value} {vs zs : List V} (F : FnOk X.prog X.w X.K X.mg X.base CX k f fd ps sp) (hr : Room k X.A) (hb : KBn X.K fd ps n ks g gV) (hx : PassesAt CX X σ (Es σ))
    (I : Inv X pins σ H s) (r : Vals vs us) (rz : Vals zs ws) (l1 : vs.length = n) (l2 : zs.length = ks.length) (h : sp (gV vs zs) H Q (Es σ)) : wpAny (model X.prog X.w) X.A (call (.ref f) us (ks.zip ws)) (EP X pins σ Q) X.xe s := by
  refine wpAny_call (codeAny_mono (F.run X.A X.stack s H ⟨us, ks.zip ws⟩ (g us ws) (gV vs zs) Q (Es σ) hr I.env0 (hb.to s us ws I.kIn (r.length.symm.trans l1) (rz.length.symm.trans l2)) (hb.rel r rz) h) fun r s' hq => ?_)
  cases r with
  | error e => exact hx pins H s e s' I hq
  | ok fl =>
    cases fl with
    | ret u => exact I.after hq
    | next => exact False.elim hq
    | brk => exact False.elim hq
    | cont => exact False.elim hq
/-- f(k = v, ..) -/
theorem pe_callN0 (F : FnOk X.prog X.w X.K X.mg X.base CX k f fd ps sp) (hr : Room k X.A) (hg : Gl X x) (hm : X.mg x = some (.ref f)) (hk : PySem.W.keepIn X.K (.ref f) = true) (hb : KBn X.K fd ps 0 ks g gV) (hx : ∀ σ, PassesAt CX X σ (Es σ)) (hkw : PK X kws tk)
    (hall : (backToKw pos (keywordEach kws X.env)).all (·.1.isSome) = true := by rfl) (hks : (backToKw pos (keywordEach kws X.env)).filterMap (·.1) = ks := by rfl) (hdb : (x == ("__debug__" : Str)) = false := by decide)
    (hpl : ((backTo pos (starEach [] X.env)).any (·.1) || (backToKw pos (keywordEach kws X.env)).any (·.1.isNone)) = false := by rfl) :
    PE X (.Call (.Name x p) [] kws pos) (fun σ H Q => tk σ H fun zs H2 => zs.length = ks.length ∧ sp (gV [] zs) H2 Q (Es σ)) := by
  refine ⟨fun pins s σ H Q I h => ?_⟩
  refine wpAny_Call_Name_kw (ld_glob I hg hm ?_ hdb)
  refine PySem.W.callWith_KW0 (h₀ := X.base) I.ok.mod.kin hk hall (thn (hkw.run pos pins s σ H _ I h) fun ws s2 ⟨zs, H2, I2, rz, l2, q2⟩ => ⟨I2.kIn, ?_⟩) hpl
  rw [hks]
  exact run_fnNS (us := []) (vs := []) F hr hb (hx σ) I2 .nil rz rfl l2 q2
/-- f(e, .., k = v, ..) -/
theorem pe_callNS (F : FnOk X.prog X.w X.K X.mg X.base CX k f fd ps sp) (hr : Room k X.A) (hg : Gl X x) (hm : X.mg x = some (.ref f)) (hk : PySem.W.keepIn X.K (.ref f) = true) (hb : KBn X.K fd ps n ks g gV) (hx : ∀ σ, PassesAt CX X σ (Es σ)) (ha : PA X (e :: es) tp) (hkw : PK X kws tk)
    (hall : (backToKw pos (keywordEach kws X.env)).all (·.1.isSome) = true := by rfl) (hks : (backToKw pos (keywordEach kws X.env)).filterMap (·.1) = ks := by rfl) (hdb : (x == ("__debug__" : Str)) = false := by decide) (he : starEach (e :: es) X.env = (false, eval e X.env) :: starEach es X.env := by rfl)
    (hpl : ((backTo pos (starEach (e :: es) X.env)).any (·.1) || (backToKw pos (keywordEach kws X.env)).any (·.1.isNone)) = false := by rfl) :
    PE X (.Call (.Name x p) (e :: es) kws pos) (fun σ H Q => tp σ H fun vs H1 => tk σ H1 fun zs H2 => vs.length = n ∧ zs.length = ks.length ∧ sp (gV vs zs) H2 Q (Es σ)) := by
  refine ⟨fun pins s σ H Q I h => ?_⟩
  refine wpAny_Call_Name_kw (ld_glob I hg hm ?_ hdb)
  refine PySem.W.callWith_KW (h₀ := X.base) I.ok.mod.kin hk hall (thn (ha.run pos pins s σ H _ I h) fun us s1 ⟨vs, H1, I1, r, q⟩ => ?_) hpl he
  refine thn (hkw.run pos pins s1 σ H1 _ I1 q) fun ws s2 ⟨zs, H2, I2, rz, l1, l2, q2⟩ => ⟨I2.kIn, ?_⟩
  rw [hks]
  exact run_fnNS F hr hb (hx σ) I2 r rz l1 l2 q2
theorem pass0At {σ : L2.St} : PassesAt CX0 X σ E0 := fun _ _ _ _ _ _ z => z.elim
/-- f(k1 = a, k2 = b) of def f(k2, k1) -/
theorem e_callK2 (F : FnOk X.prog X.w X.K X.mg X.base CX0 k f fd ps (spP C)) (hr : Room n X.A) (hm : X.mg x = some (.ref f)) (kp : PySem.W.keepIn X.K (.ref f) = true) (hb : KBn X.K fd ps 0 [k1, k2] g (fun _ zs => zs.reverse)) (ha : EE X B G a (is ta)) (hb2 : EE X B G b (is tb)) (i1 : ta.imm = true) (i2 : tb.imm = true) (hC : C [tb, ta] (is t))
    (hk : k ≤ n := by decide) (hg : Gl X x := by rfl) (hdb : (x == ("__debug__" : Str)) = false := by decide) (hall : (backToKw pos (keywordEach [⟨some k1, a, q1⟩, ⟨some k2, b, q2⟩] X.env)).all (·.1.isSome) = true := by rfl) (hks : (backToKw pos (keywordEach [⟨some k1, a, q1⟩, ⟨some k2, b, q2⟩] X.env)).filterMap (·.1) = [k1, k2] := by rfl)
    (hpl : ((backTo pos (starEach [] X.env)).any (·.1) || (backToKw pos (keywordEach [⟨some k1, a, q1⟩, ⟨some k2, b, q2⟩] X.env)).any (·.1.isNone)) = false := by rfl) : EE X B G (.Call (.Name x p) [] [⟨some k1, a, q1⟩, ⟨some k2, b, q2⟩] pos) (is t) :=
  e_of (pe_callN0 (Es := fun _ => E0) F (hr.mono hk) hg hm kp hb (fun σ => pass0At) (kw_cons ha (kw_cons hb2 kw_nil i2) i1) hall hks hdb hpl) fun s F H Q g w q => ⟨F, g, w, fun zs us F1 H1 p1 g1 e1 w1 im => by
    rw [show us = [ta, tb] from p1] at im
    match zs, im with
    | [z1, z2], im =>
      refine ⟨rfl, F1, [tb, ta], is t, hC, g1.h, ⟨im.2.1, im.1, trivial⟩, fun v u F2 H2 pt iu gr iv => ?_⟩
      rw [show u = t from pt] at iv
      exact q v t F2 H2 rfl (g1.grow gr) (e1.trans gr.f) ((w1.grow gr).pushI iv)⟩
/-- f(a, k1 = b) -/
theorem e_callK1 (F : FnOk X.prog X.w X.K X.mg X.base CX0 k f fd ps (spP C)) (hr : Room n X.A) (hm : X.mg x = some (.ref f)) (kp : PySem.W.keepIn X.K (.ref f) = true) (hb : KBn X.K fd ps 1 [k1] g (fun vs zs => vs ++ zs)) (ha : EE X B G a (is ta)) (hb2 : EE X B G b (is tb)) (i1 : ta.imm = true) (i2 : tb.imm = true) (hC : C [ta, tb] (is t))
    (hk : k ≤ n := by decide) (hg : Gl X x := by rfl) (hdb : (x == ("__debug__" : Str)) = false := by decide) (hall : (backToKw pos (keywordEach [⟨some k1, b, q1⟩] X.env)).all (·.1.isSome) = true := by rfl) (hks : (backToKw pos (keywordEach [⟨some k1, b, q1⟩] X.env)).filterMap (·.1) = [k1] := by rfl) (he : starEach [a] X.env = (false, eval a X.env) :: starEach [] X.env := by rfl)
    (hpl : ((backTo pos (starEach [a] X.env)).any (·.1) || (backToKw pos (keywordEach [⟨some k1, b, q1⟩] X.env)).any (·.1.isNone)) = false := by rfl) : EE X B G (.Call (.Name x p) [a] [⟨some k1, b, q1⟩] pos) (is t) :=
  e_of (pe_callNS (Es := fun _ => E0) F (hr.mono hk) hg hm kp hb (fun σ => pass0At) (as_cons ha as_nil i1 he) (kw_cons hb2 kw_nil i2) hall hks hdb he hpl) fun s F H Q g w q => ⟨F, g, w, fun vs us F1 H1 p1 g1 e1 w1 im => by
    rw [show us = [ta] from p1] at im
    match vs, im with
    | [v1], im =>
      refine ⟨F1, g1, w1, fun zs uz F2 H2 p2 g2 e2 w2 im2 => ?_⟩
      rw [show uz = [tb] from p2] at im2
      match zs, im2 with
      | [z1], im2 =>
        refine ⟨rfl, rfl, F2, [ta, tb], is t, hC, g2.h, ⟨Imm.mono e2 im.1, im2.1, trivial⟩, fun v u F3 H3 pt iu gr iv => ?_⟩
        rw [show u = t from pt] at iv
        exact q v t F3 H3 rfl (g2.grow gr) ((e1.trans e2).trans gr.f) ((w2.grow gr).pushI iv)⟩
/-- f(a, k1 = b) that raises -/
theorem e_callK1X {W : WX} {CE : Addr} {fl : Str} {Ck : CtX} {P : Sl → Prop} (F : FnOk X.prog X.w X.K X.mg X.base (L2.CX X.prog X.w) k f fd ps (spX CE fl Ck)) (hr : Room n X.A) (hm : X.mg x = some (.ref f)) (kp : PySem.W.keepIn X.K (.ref f) = true) (hb : KBn X.K fd ps 1 [k1] g (fun vs zs => vs ++ zs)) (tk : Takes X W) (ha : EE X B G a (is ta)) (hb2 : EE X B G b (is tb)) (i1 : ta.imm = true) (i2 : tb.imm = true) (hC : Ck [ta, tb] t) (him : t.imm = true)
    (hW : ∀ s F H dd v, Good B F H → Sat B F H s G → F dd = some (.xd [(fl, v)]) → Imm F v t → W (.ref CE) (some dd) s H)
    (hk : k ≤ n := by decide) (hg : Gl X x := by rfl) (hdb : (x == ("__debug__" : Str)) = false := by decide) (hall : (backToKw pos (keywordEach [⟨some k1, b, q1⟩] X.env)).all (·.1.isSome) = true := by rfl) (hks : (backToKw pos (keywordEach [⟨some k1, b, q1⟩] X.env)).filterMap (·.1) = [k1] := by rfl) (he : starEach [a] X.env = (false, eval a X.env) :: starEach [] X.env := by rfl)
    (hpl : ((backTo pos (starEach [a] X.env)).any (·.1) || (backToKw pos (keywordEach [⟨some k1, b, q1⟩] X.env)).any (·.1.isNone)) = false := by rfl) : EE X B G (.Call (.Name x p) [a] [⟨some k1, b, q1⟩] pos) P :=
  e_of (pe_callNS (Es := WE W) F (hr.mono hk) hg hm kp hb (fun σ => passAt tk σ) (as_cons ha as_nil i1 he) (kw_cons hb2 kw_nil i2) hall hks hdb he hpl) fun s F H Q g w q => ⟨F, g, w, fun vs us F1 H1 p1 g1 e1 w1 im => by
    rw [show us = [ta] from p1] at im
    match vs, im with
    | [v1], im =>
      refine ⟨F1, g1, w1, fun zs uz F2 H2 p2 g2 e2 w2 im2 => ?_⟩
      rw [show uz = [tb] from p2] at im2
      match zs, im2 with
      | [z1], im2 => exact ⟨rfl, rfl, F2, [ta, tb], t, hC, him, g2.h, ⟨Imm.mono e2 im.1, im2.1, trivial⟩, fun dd v F3 H3 gr h1 h2 => hW s F3 H3 dd v (g2.grow gr) (w2.grow gr) h1 h2⟩⟩
end
/-! ### min of pairs (number, order) -/
def rMinO : List V → Hp → VK → Prop := fun xs H Q => ∃ (F : Hp) (a : Addr) (vs : List V) (x : Int × Ord) (rest : List (Int × Ord)), xs = [.ref a] ∧ Same F H ∧ F a = some (.lst vs) ∧ Rps F vs ((x :: rest).map eO) ∧
  ∀ v d, Rp F v d → d = PySem.W.Datum.toD (PySem.W.minOf (toO x) (rest.map toO)) → Q v H
theorem call_minO {X : Cx} (hc : X.calm = true) (hu : X.A.units + 64 < cLine) : CallR X (.builtin "min") rMinO := by
  intro pins s σ H xs us Q I r h
  obtain ⟨F, a, vs, x, rest, rfl, hs, ha, hr, q⟩ := h
  obtain ⟨u, rfl, rv⟩ := vals1 r
  cases rv
  obtain ⟨its, ri, pl, hz⟩ := I.list (xs := vs) (SqL.of (hs _ _ ha))
  obtain ⟨as, rd⟩ := Dp.readsAll I ((x :: rest).map eO) vs its (hr.dp hs) ri
  have e0 : (x :: rest).map eO = ((toO x :: rest.map toO).map PySem.W.Datum.toD) := by
    rw [show toO x :: rest.map toO = (x :: rest).map toO from rfl, List.map_map]
    refine List.map_congr_left fun z _ => (eO_eq z).symm
  have hd : PySem.W.Datum.depth TyO ≤ 60 := by decide
  refine PySem.W.min_list_datum (α := TyO) (x := toO x) (xs := rest.map toO) (I.ok.hd hc) pl.isList ⟨as, by rw [← e0]; simpa using rd⟩ (by omega) fun i v h' tk hi hold hk => ?_
  have hi' : its[i]? = some v := by simpa using hi
  have hl := ri.length
  have il : i < vs.length := by
    have := (List.getElem?_eq_some_iff.mp hi').1
    omega
  obtain ⟨u', hu', ru⟩ := ri.get (List.getElem?_eq_getElem il)
  rw [hi'] at hu'
  cases hu'
  obtain ⟨d, hd1, rd1⟩ := hr.get (List.getElem?_eq_getElem il)
  have J := I.kept (t' := tk) hk
  obtain ⟨cs, rc⟩ := Dp.reads J d _ v (rd1.dp hs) ru
  obtain ⟨bs, rb⟩ := hold
  exact ⟨_, H, J, ru, q _ d rd1 (PySem.Reads.unique rc _ _ rb).1⟩
section
variable {X : Cx} {B : Bs} {G : En} {a b e : Expr} {p pos : Pos} {x m : Int × Ord} {rest : List (Int × Ord)}
theorem e_minO (hu : X.A.units + 64 < cLine) (hm : X.mg "min" = none) (ha : EV X B G a (.list ((x :: rest).map eO))) (e : PySem.W.minOf (toO x) (rest.map toO) = toO m) (hc : X.calm = true := by rfl) (hg : Gl X "min" := by rfl) (he : starEach (a :: []) X.env = (false, eval a X.env) :: starEach [] X.env := by rfl) (hpl : (backTo pos (starEach [] X.env)).any (·.1) = false := by rfl) : EV X B G (.Call (.Name "min" p) [a] [] pos) (eO m) :=
  e_of (pe_callB (call_minO hc hu) hg hm (by decide +kernel) (vs_cons ha vs_nil he) (by decide) (by decide) he hpl) fun s F H Q g w q => ⟨F, g, w, fun vs ts F1 H1 p1 g1 e1 w1 i1 => by
    rw [show ts = [PyData.list ((x :: rest).map eO)].map Sl.dat from p1] at i1
    obtain ⟨v, rfl, h⟩ := rps1 i1.rps
    cases h with
    | lst h1 r1 =>
      refine ⟨F1, _, _, x, rest, rfl, g1.h, h1, r1, fun v d rd ed => ?_⟩
      rw [e, eO_eq] at ed
      rw [ed] at rd
      exact q v _ F1 H1 rfl g1 e1 (w1.pushD rd)⟩
/-- is not True, != of truth values -/
theorem t_isNot {i j : Bool} (ha : EV X B G a (.bool i)) (hb : EV X B G b (.bool j)) (hm : behindInMarks .IsNot b = false := by rfl) : ET X B G (.Compare a [.IsNot] [b] pos) (is (!decide (i = j))) :=
  t_cmp (r := rNotB) (fun F H x y Q hs r1 r2 q => by
    cases r1
    cases r2
    exact ⟨i, j, rfl, rfl, q _ F H (.refl hs) (.bl _)⟩) op_notBl hm ha hb
theorem t_neB {i j : Bool} (ha : EV X B G a (.bool i)) (hb : EV X B G b (.bool j)) : ET X B G (.Compare a [.NotEq] [b] pos) (is (!(i == j))) :=
  t_cmp (r := rNe) (fun F H x y Q hs r1 r2 q => by
    cases r1
    cases r2
    refine ⟨rfl, ?_⟩
    rw [dec_bl]
    exact q _ F H (.refl hs) (.bl _)) op_ne (nomark _) ha hb
end
end Mk
namespace Mk
open PySem PySem.Spec PyProof.Rows L2

/-! ### blocks one behind another -/
theorem wp_execs_app {M : Model} {Γ : PySem.Ctx} {env : Env} {Qp : Flow → Pos → Shared → Prop} {Ep : Value → Pos → Shared → Prop} {b : List Stmt} : ∀ {a : List Stmt} {p : Pos} {s : Shared},
    Sem.wp M Γ (execs a env) (fun f p' s' => match f with | .next => Sem.wp M Γ (execs b env) Qp Ep p' s' | f => Qp f p' s') Ep p s → Sem.wp M Γ (execs (a ++ b) env) Qp Ep p s
  | [], p, s, h => h
  | st :: a, p, s, h => by
    rw [execs_cons, Sem.wp_bind'] at h
    rw [List.cons_append, execs_cons, Sem.wp_bind']
    refine Sem.wp_mono M Γ _ (fun f p' s' h' => ?_) (fun _ _ _ h' => h') _ _ h
    cases f with
    | next => exact wp_execs_app h'
    | ret v => exact h'
    | brk => exact h'
    | cont => exact h'
theorem pss_app {X : Cx} {a b : List Stmt} {t u : TS} (h1 : PSs X a t) (h2 : PSs X b u) : PSs X (a ++ b) (fun D s H => t { D with nx := fun s' H' => u D s' H' } s H) := ⟨fun pins s σ H D I h => by
  have k := h1.run pins s σ H _ I h
  intro Γ p hΓ
  refine wp_execs_app (Sem.wp_mono _ Γ _ (fun f p' s' q => ?_) (fun _ _ _ q => q) _ _ (k Γ p hΓ))
  cases f with
  | next =>
    obtain ⟨σ', H', I', q'⟩ := q
    exact h2.run pins s' σ' H' D I' q' Γ p' hΓ
  | ret v => exact q
  | brk => exact q
  | cont => exact q⟩
/-! ### the tables of code objects, beside the places -/
/-- a table of code objects, or a code object -/
def isTb : HO → Bool
  | .tbl _ => true
  | .ext _ => true
  | _ => false
def tabM (F H : Hp) : Hp := fun a => match F a with
  | some _ => none
  | none => match H a with
    | some o => if isTb o = true then some o else none
    | none => none
theorem tabM_some {F H : Hp} {a : Addr} {o : HO} : tabM F H a = some o ↔ F a = none ∧ H a = some o ∧ isTb o = true := by
  unfold tabM
  cases hF : F a with
  | some u => simp
  | none =>
    cases hH : H a with
    | none => simp
    | some u =>
      by_cases z : isTb u = true
      · simp [z]
        intro e
        rw [← e]
        exact z
      · simp [z]
        intro e
        rw [← e]
        simpa using z
theorem tabs_via {T : List (Addr × Str)} {H H' : Hp} (t : LamX.Tabs T H) (e : ∀ b o, H b = some o → isTb o = true → H' b = some o) : LamX.Tabs T H' := fun p hp => by
  obtain ⟨ps, h1, h2, h3⟩ := t p hp
  refine ⟨ps, e _ _ h1 rfl, h2, fun pos cv hc => ?_⟩
  obtain ⟨c, e1, e2⟩ := h3 pos cv hc
  exact ⟨c, e1, e _ _ e2 rfl⟩
theorem SlOk.reM {B B' : Bs} {F H : Hp} {o : Option V} {a : Addr} {t : Sl} (h : SlOk B F H o a t) (k : ∀ u, H a = some u → isTb u = false → B'.M a = none) : SlOk B' F H o a t := by
  cases t with
  | any => trivial
  | adr p => exact h
  | dat d => exact h
  | bk C c k => exact h
  | own ds =>
    obtain ⟨h1, h2, _, vs, h4, h5⟩ := h
    exact ⟨h1, h2, k _ h4 rfl, vs, h4, h5⟩
  | dic ks =>
    obtain ⟨h1, h2, _, vs, h4, h5⟩ := h
    exact ⟨h1, h2, k _ h4 rfl, vs, h4, h5⟩
  | box p =>
    obtain ⟨h1, rfl, h2, _, x, y, h4, h5⟩ := h
    exact ⟨h1, rfl, h2, k _ h4 rfl, x, y, h4, h5⟩
  | ob C p fs =>
    obtain ⟨h1, rfl, h2, _, x, y, h4, h5⟩ := h
    exact ⟨h1, rfl, h2, k _ h4 rfl, x, y, h4, h5⟩
theorem Sat.reM {B B' : Bs} {F H : Hp} {s : L2.St} {G : En} (w : Sat B F H s G) (k : ∀ a u, H a = some u → isTb u = false → B'.M a = none) : Sat B' F H s G := by
  obtain ⟨ad, w0⟩ := w
  exact ⟨ad, w0.len, fun i t e => (w0.ok i t e).reM (k _), w0.inj⟩
/-- what is frozen, the tables kept -/
abbrev bT (F H : Hp) : Bs := ⟨F, tabM F H⟩
abbrev b0 (F0 : Hp) : Bs := ⟨F0, fun _ => none⟩
theorem good_T {B : Bs} {F H : Hp} (g : Good B F H) : Good (bT F H) F H := ⟨Same.refl _, g.h, fun a o e => (tabM_some.mp e).2.1, fun a o e n => by
  have n' : F a = none := n
  rw [n'] at e
  cases e⟩
theorem sat_T {B : Bs} {F H : Hp} {s : L2.St} {G : En} (w : Sat B F H s G) : Sat (bT F H) F H s G := w.reM fun a u e z => by
  cases q : tabM F H a with
  | none => exact q
  | some o =>
    obtain ⟨_, h2, h3⟩ := tabM_some.mp q
    rw [e] at h2
    cases h2
    rw [z] at h3
    cases h3
theorem good_0 {F0 : Hp} {B : Bs} {F H : Hp} (e : Same F0 B.F) (g : Good B F H) : Good (b0 F0) F H := ⟨e.trans g.f, g.h, fun a o z => (by cases z), fun a o _ _ => .inl rfl⟩
theorem sat_0 {F0 : Hp} {B : Bs} {F H : Hp} {s : L2.St} {G : En} (w : Sat B F H s G) : Sat (b0 F0) F H s G := w.reM fun _ _ _ _ => rfl
theorem tabs_T {T : List (Addr × Str)} {F H F' H' : Hp} (hs : Same F H) (t : LamX.Tabs T H) (g : Good (bT F H) F' H') : LamX.Tabs T H' := tabs_via t fun b o e z => by
  cases q : F b with
  | some u =>
    have := hs _ _ q
    rw [e] at this
    cases this
    exact g.h _ _ (g.f _ _ q)
  | none => exact g.m _ _ (tabM_some.mpr ⟨q, e, z⟩)
/-- a block's word with the tables -/
def tL (F0 : Hp) (T : List (Addr × Str)) (G : En) (p : Po) : TS := fun D s H => ∃ F, Good (b0 F0) F H ∧ Sat (b0 F0) F H s G ∧ LamX.Tabs T H ∧
  (∀ G' s' F' H', p.nx G' → Good (b0 F0) F' H' → Sat (b0 F0) F' H' s' G' → LamX.Tabs T H' → D.nx s' H') ∧
  (∀ v t G' s' F' H', p.rt t G' → Good (b0 F0) F' H' → Sat (b0 F0) F' H' (some v :: s') (t :: G') → D.rt v H')
def tEL (F0 : Hp) (T : List (Addr × Str)) (G : En) (P : Sl → Prop) : TE := fun s H Q => ∃ F, Good (b0 F0) F H ∧ Sat (b0 F0) F H s G ∧ LamX.Tabs T H ∧
  ∀ v t F' H', P t → Good (b0 F0) F' H' → Sat (b0 F0) F' H' (some v :: s) (t :: G) → LamX.Tabs T H' → Q v H'
def tTL (F0 : Hp) (T : List (Addr × Str)) (G : En) (P : Bool → Prop) : TT := fun s H Q => ∃ F, Good (b0 F0) F H ∧ Sat (b0 F0) F H s G ∧ LamX.Tabs T H ∧
  ∀ b F' H', P b → Good (b0 F0) F' H' → Sat (b0 F0) F' H' s G → LamX.Tabs T H' → Q b H'
section
variable {X : Cx} {F0 : Hp} {T : List (Addr × Str)} {G : En} {e a b c : Expr} {st : Stmt} {body rest sts : List Stmt} {p : Po} {P : Sl → Prop} {pos : Pos}
theorem l_of (h : ∀ B, Same F0 B.F → SS X B G sts { nx := p.nx, rt := p.rt }) : PSs X sts (tL F0 T G p) := by
  have h1 : PSs X sts (fun D s H => ∃ B, Same F0 B.F ∧ tS B G { nx := p.nx, rt := p.rt } D s H) := ⟨fun pins s σ H D I ⟨B, e, q⟩ => (h B e).run pins s σ H D I q⟩
  refine PSs.weak h1 fun D s H ⟨F, g, w, t, q1, q2⟩ => ⟨bT F H, g.f, F, good_T g, sat_T w, fun G' s' F' H' m g' e' w' => ?_, fun v u G' s' F' H' m g' e' w' => ?_, fun _ _ _ _ z => z.elim, fun _ _ _ _ z => z.elim⟩
  · exact q1 G' s' F' H' m (good_0 g.f g') (sat_0 w') (tabs_T g.h t g')
  · exact q2 v u G' s' F' H' m (good_0 g.f g') (sat_0 w')
theorem l1_of (h : ∀ B, Same F0 B.F → S1 X B G st { nx := p.nx, rt := p.rt }) : PS X st (tL F0 T G p) := by
  have h1 : PS X st (fun D s H => ∃ B, Same F0 B.F ∧ tS B G { nx := p.nx, rt := p.rt } D s H) := ⟨fun pins s σ H D I ⟨B, e, q⟩ => (h B e).run pins s σ H D I q⟩
  refine PS.weak h1 fun D s H ⟨F, g, w, t, q1, q2⟩ => ⟨bT F H, g.f, F, good_T g, sat_T w, fun G' s' F' H' m g' e' w' => ?_, fun v u G' s' F' H' m g' e' w' => ?_, fun _ _ _ _ z => z.elim, fun _ _ _ _ z => z.elim⟩
  · exact q1 G' s' F' H' m (good_0 g.f g') (sat_0 w') (tabs_T g.h t g')
  · exact q2 v u G' s' F' H' m (good_0 g.f g') (sat_0 w')
theorem l_cons {Mid : En → Prop} (h1 : PS X st (tL F0 T G { nx := Mid, rt := p.rt })) (h2 : ∀ G', Mid G' → PSs X rest (tL F0 T G' p)) : PSs X (st :: rest) (tL F0 T G p) := by
  have hf : PSs X rest (fun D s H => ∃ G', Mid G' ∧ tL F0 T G' p D s H) := ⟨fun pins s σ H D I ⟨G', m, q⟩ => (h2 G' m).run pins s σ H D I q⟩
  exact PSs.weak (pss_cons h1 hf) fun D s H ⟨F, g, w, t, q1, q2⟩ => ⟨F, g, w, t, fun G' s' F' H' m g' w' t' => ⟨G', m, F', g', w', t', q1, q2⟩, q2⟩
theorem l_one (h : PS X st (tL F0 T G p)) : PSs X [st] (tL F0 T G p) := PSs.weak (pss_one h) fun _ _ _ q => q
theorem l_if {k : Bool} (hc : PT X c (tTL F0 T G (is k))) (ha : k = true → PSs X body (tL F0 T G p)) (hb : k = false → PSs X rest (tL F0 T G p)) : PS X (.If c body rest pos) (tL F0 T G p) := by
  have h1 : PSs X body (fun D s H => k = true ∧ tL F0 T G p D s H) := ⟨fun pins s σ H D I ⟨a, q⟩ => (ha a).run pins s σ H D I q⟩
  have h2 : PSs X rest (fun D s H => k = false ∧ tL F0 T G p D s H) := ⟨fun pins s σ H D I ⟨a, q⟩ => (hb a).run pins s σ H D I q⟩
  refine PS.weak (ps_if hc h1 h2) fun D s H ⟨F, g, w, t, q1, q2⟩ => ⟨F, g, w, t, fun x F' H' px g' w' t' => ?_⟩
  have px' : x = k := px
  cases x with
  | true => exact iteT ⟨px'.symm, F', g', w', t', q1, q2⟩
  | false => exact iteF ⟨px'.symm, F', g', w', t', q1, q2⟩
theorem l_app {Mid : En → Prop} (h1 : PSs X sts (tL F0 T G { nx := Mid, rt := p.rt })) (h2 : ∀ G', Mid G' → PSs X rest (tL F0 T G' p)) : PSs X (sts ++ rest) (tL F0 T G p) := by
  have hf : PSs X rest (fun D s H => ∃ G', Mid G' ∧ tL F0 T G' p D s H) := ⟨fun pins s σ H D I ⟨G', m, q⟩ => (h2 G' m).run pins s σ H D I q⟩
  exact PSs.weak (pss_app h1 hf) fun D s H ⟨F, g, w, t, q1, q2⟩ => ⟨F, g, w, t, fun G' s' F' H' m g' w' t' => ⟨G', m, F', g', w', t', q1, q2⟩, q2⟩
theorem l_nil (h : p.nx G) : PSs X [] (tL F0 T G p) := PSs.weak pss_nil fun D s H ⟨F, g, w, t, q1, _⟩ => q1 G s F H h g w t
/-- a != b, the tables kept -/
theorem tl_neSame {d : PyData} (hu : X.A.units + 64 < cLine) (ha : PE X a (tEL F0 T G (is (.dat d)))) (hb : ∀ B, EV X B G b d) (h1 : d.canLay0 = true) (h2 : d.depth ≤ 64) : PT X (.Compare a [.NotEq] [b] pos) (tTL F0 T G (is false)) := by
  have hb' : PE X b (fun s H Q => ∃ B, tE B G (is (.dat d)) s H Q) := ⟨fun pins s σ H Q I ⟨B, q⟩ => (hb B).run pins s σ H Q I q⟩
  refine PT.weak (pt_cmpR (op_neD hu) ha hb' (nomark _)) fun s H Q ⟨F, g, w, t, q⟩ => ⟨F, g, w, t, fun v u F1 H1 p1 g1 w1 t1 => ⟨bT F1 H1, F1, good_T g1, (sat_T w1).pop, fun v2 u2 F2 H2 p2 g2 e2 w2 => ?_⟩⟩
  rw [show u = Sl.dat d from p1] at w1
  rw [show u2 = Sl.dat d from p2] at w2
  refine dNeSame h1 h2 F2 H2 v v2 _ g2.h (Rp.mono e2 (w1.topI rfl)) (w2.topI rfl) fun x F3 H3 gr r3 => ?_
  cases r3
  have g3 := g2.grow gr
  exact ⟨false, rfl, q false F3 H3 rfl (good_0 g1.f g3) (sat_0 (w2.pop.grow gr)) (tabs_T g1.h t1 g3)⟩
end
end Mk
namespace Mk
open PySem PySem.Spec PyProof.Rows L2

/-! ### what is frozen, without tables -/
def noTb (F : Hp) : Hp := fun a => match F a with
  | some o => if isTb o = true then none else some o
  | none => none
theorem noTb_some {F : Hp} {a : Addr} {o : HO} : noTb F a = some o ↔ F a = some o ∧ isTb o = false := by
  unfold noTb
  cases h : F a with
  | none => simp
  | some u =>
    by_cases z : isTb u = true
    · simp [z]
      intro e
      rw [← e]
      exact z
    · simp [z]
      intro e
      rw [← e]
      simpa using z
theorem noTb_same (F : Hp) : Same (noTb F) F := fun b o e => (noTb_some.mp e).1
theorem noTb_none {F : Hp} {a : Addr} (h : F a = none) : noTb F a = none := by
  unfold noTb
  rw [h]
mutual
theorem Rp.noT {F : Hp} : ∀ {v : V} {d : PyData}, Rp F v d → Rp (noTb F) v d
  | _, _, .non => .non
  | _, _, .bl b => .bl b
  | _, _, .int i => .int i
  | _, _, .str x => .str x
  | _, _, .lst h r => .lst (noTb_some.mpr ⟨h, rfl⟩) (Rps.noT r)
  | _, _, .tup h r => .tup (noTb_some.mpr ⟨h, rfl⟩) (Rps.noT r)
theorem Rps.noT {F : Hp} : ∀ {vs : List V} {ds : List PyData}, Rps F vs ds → Rps (noTb F) vs ds
  | _, _, .nil => .nil
  | _, _, .cons h r => .cons (Rp.noT h) (Rps.noT r)
end
theorem SlOk.noT {B : Bs} {F H : Hp} {o : Option V} {a : Addr} {t : Sl} (h : SlOk B F H o a t) : SlOk B (noTb F) H o a t := by
  cases t with
  | any => trivial
  | adr p => exact h
  | dat d =>
    obtain ⟨v, h1, h2⟩ := h
    exact ⟨v, h1, h2.noT⟩
  | bk C c k =>
    obtain ⟨v, h1, p, dx, v1, v2, h2, h3, h4, h5⟩ := h
    exact ⟨v, h1, p, dx, v1, v2, h2, noTb_some.mpr ⟨h3, rfl⟩, h4.noT, h5.noT⟩
  | own ds =>
    obtain ⟨h1, h2, h3, vs, h4, h5⟩ := h
    exact ⟨h1, noTb_none h2, h3, vs, h4, h5.noT⟩
  | dic ks =>
    obtain ⟨h1, h2, h3, vs, h4, h5⟩ := h
    exact ⟨h1, noTb_none h2, h3, vs, h4, h5⟩
  | box p =>
    obtain ⟨h1, rfl, h2, h3, x, y, h4, h5⟩ := h
    exact ⟨h1, rfl, noTb_none h2, h3, x, y, h4, h5⟩
  | ob C p fs =>
    obtain ⟨h1, rfl, h2, h3, x, y, h4, h5⟩ := h
    exact ⟨h1, rfl, noTb_none h2, h3, x, y, h4, h5.1, h5.2.noT⟩
theorem SlOk.tb {B : Bs} {F H : Hp} {o : Option V} {a : Addr} {t : Sl} (h : SlOk B F H o a t) (k : t.owned = true) : ∃ u, H a = some u ∧ isTb u = false := by
  cases t with
  | any => cases k
  | adr p => cases k
  | dat d => cases k
  | bk C c k' => cases k
  | own ds =>
    obtain ⟨h1, h2, h3, vs, h4, h5⟩ := h
    exact ⟨_, h4, rfl⟩
  | dic ks =>
    obtain ⟨h1, h2, h3, vs, h4, h5⟩ := h
    exact ⟨_, h4, rfl⟩
  | box p =>
    obtain ⟨h1, rfl, h2, h3, x, y, h4, h5⟩ := h
    exact ⟨_, h4, rfl⟩
  | ob C p fs =>
    obtain ⟨h1, rfl, h2, h3, x, y, h4, h5⟩ := h
    exact ⟨_, h4, rfl⟩
theorem Sat.noT {B : Bs} {F H H1 : Hp} {s : L2.St} {G : En} (w : Sat B F H s G) (k : ∀ b o, H b = some o → isTb o = false → H1 b = some o) : Sat B (noTb F) H1 s G := by
  obtain ⟨ad, w0⟩ := w
  refine ⟨ad, w0.len, fun i t e => (w0.ok i t e).noT.go (Same.refl _) fun o => ?_, w0.inj⟩
  have q := (w0.ok i t e).noT
  obtain ⟨u, h1, h2⟩ := q.tb o
  exact ⟨(k _ _ h1 h2).trans h1.symm, (q.here o).2.1⟩
/-! ### a call that raises, told at the very slots -/
section
variable {X : Cx} {B : Bs} {G : En} {e : Expr} {es : List Expr} {p pos : Pos} {x f : Str} {C : Addr} {n k : Nat} {t : Sl} {ts : List Sl} {W : WX} {Ck : CtX}
theorem pe_callXr (D : CaX X.prog X.w X.K X.mg X.base k x C f Ck) (hr : Room n X.A) (tk : Takes X W) (ha : EAI X B G (e :: es) (is ts)) (hC : Ck ts t) (him : t.imm = true)
    (hk : k ≤ n := by decide) (hg : Gl X x := by rfl) (hdb : (x == ("__debug__" : Str)) = false := by decide)
    (he : starEach (e :: es) X.env = (false, eval e X.env) :: starEach es X.env := by rfl) (hpl : (backTo pos (starEach es X.env)).any (·.1) = false := by rfl) :
    PE X (.Call (.Name x p) (e :: es) [] pos) (fun σ H Q => ∃ F, Good B F H ∧ Sat B F H σ G ∧ ∀ dd v F' H', Good B F' H' → Sat B F' H' σ G → F' dd = some (.xd [(f, v)]) → Imm F' v t → W (.ref C) (some dd) σ H') := by
  obtain ⟨fa, fd, ps, hm, kp, hb, F⟩ := D.h
  refine PE.weak (pe_callSD (E := WE W) F (hr.mono hk) hg hm kp hb .nil (fun σ => passAt tk σ) ha hdb he hpl) fun s H Q ⟨F, g, w, q⟩ => ⟨F, g, w, fun vs us F1 H1 p1 g1 e1 w1 i1 => ?_⟩
  rw [show us = ts from p1] at i1
  rw [List.append_nil]
  exact ⟨F1, ts, t, hC, him, g1.h, i1, fun dd v F2 H2 gr h1 h2 => q dd v F2 H2 (g1.grow gr) (w1.grow gr) h1 h2⟩
end
/-! ### _law_fault(lambda: ..) -/
def tFa (G : En) (d : PyData) (CR : Addr) (E : XK) : TE := fun σ H Q => ∃ B F, Good B F H ∧ Sat B F H σ G ∧ ∀ dd v F' H', Good B F' H' → Sat B F' H' σ G → F' dd = some (.xd [("at", v)]) → Rp F' v d → E (.ref CR) (some dd) H'
section
variable {X : Cx} {F0 : Hp} {T : List (Addr × Str)} {G : En} {d : PyData} {CR : Addr} {n m : Nat} {e : Expr}
theorem tl_fault (h0 : ∀ b o, F0 b = some o → isTb o = false) (he : PE X e (LamX.tLam T (TTf X.K CR) (tFa G d CR))) (sm : Sm n m d) (hn : n ≤ 60 := by decide) (hm : m ≤ 2 ^ 20 := by decide) : PE X e (tEL F0 T G (is (.dat (.list [.str "refused", .str d.shown, .bool true])))) :=
  PE.weak he fun s H Q ⟨F, g, w, t, q⟩ => ⟨t, fun H1 ext t1 => fun N => by
    have keep : ∀ b o, H b = some o → isTb o = false → H1 b = some o := fun b o e z => ext b o e fun ps y => by
      rw [y] at z
      cases z
    have sF : Same (noTb F) H1 := fun b o e => by
      obtain ⟨e1, e2⟩ := noTb_some.mp e
      exact keep b o (g.h _ _ e1) e2
    have s0 : Same F0 (noTb F) := fun b o e => noTb_some.mpr ⟨g.f _ _ e, h0 b o e⟩
    have g1 : Good (b0 F0) (noTb F) H1 := ⟨s0, sF, fun a o z => (by cases z), fun a o _ _ => .inl rfl⟩
    refine ⟨bT (noTb F) H1, noTb F, good_T g1, sat_T (w.noT keep), fun dd v F' H' g' w' hx rv => ⟨dd, v, d, n, m, rfl, rfl, g'.h _ _ hx, rv.dp g'.h, sm, hn, hm, fun p hp => ?_⟩⟩
    have gr := Grow.new (o := .lst [.str "refused", .str d.shown, .bl true]) g'.h hp
    have g2 := g'.grow gr
    exact q (.ref p) _ _ _ rfl (good_0 s0 g2) (sat_0 ((w'.grow gr).pushD (.lst upd_same (.cons (.str _) (.cons (.str _) (.cons (.bl _) .nil)))))) (tabs_T sF t1 g2)⟩
end
/-! ### for x in range(2) -/
section
variable {X : Cx} {F0 : Hp} {T : List (Addr × Str)} {G : En} {body : List Stmt} {p : Po} {pos p1 p2 p3 p4 : Pos} {x : Str} {c : Nat}
theorem l_for2 (j : Nat) (I : Nat → En → Prop) (hN : X.N.Nodup) (h0 : I 0 G) (hb : ∀ i G1, i < 2 → I i G1 → PSs X body (tL F0 T (G1.set j (.dat (.int (i : Int)))) { nx := I (i + 1), rt := p.rt })) (hn : ∀ G', I 2 G' → p.nx G') (hm : X.mg "range" = none) (hp : PassesOwn (model X.prog X.w) X.A X.env X.xe) (hc : X.calm = true := by rfl)
    (hj : X.N[j]? = some x := by rfl) (hx : Loc X.env.scope x := by first | exact Or.inl rfl | exact Or.inr rfl) (hf : X.fn x = true ∨ X.env.scope.names.lookup x = some .local := by first | exact .inl rfl | exact .inr rfl) (hg : Gl X "range" := by rfl)
    (hs1 : starEach [Expr.Constant (.int 2) c p3] X.env = [(false, eval (.Constant (.int 2) c p3) X.env)] := by rfl) (hs : ∀ y, foldedSetIterable (.Call (.Name "range" p2) [.Constant (.int 2) c p3] [] p4) X.env y = pure y := by intro _; rfl) : PS X (.For (.Name x p1) (.Call (.Name "range" p2) [.Constant (.int 2) c p3] [] p4) body [] pos) (tL F0 T G p) := by
  have hbf : PSs X body (fun D s H => ∃ i G1, i < 2 ∧ I i G1 ∧ tL F0 T (G1.set j (.dat (.int (i : Int)))) { nx := I (i + 1), rt := p.rt } D s H) := ⟨fun pins s σ H D J ⟨i, G1, h1, h2, q⟩ => (hb i G1 h1 h2).run pins s σ H D J q⟩
  refine PS.weak (ps_for hp hc (pi_range1 hg hm (pa_cons pe_int pa_nil (by rw [hs1]; rfl)) hs1) (pg_name hN hj hx hf) hbf hs) fun D s H ⟨F, g, w, t, q1, q2⟩ => ⟨2, rfl, by decide, by decide, ?_⟩
  refine ⟨fun i m s' H' => m = 2 - i ∧ i ≤ 2 ∧ ∃ F' G', I i G' ∧ Good (b0 F0) F' H' ∧ Sat (b0 F0) F' H' s' G' ∧ LamX.Tabs T H', ⟨2, by simp, Nat.zero_le _, F, G, h0, g, w, t⟩, ?_⟩
  rintro i m s' H' ⟨rfl, hle, F', G', ig, g', w', t'⟩
  by_cases hlt : i < 2
  · refine .inr ⟨hlt, fun s2 H2 => ∃ F2 G2, I (i + 1) G2 ∧ Good (b0 F0) F2 H2 ∧ Sat (b0 F0) F2 H2 s2 G2 ∧ LamX.Tabs T H2, fun s2 H2 ⟨F2, G2, a1, a2, a3, a4⟩ => ⟨2 - (i + 1), by omega, rfl, hlt, F2, G2, a1, a2, a3, a4⟩, fun y H2 hy => ?_⟩
    obtain ⟨rfl, rfl⟩ := hy
    have r : Rp F' (.int (0 + (i : Int))) (.int (i : Int)) := by
      rw [Int.zero_add]
      exact .int _
    refine ⟨i, G', hlt, ig, F', g', (w'.pushD r).set, t', ?_, ?_⟩
    · exact fun G4 s4 F4 H4 m4 g4 w4 t4 => ⟨F4, G4, m4, g4, w4, t4⟩
    · exact fun v u G4 s4 F4 H4 m4 g4 w4 => q2 v u G4 s4 F4 H4 m4 g4 w4
  · have ei : i = 2 := by omega
    subst ei
    exact .inl ⟨Nat.le_refl _, q1 G' s' F' H' (hn G' ig) g' w' t'⟩
end
end Mk
namespace Mk
open PySem PySem.Spec PyProof.Rows L2

/-! ### the script: a list that is known at its address -/
section
variable {X : Cx} {B : Bs} {G : En} {a b e : Expr} {pos p p2 : Pos} {x : Str} {ad : Addr} {ns : List Int} {n k : Nat}
theorem e_adr (i : Nat) (hi : G[i]? = some (.adr ad) := by rfl) (hN : X.N[i]? = some x := by rfl) (hv : Vis X.env.scope x := by first | exact Or.inl rfl | exact Or.inr (Or.inl rfl) | exact Or.inr (Or.inr rfl))
    (hd : (x == ("__debug__" : Str)) = false := by decide) (hcd : (x == ("__classdict__" : Str)) = false := by decide) : EE X B G (.Name x pos) (is (.adr ad)) :=
  e_of (pe_var hN hv hd hcd) fun s F H Q g w q => by
    obtain ⟨ad', w0⟩ := id w
    have h1 : s[i]?.join = some (.ref ad) := w0.ok i _ hi
    exact ⟨.ref ad, join_some h1, q (.ref ad) _ F H rfl g (Same.refl _) (w.push rfl fun _ => rfl)⟩
theorem e_lenA (hS : ∀ H', Same B.F H' → SqL X.K H' ad (ns.map V.int)) (ha : EE X B G a (is (.adr ad))) (hm : X.mg "len" = none) (hg : Gl X "len" := by rfl) (he : starEach (a :: []) X.env = (false, eval a X.env) :: starEach [] X.env := by rfl) (hpl : (backTo pos (starEach [] X.env)).any (·.1) = false := by rfl) : EV X B G (.Call (.Name "len" p) [a] [] pos) (.int ns.length) :=
  e_of (pe_callB call_len_seq hg hm PySem.boot_len (as_cons ha as_nil rfl he) (by decide) (by decide) he hpl) fun s F H Q g w q => ⟨F, g, w, fun vs ts F1 H1 p1 g1 e1 w1 i1 => by
    rw [show ts = [Sl.adr ad] from p1] at i1
    match vs, i1 with
    | [v], i1 =>
      have ev : v = .ref ad := i1.1
      subst ev
      refine ⟨ad, _, rfl, .inl (hS H1 (g1.f.trans g1.h)), ?_⟩
      rw [List.length_map]
      exact q _ _ F1 H1 rfl g1 e1 (w1.pushD (.int _))⟩
theorem n_ixA (hS : ∀ H', Same B.F H' → SqL X.K H' ad (ns.map V.int)) (ha : EE X B G a (is (.adr ad))) (hb : EE X B G b (inI fun z => 0 ≤ z ∧ z < ns.length)) (hs : PlainIx b := by exact fun _ _ => rfl) : EE X B G (.Subscript a b pos) (inI fun _ => True) :=
  e_of (pe_ix ix_list ha hb hs) fun s F H Q g w q => ⟨F, g, w, fun v t F1 H1 p1 g1 e1 w1 => ⟨F1, g1, w1.pop, fun u t2 F2 H2 ⟨z, h2, z0, z1⟩ g2 e2 w2 => by
    rw [show t = Sl.adr ad from p1] at w1
    have ev : v = .ref ad := w1.topI rfl
    subst ev h2
    have r : Rp F2 u (.int z) := w2.topI rfl
    cases r
    have hz : z.toNat < (ns.map V.int).length := by rw [List.length_map]; omega
    have ea : atI (ns.map V.int) z = some (.int (ns[z.toNat]'(by omega))) := by
      unfold atI ixN
      rw [if_pos z0, if_pos (by rw [List.length_map]; omega)]
      show (ns.map V.int)[z.toNat]? = _
      rw [List.getElem?_map, List.getElem?_eq_getElem (by omega)]
      rfl
    exact ⟨ad, _, z, _, rfl, rfl, hS H2 (g2.f.trans g2.h), ea, q _ _ F2 H2 ⟨_, rfl, trivial⟩ g2 (e1.trans e2) (w2.pop.pushD (.int _))⟩⟩⟩
end
def spS (K : PySem.W.Frag) : Sp := fun vs H Q _ => ∃ F a k, ∃ ns : List Int, vs = [.ref a, .int k] ∧ 0 ≤ k ∧ k ≤ 1 ∧ ns.length < 64 ∧ Same F H ∧ (∀ H', Same F H' → SqL K H' a (ns.map V.int)) ∧ ∀ bp F' H', Grow F H F' H' → F' bp = none → H bp = none → BoxAt H' bp → Q (.ref bp) H'
structure CaS (P : Program) (w : World) (K : PySem.W.Frag) (mg : Str → Option Value) (base : Heap) (k : Nat) (x : Str) : Prop where
  h : ∃ (f : Addr) (fd : FuncData) (ps : List Str), mg x = some (.ref f) ∧ PySem.W.keepIn K (.ref f) = true ∧ Binds K fd ps [] ∧ FnOk P w K mg base CX0 k f fd ps (spS K)
section
variable {X : Cx} {B : Bs} {G : En} {a b e : Expr} {pos p : Pos} {x : Str} {ad : Addr} {ns : List Int} {n k : Nat} {i : Int}
theorem e_callS (D : CaS X.prog X.w X.K X.mg X.base k x) (hS : ∀ H', Same B.F H' → SqL X.K H' ad (ns.map V.int)) (hr : Room n X.A) (ha : EE X B G a (is (.adr ad))) (hb : EV X B G b (.int i)) (h64 : ns.length < 64) (i0 : 0 ≤ i) (i1 : i ≤ 1) (hk : k ≤ n := by decide) (hg : Gl X x := by rfl) (hdb : (x == ("__debug__" : Str)) = false := by decide)
    (he : starEach [a, b] X.env = (false, eval a X.env) :: starEach [b] X.env := by rfl) (he2 : starEach [b] X.env = (false, eval b X.env) :: starEach [] X.env := by rfl) (hpl : (backTo pos (starEach [b] X.env)).any (·.1) = false := by rfl) : EE X B G (.Call (.Name x p) [a, b] [] pos) (fun t => ∃ bp, t = .box bp) := by
  obtain ⟨f, fd, ps, hm, kp, hb', F⟩ := D.h
  refine e_of (pe_call F (hr.mono hk) hg hm kp hb' .nil (pass0 (X := X)) (as_cons ha (as_cons hb as_nil rfl he2) rfl he) hdb he hpl) fun s F H Q g w q => ⟨F, g, w, fun vs ts F1 H1 p1 g1 e1 w1 im => ?_⟩
  rw [show ts = [Sl.adr ad, .dat (.int i)] from p1] at im
  match vs, im with
  | [v, u], im =>
    have ev : v = .ref ad := im.1
    have ru : Rp F1 u (.int i) := im.2.1
    subst ev
    cases ru
    refine ⟨F1, ad, i, ns, rfl, i0, i1, h64, g1.h, fun H' sm => hS H' (g1.f.trans sm), fun bp F2 H2 gr fb hbp bx => ?_⟩
    exact q _ (.box bp) F2 H2 ⟨bp, rfl⟩ (g1.grow gr) (e1.trans gr.f) ((w1.grow gr).pushO ⟨rfl, rfl, fb, g1.m.free hbp, bx⟩ fun m u ad em om k z => Sat.apart w1 hbp m u ad em om k z)
end
section
variable {P : Program} {w : World} {K : PySem.W.Frag} {mg : Str → Option Value} {base : Heap} {f : Addr} {fd : FuncData}
theorem ca_l_boxS (T : Bi K mg) (F : Fun K "_law_box" "_law_box" s_l_box f fd) (hm : mg "_law_box" = some (.ref f)) (hb : Binds K fd ["_law_script", "_law_k"] []) : CaS P w K mg base 1 "_law_box" := by
  have body : ∀ (cdv : Value) (A : Around) (outer : List Env) (s : Shared) (H : Hp) (E : XK) (B : Bs) (ad : Addr) (ns : List Int) (k : Int), (∀ H', Same B.F H' → SqL K H' ad (ns.map V.int)) → ns.length < 64 → 0 ≤ k → k ≤ 1 →
      SS (cx0 P w K mg base n_l_box "_law_box" s_l_box f cdv A outer s H E) B [.adr ad, .dat (.int k), .any, .any] (defBody s_l_box) { rt := fun t _ => ∃ bp, t = .box bp } := fun cdv A outer s H E B ad ns k hS h64 k0 k1 => by
    have nd := sc_l_box.nd
    refine q_asgP (P := inI fun z => 0 ≤ z) 2 (n_add (S1 := fun z => 0 ≤ z) (n_mul (n_of e_int) (n_of (e_dat 1)) (fun i j hi hj => ⟨.inl (by subst hi; decide), by subst hi hj; omega⟩)) (n_of e_int) (fun i j hi hj => by subst hj; omega)) (fun t ⟨c0, ht, hc0⟩ => ?_) nd
    subst ht
    refine s_cons (Mid := fun G' => ∃ c1, 0 ≤ c1 ∧ G' = [.adr ad, .dat (.int k), .dat (.int c1), .any]) (s_if (k := true) (P := is (decide (k < (ns.length : Int)))) (t_lt (e_dat 1) (e_lenA hS (e_adr 0) T.len)) (fun ht => ?_) (fun hf => ?_)) (fun G' ⟨c1, hc1, hG⟩ => ?_)
    · have hk : k < (ns.length : Int) := of_decide_eq_true ht.symm
      exact s_one (s_asg (P := inI fun z => 0 ≤ z) 2 (n_abs T.abs (n_int T.int (n_ixA hS (e_adr 0) (n_imp (n_of (e_dat 1)) fun i hi => by subst hi; exact ⟨k0, hk⟩))) (fun i _ => abs_nn i)) (fun t ⟨c1, h1, h2⟩ => ⟨c1, h2, by rw [h1]; rfl⟩) nd)
    · refine s_one (s_if (k := true) (P := is (decide ((0 : Int) < (ns.length : Int)))) (t_gt (e_lenA hS (e_adr 0) T.len) e_int) (fun ht => ?_) (fun _ => s_nil ⟨c0, hc0, rfl⟩))
      have hn : 0 < (ns.length : Int) := of_decide_eq_true ht.symm
      exact s_one (s_asg (P := inI fun z => 0 ≤ z) 2 (n_add (S1 := fun z => 0 ≤ z) (n_of (e_dat 2) |> fun h => n_imp h fun i hi => by subst hi; exact hc0) (n_mul (S1 := fun z => 0 ≤ z) (n_mod (n_int T.int (n_abs T.abs (n_int T.int (n_ixA hS (e_adr 0) (n_mod (n_int T.int (n_of (e_dat 1))) (n_of (e_lenA hS (e_adr 0) T.len)) (fun i j hi hj => by subst hj; exact ⟨hn, mod_in hn⟩)))) (S1 := fun _ => True) (fun _ _ => trivial))) (n_of e_int) (fun i j _ hj => by subst hj; exact ⟨by decide, (mod_in (by decide)).1⟩)) (n_of e_int) (S := fun z => 0 ≤ z) (fun i j hi hj => ⟨.inr (by subst hj; decide), by subst hj; exact Int.mul_nonneg hi (by decide)⟩)) (fun i j hi hj => by show (0 : Int) ≤ i + j; omega)) (fun t ⟨c1, h1, h2⟩ => ⟨c1, h2, by rw [h1]; rfl⟩) nd)
    · subst hG
      refine q_asgP (P := inI fun z => 0 ≤ z) 3 (e_ifP (Pc := fun _ => True) (t_geN (n_of (e_dat 2)) (n_op (S := fun _ => True) op_pow (n_of e_int) (n_of e_int) (fun i j hi hj => ⟨_, dIc (C := CPow) (by subst hi hj; exact ⟨by decide, by decide, by decide⟩) fun _ => .int _, trivial⟩)) (fun _ _ _ _ => trivial)) (fun _ => n_imp (n_of (e_dat 2)) fun i hi => by subst hi; exact hc1) (fun _ => n_imp (n_of e_int) fun i hi => by subst hi; decide)) (fun t ⟨g, ht, hg⟩ => ?_) nd
      subst ht
      exact s_one (s_ret (e_lstBox (n_imp (n_of (e_dat 3)) fun i hi => by subst hi; exact hg) (n_add (n_mod (S := fun z => 0 ≤ z ∧ z < 2147483587) (n_int T.int (n_add (S := fun _ => True) (n_mul (S := fun _ => True) (n_mod (S := fun _ => True) (n_int T.int (n_of (e_dat 2))) (n_of e_int) (fun i j _ hj => by subst hj; exact ⟨by decide, trivial⟩)) (n_of e_int) (fun i j _ hj => ⟨.inr (by subst hj; decide), trivial⟩)) (n_mul (S := fun _ => True) (n_of e_int) (n_of (e_dat 1)) (fun i j hi _ => ⟨.inl (by subst hi; decide), trivial⟩)) (fun _ _ _ _ => trivial))) (n_of e_int) (fun i j _ hj => by subst hj; exact ⟨by decide, mod_in (by decide)⟩)) (n_of e_int) (fun i j hi hj => by subst hj; omega))) (fun t h => h))
  refine ⟨f, fd, _, hm, F.kp, hb, F.ok sc_l_box (fun vs H Q E h => ?_) (fun cdv A outer s H vs Q E hr h => ?_)⟩
  · obtain ⟨_, _, _, _, rfl, _⟩ := h
    rfl
  · obtain ⟨F0, ad, k, ns, rfl, k0, k1, h64, hs, hS, q⟩ := h
    refine ⟨_, body cdv A outer s H E ⟨F0, H⟩ ad ns k hS h64 k0 k1, F0, Good.start hs, sat_start (vs := [.ref ad, .int k]) (ts := [.adr ad, .dat (.int k)]) 2 ⟨rfl, .int k, trivial⟩, fun _ _ _ _ z => z.elim, fun v t G' s' F' H' m g' e' w' => ?_, fun _ _ _ _ z => z.elim, fun _ _ _ _ z => z.elim⟩
    obtain ⟨bp, rfl⟩ := m
    obtain ⟨a, ho, e, h1, h2, h3⟩ := w'.top
    have ev : v = .ref bp := Option.some.inj ho
    subst ev
    exact q bp F' H' g'.grow_of h1 h2 h3
end
end Mk
namespace Mk
open PySem PySem.Spec PyProof.Rows L2
/-! ### how large the law's data are -/
theorem sm_row {k : List Int} (h3 : k.length ≤ 3) (hb : ∀ i ∈ k, 0 ≤ i ∧ i < 1000) : Sm 1 33 (cR.e k) := sm_tup (n := 0) (m := 10) (k := 3) (fun d hd => by
  obtain ⟨i, hi, rfl⟩ := List.mem_map.mp hd
  exact sm_int (hb i hi).1 (hb i hi).2) (by rw [List.length_map]; exact h3)
theorem sm_rowL {k : List Int} (h3 : k.length ≤ 3) (hb : ∀ i ∈ k, 0 ≤ i ∧ i < 1000) : Sm 1 33 (cLI.e k) := sm_lst (n := 0) (m := 10) (k := 3) (fun d hd => by
  obtain ⟨i, hi, rfl⟩ := List.mem_map.mp hd
  exact sm_int (hb i hi).1 (hb i hi).2) (by rw [List.length_map]; exact h3)
theorem okI_row {b : Bool} {k : List Int} (h : k.length ≤ 1000) : okItem (dS b (k.map cI.e)) := by
  refine ⟨dS_nodic b _, fun _ => ?_⟩
  have hu : unL (dS b (k.map cI.e)) = k.map cI.e := by cases b <;> rfl
  rw [hu]
  refine ⟨by rw [List.length_map]; exact h, fun y hy => ?_⟩
  obtain ⟨i, _, rfl⟩ := List.mem_map.mp hy
  rfl
theorem okV_list {b : Bool} {ds : List PyData} (h : ds.length ≤ 1000) (hi : ∀ d ∈ ds, okItem d) : okVal (dS b ds) := by
  refine ⟨dS_nodic b _, fun _ => ?_⟩
  have hu : unL (dS b ds) = ds := by cases b <;> rfl
  rw [hu]
  exact ⟨h, hi⟩
structure ItG (d : PyData) : Prop where
  o : okItem d
  s : Sm 1 33 d
theorem itG_list {ds : List PyData} (h : ds.length ≤ 5) (hi : ∀ d ∈ ds, ItG d) : okVal (.list ds) ∧ Sm 2 170 (.list ds) :=
  ⟨okV_list (b := false) (by omega) fun d hd => (hi d hd).o, sm_lst (n := 1) (m := 33) (k := 5) (fun d hd => (hi d hd).s) h⟩
theorem itG_L {k : List Int} (h3 : k.length ≤ 3) (hb : ∀ i ∈ k, 0 ≤ i ∧ i < 1000) : ItG (cLI.e k) := ⟨okI_row (b := false) (by omega), sm_rowL h3 hb⟩
theorem itG_T {k : List Int} (h3 : k.length ≤ 3) (hb : ∀ i ∈ k, 0 ≤ i ∧ i < 1000) : ItG (cR.e k) := ⟨okI_row (b := true) (by omega), sm_row h3 hb⟩
theorem itG_non : ItG .none := ⟨⟨fun kv h => (by cases h), fun h => (by cases h)⟩, (Sm.mk (n := 0) (m := 0) (by simp [smD]) (by simp [PyData.depth]) (by simp [PyData.weight])).mono (by decide) (by decide)⟩
theorem sm_str {x : Str} {n : Nat} (h : (PyData.strOk x && PyData.strOk (reprText x)) = true) (hn : x.cps.size ≤ n) : Sm 0 n (.str x) := ⟨by simpa [smD] using h, by simp [PyData.depth], by simpa [PyData.weight] using hn⟩
theorem itG_str : ItG (.str (Str.ofString "001")) := ⟨⟨fun kv h => (by cases h), fun h => (by cases h)⟩, (sm_str (n := 3) (by decide +kernel) (by decide +kernel)).mono (by decide) (by decide)⟩
theorem itG_true : ItG (.list [.int 0, .int 0, .bool true]) := ⟨⟨fun kv h => (by cases h), fun _ => ⟨by decide, fun y hy => by
    have hy' : y = .int 0 ∨ y = .int 0 ∨ y = .bool true := by simpa [unL] using hy
    rcases hy' with rfl | rfl | rfl <;> rfl⟩⟩, ⟨by simp [smD, smAll], by simp [PyData.depth, PyData.depthAll], by simp [PyData.weight, PyData.weightAll]⟩⟩
theorem odd_good {cs : List Int} (cok : ColsOk cs) : ∀ d ∈ oddL (kinds cs), okVal d ∧ Sm 2 170 d := fun d hd => by
  have kl := kinds_len cok
  have kd : ∀ k ∈ kinds cs, k.length ≤ 3 ∧ ∀ i ∈ k, 0 ≤ i ∧ i < 1000 := fun k hk => by
    obtain ⟨h1, h2⟩ := kind_dims cok k hk
    exact ⟨by omega, fun i hi => by have := h2 i hi; omega⟩
  have mk : ∀ e ∈ (kinds cs).map cLI.e, ItG e := fun e he => by
    obtain ⟨k, hk, rfl⟩ := List.mem_map.mp he
    exact itG_L (kd k hk).1 (kd k hk).2
  have mt : ∀ e ∈ (kinds cs).tail.map cLI.e, ItG e := fun e he => by
    obtain ⟨k, hk, rfl⟩ := List.mem_map.mp he
    have := List.mem_of_mem_tail hk
    exact itG_L (kd k this).1 (kd k this).2
  have app : ∀ (xs : List PyData) (y : PyData), xs.length ≤ 4 → (∀ e ∈ xs, ItG e) → ItG y → okVal (.list (xs ++ [y])) ∧ Sm 2 170 (.list (xs ++ [y])) := fun xs y hl hx hy => by
    refine itG_list (by rw [List.length_append, List.length_singleton]; omega) fun e he => ?_
    rcases List.mem_append.mp he with q | q
    · exact hx e q
    · rw [(by simpa using q : e = y)]
      exact hy
  have lk : ((kinds cs).map cLI.e).length ≤ 4 := by rw [List.length_map]; exact kl
  have lt : ((kinds cs).tail.map cLI.e).length ≤ 4 := by
    rw [List.length_map, List.length_tail]
    omega
  unfold oddL at hd
  rcases List.mem_append.mp hd with hd | hd
  · simp only [List.mem_cons, List.not_mem_nil, or_false] at hd
    rcases hd with rfl | rfl | rfl | rfl | rfl | rfl | rfl
    · exact ⟨⟨fun kv h => (by cases h), fun h => (by cases h)⟩, itG_non.s.mono (by decide) (by decide)⟩
    · exact ⟨⟨fun kv h => (by cases h), fun h => (by cases h)⟩, (sm_int (i := 0) (by decide) (by decide)).mono (by decide) (by decide)⟩
    · exact ⟨⟨fun kv h => (by cases h), fun h => (by cases h)⟩, (sm_str (n := 1) (by decide +kernel) (by decide +kernel)).mono (by decide) (by decide)⟩
    · exact app _ _ lk mk (itG_L (by decide) (by decide))
    · by_cases hk : kinds cs = []
      · rw [if_pos hk]
        exact itG_list (by decide) fun e he => by
          rw [(by simpa using he : e = .none)]
          exact itG_non
      · rw [if_neg hk]
        exact itG_list (by rw [List.length_replicate]; omega) fun e he => by
          rw [(List.mem_replicate.mp he).2]
          exact itG_non
    · exact app _ _ lt mt (itG_T (by decide) (by decide))
    · exact app _ _ lk mk itG_non
  · by_cases hk : kinds cs = []
    · rw [if_pos hk] at hd
      cases hd
    · rw [if_neg hk] at hd
      simp only [List.mem_cons, List.not_mem_nil, or_false] at hd
      have hp := List.length_pos_iff.mpr hk
      rcases hd with rfl | rfl | rfl | rfl | rfl | rfl
      · exact itG_list (Nat.le_succ_of_le lt) mt
      · by_cases h1 : 1 < (kinds cs).length
        · rw [if_pos h1]
          have hx : (kinds cs).length - 1 < (kinds cs).length := by omega
          have hm : (kinds cs).getD ((kinds cs).length - 1) [] ∈ kinds cs := by
            have : (kinds cs).getD ((kinds cs).length - 1) [] = (kinds cs)[(kinds cs).length - 1] := by simp [List.getD, hx]
            rw [this]
            exact List.getElem_mem hx
          exact app _ _ lt mt (itG_L (kd _ hm).1 (kd _ hm).2)
        · rw [if_neg h1]
          exact itG_list (by decide) fun e he => by cases he
      · exact app _ _ lt mt itG_true
      · exact app _ _ lt mt itG_str
      · have hm : (kinds cs).getD 0 [] ∈ kinds cs := by
          have : (kinds cs).getD 0 [] = (kinds cs)[0] := by simp [List.getD, hp]
          rw [this]
          exact List.getElem_mem hp
        refine app _ _ lt mt (itG_L ?_ fun i hi => (kd _ hm).2 i (List.mem_of_mem_take hi))
        rw [List.length_take]
        omega
      · exact app _ _ lt mt (itG_L (by decide) (by decide))
section
variable {cs : List Int}
theorem sm_rows {rs : List (List Int)} {k : Nat} (hl : rs.length ≤ k) (h : ∀ r ∈ rs, r.length ≤ 3 ∧ ∀ i ∈ r, 0 ≤ i ∧ i < 1000) : Sm 2 (k * 34) (cO.e rs) := sm_tup (n := 1) (m := 33) (fun d hd => by
  obtain ⟨r, hr, rfl⟩ := List.mem_map.mp hd
  exact sm_row (h r hr).1 (h r hr).2) (by rw [List.length_map]; exact hl)
theorem sm_check (cok : ColsOk cs) {c : List Int × List (List Int)} (h : CkU cs c) : Sm 3 546 (cC.e c) := by
  have ck := h.ck cok
  have h1 : Sm 2 272 (cR.e c.1) := (sm_row h.p3 fun i hi => by have := h.pin i hi; have := cok.l3; omega).mono (by decide) (by decide)
  have h2 : Sm 2 272 (cO.e c.2) := sm_rows (k := 8) ck.rl fun r hr => ⟨by rw [ck.el r hr]; exact h.p3, fun i hi => by have := (h.univ cok).bd r (h.sub r hr) i hi; omega⟩
  exact sm_tup (ds := [cR.e c.1, cO.e c.2]) (n := 2) (m := 272) (k := 2) (fun d hd => by
    have hd' : d = cR.e c.1 ∨ d = cO.e c.2 := by simpa using hd
    rcases hd' with rfl | rfl
    · exact h1
    · exact h2) (Nat.le_refl 2)
theorem sm_checks (cok : ColsOk cs) {cks : List (List Int × List (List Int))} (hl : cks.length ≤ 3) (h : ∀ c ∈ cks, CkU cs c) : Sm 4 1641 (.tuple (cks.map cC.e)) := sm_tup (n := 3) (m := 546) (k := 3) (fun d hd => by
  obtain ⟨c, hc, rfl⟩ := List.mem_map.mp hd
  exact sm_check cok (h c hc)) (by rw [List.length_map]; exact hl)
theorem ord_dims (cok : ColsOk cs) {o : List (List Int)} (p : o.Perm (kinds cs)) : o.length ≤ 4 ∧ ∀ k ∈ o, k.length ≤ 3 ∧ ∀ i ∈ k, 0 ≤ i ∧ i < 1000 := ⟨by rw [p.length_eq]; exact kinds_len cok, fun k hk => by
  obtain ⟨h1, h2⟩ := kind_dims cok k (p.mem_iff.mp hk)
  exact ⟨by omega, fun i hi => by have := h2 i hi; omega⟩⟩
theorem sm_least (cok : ColsOk cs) {x : Int × Ord} (h0 : 0 ≤ x.1) (h1 : x.1 < 1000) (p : x.2.Perm (kinds cs)) : Sm 3 274 (eO x) := by
  obtain ⟨l, d⟩ := ord_dims cok p
  exact sm_tup (ds := [.int x.1, cO.e x.2]) (n := 2) (m := 136) (k := 2) (fun e he => by
    have he' : e = .int x.1 ∨ e = cO.e x.2 := by simpa using he
    rcases he' with rfl | rfl
    · exact (sm_int h0 h1).mono (by decide) (by decide)
    · exact sm_rows (k := 4) l d) (Nat.le_refl 2)
theorem okV_ord (cok : ColsOk cs) {o : List (List Int)} (p : o.Perm (kinds cs)) (b : Bool) : okVal (dS b (o.map fun k => cR.e k)) ∧ okVal (dS b (o.map fun k => cLI.e k)) := by
  obtain ⟨l, d⟩ := ord_dims cok p
  refine ⟨okV_list (by rw [List.length_map]; omega) fun e he => ?_, okV_list (by rw [List.length_map]; omega) fun e he => ?_⟩
  · obtain ⟨k, hk, rfl⟩ := List.mem_map.mp he
    exact okI_row (b := true) (by have := (d k hk).1; omega)
  · obtain ⟨k, hk, rfl⟩ := List.mem_map.mp he
    exact okI_row (b := false) (by have := (d k hk).1; omega)
end
end Mk
namespace Mk
open PySem PySem.Spec PyProof.Rows L2
def lawB : List Stmt := match defBody s_law with
  | .For _ _ b _ _ :: _ => b
  | _ => []
/-- the defs that the law calls -/
structure LawD (P : Program) (w : World) (K : PySem.W.Frag) (mg : Str → Option Value) (base : Heap) (C : Addr) : Prop where
  T : Bi K mg
  bc : BkC K C
  box : CaS P w K mg base 1 "_law_box"
  book : CaB P w K mg base 4 "_law_book" c_l_book
  bk : CaO P w K mg base 6 "Book" C c_Book
  ords : Ca P w K mg base 1 "_law_orders" c_l_orders
  knd : Ca P w K mg base 1 "_law_kinds" c_l_kinds
  pick : CaB P w K mg base 2 "_law_pick" c_l_pick
  hull : Ca P w K mg base 3 "_law_hull" c_l_hull
  hb : Ca P w K mg base 8 "hull_book" (c_hull_book C)
  rank : Ca P w K mg base 7 "is_ranking" (c_is_ranking C)
  add : Ca P w K mg base 4 "_law_added" c_l_added
  lay : Ca P w K mg base 3 "_law_layers" c_l_layers
  odd : CaB P w K mg base 3 "_law_odd" c_l_odd
  take : CaB P w K mg base 1 "_law_take" c_l_take
  eq : BkE P w K mg base 2 C
  hbk : ∃ f fd g, mg "hull_book" = some (.ref f) ∧ PySem.W.keepIn K (.ref f) = true ∧ KBn K fd ["book", "ranking"] 0 ["ranking", "book"] g (fun _ zs => zs.reverse) ∧ FnOk P w K mg base CX0 8 f fd ["book", "ranking"] (spP (c_hull_book C))
  fa1 : ∃ f fd g, mg "fewest_added" = some (.ref f) ∧ PySem.W.keepIn K (.ref f) = true ∧ KBn K fd ["book", "most"] 1 ["most"] g (fun vs zs => vs ++ zs) ∧ FnOk P w K mg base CX0 5 f fd ["book", "most"] (spP (c_fewest C))
  fa0 : ∃ f fd g, mg "fewest_added" = some (.ref f) ∧ PySem.W.keepIn K (.ref f) = true ∧ KBn K fd ["book", "most"] 0 ["most", "book"] g (fun _ zs => zs.reverse) ∧ FnOk P w K mg base CX0 5 f fd ["book", "most"] (spP (c_fewest C))
/-- what stands behind the first twelve statements -/
structure L12 (cols : List Int) (cks : List (List Int × List (List Int))) (o : Ord) (m : Int × Ord) (odd : PyData) (few : Int) : Prop where
  ok : BookOk cols cks
  m : LeastOf (addedF cks) (orders (kinds cols)) m
  odd : odd ∈ oddL (kinds cols)
  f1 : 1 ≤ few
  f2 : few ≤ (orders (kinds cols)).length
noncomputable def gL (C : Addr) (ad bp : Addr) (i : Nat) (cols : List Int) (cks : List (List Int × List (List Int))) (o : Ord) (m : Int × Ord) (odd : PyData) (few : Int) : En :=
  [.adr ad, .dat (.int (i : Int)), .box bp, .dat (cR.e cols), .dat (.tuple (cks.map cC.e)), bkS C cols cks, .dat (.list ((orders (kinds cols)).map cO.e)), .dat (cO.e o), .dat (.tuple ((cks.map (hullC o)).map cC.e)), bkS C cols (cks.map (hullC o)), .dat (eO m), .dat odd, .dat (.int few), .any, .any, .any, .any, .any]
section
variable {P : Program} {w : World} {K : PySem.W.Frag} {mg : Str → Option Value} {base : Heap} {C : Addr}
theorem law_12 (L : LawD P w K mg base C) {fl : Addr} {cdl : Value} {A : Around} {outer : List Env} {s : Shared} {H : Hp} {E : XK} (hr : Room 10 (A.deeper (envOfC "law" (defScope s_law) s.heap.objs.size fl cdl))) (hgd : A.guards = some []) {ad : Addr} {ns : List Int} {i : Nat} (hi : i < 2) (h64 : ns.length < 64) {B : Bs} (hS : ∀ H', Same B.F H' → SqL K H' ad (ns.map V.int)) {Rt : Sl → En → Prop} :
    SS (cx0 P w K mg base n_law "law" s_law fl cdl A outer s H E) B [.adr ad, .dat (.int (i : Int)), .any, .any, .any, .any, .any, .any, .any, .any, .any, .any, .any, .any, .any, .any, .any, .any] (lawB.take 12)
      { nx := fun G' => ∃ bp cols cks o m odd few, L12 cols cks o m odd few ∧ G' = gL C ad bp i cols cks o m odd few, rt := Rt } := by
  have nd := sc_law.nd
  have T := L.T
  refine q_asgP (P := fun t => ∃ bp, t = .box bp) 2 (e_callS L.box hS hr (e_adr 0) (e_dat 1) h64 (by omega) (by omega)) (fun t ⟨bp, ht⟩ => ?_) nd
  subst ht
  refine q_unpL (Pq := fun d1 d2 => ∃ cols cks, BookOk cols cks ∧ d1 = cR.e cols ∧ d2 = .tuple (cks.map cC.e)) 3 4 (e_callBx 2 L.book hr (as_cons e_int (as_cons e_int as_nil)) (fun us hu => ⟨_, ⟨hu, rfl⟩, fun t ⟨cols, cks, hb, ht⟩ => ⟨_, _, ht, cols, cks, hb, rfl, rfl⟩⟩) rfl rfl) (fun d1 d2 ⟨cols, cks, bok, e1, e2⟩ => ?_) nd
  subst e1 e2
  obtain ⟨cok, c3, hks⟩ := id bok
  have kl := kinds_len cok
  have c4 : cols.length ≤ 4 := Nat.le_succ_of_le cok.l3
  have cv : ∀ c ∈ cols, 0 ≤ c ∧ c ≤ 4 := fun c hc => by have := cok.v c hc; omega
  have ol := orders_len_le cok
  refine q_unp2 (P := fun t u => t = bkS C cols cks ∧ u = .dat (.list ((orders (kinds cols)).map cO.e))) 5 6 (p2_imm (P1 := is (bkS C cols cks)) (P2 := is (.dat (.list ((orders (kinds cols)).map cO.e)))) (e_make (n := 6) L.bk (hr.mono (by decide)) (as_cons (e_dat 3) (as_cons (e_dat 4) as_nil)) ⟨cols, cks, true, cok, by omega, hks, rfl, rfl, rfl⟩) (e_callD L.ords hr (as_cons (e_callD L.knd hr (as_cons (e_dat 3) as_nil) ⟨cols, true, c4, cv, rfl, rfl⟩) as_nil) ⟨kinds cols, kl, rfl, rfl⟩) (fun t ht => by rw [show t = _ from ht]; rfl)) (g_two 5 6 rfl nd) (fun t u ⟨h1, h2⟩ => ?_)
  subst h1 h2
  have fl12 : ∀ {ks : List (List Int × List (List Int))}, ∃ n m, Fl n (cR.e cols) ∧ Fl m (.tuple (ks.map cC.e)) ∧ n ≤ 64 ∧ m ≤ 64 := fun {ks} => ⟨1, 4, fl_cR _, fl_tup fun d hd => by
    obtain ⟨c, _, rfl⟩ := List.mem_map.mp hd
    exact fl_tup fun e he => by
      have he' : e = cR.e c.1 ∨ e = cO.e c.2 := by simpa using he
      rcases he' with rfl | rfl
      · exact (fl_cR _).mono (by decide)
      · exact fl_cO _, by decide, by decide⟩
  -- the order
  refine q_asgP (P := fun t => ∃ o, o ∈ orders (kinds cols) ∧ t = .dat (cO.e o)) 7 (e_callBx 2 L.pick hr (as_cons (e_dat 6) as_nil) (fun us hu => ⟨_, ⟨(orders (kinds cols)).map cO.e, fun z => leaves_ne (kinds_nodup cols) (List.map_eq_nil_iff.mp z), by rw [List.length_map]; omega, hu, rfl⟩, fun t ⟨d, hd, ht⟩ => by
    obtain ⟨o, ho, rfl⟩ := List.mem_map.mp hd
    exact ⟨o, ho, ht⟩⟩) rfl rfl) (fun t ⟨o, ho, ht⟩ => ?_) nd
  subst ht
  have pm := orders_perm (kinds_nodup cols) ho
  have oOk := ord_okO pm
  have o4 : o.length ≤ 4 := by rw [pm.length_eq]; exact kl
  have okT := (okV_ord cok pm true).1
  have okL := (okV_ord cok pm false).2
  have orT : orderK (kinds cols) (cO.e o) = some o := orderK_rows ((kinds_rise cols).imp id) pm (kind_dims cok) true true
  have orL : orderK (kinds cols) (.list (o.map fun k => cLI.e k)) = some o := orderK_rows ((kinds_rise cols).imp id) pm (kind_dims cok) false false
  have hks2 : ∀ c ∈ cks.map (hullC o), CkU cols c := fun c hc => by
    obtain ⟨c0, h0, rfl⟩ := List.mem_map.mp hc
    exact hullC_ok cok oOk (hks c0 h0)
  have c32 : (cks.map (hullC o)).length ≤ 3 := by rw [List.length_map]; exact c3
  have smC := sm_checks cok c32 hks2
  -- the hulls
  refine q_asg (t := .dat (.tuple ((cks.map (hullC o)).map cC.e))) 8 (e_tupL T.tuple (EV.eq (e_mapM (xs := cks) cC (.two 14 15) [("_law_places", 14), ("_law_rows", 15)] (fun c => cC.e (hullC o c)) (i_tup (e_dat 4)) (fun _ _ _ _ _ => g_two 14 15 rfl nd) (fun s' H' C' cl fp B' c hc => ?_) (fun _ _ => ⟨_, _, rfl⟩) (by omega) (blkOk_by (N := n_law) (sc := defScope s_law) (by decide +kernel)) nd) (by rw [List.map_map]; rfl))) ?_ nd
  · have h := hks c hc
    have := (h.ck cok).rl
    exact e_tup (ds := [_, _]) (vs_cons (e_dat 14) (vs_cons (e_tupL T.tuple (e_callD L.hull hr (as_cons (e_dat 14) (as_cons (e_dat 15) (as_cons (e_dat 7) as_nil))) ⟨c.1, allRows cols c.1, c.2, o, true, true, h.p1, h.p3, h.univ cok, h.sub, by omega, oOk, o4, rfl, rfl⟩)) vs_nil)) (by simp)
  refine q_asg (t := bkS C cols (cks.map (hullC o))) 9 (e_callD L.hb hr (as_cons (e_bk 5) (as_cons (e_dat 7) as_nil)) ⟨cols, cks, cO.e o, o, cok, by omega, hks, okT, orT, oOk, o4, rfl, rfl⟩) ?_ nd
  -- the book of hulls
  obtain ⟨fH, fdH, gH, hmH, kpH, kbH, FH⟩ := L.hbk
  refine q_ifRet (k := false) (t_bool (w_or (x := false) (y := false) (t_neSame (u64 hr) (e_repr hgd (u64 hr) T.repr (e_chks L.bc (e_bk 9)) smC) (e_repr hgd (u64 hr) T.repr (e_dat 8) smC) (lay_shown smC.pl) (by simp [PyData.depth])) fun _ => w_or (x := false) (y := false) ((t_neM cR fl_cR (u64 hr) (e_cols L.bc (e_bk 9)) (e_dat 3)).eq (by simp)) fun _ => w_or1 (t_neBk L.eq (n := 9) hr
    (e_callK2 FH hr hmH kpH kbH (ta := .dat (.list (o.map fun k => cLI.e k))) (tb := bkS C cols cks) (t := bkS C cols (cks.map (hullC o))) (e_mapM (xs := o) cR (.one 17) [("_law_kind", 17)] (fun k => cLI.e k) (i_tup (e_dat 7)) (fun _ _ _ _ _ => g_one 17 nd) (fun s' H' C' cl fp B' k hk => e_frz (e_listTO T.list (e_dat 17))) (fun _ _ => trivial) (by omega) (blkOk_by (N := n_law) (sc := defScope s_law) (by decide +kernel)) nd) (e_bk 5) rfl rfl ⟨cols, cks, _, o, cok, by omega, hks, okL, orL, oOk, o4, rfl, rfl⟩) (e_bk 9) fl12))) (fun h => nomatch h) fun _ => ?_
  -- the order is a ranking of it
  refine q_ifRet (k := false) (t_bool (w_or (x := false) (y := false) ((t_isNot (e_callD L.rank hr (as_cons (e_bk 9) (as_cons (e_dat 7) as_nil)) ⟨cols, cks.map (hullC o), cO.e o, o, c4, cv, okT, by omega, fun c hc => (hks2 c hc).ck cok, orT, by omega, hull_ranked cok hks oOk, rfl, rfl⟩) e_bl).eq (by simp)) fun _ => w_or1 (t_neBk L.eq (n := 9) hr (e_bk 5) (e_make (n := 6) L.bk (hr.mono (by decide)) (as_cons (e_dat 3) (as_cons (e_dat 4) as_nil)) ⟨cols, cks, true, cok, by omega, hks, rfl, rfl, rfl⟩) fl12))) (fun h => nomatch h) fun _ => ?_
  -- the least
  obtain ⟨o1, os, m, eo, em, hm⟩ := min_least (cs := cols) (addedF cks)
  obtain ⟨m', hm1, hm2, hm3⟩ := few_least cok hks
  have emm : m' = m := hm2.uniq hm
  subst emm
  have nnm := added_nn cok hks (ord_okO (orders_perm (kinds_nodup cols) hm.1))
  have lem := added_le cok hks (ord_okO (orders_perm (kinds_nodup cols) hm.1))
  have m0 : 0 ≤ m'.1 := by rw [hm.2.1]; exact nnm.1
  have m1 : m'.1 < 1000 := by
    rw [hm.2.1]
    omega
  have smM := sm_least cok m0 m1 (orders_perm (kinds_nodup cols) hm.1)
  refine q_asg (t := .dat (eO m')) 10 (e_minO (u64 hr) T.min (x := (addedF cks o1, o1)) (rest := os.map fun p => (addedF cks p, p)) (EV.eq (e_mapM (xs := orders (kinds cols)) cO (.one 16) [("_law_one", 16)] (fun p => eO (addedF cks p, p)) (i_list (e_dat 6)) (fun _ _ _ _ _ => g_one 16 nd) (fun s' H' C' cl fp B' p hp => ?_) (fun _ _ => trivial) (by omega) (blkOk_by (N := n_law) (sc := defScope s_law) (by decide +kernel)) nd) ?_) ?_) ?_ nd
  · have pp := orders_perm (kinds_nodup cols) hp
    exact e_tup (ds := [_, _]) (vs_cons (e_callD L.add hr (as_cons (e_dat 4) (as_cons (e_dat 16) as_nil)) ⟨cols, cks, p, cok, by omega, hks, ord_okO pp, by rw [pp.length_eq]; exact kl, rfl, rfl⟩) (vs_cons (e_dat 16) vs_nil)) (by simp)
  · rw [eo, List.map_cons, List.map_cons, List.map_map]
    rfl
  · rw [List.map_map]
    exact em
  -- fewest_added
  obtain ⟨f1, fd1, g1, hmF, kpF, kbF, FF⟩ := L.fa1
  obtain ⟨f0, fd0, g0, hmG, kpG, kbG, FG⟩ := L.fa0
  have opt : optP (fewF cols cks).1 = eO m' := by rw [hm1]; rfl
  refine q_ifRet (k := false) (t_bool (w_or (x := false) (y := false) (t_neSame (u64 hr) (e_repr hgd (u64 hr) T.repr (e_callK1 FF hr hmF kpF kbF (ta := bkS C cols cks) (tb := .dat (.int ((orders (kinds cols)).length : Int))) (t := .dat (eO m')) (e_bk 5) (EV.eq (e_lenL T.len (e_dat 6)) (by rw [List.length_map])) rfl rfl ⟨cols, cks, _, cok, by omega, hks, by omega, rfl, by rw [opt]⟩) smM) (e_repr hgd (u64 hr) T.repr (e_dat 10) smM) (lay_shown smM.pl) (by simp [PyData.depth])) fun _ => w_or1 (t_neSame (u64 hr)
    (e_callK2 FG hr hmG kpG kbG (ta := .dat (.int 999)) (tb := bkS C cols cks) (t := .dat (eO m')) e_int (e_bk 5) rfl rfl ⟨cols, cks, 999, cok, by omega, hks, by omega, rfl, by rw [opt]⟩) (e_dat 10) smM.lay (Nat.le_trans smM.dp (by decide))))) (fun h => nomatch h) fun _ => ?_
  -- the layers
  have lz := least_zero cok hks hm
  refine q_ifRet (k := false) ((t_neB (e_eqM cI fl_int (u64 hr) (e_ixT (d := .int m'.1) rfl (e_dat 10) e_int) e_int) (e_eqM (y := []) cLs fl_cLs (u64 hr) (e_ixL (d := cLs.e (gN cks (kinds cols) (kinds cols).length)) rfl (e_callD L.lay hr (as_cons (e_dat 4) (as_cons (e_callD L.knd hr (as_cons (e_dat 3) as_nil) ⟨cols, true, c4, cv, rfl, rfl⟩) as_nil)) ⟨cks, kinds cols, fun c hc => (hks c hc).ck cok, kl, rfl, rfl⟩) e_int) (e_lst (ds := []) vs_nil (by decide)))).eq ?_) (fun h => nomatch h) fun _ => ?_
  · by_cases z : m'.1 = 0
    · simp [z, lz.mp z]
    · have z2 : gN cks (kinds cols) (kinds cols).length ≠ [] := fun q => z (lz.mpr q)
      simp [z, z2]
  -- what is no order, how many are looked at
  have oln : 0 < ((orders (kinds cols)).length : Int) := by
    have := List.length_pos_iff.mpr (leaves_ne (kinds_nodup cols))
    omega
  refine q_unp2 (P := fun t u => (∃ d, d ∈ oddL (kinds cols) ∧ t = .dat d) ∧ inI (fun z => 1 ≤ z ∧ z ≤ (orders (kinds cols)).length) u) 11 12 (p2_imm (P1 := fun t => ∃ d, d ∈ oddL (kinds cols) ∧ t = .dat d) (P2 := inI (fun z => 1 ≤ z ∧ z ≤ (orders (kinds cols)).length))
    (e_callBx 2 L.odd hr (as_cons (e_callD L.knd hr (as_cons (e_dat 3) as_nil) ⟨cols, true, c4, cv, rfl, rfl⟩) as_nil) (fun us hu => ⟨_, ⟨kinds cols, kl, hu, rfl⟩, fun t h => h⟩) rfl rfl)
    (n_add (S1 := fun z => z = 1) (S2 := fun z => 0 ≤ z ∧ z < (orders (kinds cols)).length) (n_of e_int) (e_callBx 2 L.take hr (as_cons (EV.eq (e_lenL T.len (e_dat 6)) (by rw [List.length_map])) as_nil) (fun us hu => ⟨_, ⟨((orders (kinds cols)).length : Int), oln, by omega, hu, rfl⟩, fun t h => h⟩) rfl rfl) (fun i j h1 h2 => by subst h1; omega)) (fun t ⟨d, _, ht⟩ => by rw [ht]; rfl)) (g_two 11 12 rfl nd) (fun t u ⟨⟨odd, ho1, h1⟩, few, h2, h3, h4⟩ => ?_)
  subst h1 h2
  exact s_nil ⟨bp, cols, cks, o, m', odd, few, ⟨bok, hm, ho1, h3, h4⟩, rfl⟩
end
end Mk
namespace Mk
open PySem PySem.Spec PyProof.Rows L2

theorem Sat.unset {B : Bs} {F H : Hp} {s : L2.St} {G : En} {i : Nat} (w : Sat B F H s G) : Sat B F H (s.set i none) (G.set i .any) := by
  obtain ⟨ad, w0⟩ := w
  have key : ∀ (j : Nat) (t : Sl), (G.set i .any)[j]? = some t → t = .any ∨ (j ≠ i ∧ G[j]? = some t) := fun j t e => by
    by_cases h : i = j
    · subst h
      by_cases hl : i < G.length
      · rw [List.getElem?_set_self hl] at e
        exact .inl (Option.some.inj e).symm
      · rw [List.getElem?_eq_none (by simp; omega)] at e
        cases e
    · rw [List.getElem?_set_ne h] at e
      exact .inr ⟨fun z => h z.symm, e⟩
  refine ⟨ad, by simp [w0.len], fun j t e => ?_, fun j k t u e1 e2 o1 o2 z => ?_⟩
  · rcases key j t e with rfl | ⟨h, e'⟩
    · trivial
    · rw [List.getElem?_set_ne (fun z => h z.symm)]
      exact w0.ok j t e'
  · rcases key j t e1 with rfl | ⟨_, e1'⟩
    · cases o1
    · rcases key k u e2 with rfl | ⟨_, e2'⟩
      · cases o2
      · exact w0.inj j k t u e1' e2' o1 o2 z
theorem Sat.reF {B : Bs} {F F1 H : Hp} {s : L2.St} {G : En} (w : Sat B F H s G) : Sat ⟨F1, B.M⟩ F H s G := by
  obtain ⟨ad, w0⟩ := w
  refine ⟨ad, w0.len, fun i t e => ?_, w0.inj⟩
  have h := w0.ok i t e
  cases t <;> exact h
theorem Good.now {B : Bs} {F H : Hp} (g : Good B F H) : Good ⟨F, B.M⟩ F H := ⟨Same.refl _, g.h, g.m, fun a o e n => by
  have n' : F a = none := n
  rw [n'] at e
  cases e⟩
theorem Good.step {B : Bs} {F H F' H' : Hp} (g : Good B F H) (g' : Good ⟨F, B.M⟩ F' H') : Good B F' H' := ⟨g.f.trans g'.f, g'.h, g'.m, fun a o e n => by
  cases q : F a with
  | none => exact g'.n a o e q
  | some u => exact g.n a u q n⟩
theorem GLe.set {t : Sl} : ∀ {G A : En} {i : Nat}, GLe G A → GLe (G.set i t) (A.set i t)
  | [], [], _, _ => trivial
  | _ :: _, _ :: _, 0, h => ⟨.inr rfl, h.2⟩
  | _ :: _, _ :: _, _ + 1, h => ⟨h.1, GLe.set h.2⟩
  | [], _ :: _, _, h => h.elim
  | _ :: _, [], _, h => h.elim
theorem l_le {X : Cx} {F0 : Hp} {T : List (Addr × Str)} {G A : En} {sts : List Stmt} {p : Po} (h : GLe G A) (k : PSs X sts (tL F0 T A p)) : PSs X sts (tL F0 T G p) := PSs.weak k fun D s H ⟨F, g, w, q⟩ => ⟨F, g, w.wk h, q⟩
/-- what an error that is caught keeps -/
theorem e_xf {X : Cx} {a C : Addr} {oe : Obj} {pn : List (Addr × Obj)} {B : Bs} {G : En} {d : PyData} {n x : Str} {dd : Addr} {v : V} {pos pos2 : Pos} (i : Nat) (T : XfC X.K C) (hno : PySem.W.findIn X.K (.ref C) n = some none) (hz : Zc (.ref C) (some dd) oe) (hf : ∃ vs, oe.data = .fields vs) (hF : B.F dd = some (.xd [(n, v)])) (hv : Rp B.F v d) (hi : G[i]? = some (.adr a)) (hN : X.N[i]? = some x) (hvis : Vis X.env.scope x)
    (hd : (x == ("__debug__" : Str)) = false := by decide) (hcd : (x == ("__classdict__" : Str)) = false := by decide) (hb : attributeBase (.Name x pos2) n X.env (eval (.Name x pos2) X.env) = eval (.Name x pos2) X.env := by rfl) :
    EV (X.suite a ((a, oe) :: pn)) B G (.Attribute (.Name x pos2) n pos) d :=
  e_of (pe_xf T hno hz hf (pe_var (X := X.suite a ((a, oe) :: pn)) hN hvis hd hcd) hb) fun s F H Q g w q => by
    obtain ⟨ad, w0⟩ := id w
    have h1 : s[i]?.join = some (.ref a) := w0.ok i _ hi
    refine ⟨.ref a, join_some h1, rfl, rfl, dd, _, v, rfl, g.h _ _ (g.f _ _ hF), by simp [List.lookup], q v _ F H rfl g (Same.refl _) (w.pushD (hv.mono g.f))⟩
/-- what is known of the law's errors -/
structure LawX (P : Program) (w : World) (K : PySem.W.Frag) (mg : Str → Option Value) (base : Heap) (C CR CB CT : Addr) : Prop where
  gR : mg "Refused" = some (.ref CR)
  gB : mg "BatchError" = some (.ref CB)
  gT : mg "TooGreat" = some (.ref CT)
  xR : XfC K CR
  nR : PySem.W.findIn K (.ref CR) "at" = some none
  eR : PySem.W.exmOne K (.ref CR) (.ref CR) = some true
  iR : PySem.W.isIn K (.ref CR) CB = true
  xT : XfC K CT
  nT : PySem.W.findIn K (.ref CT) "most" = some none
  eT : PySem.W.exmOne K (.ref CT) (.ref CT) = some true
  hb : CaX P w K mg base 8 "hull_book" CR "at" (x_hull_book C)
  fa : ∃ f fd g, mg "fewest_added" = some (.ref f) ∧ PySem.W.keepIn K (.ref f) = true ∧ KBn K fd ["book", "most"] 1 ["most"] g (fun vs zs => vs ++ zs) ∧ FnOk P w K mg base (L2.CX P w) 5 f fd ["book", "most"] (spX CT "most" (x_fewest C))
section
variable {P : Program} {w : World} {K : PySem.W.Frag} {mg : Str → Option Value} {base : Heap} {C CR CB CT : Addr}
variable {fl c Pt gF : Addr} {fdF : FuncData} {A : Around} {outer : List Env} {s : Shared} {H : Hp} {E : XK} {F0 : Hp} {ad bp : Addr} {i : Nat} {cols : List Int} {cks : List (List Int × List (List Int))} {o : Ord} {m : Int × Ord} {odd : PyData} {few : Int} {p : Po}
abbrev tabT (Pt : Addr) : List (Addr × Str) := [(Pt, (("law" : Str) ++ ".<locals>.") ++ "<lambda>")]
theorem law_13 (L : LawD P w K mg base C) (X : LawX P w K mg base C CR CB CT) (TB : LamX.TabB base mg c Pt) (Ff : Fun K "_law_fault" "_law_fault" s_l_fault gF fdF) (hmF : mg "_law_fault" = some (.ref gF)) (hbF : Binds K fdF ["_law_call"] []) (hr : Room 10 (A.deeper (envOfC "law" (defScope s_law) s.heap.objs.size fl (.ref c)))) (hgd : A.guards = some []) (h0 : ∀ b o, F0 b = some o → isTb o = false) (h12 : L12 cols cks o m odd few)
    {rest : List Stmt} (hrest : PSs (cx0 P w K mg base n_law "law" s_law fl (.ref c) A outer s H E) ((lawB.drop 12).drop 1) (tL F0 (tabT Pt) (gL C ad bp i cols cks o m odd few) p)) :
    PSs (cx0 P w K mg base n_law "law" s_law fl (.ref c) A outer s H E) (lawB.drop 12) (tL F0 (tabT Pt) (gL C ad bp i cols cks o m odd few) p) := by
  obtain ⟨oc, od, kV, doc, pm, an, cdv, ct, osl, rfl, lk, hcd⟩ := Ff.ex
  obtain ⟨cok, c3, hks⟩ := id h12.ok
  have c4 : cols.length ≤ 4 := Nat.le_succ_of_le cok.l3
  have cv : ∀ c ∈ cols, 0 ≤ c ∧ c ≤ 4 := fun c hc => by have := cok.v c hc; omega
  obtain ⟨okv, smO⟩ := odd_good cok odd h12.odd
  have ob := odd_bad cok odd h12.odd
  have un := hr.un
  refine l_cons (Mid := is (gL C ad bp i cols cks o m odd few)) (l_if (k := false) (tl_neSame (d := .list [.str "refused", .str odd.shown, .bool true]) (u64 hr) (tl_fault h0 (LamX.pe_lamcall (k := 8) (Ng := n_l_fault) rfl hmF Ff.kp lk hcd hbF sc_l_fault rfl (.inl rfl) (fault_gives X.gR X.gB L.T.repr L.T.isi X.xR X.nR X.eR X.iR hgd (by show (A.deeper _).units + 100 < cLine; omega)) TB rfl (by exact List.mem_cons_self) (fun p hp _ => by rw [List.mem_singleton.mp hp]; rfl) hr (show LamX.LamS (defScope s_law) _ from LamX.lamS_by (by decide +kernel)) rfl (fun _ _ _ _ _ => rfl) (fun A' outer' s' H' E' f' c' hr' => ?_)) smO) (fun B => e_lst (vs_cons e_str (vs_cons (e_repr hgd (u64 hr) L.T.repr (e_dat 11) smO) (vs_cons e_bl vs_nil))) (by simp)) ?_ (by simp [PyData.depth, PyData.depthAll])) (fun h => nomatch h) (fun _ => l_nil rfl)) (fun G' hG => ?_)
  · refine ⟨fun pins s'' σ H'' Q I ⟨B, q⟩ => ?_⟩
    exact (pe_callXr (B := B) (G := gL C ad bp i cols cks o m odd few) (W := fun cls d _ H => E' cls d H) X.hb hr' (takes_of (E := E') rfl rfl rfl rfl) (as_cons (e_bk 5) (as_cons (e_dat 11) as_nil)) ⟨cols, _, odd, c4, cv, okv, ob, rfl, rfl⟩ rfl).run pins s'' σ H'' Q I q
  · have h1 := okS_shown odd smO.pl
    have h2 : PyData.strOk (Str.ofString "refused") = true := okS_lit _
    simp [PyData.canLay0, PyData.canLayAll0, h1, h2]
  · rw [hG]
    exact hrest
end
end Mk
namespace Mk
open PySem PySem.Spec PyProof.Rows L2
section
variable {P : Program} {w : World} {K : PySem.W.Frag} {mg : Str → Option Value} {base : Heap} {C CR CB CT : Addr}
variable {fl c Pt gF : Addr} {fdF : FuncData} {A : Around} {outer : List Env} {s : Shared} {H : Hp} {E : XK} {F0 : Hp} {ad bp : Addr} {i : Nat} {cols : List Int} {cks : List (List Int × List (List Int))} {o : Ord} {m : Int × Ord} {odd : PyData} {few : Int} {T : List (Addr × Str)} {Rt : Sl → En → Prop}
abbrev gStart (ad : Addr) : En := [.adr ad, .any, .any, .any, .any, .any, .any, .any, .any, .any, .any, .any, .any, .any, .any, .any, .any, .any]
def lawTry : List Stmt := match (lawB.drop 12).drop 1 with
  | .Try b _ _ _ _ :: _ => b
  | _ => []
def lawSuite : List Stmt := match (lawB.drop 12).drop 1 with
  | .Try _ (.ExceptHandler _ _ b _ :: _) _ _ _ :: _ => b
  | _ => []
theorem t_leI {X : Cx} {B : Bs} {G : En} {a b : Expr} {i j : Int} {pos : Pos} (ha : EV X B G a (.int i)) (hb : EV X B G b (.int j)) : ET X B G (.Compare a [.LtE] [b] pos) (is (decide (i ≤ j))) := t_cmp (dI fun _ => .bl _) op_le (nomark _) ha hb
theorem law_14 (L : LawD P w K mg base C) (X : LawX P w K mg base C CR CB CT) {cdl : Value} (hr : Room 10 (A.deeper (envOfC "law" (defScope s_law) s.heap.objs.size fl cdl))) (hgd : A.guards = some []) (h12 : L12 cols cks o m odd few) :
    PSs (cx0 P w K mg base n_law "law" s_law fl cdl A outer s H E) ((lawB.drop 12).drop 1) (tL F0 T (gL C ad bp i cols cks o m odd few) { nx := fun G' => GLe G' (gStart ad), rt := Rt }) := by
  have nd := sc_law.nd
  obtain ⟨cok, c3, hks⟩ := id h12.ok
  obtain ⟨m', hm1, hm2, hm3⟩ := few_least cok hks
  have emm : m' = m := hm2.uniq h12.m
  subst emm
  have opt : optP (fewF cols cks).1 = eO m' := by rw [hm1]; rfl
  have pmm := orders_perm (kinds_nodup cols) h12.m.1
  have nnm := added_nn cok hks (ord_okO pmm)
  have lem := added_le cok hks (ord_okO pmm)
  have m0 : 0 ≤ m'.1 := by rw [h12.m.2.1]; exact nnm.1
  have m1 : m'.1 < 1000 := by
    rw [h12.m.2.1]
    omega
  have smM := sm_least cok m0 m1 pmm
  have ol := orders_len_le cok
  have f1 := h12.f1
  have f2 := h12.f2
  have gEnd : GLe (gL C ad bp i cols cks o m' odd few) (gStart ad) := ⟨.inr rfl, .inl rfl, .inl rfl, .inl rfl, .inl rfl, .inl rfl, .inl rfl, .inl rfl, .inl rfl, .inl rfl, .inl rfl, .inl rfl, .inl rfl, .inl rfl, .inl rfl, .inl rfl, .inl rfl, .inl rfl, trivial⟩
  by_cases hc : ((fewF cols cks).2 : Int) ≤ few
  · obtain ⟨f, fd, g, hmF, kpF, kbF, FF⟩ := L.fa1
    refine l_one (ps_try_thru0 (l_of fun B _ => ?_))
    exact q_ifRet (k := false) (t_neSame (u64 hr) (e_callK1 FF hr hmF kpF kbF (ta := bkS C cols cks) (tb := .dat (.int few)) (t := .dat (eO m')) (e_bk 5) (e_dat 12) rfl rfl ⟨cols, cks, few, cok, by omega, hks, hc, rfl, by rw [opt]⟩) (e_dat 10) smM.lay (Nat.le_trans smM.dp (by decide))) (fun h => nomatch h) fun _ => s_nil gEnd
  · obtain ⟨f, fd, g, hmF, kpF, kbF, FF⟩ := X.fa
    have smF := sm_int (i := few) (by omega) (by omega)
    have gEnd2 : GLe ((gL C ad bp i cols cks o m' odd few).set 13 .any) (gStart ad) := gEnd
    refine l_one (PS.weak (ps_try_as (i := 13) (c := .ref CT) (tb := fun W D s H => ∃ B, (∃ F, Good B F H ∧ Sat B F H s (gL C ad bp i cols cks o m' odd few)) ∧ ∀ s' F' H' dd v, Good B F' H' → Sat B F' H' s' (gL C ad bp i cols cks o m' odd few) → F' dd = some (.xd [("most", v)]) → Rp F' v (.int few) → W (.ref CT) (some dd) s' H')
      (ts := fun a cls d D s H => ∃ dd v B F, cls = .ref CT ∧ d = some dd ∧ B.F dd = some (.xd [("most", v)]) ∧ Rp B.F v (.int few) ∧ Good B F H ∧ Sat B F H s ((gL C ad bp i cols cks o m' odd few).set 13 (.adr a)) ∧ ∀ s' F' H', Good B F' H' → Sat B F' H' s' ((gL C ad bp i cols cks o m' odd few).set 13 (.adr a)) → D.nx s' H')
      rfl rfl nd rfl rfl ⟨rfl, by decide, .inl X.gT⟩ LamX.takes0 (fun W pn xe tk _ => ?_) (fun a oe cls d pn hz hf => ?_)) fun D s H ⟨F, g, w, t, q1, q2⟩ => ?_)
    · refine ⟨fun pins s' σ H' D I ⟨B, ⟨F, g, w1⟩, hW⟩ => ?_⟩
      have body : SS ((cx0 P w K mg base n_law "law" s_law fl cdl A outer s H E).tr pn xe) B (gL C ad bp i cols cks o m' odd few) lawTry {} := s_one (s_if (k := true) (P := fun _ => False) (t_cmp2 (Pa := fun _ => False) (Pb := is (.dat (eO m'))) (op_neD (u64 hr)) (nomark _) (e_callK1X FF hr hmF kpF kbF tk (ta := bkS C cols cks) (tb := .dat (.int few)) (t := .dat (.int few)) (e_bk 5) (e_dat 12) rfl rfl ⟨cols, cks, few, cok, by omega, hks, by omega, by omega, rfl, rfl⟩ rfl (fun s F H dd v g w h1 h2 => hW s F H dd v g w h1 h2)) (e_dat 10) (fun t u h => h.elim)) (fun h => h.elim) (fun h => h.elim))
      exact body.run pins s' σ H' D I ⟨F, g, w1, fun _ _ _ _ z => z.elim, fun _ _ _ _ _ _ z => z.elim, fun _ _ _ _ z => z.elim, fun _ _ _ _ z => z.elim⟩
    · refine ⟨fun pins s' σ H' D I ⟨dd, v, B, F, ecls, ed, hx, hv, g, w1, q⟩ => ?_⟩
      subst ecls ed
      have hu := u64 hr
      have sb : SS ((cx0 P w K mg base n_law "law" s_law fl cdl A outer s H E).suite a ((a, oe) :: pn)) B ((gL C ad bp i cols cks o m' odd few).set 13 (.adr a)) lawSuite { nx := fun G' => G' = (gL C ad bp i cols cks o m' odd few).set 13 (.adr a) } := s_one (s_if (k := false) (t_bool (w_or (x := false) (y := false) ((t_leI (EV.eq (e_lenL L.T.len (e_dat 6)) (by rw [List.length_map])) (e_dat 12)).eq (by have := hm3; simp; omega)) fun _ => w_or1 (t_neSame hu (e_repr hgd hu L.T.repr (e_xf 13 X.xT X.nT hz hf hx hv rfl rfl (.inl rfl)) smF) (e_repr hgd hu L.T.repr (e_dat 12) smF) (lay_shown smF.pl) (by simp [PyData.depth])))) (fun h => nomatch h) fun _ => s_nil rfl)
      exact sb.run pins s' σ H' D I ⟨F, g, w1, fun G' s'' F' H'' e g' _ w' => q s'' F' H'' g' (e ▸ w'), fun _ _ _ _ _ _ z => z.elim, fun _ _ _ _ z => z.elim, fun _ _ _ _ z => z.elim⟩
    · exact ⟨bT F H, ⟨F, good_T g, sat_T w⟩, fun s' F' H' dd v g' w' hx hv => ⟨true, X.eT, fun _ a ha => ⟨dd, v, ⟨F', (bT F H).M⟩, F', rfl, rfl, hx, hv, Good.now g', Sat.reF ((w'.push (t := .adr a) rfl fun _ => rfl).set), fun s'' F'' H'' g'' w'' => q1 _ _ F'' H'' gEnd2 (good_0 g.f (Good.step g' g'')) (sat_0 (Sat.unset w'')) (tabs_T g.h t (Good.step g' g''))⟩, fun h => nomatch h⟩⟩
end
end Mk
namespace Mk
open PySem PySem.Spec PyProof.Rows L2
section
variable {P : Program} {w : World} {K : PySem.W.Frag} {mg : Str → Option Value} {base : Heap} {C CR CB CT : Addr}
variable {fl c Pt gF : Addr} {fdF : FuncData} {A : Around} {outer : List Env} {s : Shared} {H : Hp} {E : XK} {F0 : Hp} {ad : Addr} {ns : List Int}
theorem law_body (L : LawD P w K mg base C) (X : LawX P w K mg base C CR CB CT) (TB : LamX.TabB base mg c Pt) (Ff : Fun K "_law_fault" "_law_fault" s_l_fault gF fdF) (hmF : mg "_law_fault" = some (.ref gF)) (hbF : Binds K fdF ["_law_call"] []) (hr : Room 10 (A.deeper (envOfC "law" (defScope s_law) s.heap.objs.size fl (.ref c)))) (hgd : A.guards = some []) (h0 : ∀ b o, F0 b = some o → isTb o = false)
    (h64 : ns.length < 64) (hS : ∀ H', Same F0 H' → SqL K H' ad (ns.map V.int)) :
    PSs (cx0 P w K mg base n_law "law" s_law fl (.ref c) A outer s H E) (defBody s_law) (tL F0 (tabT Pt) (gStart ad) { rt := fun t _ => t = .dat (.bool true) }) := by
  have nd := sc_law.nd
  refine l_cons (Mid := fun G' => GLe G' (gStart ad)) (l_for2 1 (fun _ G' => GLe G' (gStart ad)) nd (GLe.refl _) (fun i G1 hi hG => ?_) (fun _ h => h) L.T.range PassesOwn.never) (fun G' hG => l_le hG (l_of fun B _ => ?_))
  · refine l_le (GLe.set hG) ?_
    refine (l_app (sts := lawB.take 12) (rest := lawB.drop 12) (l_of fun B e => law_12 (ns := ns) L hr hgd hi h64 (B := B) fun H' h => hS H' (e.trans h)) fun G2 ⟨bp, cols, cks, o, m, odd, few, h12, e⟩ => ?_ : PSs _ (lawB.take 12 ++ lawB.drop 12) _)
    rw [e]
    exact law_13 (rest := []) L X TB Ff hmF hbF hr hgd h0 h12 (law_14 L X hr hgd h12)
  · exact q_ret (t := .dat (.bool true)) e_bl rfl
end
end Mk
namespace Mk
open PySem PySem.Spec PyProof.Rows L2
/-- what the law's walk needs of the module -/
structure LawZ (P : Program) (w : World) (K : PySem.W.Frag) (mg : Str → Option Value) (base : Heap) : Prop where
  ex : ∃ C CR CB CT, LawD P w K mg base C ∧ LawX P w K mg base C CR CB CT
  ft : ∃ gF fdF, Fun K "_law_fault" "_law_fault" s_l_fault gF fdF ∧ mg "_law_fault" = some (.ref gF) ∧ Binds K fdF ["_law_call"] []
section
variable {P : Program} {w : World} {K : PySem.W.Frag} {mg : Str → Option Value} {base : Heap} {c Pt fa a : Addr} {s : Shared} {H F0 : Hp} {ns : List Int} {oc dV kV doc pm ct : Value} {an od : Option Addr} {osl : Array (Option Value)}
theorem roomC : Room 11 callerA := ⟨rfl, by decide, by decide⟩
/-- the law, run by the one who asks -/
theorem law_run (Z : LawZ P w K mg base) (TB : LamX.TabB base mg c Pt) (lk : K.lookup fa = some ⟨oc, od, .func (PySem.W.fnOf "law" "law" (defArgs s_law) (defBody s_law) (defScope s_law) dV kV doc pm an (.ref c) ct), osl⟩) (hcd : PySem.W.codeIn K (.ref c) "law" = true)
    (e0 : Env0 P w K mg base callerA [] s H) (hb : BindsTo s (PySem.W.fnOf "law" "law" (defArgs s_law) (defBody s_law) (defScope s_law) dV kV doc pm an (.ref c) ct) ⟨[.ref a], []⟩ ([("_law_script" : Str)].zip [.ref a]))
    (hs : Same F0 H) (h0 : ∀ b o, F0 b = some o → isTb o = false) (h64 : ns.length < 64) (hS : ∀ H', Same F0 H' → SqL K H' a (ns.map V.int)) (hT : H Pt = some (.tbl #[])) :
    codeAny (model P w) callerA (.call (.ref fa) ⟨[.ref a], []⟩) (CR CX0 [] P w H s (fun v _ => v = .bl true) fun _ _ _ => False) s := by
  obtain ⟨⟨C, CR, CB, CT, L, X⟩, gF, fdF, Ff, hmF, hbF⟩ := Z
  refine LamX.run_ofS (k := 10) (vs := [.ref a]) lk hcd sc_law roomC e0 hb (.cons rfl .nil) rfl fun hr => ⟨_, PSs.nox (law_body L X TB Ff hmF hbF hr rfl h0 h64 hS), F0, ⟨Same.refl _, hs, fun b o z => (by cases z), fun b o e n => ?_⟩, ?_, fun p hp => ?_, fun _ _ _ _ z => z.elim, fun v t G' s' F' H' ht g' w' => ?_⟩
  · have n' : F0 b = none := n
    rw [n'] at e
    cases e
  · exact sat_start (vs := [.ref a]) (ts := [.adr a]) 17 ⟨rfl, trivial⟩
  · rw [List.mem_singleton.mp hp]
    exact ⟨#[], hT, trivial, fun pos cv z => by cases z⟩
  · rw [show t = _ from ht] at w'
    have r := w'.topI rfl
    cases r
    rfl
end
end Mk
namespace Mk
open PySem PySem.Spec PyProof.Rows L2
/-! ### the heap at the law's entry: its table of code objects, and the script if the module does not hold it -/
open Classical in
noncomputable def hpL (K : PySem.W.Frag) (a Pt : Addr) (vs : List Value) (ns : List Int) : Hp := fun b =>
  if b = Pt then some (.tbl #[]) else if b = a ∧ K.lookup a = none then some (.frz { cls := .type "list", data := .seq vs.toArray } (.lst (ns.map V.int))) else none
open Classical in
noncomputable def hpF (K : PySem.W.Frag) (a Pt : Addr) (vs : List Value) (ns : List Int) : Hp := fun b =>
  if b = Pt then none else if b = a ∧ K.lookup a = none then some (.frz { cls := .type "list", data := .seq vs.toArray } (.lst (ns.map V.int))) else none
section
variable {K : PySem.W.Frag} {a b Pt : Addr} {vs : List Value} {ns : List Int} {o : HO}
theorem hpL_P : hpL K a Pt vs ns Pt = some (.tbl #[]) := if_pos rfl
theorem hpL_out (h1 : b ≠ Pt) (h2 : b = a → K.lookup a ≠ none) : hpL K a Pt vs ns b = none := (if_neg h1).trans (if_neg fun z => h2 z.1 z.2)
theorem hpL_in (h : hpL K a Pt vs ns b = some o) : (b = Pt ∧ o = .tbl #[]) ∨ (b = a ∧ o = .frz { cls := .type "list", data := .seq vs.toArray } (.lst (ns.map V.int))) := by
  by_cases h1 : b = Pt
  · exact .inl ⟨h1, (Option.some.inj ((if_pos h1).symm.trans h)).symm⟩
  · have h' := (if_neg h1).symm.trans h
    by_cases h2 : b = a ∧ K.lookup a = none
    · exact .inr ⟨h2.1, (Option.some.inj ((if_pos h2).symm.trans h')).symm⟩
    · cases (if_neg h2).symm.trans h'
theorem hpF_same : Same (hpF K a Pt vs ns) (hpL K a Pt vs ns) := fun b o e => by
  by_cases h1 : b = Pt
  · cases (if_pos h1).symm.trans e
  · exact (if_neg h1).trans ((if_neg h1).symm.trans e)
theorem hpF_tb (h : hpF K a Pt vs ns b = some o) : isTb o = false := by
  by_cases h1 : b = Pt
  · cases (if_pos h1).symm.trans h
  · have h' := (if_neg h1).symm.trans h
    by_cases h2 : b = a ∧ K.lookup a = none
    · rw [← Option.some.inj ((if_pos h2).symm.trans h')]
      rfl
    · cases (if_neg h2).symm.trans h'
end
section
variable {P : Program} {w : World} {K : PySem.W.Frag} {mg mb : Str → Option Value} {c Pt fa a : Addr} {s : Shared} {vs : List Value} {ns : List Int} {oc dV kV doc pm ct : Value} {an od : Option Addr} {osl : Array (Option Value)}
/-- the law answers True, and what stood stands -/
theorem law_end (KX : K.In s.heap) (hns : s.heap.Ns mainGlobals mg) (hb : s.heap.Ns builtinsNs mb) (hbb : ∀ x : Str, x ≠ "__name__" → mb x = bootBuiltins x) (hlim : s.heap.NoLimit) (hg : s.gens = #[])
    (hT : s.heap.get? Pt = some { cls := .none, data := .fields #[] }) (nT : K.lookup Pt = none) (hC : PySem.W.CodeHd s.heap c Pt)
    (hbm : ∃ (bm : Addr) (ob : Obj), mg "__builtins__" = some (.ref bm) ∧ bm ≠ builtinsNs ∧ s.heap.get? bm = some ob ∧ ob.cls = .type "module" ∧ ob.dict = some builtinsNs ∧ ob.data = .plain)
    (ha : s.heap.get? a = some { cls := .type "list", data := .seq vs.toArray }) (hi : IntsAre vs ns) (hl : ns.length < 64)
    (Z : ∀ base : Heap, K.In base → base.Ns mainGlobals mg → LawZ P w K mg base) (lk : K.lookup fa = some ⟨oc, od, .func (PySem.W.fnOf "law" "law" (defArgs s_law) (defBody s_law) (defScope s_law) dV kV doc pm an (.ref c) ct), osl⟩) (hcd : PySem.W.codeIn K (.ref c) "law" = true)
    (hbd : BindsTo s (PySem.W.fnOf "law" "law" (defArgs s_law) (defBody s_law) (defScope s_law) dV kV doc pm an (.ref c) ct) ⟨[.ref a], []⟩ ([("_law_script" : Str)].zip [.ref a])) :
    codeAny (model P w) callerA (.call (.ref fa) ⟨[.ref a], []⟩) (fun r s' => r = .ok (.ret (.bool true)) ∧ OldK s.heap s'.heap ∧ s'.os = s.os ∧ AllBare s'.gens) s := by
  have rv := vals_ints hi
  have hl2 : (ns.map V.int).length ≤ sizeLine := by
    rw [List.length_map]
    exact Nat.le_trans (Nat.le_of_lt hl) (by decide)
  -- what is no list and no empty row of fields stands apart
  have apart : ∀ {b : Addr} {o : Obj}, s.heap.get? b = some o → (∀ us n, o.data ≠ .seq us n) → o.data ≠ .fields #[] → b ≠ Pt ∧ b ≠ a := fun {b o} e h1 h2 => ⟨fun z => by
    rw [z, hT] at e
    cases e
    exact h2 rfl, fun z => by
    rw [z, ha] at e
    cases e
    exact h1 _ _ rfl⟩
  have keep : ∀ {b : Addr} {o : Obj}, s.heap.get? b = some o → (∀ us n, o.data ≠ .seq us n) → o.data ≠ .fields #[] → (hidT s.heap (hpL K a Pt vs ns)).get? b = some o := fun {b o} e h1 h2 =>
    hidT_get e (hpL_out (apart e h1 h2).1 fun z => absurd z (apart e h1 h2).2)
  have ns1 : ∀ {b : Addr} {m : Str → Option Value}, s.heap.Ns b m → (hidT s.heap (hpL K a Pt vs ns)).Ns b m := fun {b m} ⟨o, es, ep, e, d, r⟩ =>
    ⟨o, es, ep, keep e (fun us n z => by rw [d] at z; cases z) (fun z => by rw [d] at z; cases z), d, r⟩
  have kin : K.In (hidT s.heap (hpL K a Pt vs ns)) := fun b o e => hidT_get (KX b o e) (hpL_out (fun z => by
    rw [z, nT] at e
    cases e) fun z => by
    rw [z] at e
    rw [e]
    exact fun q => nomatch q)
  have hM : L2.Mod K mg (hidT s.heap (hpL K a Pt vs ns)) := ⟨kin, ns1 hns, ⟨mb, ns1 hb, hbb⟩, let ⟨mc, h1, h2⟩ := hlim; ⟨mc, ns1 h1, h2⟩⟩
  have TB : LamX.TabB (hidT s.heap (hpL K a Pt vs ns)) mg c Pt := by
    refine ⟨?_, ?_, fun z => ?_⟩
    · obtain ⟨o, us, file, tf, flags, tg, inF, text, tt, e1, r1, r2, r3, rr⟩ := id hC
      exact ⟨o, us, file, tf, flags, tg, inF, text, tt, keep e1 (fun us n z => by rw [r2] at z; cases z) (fun z => by
        rw [r2] at z
        cases z
        simp at r3), r1, r2, r3, rr⟩
    · obtain ⟨bm, ob, b1, b2, b3, b4, b5, b6⟩ := hbm
      have n1 : ∀ us n, ob.data ≠ .seq us n := fun us n z => by rw [b6] at z; cases z
      have n2 : ob.data ≠ .fields #[] := fun z => by rw [b6] at z; cases z
      refine ⟨bm, ob, b1, b2, fun q => ?_, (apart b3 n1 n2).1, keep b3 n1 n2, b4, b5, b6⟩
      obtain ⟨o, es, ep, e, d, _⟩ := hns
      rw [q, e] at b3
      cases b3
      rw [d] at b6
      cases b6
    · obtain ⟨o, es, ep, e, d, _⟩ := hns
      rw [z, hT] at e
      cases e
      cases d
  have hok : HOk P w (hpL K a Pt vs ns) s.heap := fun b o e => by
    rcases hpL_in e with ⟨rfl, rfl⟩ | ⟨rfl, rfl⟩
    · exact hT
    · exact ⟨ha, hl2, vs, _, rv, ha⟩
  have e0 : Env0 P w K mg (hidT s.heap (hpL K a Pt vs ns)) callerA [] s (hpL K a Pt vs ns) := ⟨rfl, hM, fun b o e => of_hidT e, Nat.le_of_eq (hidT_size _ _), trivial, fun b z => absurd (show b ∈ ([] : List Addr) from z) (by simp), hok, .of_eq hg⟩
  have hS : ∀ H', Same (hpF K a Pt vs ns) H' → SqL K H' a (ns.map V.int) := fun H' hh => by
    by_cases q : K.lookup a = none
    · refine .inl (.inr ⟨_, hh _ _ ((if_neg fun z => ?_).trans (if_pos ⟨rfl, q⟩))⟩)
      rw [z, hT] at ha
      have z2 : Data.fields #[] = Data.seq vs.toArray _ := congrArg Obj.data (Option.some.inj ha)
      cases z2
    · obtain ⟨o, e⟩ := Option.ne_none_iff_exists'.mp q
      have e' := KX a o e
      rw [ha] at e'
      cases e'
      exact .inr ⟨_, vs.toArray, _, e, rfl, rfl, rfl, by rw [List.size_toArray, ← rv.length]; exact hl2, by simpa using rv⟩
  refine codeAny_mono (law_run (Z _ kin (ns1 hns)) TB lk hcd e0 hbd hpF_same (fun b o e => hpF_tb e) hl hS hpL_P) fun r s' h => ?_
  cases r with
  | error e => exact False.elim h
  | ok fl =>
    cases fl with
    | next => exact False.elim h
    | brk => exact False.elim h
    | cont => exact False.elim h
    | ret u =>
      obtain ⟨v, H', os, bare, un, hok', r', q⟩ := h
      have q' : v = .bl true := q
      subst q'
      obtain rfl : u = Value.bool true := r'
      obtain ⟨more, hm⟩ := un.tbls Pt #[] hpL_P
      have tP : s'.heap.get? Pt = some { cls := .none, data := .fields (#[] ++ more) } := hok' Pt _ hm
      have other : ∀ b o, b ≠ Pt → s.heap.get? b = some o → s'.heap.get? b = some o := fun b o nb e => by
        cases z : hpL K a Pt vs ns b with
        | none => exact un.keep b o e z (fun y => absurd (show b ∈ ([] : List Addr) from y) (by simp)) (by simp)
        | some u =>
          rcases hpL_in z with ⟨y, _⟩ | ⟨y, rfl⟩
          · exact absurd y nb
          · rw [y, ha] at e
            cases e
            exact y ▸ (hok' b _ (un.frzs b _ _ z)).1
      refine ⟨rfl, ⟨fun b o e => ?_, fun b o e => ?_⟩, os, bare⟩
      · by_cases y : b = Pt
        · rw [y] at e ⊢
          rw [hT] at e
          cases e
          exact .inr (.inl ⟨(hC.tab hT).isCodeTable, rfl, #[], more, rfl, by simpa using tP⟩)
        · exact .inl (other b o y e)
      · by_cases y : b = Pt
        · exact ⟨_, y ▸ tP⟩
        · exact ⟨o, other b o y e⟩
end
end Mk
set_option maxHeartbeats 0
namespace Mk
open PySem PySem.Spec PyProof.Rows L2
theorem fun_of {K : PySem.W.Frag} {x q : Str} {st : Stmt} {f : Addr} {fd : FuncData} (F : FunD K x q (defArgs st) (defBody st) (defScope st) [] [] f fd) : Fun K x q st f fd := by
  obtain ⟨oc, od, dV, kV, doc, pm, an, cdv, ct, osl, e, lk, hcd, hD, _⟩ := F.ex
  rcases hD with ⟨_, rfl⟩ | ⟨z, _⟩
  · exact ⟨⟨oc, od, kV, doc, pm, an, cdv, ct, osl, e, lk, hcd⟩, F.kp⟩
  · exact absurd rfl z
theorem kbn_of {K : PySem.W.Frag} {fd : FuncData} {ps ks : List Str} {n : Nat} {g : {α : Type} → List α → List α → List α} (h : ∀ us ws : List Value, us.length = n → ws.length = ks.length → bindArgs fd ⟨us, ks.zip ws⟩ = pure (ps.zip (g us ws)))
    (hr : ∀ {vs : List V} {us : List Value} {zs : List V} {ws : List Value}, Vals vs us → Vals zs ws → Vals (g vs zs) (g us ws)) : KBn K fd ps n ks (fun us ws => g us ws) (fun vs zs => g vs zs) := ⟨fun s us ws _ h1 h2 => .of_eq (h us ws h1 h2), hr⟩
theorem vals_rev {vs : List V} {us : List Value} (h : Vals vs us) : Vals vs.reverse us.reverse := by
  induction h with
  | nil => exact .nil
  | cons a b ih =>
    rw [List.reverse_cons, List.reverse_cons]
    exact Vals.append ih (.cons a .nil)
section
variable {w : World} {K : PySem.W.Frag} {mg : Str → Option Value} {base h : Heap}
theorem bi_of (KX : K.In base) (G : base.Ns mainGlobals mg) (c : SaysM h K) : Bi K mg := ⟨He.free_ok KX G (c.d.fact 51 (f := .free "isinstance") rfl), He.free_ok KX G (c.d.fact 52 (f := .free "int") rfl), He.free_ok KX G (c.d.fact 53 (f := .free "bool") rfl), He.free_ok KX G (c.d.fact 54 (f := .free "list") rfl), He.free_ok KX G (c.d.fact 55 (f := .free "tuple") rfl), He.free_ok KX G (c.d.fact 56 (f := .free "len") rfl), He.free_ok KX G (c.d.fact 57 (f := .free "all") rfl), He.free_ok KX G (c.d.fact 58 (f := .free "sum") rfl), He.free_ok KX G (c.d.fact 59 (f := .free "range") rfl), He.free_ok KX G (c.d.fact 60 (f := .free "sorted") rfl), He.free_ok KX G (c.d.fact 61 (f := .free "zip") rfl), He.free_ok KX G (c.d.fact 62 (f := .free "enumerate") rfl), He.free_ok KX G (c.d.fact 63 (f := .free "reversed") rfl), He.free_ok KX G (c.d.fact 64 (f := .free "min") rfl), He.free_ok KX G (c.d.fact 65 (f := .free "repr") rfl), He.free_ok KX G (c.d.fact 66 (f := .free "abs") rfl), He.free_ok KX G (c.d.fact 67 (f := .free "set") rfl)⟩
theorem nu_of (KX : K.In base) (G : base.Ns mainGlobals mg) (c : SaysM h K) : Nu mg := ⟨He.int_ok KX G (c.d.fact 68 (f := .int "MOST_COLUMNS" 4) rfl), He.int_ok KX G (c.d.fact 69 (f := .int "MOST_VALUES" 4) rfl), He.int_ok KX G (c.d.fact 70 (f := .int "MOST_CHECKS" 6) rfl), He.int_ok KX G (c.d.fact 71 (f := .int "MOST_PLACES" 3) rfl)⟩
theorem bc_of (c : SaysM h K) : BkC K (He.ga K "Book") := ⟨He.cls_ok (c.d.fact 72 (f := .cls "Book") rfl), He.noat_ok (c.d.fact 73 (f := .noat "Book" "columns") rfl), He.noat_ok (c.d.fact 74 (f := .noat "Book" "checks") rfl)⟩
theorem ex_of (c : SaysM h K) : ((SupF P0 K (He.ga K "Refused") (He.ma K (He.ga K "Refused") "__init__") "at" ∧ SupF P0 K (He.ga K "TooGreat") (He.ma K (He.ga K "TooGreat") "__init__") "most") ∧ (XfC K (He.ga K "Refused") ∧ XfC K (He.ga K "TooGreat")) ∧ PySem.W.isIn K (.ref (He.ga K "Refused")) (He.ga K "BatchError") = true) ∧
    (PySem.W.findIn K (.ref (He.ga K "Book")) "__ne__" = some (some (.builtin "object.__ne__")) ∧ PySem.W.mroIn K (He.ga K "Book") (.type "object") = some true) ∧ BkI K (He.ga K "Book") := by
  obtain ⟨h1, g1⟩ := He.ba c.ex
  obtain ⟨h2, h3⟩ := He.ba h1
  obtain ⟨h4, g2⟩ := He.ba g1
  obtain ⟨h5, h6⟩ := He.ba h4
  obtain ⟨h7, g3⟩ := He.ba g2
  obtain ⟨h8, g4⟩ := He.ba g3
  obtain ⟨h9, h10⟩ := He.ba h8
  obtain ⟨h11, g5⟩ := He.ba g4
  obtain ⟨h12, h13⟩ := He.ba g5
  refine ⟨⟨⟨sup_refused c.iR h2, sup_great c.iT h3⟩, ⟨xfB_ok h5, xfB_ok h6⟩, h7⟩, ⟨He.eqO_ok h9, of_decide_eq_true h10⟩, fun H a dx fs e => .ins e (bc_of c).cls (He.eqO_ok h11) (He.eqO_ok h12) (of_decide_eq_true h13) (of_decide_eq_true h10), ?_⟩
  unfold PySem.W.kitOne
  rw [if_pos (by simp)]
theorem law_z (KX : K.In base) (G : base.Ns mainGlobals mg) (c : SaysM h K) : LawZ P0 w K mg base := by
  have T := bi_of KX G c
  have U := nu_of KX G c
  have bc := bc_of c
  obtain ⟨⟨⟨SR, ST⟩, ⟨xR, xT⟩, isB⟩, ⟨hne, hmr⟩, bi⟩ := ex_of c
  have mBk : mg "Book" = some (.ref (He.ga K "Book")) := He.glo_ok KX G (c.d.fact 50 (f := .glo "Book") rfl)
  have mRf : mg "Refused" = some (.ref (He.ga K "Refused")) := He.glo_ok KX G (c.d.fact 48 (f := .glo "Refused") rfl)
  have mTg : mg "TooGreat" = some (.ref (He.ga K "TooGreat")) := He.glo_ok KX G (c.d.fact 49 (f := .glo "TooGreat") rfl)
  have mBa : mg "BatchError" = some (.ref (He.ga K "BatchError")) := He.glo_ok KX G (c.d.fact 47 (f := .glo "BatchError") rfl)
  have ME := He.meth_ok (c.d.fact 75 (f := .meth "Book" "__eq__") rfl)
  have MK := He.mkr_ok (c.d.fact 76 (f := .mkr "Book") rfl)
  obtain ⟨fd_is_integer, D_is_integer⟩ : ∃ fd, FunD K "is_integer" "is_integer" (defArgs s_is_integer) (defBody s_is_integer) (defScope s_is_integer) [] [] (He.ga K "is_integer") fd := c.d.def_ 0 (d := h_is_integer) rfl
  have m_is_integer : mg "is_integer" = some (.ref (He.ga K "is_integer")) := He.glo_ok KX G (c.d.fact 0 (f := .glo "is_integer") rfl)
  have b_is_integer : Binds K fd_is_integer ["value"] [] := D_is_integer.bindsN (fun _ _ _ _ _ _ us hl => match us, hl with | [_], _ => rfl)
  have C_is_integer := ca_is_integer (P := P0) (w := w) (base := base) T (fun_of D_is_integer) m_is_integer b_is_integer
  obtain ⟨fd_is_number, D_is_number⟩ : ∃ fd, FunD K "is_number" "is_number" (defArgs s_is_number) (defBody s_is_number) (defScope s_is_number) [] [] (He.ga K "is_number") fd := c.d.def_ 1 (d := h_is_number) rfl
  have m_is_number : mg "is_number" = some (.ref (He.ga K "is_number")) := He.glo_ok KX G (c.d.fact 1 (f := .glo "is_number") rfl)
  have b_is_number : Binds K fd_is_number ["value"] [] := D_is_number.bindsN (fun _ _ _ _ _ _ us hl => match us, hl with | [_], _ => rfl)
  have C_is_number := ca_is_number (P := P0) (w := w) (base := base)  (fun_of D_is_number) m_is_number b_is_number C_is_integer
  obtain ⟨fd_is_below, D_is_below⟩ : ∃ fd, FunD K "is_below" "is_below" (defArgs s_is_below) (defBody s_is_below) (defScope s_is_below) [] [] (He.ga K "is_below") fd := c.d.def_ 2 (d := h_is_below) rfl
  have m_is_below : mg "is_below" = some (.ref (He.ga K "is_below")) := He.glo_ok KX G (c.d.fact 2 (f := .glo "is_below") rfl)
  have b_is_below : Binds K fd_is_below ["value", "most"] [] := D_is_below.bindsN (fun _ _ _ _ _ _ us hl => match us, hl with | [_, _], _ => rfl)
  have C_is_below := ca_is_below (P := P0) (w := w) (base := base)  (fun_of D_is_below) m_is_below b_is_below C_is_number
  obtain ⟨fd_is_within, D_is_within⟩ : ∃ fd, FunD K "is_within" "is_within" (defArgs s_is_within) (defBody s_is_within) (defScope s_is_within) [] [] (He.ga K "is_within") fd := c.d.def_ 3 (d := h_is_within) rfl
  have m_is_within : mg "is_within" = some (.ref (He.ga K "is_within")) := He.glo_ok KX G (c.d.fact 3 (f := .glo "is_within") rfl)
  have b_is_within : Binds K fd_is_within ["value", "least", "most"] [] := D_is_within.bindsN (fun _ _ _ _ _ _ us hl => match us, hl with | [_, _, _], _ => rfl)
  have C_is_within := ca_is_within (P := P0) (w := w) (base := base)  (fun_of D_is_within) m_is_within b_is_within C_is_integer
  obtain ⟨fd_is_sequence, D_is_sequence⟩ : ∃ fd, FunD K "is_sequence" "is_sequence" (defArgs s_is_sequence) (defBody s_is_sequence) (defScope s_is_sequence) [] [] (He.ga K "is_sequence") fd := c.d.def_ 4 (d := h_is_sequence) rfl
  have m_is_sequence : mg "is_sequence" = some (.ref (He.ga K "is_sequence")) := He.glo_ok KX G (c.d.fact 4 (f := .glo "is_sequence") rfl)
  have b_is_sequence : Binds K fd_is_sequence ["value"] [] := D_is_sequence.bindsN (fun _ _ _ _ _ _ us hl => match us, hl with | [_], _ => rfl)
  have C_is_sequence := ca_is_sequence (P := P0) (w := w) (base := base) T (fun_of D_is_sequence) m_is_sequence b_is_sequence
  obtain ⟨fd_check_columns, D_check_columns⟩ : ∃ fd, FunD K "check_columns" "check_columns" (defArgs s_check_columns) (defBody s_check_columns) (defScope s_check_columns) [] [] (He.ga K "check_columns") fd := c.d.def_ 5 (d := h_check_columns) rfl
  have m_check_columns : mg "check_columns" = some (.ref (He.ga K "check_columns")) := He.glo_ok KX G (c.d.fact 5 (f := .glo "check_columns") rfl)
  have b_check_columns : Binds K fd_check_columns ["value"] [] := D_check_columns.bindsN (fun _ _ _ _ _ _ us hl => match us, hl with | [_], _ => rfl)
  have C_check_columns := ca_check_columns (P := P0) (w := w) (base := base) T U (fun_of D_check_columns) m_check_columns b_check_columns C_is_sequence C_is_within
  obtain ⟨fd_is_values, D_is_values⟩ : ∃ fd, FunD K "is_values" "is_values" (defArgs s_is_values) (defBody s_is_values) (defScope s_is_values) [] [] (He.ga K "is_values") fd := c.d.def_ 6 (d := h_is_values) rfl
  have m_is_values : mg "is_values" = some (.ref (He.ga K "is_values")) := He.glo_ok KX G (c.d.fact 6 (f := .glo "is_values") rfl)
  have b_is_values : Binds K fd_is_values ["value", "many"] [] := D_is_values.bindsN (fun _ _ _ _ _ _ us hl => match us, hl with | [_, _], _ => rfl)
  have C_is_values := ca_is_values (P := P0) (w := w) (base := base) T (fun_of D_is_values) m_is_values b_is_values C_is_sequence C_is_below
  obtain ⟨fd_is_check, D_is_check⟩ : ∃ fd, FunD K "is_check" "is_check" (defArgs s_is_check) (defBody s_is_check) (defScope s_is_check) [] [] (He.ga K "is_check") fd := c.d.def_ 7 (d := h_is_check) rfl
  have m_is_check : mg "is_check" = some (.ref (He.ga K "is_check")) := He.glo_ok KX G (c.d.fact 7 (f := .glo "is_check") rfl)
  have b_is_check : Binds K fd_is_check ["columns", "value"] [] := D_is_check.bindsN (fun _ _ _ _ _ _ us hl => match us, hl with | [_, _], _ => rfl)
  have C_is_check := ca_is_check (P := P0) (w := w) (base := base) T U (fun_of D_is_check) m_is_check b_is_check C_is_sequence C_is_below C_is_values
  obtain ⟨fd_told_check, D_told_check⟩ : ∃ fd, FunD K "told_check" "told_check" (defArgs s_told_check) (defBody s_told_check) (defScope s_told_check) [] [] (He.ga K "told_check") fd := c.d.def_ 8 (d := h_told_check) rfl
  have m_told_check : mg "told_check" = some (.ref (He.ga K "told_check")) := He.glo_ok KX G (c.d.fact 8 (f := .glo "told_check") rfl)
  have b_told_check : Binds K fd_told_check ["value"] [] := D_told_check.bindsN (fun _ _ _ _ _ _ us hl => match us, hl with | [_], _ => rfl)
  have C_told_check := ca_told_check (P := P0) (w := w) (base := base) T (fun_of D_told_check) m_told_check b_told_check
  obtain ⟨fd_Book_init, D_Book_init⟩ : ∃ fd, FunD K "__init__" "Book.__init__" (defArgs s_Book_init) (defBody s_Book_init) (defScope s_Book_init) [.ref (He.dflAt ("Book", some "__init__") 0 K)] [] (He.ma K (He.ga K "Book") "__init__") fd := c.d.def_ 9 (d := h_Book_init) rfl
  obtain ⟨ds_Book, vd_Book, b_Book0⟩ := D_Book_init.binds1 (ps := ["self", "columns", "checks"]) 3 1 (List.cons_ne_nil _ _) rfl (fun _ _ _ _ _ _ _ us its hl hi => match us, its, hl, hi with | [_, _, _], [_], _, _ => ⟨_, rfl, rfl⟩)
  have b_Book_init : Binds K fd_Book_init ["self", "columns", "checks"] [] := by
    cases vd_Book
    exact b_Book0
  have C_Book : CaO P0 w K mg base 6 "Book" (He.ga K "Book") c_Book := ca_Book T U bc D_Book_init mBk MK b_Book_init C_check_columns C_is_sequence C_is_check C_told_check
  obtain ⟨fd_Book_eq, D_Book_eq⟩ : ∃ fd, FunD K "__eq__" "Book.__eq__" (defArgs s_Book_eq) (defBody s_Book_eq) (defScope s_Book_eq) [] [] (He.ma K (He.ga K "Book") "__eq__") fd := c.d.def_ 10 (d := h_Book_eq) rfl
  have b_Book_eq : Binds K fd_Book_eq ["self", "other"] [] := D_Book_eq.bindsN (fun _ _ _ _ _ _ us hl => match us, hl with | [_, _], _ => rfl)
  have C_BookEq := ca_BookEq (P := P0) (w := w) (base := base) T bc bi (fun_of D_Book_eq) mBk
  obtain ⟨fd_kinds_of, D_kinds_of⟩ : ∃ fd, FunD K "kinds_of" "kinds_of" (defArgs s_kinds_of) (defBody s_kinds_of) (defScope s_kinds_of) [] [] (He.ga K "kinds_of") fd := c.d.def_ 11 (d := h_kinds_of) rfl
  have m_kinds_of : mg "kinds_of" = some (.ref (He.ga K "kinds_of")) := He.glo_ok KX G (c.d.fact 9 (f := .glo "kinds_of") rfl)
  have b_kinds_of : Binds K fd_kinds_of ["book"] [] := D_kinds_of.bindsN (fun _ _ _ _ _ _ us hl => match us, hl with | [_], _ => rfl)
  have C_kinds_of := ca_kinds_of (P := P0) (w := w) (base := base) T bc (fun_of D_kinds_of) m_kinds_of b_kinds_of
  obtain ⟨fd_lots_set, D_lots_set⟩ : ∃ fd, FunD K "lots_set" "lots_set" (defArgs s_lots_set) (defBody s_lots_set) (defScope s_lots_set) [] [] (He.ga K "lots_set") fd := c.d.def_ 12 (d := h_lots_set) rfl
  have m_lots_set : mg "lots_set" = some (.ref (He.ga K "lots_set")) := He.glo_ok KX G (c.d.fact 10 (f := .glo "lots_set") rfl)
  have b_lots_set : Binds K fd_lots_set ["places"] [] := D_lots_set.bindsN (fun _ _ _ _ _ _ us hl => match us, hl with | [_], _ => rfl)
  have C_lots_set := ca_lots_set (P := P0) (w := w) (base := base) T (fun_of D_lots_set) m_lots_set b_lots_set
  obtain ⟨fd_row_set, D_row_set⟩ : ∃ fd, FunD K "row_set" "row_set" (defArgs s_row_set) (defBody s_row_set) (defScope s_row_set) [] [] (He.ga K "row_set") fd := c.d.def_ 13 (d := h_row_set) rfl
  have m_row_set : mg "row_set" = some (.ref (He.ga K "row_set")) := He.glo_ok KX G (c.d.fact 11 (f := .glo "row_set") rfl)
  have b_row_set : Binds K fd_row_set ["one", "other", "places"] [] := D_row_set.bindsN (fun _ _ _ _ _ _ us hl => match us, hl with | [_, _, _], _ => rfl)
  have C_row_set := ca_row_set (P := P0) (w := w) (base := base) T (fun_of D_row_set) m_row_set b_row_set
  obtain ⟨fd_places_of, D_places_of⟩ : ∃ fd, FunD K "places_of" "places_of" (defArgs s_places_of) (defBody s_places_of) (defScope s_places_of) [] [] (He.ga K "places_of") fd := c.d.def_ 14 (d := h_places_of) rfl
  have m_places_of : mg "places_of" = some (.ref (He.ga K "places_of")) := He.glo_ok KX G (c.d.fact 12 (f := .glo "places_of") rfl)
  have b_places_of : Binds K fd_places_of ["places", "one", "other", "kind"] [] := D_places_of.bindsN (fun _ _ _ _ _ _ us hl => match us, hl with | [_, _, _, _], _ => rfl)
  have C_places_of := ca_places_of (P := P0) (w := w) (base := base) T (fun_of D_places_of) m_places_of b_places_of
  obtain ⟨fd_barred_lots, D_barred_lots⟩ : ∃ fd, FunD K "barred_lots" "barred_lots" (defArgs s_barred_lots) (defBody s_barred_lots) (defScope s_barred_lots) [] [] (He.ga K "barred_lots") fd := c.d.def_ 15 (d := h_barred_lots) rfl
  have m_barred_lots : mg "barred_lots" = some (.ref (He.ga K "barred_lots")) := He.glo_ok KX G (c.d.fact 13 (f := .glo "barred_lots") rfl)
  have b_barred_lots : Binds K fd_barred_lots ["book", "check", "one", "other", "kind"] [] := D_barred_lots.bindsN (fun _ _ _ _ _ _ us hl => match us, hl with | [_, _, _, _, _], _ => rfl)
  have C_barred_lots := ca_barred_lots (P := P0) (w := w) (base := base) T bc (fun_of D_barred_lots) m_barred_lots b_barred_lots C_places_of C_lots_set C_row_set
  obtain ⟨fd_unlike_pairs, D_unlike_pairs⟩ : ∃ fd, FunD K "unlike_pairs" "unlike_pairs" (defArgs s_unlike_pairs) (defBody s_unlike_pairs) (defScope s_unlike_pairs) [] [] (He.ga K "unlike_pairs") fd := c.d.def_ 16 (d := h_unlike_pairs) rfl
  have m_unlike_pairs : mg "unlike_pairs" = some (.ref (He.ga K "unlike_pairs")) := He.glo_ok KX G (c.d.fact 14 (f := .glo "unlike_pairs") rfl)
  have b_unlike_pairs : Binds K fd_unlike_pairs ["book", "check", "kinds"] [] := D_unlike_pairs.bindsN (fun _ _ _ _ _ _ us hl => match us, hl with | [_, _, _], _ => rfl)
  have C_unlike_pairs := ca_unlike_pairs (P := P0) (w := w) (base := base) T bc (fun_of D_unlike_pairs) m_unlike_pairs b_unlike_pairs
  obtain ⟨fd_all_unlike, D_all_unlike⟩ : ∃ fd, FunD K "all_unlike" "all_unlike" (defArgs s_all_unlike) (defBody s_all_unlike) (defScope s_all_unlike) [] [] (He.ga K "all_unlike") fd := c.d.def_ 17 (d := h_all_unlike) rfl
  have m_all_unlike : mg "all_unlike" = some (.ref (He.ga K "all_unlike")) := He.glo_ok KX G (c.d.fact 15 (f := .glo "all_unlike") rfl)
  have b_all_unlike : Binds K fd_all_unlike ["book", "kinds"] [] := D_all_unlike.bindsN (fun _ _ _ _ _ _ us hl => match us, hl with | [_, _], _ => rfl)
  have C_all_unlike := ca_all_unlike (P := P0) (w := w) (base := base) T bc (fun_of D_all_unlike) m_all_unlike b_all_unlike C_unlike_pairs
  obtain ⟨fd_first_bar, D_first_bar⟩ : ∃ fd, FunD K "first_bar" "first_bar" (defArgs s_first_bar) (defBody s_first_bar) (defScope s_first_bar) [] [] (He.ga K "first_bar") fd := c.d.def_ 18 (d := h_first_bar) rfl
  have m_first_bar : mg "first_bar" = some (.ref (He.ga K "first_bar")) := He.glo_ok KX G (c.d.fact 16 (f := .glo "first_bar") rfl)
  have b_first_bar : Binds K fd_first_bar ["book", "kind", "pairs"] [] := D_first_bar.bindsN (fun _ _ _ _ _ _ us hl => match us, hl with | [_, _, _], _ => rfl)
  have C_first_bar := ca_first_bar (P := P0) (w := w) (base := base) T (fun_of D_first_bar) m_first_bar b_first_bar C_barred_lots
  obtain ⟨fd_is_number_row, D_is_number_row⟩ : ∃ fd, FunD K "is_number_row" "is_number_row" (defArgs s_is_number_row) (defBody s_is_number_row) (defScope s_is_number_row) [] [] (He.ga K "is_number_row") fd := c.d.def_ 19 (d := h_is_number_row) rfl
  have m_is_number_row : mg "is_number_row" = some (.ref (He.ga K "is_number_row")) := He.glo_ok KX G (c.d.fact 17 (f := .glo "is_number_row") rfl)
  have b_is_number_row : Binds K fd_is_number_row ["value", "bounds"] [] := D_is_number_row.bindsN (fun _ _ _ _ _ _ us hl => match us, hl with | [_, _], _ => rfl)
  have C_is_number_row := ca_is_number_row (P := P0) (w := w) (base := base) T (fun_of D_is_number_row) m_is_number_row b_is_number_row C_is_sequence C_is_below
  obtain ⟨fd_tuple_of, D_tuple_of⟩ : ∃ fd, FunD K "tuple_of" "tuple_of" (defArgs s_tuple_of) (defBody s_tuple_of) (defScope s_tuple_of) [] [] (He.ga K "tuple_of") fd := c.d.def_ 20 (d := h_tuple_of) rfl
  have m_tuple_of : mg "tuple_of" = some (.ref (He.ga K "tuple_of")) := He.glo_ok KX G (c.d.fact 18 (f := .glo "tuple_of") rfl)
  have b_tuple_of : Binds K fd_tuple_of ["value"] [] := D_tuple_of.bindsN (fun _ _ _ _ _ _ us hl => match us, hl with | [_], _ => rfl)
  have C_tuple_of := ca_tuple_of (P := P0) (w := w) (base := base) T (fun_of D_tuple_of) m_tuple_of b_tuple_of C_is_number_row
  obtain ⟨fd_order_of, D_order_of⟩ : ∃ fd, FunD K "order_of" "order_of" (defArgs s_order_of) (defBody s_order_of) (defScope s_order_of) [] [] (He.ga K "order_of") fd := c.d.def_ 21 (d := h_order_of) rfl
  have m_order_of : mg "order_of" = some (.ref (He.ga K "order_of")) := He.glo_ok KX G (c.d.fact 19 (f := .glo "order_of") rfl)
  have b_order_of : Binds K fd_order_of ["book", "value"] [] := D_order_of.bindsN (fun _ _ _ _ _ _ us hl => match us, hl with | [_, _], _ => rfl)
  have C_order_of := ca_order_of (P := P0) (w := w) (base := base) T (fun_of D_order_of) m_order_of b_order_of C_is_sequence C_kinds_of C_tuple_of
  obtain ⟨fd_check_order, D_check_order⟩ : ∃ fd, FunD K "check_order" "check_order" (defArgs s_check_order) (defBody s_check_order) (defScope s_check_order) [] [] (He.ga K "check_order") fd := c.d.def_ 22 (d := h_check_order) rfl
  have m_check_order : mg "check_order" = some (.ref (He.ga K "check_order")) := He.glo_ok KX G (c.d.fact 20 (f := .glo "check_order") rfl)
  have b_check_order : Binds K fd_check_order ["book", "value"] [] := D_check_order.bindsN (fun _ _ _ _ _ _ us hl => match us, hl with | [_, _], _ => rfl)
  have C_check_order := ca_check_order (P := P0) (w := w) (base := base)  (fun_of D_check_order) m_check_order b_check_order C_order_of
  have X_check_order := cx_check_order (P := P0) (w := w) (base := base) SR mRf (fun_of D_check_order) m_check_order b_check_order C_order_of
  obtain ⟨fd_is_ranking, D_is_ranking⟩ : ∃ fd, FunD K "is_ranking" "is_ranking" (defArgs s_is_ranking) (defBody s_is_ranking) (defScope s_is_ranking) [] [] (He.ga K "is_ranking") fd := c.d.def_ 23 (d := h_is_ranking) rfl
  have m_is_ranking : mg "is_ranking" = some (.ref (He.ga K "is_ranking")) := He.glo_ok KX G (c.d.fact 21 (f := .glo "is_ranking") rfl)
  have b_is_ranking : Binds K fd_is_ranking ["book", "value"] [] := D_is_ranking.bindsN (fun _ _ _ _ _ _ us hl => match us, hl with | [_, _], _ => rfl)
  have C_is_ranking := ca_is_ranking (P := P0) (w := w) (base := base) T (fun_of D_is_ranking) m_is_ranking b_is_ranking C_order_of C_first_bar C_all_unlike
  obtain ⟨fd_stages, D_stages⟩ : ∃ fd, FunD K "stages" "stages" (defArgs s_stages) (defBody s_stages) (defScope s_stages) [] [] (He.ga K "stages") fd := c.d.def_ 24 (d := h_stages) rfl
  have m_stages : mg "stages" = some (.ref (He.ga K "stages")) := He.glo_ok KX G (c.d.fact 22 (f := .glo "stages") rfl)
  have b_stages : Binds K fd_stages ["columns", "one", "other", "ranking"] [] := D_stages.bindsN (fun _ _ _ _ _ _ us hl => match us, hl with | [_, _, _, _], _ => rfl)
  have C_stages := ca_stages (P := P0) (w := w) (base := base) T (fun_of D_stages) m_stages b_stages C_places_of C_lots_set C_row_set
  obtain ⟨fd_grown, D_grown⟩ : ∃ fd, FunD K "grown" "grown" (defArgs s_grown) (defBody s_grown) (defScope s_grown) [] [] (He.ga K "grown") fd := c.d.def_ 25 (d := h_grown) rfl
  have m_grown : mg "grown" = some (.ref (He.ga K "grown")) := He.glo_ok KX G (c.d.fact 23 (f := .glo "grown") rfl)
  have b_grown : Binds K fd_grown ["columns", "rows", "ranking"] [] := D_grown.bindsN (fun _ _ _ _ _ _ us hl => match us, hl with | [_, _, _], _ => rfl)
  have C_grown := ca_grown (P := P0) (w := w) (base := base) T (fun_of D_grown) m_grown b_grown C_stages
  obtain ⟨fd_hull_book, D_hull_book⟩ : ∃ fd, FunD K "hull_book" "hull_book" (defArgs s_hull_book) (defBody s_hull_book) (defScope s_hull_book) [] [] (He.ga K "hull_book") fd := c.d.def_ 26 (d := h_hull_book) rfl
  have m_hull_book : mg "hull_book" = some (.ref (He.ga K "hull_book")) := He.glo_ok KX G (c.d.fact 24 (f := .glo "hull_book") rfl)
  have b_hull_book : Binds K fd_hull_book ["book", "ranking"] [] := D_hull_book.bindsN (fun _ _ _ _ _ _ us hl => match us, hl with | [_, _], _ => rfl)
  have C_hull_book := ca_hull_book (P := P0) (w := w) (base := base) bc (fun_of D_hull_book) m_hull_book b_hull_book C_check_order C_grown C_Book
  have X_hull_book := cx_hull_book (P := P0) (w := w) (base := base) (fun_of D_hull_book) m_hull_book b_hull_book X_check_order
  have N_hull_book := fn_hull_book (P := P0) (w := w) (base := base) bc (fun_of D_hull_book) C_check_order C_grown C_Book
  obtain ⟨fd_added_by, D_added_by⟩ : ∃ fd, FunD K "added_by" "added_by" (defArgs s_added_by) (defBody s_added_by) (defScope s_added_by) [] [] (He.ga K "added_by") fd := c.d.def_ 27 (d := h_added_by) rfl
  have m_added_by : mg "added_by" = some (.ref (He.ga K "added_by")) := He.glo_ok KX G (c.d.fact 25 (f := .glo "added_by") rfl)
  have b_added_by : Binds K fd_added_by ["book", "order"] [] := D_added_by.bindsN (fun _ _ _ _ _ _ us hl => match us, hl with | [_, _], _ => rfl)
  have C_added_by := ca_added_by (P := P0) (w := w) (base := base) T bc (fun_of D_added_by) m_added_by b_added_by C_grown
  obtain ⟨fd_fewest_added, D_fewest_added⟩ : ∃ fd, FunD K "fewest_added" "fewest_added" (defArgs s_fewest_added) (defBody s_fewest_added) (defScope s_fewest_added) [] [] (He.ga K "fewest_added") fd := c.d.def_ 28 (d := h_fewest_added) rfl
  have m_fewest_added : mg "fewest_added" = some (.ref (He.ga K "fewest_added")) := He.glo_ok KX G (c.d.fact 26 (f := .glo "fewest_added") rfl)
  have C_few := fn_fewest (P := P0) (w := w) (base := base) T bc (fun_of D_fewest_added) C_kinds_of C_added_by
  have X_few := fnx_fewest (w := w) (base := base) ST mTg T bc (fun_of D_fewest_added) C_kinds_of C_added_by
  obtain ⟨fd_l_box, D_l_box⟩ : ∃ fd, FunD K "_law_box" "_law_box" (defArgs s_l_box) (defBody s_l_box) (defScope s_l_box) [] [] (He.ga K "_law_box") fd := c.d.def_ 29 (d := h_l_box) rfl
  have m_l_box : mg "_law_box" = some (.ref (He.ga K "_law_box")) := He.glo_ok KX G (c.d.fact 27 (f := .glo "_law_box") rfl)
  have b_l_box : Binds K fd_l_box ["_law_script", "_law_k"] [] := D_l_box.bindsN (fun _ _ _ _ _ _ us hl => match us, hl with | [_, _], _ => rfl)
  have C_l_box := ca_l_boxS (P := P0) (w := w) (base := base) T (fun_of D_l_box) m_l_box b_l_box
  obtain ⟨fd_l_take, D_l_take⟩ : ∃ fd, FunD K "_law_take" "_law_take" (defArgs s_l_take) (defBody s_l_take) (defScope s_l_take) [] [] (He.ga K "_law_take") fd := c.d.def_ 30 (d := h_l_take) rfl
  have m_l_take : mg "_law_take" = some (.ref (He.ga K "_law_take")) := He.glo_ok KX G (c.d.fact 28 (f := .glo "_law_take") rfl)
  have b_l_take : Binds K fd_l_take ["_law_box_here", "_law_many"] [] := D_l_take.bindsN (fun _ _ _ _ _ _ us hl => match us, hl with | [_, _], _ => rfl)
  have C_l_take := ca_l_take (P := P0) (w := w) (base := base) T (fun_of D_l_take) m_l_take b_l_take
  obtain ⟨fd_l_pick, D_l_pick⟩ : ∃ fd, FunD K "_law_pick" "_law_pick" (defArgs s_l_pick) (defBody s_l_pick) (defScope s_l_pick) [] [] (He.ga K "_law_pick") fd := c.d.def_ 31 (d := h_l_pick) rfl
  have m_l_pick : mg "_law_pick" = some (.ref (He.ga K "_law_pick")) := He.glo_ok KX G (c.d.fact 29 (f := .glo "_law_pick") rfl)
  have b_l_pick : Binds K fd_l_pick ["_law_box_here", "_law_some"] [] := D_l_pick.bindsN (fun _ _ _ _ _ _ us hl => match us, hl with | [_, _], _ => rfl)
  have C_l_pick := ca_l_pick (P := P0) (w := w) (base := base) T (fun_of D_l_pick) m_l_pick b_l_pick C_l_take
  obtain ⟨fd_l_lots, D_l_lots⟩ : ∃ fd, FunD K "_law_lots" "_law_lots" (defArgs s_l_lots) (defBody s_l_lots) (defScope s_l_lots) [] [] (He.ga K "_law_lots") fd := c.d.def_ 32 (d := h_l_lots) rfl
  have m_l_lots : mg "_law_lots" = some (.ref (He.ga K "_law_lots")) := He.glo_ok KX G (c.d.fact 30 (f := .glo "_law_lots") rfl)
  have b_l_lots : Binds K fd_l_lots ["_law_places"] [] := D_l_lots.bindsN (fun _ _ _ _ _ _ us hl => match us, hl with | [_], _ => rfl)
  have C_l_lots := ca_l_lots (P := P0) (w := w) (base := base) T (fun_of D_l_lots) m_l_lots b_l_lots
  obtain ⟨fd_l_set, D_l_set⟩ : ∃ fd, FunD K "_law_set" "_law_set" (defArgs s_l_set) (defBody s_l_set) (defScope s_l_set) [] [] (He.ga K "_law_set") fd := c.d.def_ 33 (d := h_l_set) rfl
  have m_l_set : mg "_law_set" = some (.ref (He.ga K "_law_set")) := He.glo_ok KX G (c.d.fact 31 (f := .glo "_law_set") rfl)
  have b_l_set : Binds K fd_l_set ["_law_one", "_law_other", "_law_lot"] [] := D_l_set.bindsN (fun _ _ _ _ _ _ us hl => match us, hl with | [_, _, _], _ => rfl)
  have C_l_set := ca_l_set (P := P0) (w := w) (base := base) T (fun_of D_l_set) m_l_set b_l_set
  obtain ⟨fd_l_kinds, D_l_kinds⟩ : ∃ fd, FunD K "_law_kinds" "_law_kinds" (defArgs s_l_kinds) (defBody s_l_kinds) (defScope s_l_kinds) [] [] (He.ga K "_law_kinds") fd := c.d.def_ 34 (d := h_l_kinds) rfl
  have m_l_kinds : mg "_law_kinds" = some (.ref (He.ga K "_law_kinds")) := He.glo_ok KX G (c.d.fact 32 (f := .glo "_law_kinds") rfl)
  have b_l_kinds : Binds K fd_l_kinds ["_law_columns"] [] := D_l_kinds.bindsN (fun _ _ _ _ _ _ us hl => match us, hl with | [_], _ => rfl)
  have C_l_kinds := ca_l_kinds (P := P0) (w := w) (base := base) T (fun_of D_l_kinds) m_l_kinds b_l_kinds
  obtain ⟨fd_l_at, D_l_at⟩ : ∃ fd, FunD K "_law_at" "_law_at" (defArgs s_l_at) (defBody s_l_at) (defScope s_l_at) [] [] (He.ga K "_law_at") fd := c.d.def_ 35 (d := h_l_at) rfl
  have m_l_at : mg "_law_at" = some (.ref (He.ga K "_law_at")) := He.glo_ok KX G (c.d.fact 33 (f := .glo "_law_at") rfl)
  have b_l_at : Binds K fd_l_at ["_law_places", "_law_one", "_law_other", "_law_kind"] [] := D_l_at.bindsN (fun _ _ _ _ _ _ us hl => match us, hl with | [_, _, _, _], _ => rfl)
  have C_l_at := ca_l_at (P := P0) (w := w) (base := base) T (fun_of D_l_at) m_l_at b_l_at
  obtain ⟨fd_l_unlike, D_l_unlike⟩ : ∃ fd, FunD K "_law_unlike" "_law_unlike" (defArgs s_l_unlike) (defBody s_l_unlike) (defScope s_l_unlike) [] [] (He.ga K "_law_unlike") fd := c.d.def_ 36 (d := h_l_unlike) rfl
  have m_l_unlike : mg "_law_unlike" = some (.ref (He.ga K "_law_unlike")) := He.glo_ok KX G (c.d.fact 34 (f := .glo "_law_unlike") rfl)
  have b_l_unlike : Binds K fd_l_unlike ["_law_places", "_law_one", "_law_other"] [] := D_l_unlike.bindsN (fun _ _ _ _ _ _ us hl => match us, hl with | [_, _, _], _ => rfl)
  have C_l_unlike := ca_l_unlike (P := P0) (w := w) (base := base) T (fun_of D_l_unlike) m_l_unlike b_l_unlike
  obtain ⟨fd_l_let, D_l_let⟩ : ∃ fd, FunD K "_law_let" "_law_let" (defArgs s_l_let) (defBody s_l_let) (defScope s_l_let) [] [] (He.ga K "_law_let") fd := c.d.def_ 37 (d := h_l_let) rfl
  have m_l_let : mg "_law_let" = some (.ref (He.ga K "_law_let")) := He.glo_ok KX G (c.d.fact 35 (f := .glo "_law_let") rfl)
  have b_l_let : Binds K fd_l_let ["_law_checks", "_law_left", "_law_kind"] [] := D_l_let.bindsN (fun _ _ _ _ _ _ us hl => match us, hl with | [_, _, _], _ => rfl)
  have C_l_let := ca_l_let (P := P0) (w := w) (base := base) T (fun_of D_l_let) m_l_let b_l_let C_l_at C_l_lots C_l_set C_l_unlike
  obtain ⟨fd_l_layers, D_l_layers⟩ : ∃ fd, FunD K "_law_layers" "_law_layers" (defArgs s_l_layers) (defBody s_l_layers) (defScope s_l_layers) [] [] (He.ga K "_law_layers") fd := c.d.def_ 38 (d := h_l_layers) rfl
  have m_l_layers : mg "_law_layers" = some (.ref (He.ga K "_law_layers")) := He.glo_ok KX G (c.d.fact 36 (f := .glo "_law_layers") rfl)
  have b_l_layers : Binds K fd_l_layers ["_law_checks", "_law_kinds_here"] [] := D_l_layers.bindsN (fun _ _ _ _ _ _ us hl => match us, hl with | [_, _], _ => rfl)
  have C_l_layers := ca_l_layers (P := P0) (w := w) (base := base) T (fun_of D_l_layers) m_l_layers b_l_layers C_l_let
  obtain ⟨fd_l_way, D_l_way⟩ : ∃ fd, FunD K "_law_way" "_law_way" (defArgs s_l_way) (defBody s_l_way) (defScope s_l_way) [] [] (He.ga K "_law_way") fd := c.d.def_ 39 (d := h_l_way) rfl
  have m_l_way : mg "_law_way" = some (.ref (He.ga K "_law_way")) := He.glo_ok KX G (c.d.fact 37 (f := .glo "_law_way") rfl)
  have b_l_way : Binds K fd_l_way ["_law_places", "_law_one", "_law_other", "_law_order"] [] := D_l_way.bindsN (fun _ _ _ _ _ _ us hl => match us, hl with | [_, _, _, _], _ => rfl)
  have C_l_way := ca_l_way (P := P0) (w := w) (base := base) T (fun_of D_l_way) m_l_way b_l_way C_l_at C_l_lots C_l_set
  obtain ⟨fd_l_hull, D_l_hull⟩ : ∃ fd, FunD K "_law_hull" "_law_hull" (defArgs s_l_hull) (defBody s_l_hull) (defScope s_l_hull) [] [] (He.ga K "_law_hull") fd := c.d.def_ 40 (d := h_l_hull) rfl
  have m_l_hull : mg "_law_hull" = some (.ref (He.ga K "_law_hull")) := He.glo_ok KX G (c.d.fact 38 (f := .glo "_law_hull") rfl)
  have b_l_hull : Binds K fd_l_hull ["_law_places", "_law_rows", "_law_order"] [] := D_l_hull.bindsN (fun _ _ _ _ _ _ us hl => match us, hl with | [_, _, _], _ => rfl)
  have C_l_hull := ca_l_hull (P := P0) (w := w) (base := base) T (fun_of D_l_hull) m_l_hull b_l_hull C_l_way
  obtain ⟨fd_l_turned, D_l_turned⟩ : ∃ fd, FunD K "_law_turned" "_law_turned" (defArgs s_l_turned) (defBody s_l_turned) (defScope s_l_turned) [] [] (He.ga K "_law_turned") fd := c.d.def_ 41 (d := h_l_turned) rfl
  have m_l_turned : mg "_law_turned" = some (.ref (He.ga K "_law_turned")) := He.glo_ok KX G (c.d.fact 39 (f := .glo "_law_turned") rfl)
  have b_l_turned : Binds K fd_l_turned ["_law_box_here", "_law_things"] [] := D_l_turned.bindsN (fun _ _ _ _ _ _ us hl => match us, hl with | [_, _], _ => rfl)
  have C_l_turned := ca_l_turned (P := P0) (w := w) (base := base) T (fun_of D_l_turned) m_l_turned b_l_turned C_l_take
  obtain ⟨fd_l_all_rows, D_l_all_rows⟩ : ∃ fd, FunD K "_law_all_rows" "_law_all_rows" (defArgs s_l_all_rows) (defBody s_l_all_rows) (defScope s_l_all_rows) [] [] (He.ga K "_law_all_rows") fd := c.d.def_ 42 (d := h_l_all_rows) rfl
  have m_l_all_rows : mg "_law_all_rows" = some (.ref (He.ga K "_law_all_rows")) := He.glo_ok KX G (c.d.fact 40 (f := .glo "_law_all_rows") rfl)
  have b_l_all_rows : Binds K fd_l_all_rows ["_law_columns", "_law_places"] [] := D_l_all_rows.bindsN (fun _ _ _ _ _ _ us hl => match us, hl with | [_, _], _ => rfl)
  have C_l_all_rows := ca_l_all_rows (P := P0) (w := w) (base := base) T (fun_of D_l_all_rows) m_l_all_rows b_l_all_rows
  obtain ⟨fd_l_book, D_l_book⟩ : ∃ fd, FunD K "_law_book" "_law_book" (defArgs s_l_book) (defBody s_l_book) (defScope s_l_book) [] [] (He.ga K "_law_book") fd := c.d.def_ 43 (d := h_l_book) rfl
  have m_l_book : mg "_law_book" = some (.ref (He.ga K "_law_book")) := He.glo_ok KX G (c.d.fact 41 (f := .glo "_law_book") rfl)
  have b_l_book : Binds K fd_l_book ["_law_box_here", "_law_most", "_law_places_most"] [] := D_l_book.bindsN (fun _ _ _ _ _ _ us hl => match us, hl with | [_, _, _], _ => rfl)
  have C_l_book := ca_l_book (P := P0) (w := w) (base := base) T (fun_of D_l_book) m_l_book b_l_book C_l_take C_l_pick C_l_turned C_l_kinds C_l_all_rows C_l_hull
  obtain ⟨fd_l_odd, D_l_odd⟩ : ∃ fd, FunD K "_law_odd" "_law_odd" (defArgs s_l_odd) (defBody s_l_odd) (defScope s_l_odd) [] [] (He.ga K "_law_odd") fd := c.d.def_ 45 (d := h_l_odd) rfl
  have m_l_odd : mg "_law_odd" = some (.ref (He.ga K "_law_odd")) := He.glo_ok KX G (c.d.fact 43 (f := .glo "_law_odd") rfl)
  have b_l_odd : Binds K fd_l_odd ["_law_box_here", "_law_order"] [] := D_l_odd.bindsN (fun _ _ _ _ _ _ us hl => match us, hl with | [_, _], _ => rfl)
  have C_l_odd := ca_l_odd (P := P0) (w := w) (base := base) T (fun_of D_l_odd) m_l_odd b_l_odd C_l_pick
  obtain ⟨fd_l_orders, D_l_orders⟩ : ∃ fd, FunD K "_law_orders" "_law_orders" (defArgs s_l_orders) (defBody s_l_orders) (defScope s_l_orders) [] [] (He.ga K "_law_orders") fd := c.d.def_ 46 (d := h_l_orders) rfl
  have m_l_orders : mg "_law_orders" = some (.ref (He.ga K "_law_orders")) := He.glo_ok KX G (c.d.fact 44 (f := .glo "_law_orders") rfl)
  have b_l_orders : Binds K fd_l_orders ["_law_kinds_here"] [] := D_l_orders.bindsN (fun _ _ _ _ _ _ us hl => match us, hl with | [_], _ => rfl)
  have C_l_orders := ca_l_orders (P := P0) (w := w) (base := base) T (fun_of D_l_orders) m_l_orders b_l_orders
  obtain ⟨fd_l_added, D_l_added⟩ : ∃ fd, FunD K "_law_added" "_law_added" (defArgs s_l_added) (defBody s_l_added) (defScope s_l_added) [] [] (He.ga K "_law_added") fd := c.d.def_ 47 (d := h_l_added) rfl
  have m_l_added : mg "_law_added" = some (.ref (He.ga K "_law_added")) := He.glo_ok KX G (c.d.fact 45 (f := .glo "_law_added") rfl)
  have b_l_added : Binds K fd_l_added ["_law_checks", "_law_order"] [] := D_l_added.bindsN (fun _ _ _ _ _ _ us hl => match us, hl with | [_, _], _ => rfl)
  have C_l_added := ca_l_added (P := P0) (w := w) (base := base) T (fun_of D_l_added) m_l_added b_l_added C_l_hull
  obtain ⟨fd_l_fault, D_l_fault⟩ : ∃ fd, FunD K "_law_fault" "_law_fault" (defArgs s_l_fault) (defBody s_l_fault) (defScope s_l_fault) [] [] (He.ga K "_law_fault") fd := c.d.def_ 44 (d := h_l_fault) rfl
  have m_l_fault : mg "_law_fault" = some (.ref (He.ga K "_law_fault")) := He.glo_ok KX G (c.d.fact 42 (f := .glo "_law_fault") rfl)
  have b_l_fault : Binds K fd_l_fault ["_law_call"] [] := D_l_fault.bindsN (fun _ _ _ _ _ _ us hl => match us, hl with | [_], _ => rfl)
  have K2 : ∀ {fd : FuncData}, FunD K "hull_book" "hull_book" (defArgs s_hull_book) (defBody s_hull_book) (defScope s_hull_book) [] [] (He.ga K "hull_book") fd → KBn K fd ["book", "ranking"] 0 ["ranking", "book"] (fun _ zs => zs.reverse) (fun _ zs => zs.reverse) := fun F => by
    obtain ⟨_, _, _, _, _, _, _, _, _, rfl, _, _⟩ := (fun_of F).ex
    exact kbn_of (g := fun _ zs => zs.reverse) (fun us ws h1 h2 => match us, ws, h1, h2 with | [], [_, _], _, _ => rfl) fun _ h => vals_rev h
  have K0 : ∀ {fd : FuncData}, FunD K "fewest_added" "fewest_added" (defArgs s_fewest_added) (defBody s_fewest_added) (defScope s_fewest_added) [] [] (He.ga K "fewest_added") fd → KBn K fd ["book", "most"] 0 ["most", "book"] (fun _ zs => zs.reverse) (fun _ zs => zs.reverse) := fun F => by
    obtain ⟨_, _, _, _, _, _, _, _, _, rfl, _, _⟩ := (fun_of F).ex
    exact kbn_of (g := fun _ zs => zs.reverse) (fun us ws h1 h2 => match us, ws, h1, h2 with | [], [_, _], _, _ => rfl) fun _ h => vals_rev h
  have K1 : ∀ {fd : FuncData}, FunD K "fewest_added" "fewest_added" (defArgs s_fewest_added) (defBody s_fewest_added) (defScope s_fewest_added) [] [] (He.ga K "fewest_added") fd → KBn K fd ["book", "most"] 1 ["most"] (fun us ws => us ++ ws) (fun vs zs => vs ++ zs) := fun F => by
    obtain ⟨_, _, _, _, _, _, _, _, _, rfl, _, _⟩ := (fun_of F).ex
    exact kbn_of (g := fun us ws => us ++ ws) (fun us ws h1 h2 => match us, ws, h1, h2 with | [_], [_], _, _ => rfl) fun a b => Vals.append a b
  refine ⟨⟨He.ga K "Book", He.ga K "Refused", He.ga K "BatchError", He.ga K "TooGreat", ⟨T, bc, C_l_box, C_l_book, C_Book, C_l_orders, C_l_kinds, C_l_pick, C_l_hull, C_hull_book, C_is_ranking, C_l_added, C_l_layers, C_l_odd, C_l_take, ⟨⟨_, _, C_BookEq.mono (by decide), b_Book_eq, ME.1, ME.2⟩, hne, hmr⟩, ⟨_, _, _, m_hull_book, D_hull_book.kp, K2 D_hull_book, N_hull_book⟩, ⟨_, _, _, m_fewest_added, D_fewest_added.kp, K1 D_fewest_added, C_few⟩, ⟨_, _, _, m_fewest_added, D_fewest_added.kp, K0 D_fewest_added, C_few⟩⟩,
    ⟨mRf, mBa, mTg, xR, He.noat_ok (c.d.fact 77 (f := .noat "Refused" "at") rfl), He.exm_ok (c.d.fact 79 (f := .exm "Refused" "Refused" true) rfl), isB, xT, He.noat_ok (c.d.fact 78 (f := .noat "TooGreat" "most") rfl), He.exm_ok (c.d.fact 80 (f := .exm "TooGreat" "TooGreat" true) rfl), X_hull_book, ⟨_, _, _, m_fewest_added, D_fewest_added.kp, K1 D_fewest_added, X_few⟩⟩⟩, _, _, fun_of D_l_fault, m_l_fault, b_l_fault⟩
end
end Mk
set_option maxHeartbeats 0
namespace Mk
open PySem PySem.Spec PyProof.Rows L2
theorem law_hc {w : World} {K : PySem.W.Frag} {mg mb : Str → Option Value} {fa a : Addr} {s : Shared} {vs : List Value} {ns : List Int} (KX : K.In s.heap) (c : SaysM s.heap K) (hns : s.heap.Ns mainGlobals mg) (hb : s.heap.Ns builtinsNs mb) (hbb : ∀ x : Str, x ≠ "__name__" → mb x = bootBuiltins x) (hlim : s.heap.NoLimit) (hg : s.gens = #[])
    (hbm : ∃ (bm : Addr) (ob : Obj), mg "__builtins__" = some (.ref bm) ∧ bm ≠ builtinsNs ∧ s.heap.get? bm = some ob ∧ ob.cls = .type "module" ∧ ob.dict = some builtinsNs ∧ ob.data = .plain)
    (ha : s.heap.get? a = some { cls := .type "list", data := .seq vs.toArray }) (hi : IntsAre vs ns) (hl : ns.length < 64) (hfa : mg "law" = some (.ref fa)) :
    codeAny (model P0 w) callerA (.call (.ref fa) ⟨[.ref a], []⟩) (fun r s' => r = .ok (.ret (.bool true)) ∧ OldK s.heap s'.heap ∧ s'.os = s.os ∧ AllBare s'.gens) s := by
  obtain ⟨fd, D⟩ : ∃ fd, FunD K "law" "law" (defArgs s_law) (defBody s_law) (defScope s_law) [] [] (He.ga K "law") fd := c.d.def_ 48 (d := h_law) rfl
  have e := hfa.symm.trans (He.glo_ok KX hns (c.d.fact 46 (f := .glo "law") rfl))
  cases e
  have hbd := D.bindsA (ps := ["_law_script"]) (fun _ _ _ _ _ _ us hl => match us, hl with | [_], _ => rfl) s [.ref a] rfl
  obtain ⟨oc, od, dV, kV, doc, pm, an, cdv, ct, osl, rfl, lk, hcd, _, _⟩ := D.ex
  obtain ⟨cd, rfl⟩ := He.codeIn_ref hcd
  have ec : lawC K = cd := He.codeOf_eq (p := ("law", none)) lk rfl
  subst ec
  exact law_end KX hns hb hbb hlim hg c.empty c.out (PySem.W.codeHd_of_K KX c.hd) hbm ha hi hl (fun base KX' G' => law_z KX' G' c) lk hcd hbd
end Mk
open PySem PySem.W PySem.Calls PyProof.Rows
theorem PySem.Challenge.cw_makefirst_k23_whole_fewest_rows_added_holds : PySem.Challenge.rw_makefirst_k23_whole_fewest_rows_added.Holds := by
  w_on; o_law
  refine HandSHeadRun.head_any (r := OpenLaw.row PySem.Challenge.rw_makefirst_k23_whole_fewest_rows_added) (q := view (OpenLaw.row PySem.Challenge.rw_makefirst_k23_whole_fewest_rows_added).prog [63]) (H := Mk.hkM) (ob := Mk.obM) (M := 20000) (loose := Mk.names0) (d := HandSHeadRun.topDef (OpenLaw.row PySem.Challenge.rw_makefirst_k23_whole_fewest_rows_added).prog 63) (kwd := []) Mk.obM_eq
    (by kernel_rfl) (fun s => by kernel_rfl) Mk.runM (by kernel_rfl) (by kernel_rfl) (by kernel_rfl) (by rfl) (by first | assumption | decide +kernel) (by decide +kernel) ⟨rfl, rfl, rfl, rfl, rfl, by decide +kernel⟩ ?hw ?hc
  case hw => w_witness2
  case hc =>
    refine Att.attach_callB (l := PySem.Challenge.rw_makefirst_k23_whole_fewest_rows_added) (n := 63) rfl (by kernel_rfl) fun w s₀ s₁ mg mb fa o pm cd doc a vs ns G Y ho hd hcd hmg0 hobj hints hlen hbits hg => ?_
    obtain ⟨K, KX, c⟩ := Y
    have hmg : mg ("law" : PySem.Str) = some (.ref fa) := by
      have e : (HandSHeadRun.topDef (OpenLaw.row PySem.Challenge.rw_makefirst_k23_whole_fewest_rows_added).prog 63).name = ("law" : PySem.Str) := by kernel_rfl
      rw [← e]
      exact hmg0
    exact Mk.law_hc KX c G.T.g G.T.b G.T.builtins G.T.nolimit hg G.T.bmain hobj hints (Nat.lt_succ_of_le hlen) hmg
