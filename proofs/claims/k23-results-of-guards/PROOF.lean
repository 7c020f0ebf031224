import PyProof.Rows.All
import Wide.All
import OpenK.AllK
import Wide.FinOn
import KE.KExcSuper
import HandS.List
import HandS.Exc
import HandS.ExcOwn
import HandS.ExcInit
import HandS.ExcField
import HandS.WordsExc
import HandS.ForMost
import HandS.Wide
import HandS.IsInst
import HandS.MakeKwOnly
import HandS.ClsMeth
import KE.Datum
import KE.KExcLine
import HandS.TryOnly
import HandS.Evl
import HandS.Comp
import HandS.Star
import HandS.More
import HandS.DeepEq
import PySem.Challenge.RW_walkmarks_k23_results_of_guards
set_option Elab.async false
set_option linter.all false
set_option maxRecDepth 400000
set_option maxHeartbeats 4000000
/-! ErA: own error classes whose __init__ first asks super().__init__(a text) and then keeps its arguments as fields. -/
namespace PySem
namespace Er
open PySem.W PySem.Calls PyProof.Rows PySem.HandSPX
/-! the text -/
def supCall (a1 a2 a3 a4 a5 a6 : Pos) (t : Str) : Stmt :=
  .Expr (.Call (.Attribute (.Call (.Name "super" a1) [] [] a2) "__init__" a3) [.Constant (.str t) 0 a4] [] a5) a6
/-- what the written part K says of the super() of a def of the class at C -/
structure SupTxt (prog : Program) (K : Frag) (C cda cc : Addr) (B newId initId : String) (bmB : List Value) : Prop where
  code : ∃ ccl cdd ccs, ∃ (vs : Array Value) (file : Str) (tf : Tok), K.lookup cda = some ⟨ccl, cdd, .fields vs, ccs⟩ ∧ vs[2]? = some (.str file tf) ∧ ((prog.main.file : Str) == file) = true
  cell : ∃ cl cld csl, K.lookup cc = some ⟨cl, cld, .cell (some (.ref C)), csl⟩
  cls : ∃ cd, clsIn K C = some cd
  sub : mroIn K C (.ref C) = some true
  noS : nsIn K mainGlobals "super" = some none
  noT : nsIn K cStatics "thirdparty.any" = some none
  top : (prog.main.scope.names.lookup ("super" : Str)).isSome = false
  sup : ks_superIn K C C "__init__" = some (some (.builtin initId))
  base : subIn K (.ref C) (.type B) = some true
  exc : excInitIn K C bmB newId = true
section
variable {prog : Program} {w : World} {A : Around} {E : Value → Shared → Prop} {K : Frag} {mg mb : Str → Option Value} {C fI cda cc : Addr} {B newId initId : String} {bmB : List Value}
theorem er_loadG {s : Shared} {env : Env} {Q : Value → Shared → Prop} (hk : env.scope.kind = .function) (hx : env.kindOf "super" = some .globalImplicit) (hg : s.heap.Ns env.globals mg) (hb : s.heap.Ns env.builtins mb)
    (n : mg "super" = none) (b : mb "super" = some (.type "super")) (h : Q (.type "super") s) : wpAny (model prog w) A (loadName env "super") Q E s :=
  ks_loadName_global hk hx (loadGlobal_builtin (env := env) hg n hb b h)
/-- super().__init__(t), then the rest -/
theorem er_super {h₀ h : Heap} {g : Array GenState} {d : Drawn} {tk : Nat} {os : OsState} {x t0 L : Addr} {m : Str → Option Value} {q : Str} {scope : Scope} {full rest : List Stmt} {fd : FuncData} {oc : Value} {od : Option Addr} {osl : Array (Option Value)} {ar : Arg}
    {a1 a2 a3 a4 a5 a6 : Pos} {t : Str} {Q : Flow → Shared → Prop}
    (T : SupTxt prog K C cda cc B newId initId bmB) (KF : KxsFacts B initId) (FB : ExcBaseFacts B newId initId bmB) (F : Fr h₀ L h m) (X₀ : K.In h₀) (hx : News h₀ L h [(x, excObj C t0 none .none)])
    (hg : h₀.Ns mainGlobals mg) (hb : h₀.Ns builtinsNs mb) (hmb : mb "super" = bootBuiltins "super")
    (hf : K.lookup fI = some ⟨oc, od, .func fd, osl⟩) (hp : (fd.params.posonlyargs ++ fd.params.args).head? = some ar) (har : m ar.arg = some (.ref x)) (hks : scope.names.lookup ("super" : Str) = some .globalImplicit)
    {pl : Sem Bool} (he : eval (.Call (.Attribute (.Call (.Name "super" a1) [] [] a2) "__init__" a3) [.Constant (.str t) 0 a4] [] a5) (ksEnv q scope L fI (.ref cda) cc) = (do
      let ov ← attributeBase (.Call (.Name "super" a1) [] [] a2) "__init__" (ksEnv q scope L fI (.ref cda) cc) (eval (.Call (.Name "super" a1) [] [] a2) (ksEnv q scope L fI (.ref cda) cc))
      standAt a3.atName
      let (f, first) ← holding [ov] (getMethod ov "__init__" pl)
      callWith a5 f first (backTo a5 (starEach [.Constant (.str t) 0 a4] (ksEnv q scope L fI (.ref cda) cc))) []))
    (hkc : scope.names.lookup ("__class__" : Str) = some .free) (hka : scope.names.lookup ar.arg = some .local) (hk : scope.kind = .function)
    (hq : ∀ h' tk' t', Fr h₀ L h' m → h'.get? x = some (excObj C t' none .none) → wpAny (model prog w) A (execs rest (ksEnv q scope L fI (.ref cda) cc)) Q E ⟨h', g, d, tk', os⟩) :
    _root_.PySem.wpAt (model prog w) A (.func full (ksEnv q scope L fI (.ref cda) cc)) (execs (supCall a1 a2 a3 a4 a5 a6 t :: rest) (ksEnv q scope L fI (.ref cda) cc)) Q E ⟨h, g, d, tk, os⟩ := by
  obtain ⟨ccl, cdd, ccs, vs, file, tf, hcode, hvs, hfile⟩ := T.code
  obtain ⟨cl, cld, csl, hcell⟩ := T.cell
  obtain ⟨cd, hD⟩ := T.cls
  have X : K.In h := X₀.keeps F.keep
  have I : InstAt h x (excObj C t0 none .none) C none := .of_exc0 hx (by simp)
  obtain ⟨oD, hD1, hD2⟩ : ∃ oD, h.get? C = some oD ∧ oD.data = .cls cd := by
    unfold clsIn at hD
    split at hD
    · rename_i c d cd' sl ho
      cases hD
      exact ⟨_, X _ _ ho, rfl⟩
    · cases hD
  refine ks_wpAt_execs_cons (ks_wpAt_Expr_any (ks_wpAt_MethodCall ?_ he) ?_ (by rfl))
  · refine ks_wpAt_super_base (env := ksEnv q scope L fI (.ref cda) cc) hks hkc (by decide) rfl (X _ _ hf) rfl hp rfl (X _ _ hcode) rfl hvs hfile T.top ?_
    refine er_loadG (env := ksEnv q scope L fI (.ref cda) cc) hk hks (hg.keeps F.keep) (hb.keeps F.keep) (mg_none_of X₀ hg T.noS) (hmb.trans (by first | rfl | decide +kernel)) ⟨rfl, ?_⟩
    refine wpAny_loadName_free hk hkc rfl ⟨_, X _ _ hcell, rfl⟩ ?_
    refine wpAny_loadName_local hk hka F.ns har ?_
    refine ks_wpAny_isType_cls hD1 hD2 ⟨rfl, ?_⟩
    refine ks_wpAny_call_super hD1 hD2 I.at_ I.cls (fun c e => ?_) (looks_mroIn X T.sub) (fun h' e k => ?_)
    · cases e
    obtain ⟨F1, N1, l1⟩ := ks_newsPush (s := ⟨h, g, d, tk, os⟩) F hx rfl e k
    have I1 : InstAt h' x (excObj C t0 none .none) C none := .of_exc0 N1 (by simp)
    refine kxs_method (s := ⟨h', g, d, tk, os⟩) (D := C) (x := x) (C := C) KF F1 X₀ N1 (by simp) I1 T.noT T.sup T.base (by decide) (fun u h2 F2 N2 l2 => ?_)
    refine kxs_callWith1 (u := u) (x := x) (i := initId) N2 (by simp) ?_
    refine spliced_cons ?_
    refine Calls.Constant_str (pos := a4) (k := 0) ?_
    refine spliced_nil ?_
    refine ⟨kxs_at N2 (by simp), ?_⟩
    have ne1 : h.objs.size ≠ x := fun z => by
      have := l1 (x, excObj C t0 none .none) (by simp)
      exact absurd (show x < h.objs.size from this) (by rw [z]; exact Nat.lt_irrefl _)
    have ne2 : u ≠ x := fun z => by
      have := l2 (x, excObj C t0 none .none) (by simp)
      exact absurd (show x < u from this) (by rw [z]; exact Nat.lt_irrefl _)
    refine kxs_call (u := u) (x := x) (C := C) (t := t0) (dv := none) (c2 := .none) (B := B) (newId := newId) (i := initId) F2 X₀ N2 FB T.exc (by simp) (.tail ne2 (.tail ne1 (.head (by simp)))) (by rw [sizeLine_eq]; exact (by decide : 1 ≤ 16777216)) (fun t' h3 F3 N3 _ => ?_)
    refine wpAt_of_wpAny (hq h3 _ t' F3 (N3 (x, excObj C t' none .none) (by simp)).1)
  · simp [interactive, hk]
end
end Er
end PySem
namespace PySem
namespace Er
open PySem.W PySem.Calls PyProof.Rows PySem.HandSPX
section
variable {prog : Program} {w : World} {A : Around} {E : Value → Shared → Prop} {K : Frag} {C : Addr} {B : String} {bmB : List Value} {hp : Heap} {g : Array GenState} {d : Drawn} {t : Nat} {os : OsState}
theorem taker_none {f : Str} (ha : findIn K (.ref C) f = some none) : takerIn K C f = some none := by
  unfold takerIn
  rw [ha]
  rfl
/-- x.f = v, the first field of an error that is being made -/
theorem er_set_new {x t0 : Addr} {f : Str} {v : Value} {Q : Unit → Shared → Prop} (SF : StoreFacts B bmB "object.__setattr__" "object") (X : K.In hp) (hx : hp.get? x = some (excObj C t0 none .none))
    (hs : findIn K (.ref C) "__setattr__" = some (some (.builtin "object.__setattr__"))) (ho : excOver K C bmB = true) (hh : hasDictIn K C = true) (ha : findIn K (.ref C) f = some none)
    (hq : ∀ h' tk' dx, (∀ b o, b ≠ x → hp.get? b = some o → h'.get? b = some o) → hp.objs.size ≤ dx → dx ≠ x → h'.get? x = some (excObj C t0 (some dx) .none) →
      h'.Ns1 dx (fun y => if y = f then some v else none) → Q () ⟨h', g, d, tk', os⟩) : wpAny (model prog w) A (setAttr (.ref x) f v) Q E ⟨hp, g, d, t, os⟩ := by
  obtain ⟨cd, hc, hd'⟩ := any_some hh
  have hxs : x ≠ hp.objs.size := Nat.ne_of_lt (Heap.lt_size hx)
  refine set_plain (od := none) X ⟨hx, rfl, rfl, trivial⟩ hs (osa_openX (od := none) (r := none) SF X ⟨hx, rfl, rfl, trivial⟩ ho (taker_none ha) fun b => ?_)
  refine wpAny_bind (wpAny_pure (wpAny_bind (instanceDict_exc (s := ⟨hp, g, d, t + 1, os⟩) hx (looks_clsIn X hc) hd' ?_)))
  show wpAny _ _ (Builtin.ObjectAttr.storeInDict hp.objs.size (.str f _) f v) _ _ ⟨_, g, d, _, os⟩
  refine store_in_new ?_ fun h' tk' hn' hs' => ?_
  · exact ⟨dictOf [] 0, #[], 0, (Heap.get?_update_ne _ _ _ _ hxs.symm).trans (Heap.get?_push_at rfl rfl), rfl, fun e he => absurd he (by simp), fun _ => rfl⟩
  · have hx1 : (hp.push (dictOf [] 0)).get? x = some (excObj C t0 none .none) := Heap.get?_push_of_some _ hx
    refine hq h' tk' hp.objs.size (fun b o hb ho => ?_) (Nat.le_refl _) hxs.symm ?_ hn'
    · exact (hs'.2 b (Nat.ne_of_lt (Heap.lt_size ho))).trans ((Heap.get?_update_ne _ _ _ _ hb).trans (Heap.get?_push_of_some _ ho))
    · exact (hs'.2 x hxs).trans (Heap.get?_update_self _ hx1 rfl)
/-- x.f = v, a further one -/
theorem er_set_old {x t0 dx : Addr} {f : Str} {v : Value} {m0 : Str → Option Value} {nl : List Str} {Q : Unit → Shared → Prop} (SF : StoreFacts B bmB "object.__setattr__" "object") (X : K.In hp) (hx : hp.get? x = some (excObj C t0 (some dx) .none))
    (hns : hp.Ns1 dx m0) (hw : Within m0 nl) (hz : nl.length ≤ 1000)
    (hs : findIn K (.ref C) "__setattr__" = some (some (.builtin "object.__setattr__"))) (ho : excOver K C bmB = true) (hh : hasDictIn K C = true) (ha : findIn K (.ref C) f = some none)
    (hq : ∀ h' tk', (∀ b o, b ≠ dx → hp.get? b = some o → h'.get? b = some o) → h'.Ns1 dx (fun y => if y = f then some v else m0 y) → Q () ⟨h', g, d, tk', os⟩) :
    wpAny (model prog w) A (setAttr (.ref x) f v) Q E ⟨hp, g, d, t, os⟩ := by
  obtain ⟨cd, hc, hd'⟩ := any_some hh
  obtain ⟨oD, esD, epD, hoD, hdD, _⟩ := hns.count hw
  refine set_plain (od := some oD) X ⟨hx, rfl, rfl, hoD⟩ hs (osa_openX (od := some oD) (r := none) SF X ⟨hx, rfl, rfl, hoD⟩ ho (taker_none ha) fun b => ?_)
  refine wpAny_bind (wpAny_pure (wpAny_bind (wpAny_bind (wpAny_loadPart hx (wpAny_bind ((looks_clsIn X hc).here ?_))))))
  rw [hd']
  refine wpAny_pure (a := some dx) ?_
  show wpAny _ _ (Builtin.ObjectAttr.storeInDict dx (.str f _) f v) _ _ ⟨hp, g, d, _, os⟩
  exact OEX.store_in_old hns hw hz fun h' tk' hn hs' => hq h' tk' (fun b o hb ho => (hs'.2 b hb).trans ho) hn
end
end Er
end PySem
namespace PySem
namespace Er
open PySem.W PySem.Calls PyProof.Rows PySem.HandSPX
def iArgs (ps : List (Str × Pos)) : Arguments := { posonlyargs := [], args := ps.map fun p => { arg := p.1, annotation := none, pos := p.2 }, vararg := none, kwonlyargs := [], kw_defaults := [], kwarg := none, defaults := [] }
def iScope (fs : List Str) : Scope := { kind := .function, names := (("self" : Str), NameKind.local) :: fs.map (fun f => (f, NameKind.local)) ++ [(("__class__" : Str), NameKind.free), (("super" : Str), NameKind.globalImplicit)], isGenerator := false, isCoroutine := false, more := [] }
def iSet (f : Str) (q1 q2 q3 q4 : Pos) : Stmt := .Assign [.Attribute (.Name "self" q1) f q2] (.Name f q3) q4
/-- how super().__init__(t) is evaluated there -/
def SupEv (fs : List Str) (a1 a2 a3 a4 a5 : Pos) (t : Str) : Prop := ∀ (q : Str) (L a : Addr) (cd : Value) (cc : Addr), ∃ pl : Sem Bool, eval (.Call (.Attribute (.Call (.Name "super" a1) [] [] a2) "__init__" a3) [.Constant (.str t) 0 a4] [] a5) (ksEnv q (iScope fs) L a cd cc) = (do
      let ov ← attributeBase (.Call (.Name "super" a1) [] [] a2) "__init__" (ksEnv q (iScope fs) L a cd cc) (eval (.Call (.Name "super" a1) [] [] a2) (ksEnv q (iScope fs) L a cd cc))
      standAt a3.atName
      let (f, first) ← holding [ov] (getMethod ov "__init__" pl)
      callWith a5 f first (backTo a5 (starEach [.Constant (.str t) 0 a4] (ksEnv q (iScope fs) L a cd cc))) [])
def SetEv (fs : List Str) (f : Str) (q1 q2 q3 q4 : Pos) : Prop := ∀ (q : Str) (L a : Addr) (cd : Value) (cc : Addr), swapsWith (.Name f q3) (some (.Attribute (.Name "self" q1) f q2)) q4.line (ksEnv q (iScope fs) L a cd cc) = pure false
/-- how the arguments are bound, the names found -/
structure IBind (fs : List Str) (params : Arguments) : Prop where
  bnd : ∀ (qual : Str) (body : List Stmt) (doc pm : Value) (an : Option Addr) (cdv ct : Value) (cc x : Addr) (vs : List Value), vs.length = fs.length → bindArgs (ksFn "__init__" qual params body (iScope fs) .none .none doc pm an cdv ct cc) ⟨.ref x :: vs, []⟩ = pure ((("self" : Str), Value.ref x) :: fs.zip vs)
  hd : ∃ ar, (params.posonlyargs ++ params.args).head? = some ar ∧ ar.arg = "self"
  sup : (iScope fs).names.lookup ("super" : Str) = some .globalImplicit
  cls : (iScope fs).names.lookup ("__class__" : Str) = some .free
  self : (iScope fs).names.lookup ("self" : Str) = some .local
  loc : ∀ f ∈ fs, (iScope fs).names.lookup f = some .local ∧ (f == ("__debug__" : Str)) = false
  ms : ∀ (x : Addr) (vs : List Value), vs.length = fs.length → ((("self" : Str), Value.ref x) :: fs.zip vs).reverse.lookup ("self" : Str) = some (.ref x)
  mf : ∀ (x : Addr) (vs : List Value) (i : Nat) (f : Str) (v : Value), vs.length = fs.length → fs[i]? = some f → vs[i]? = some v → ((("self" : Str), Value.ref x) :: fs.zip vs).reverse.lookup f = some v
  ne : fs.Nodup
/-- the __init__ of such an error class: which fields -/
inductive IForm : List Str → Arguments → List Stmt → Scope → Prop
  | no (params : Arguments) (a1 a2 a3 a4 a5 a6 : Pos) (t : Str) (he : SupEv [] a1 a2 a3 a4 a5 t) (b : IBind [] params) : IForm [] params [supCall a1 a2 a3 a4 a5 a6 t] (iScope [])
  | one (params : Arguments) (a1 a2 a3 a4 a5 a6 q1 q2 q3 q4 : Pos) (t f : Str) (he : SupEv [f] a1 a2 a3 a4 a5 t) (s1 : SetEv [f] f q1 q2 q3 q4) (b : IBind [f] params) :
      IForm [f] params [supCall a1 a2 a3 a4 a5 a6 t, iSet f q1 q2 q3 q4] (iScope [f])
  | two (params : Arguments) (a1 a2 a3 a4 a5 a6 q1 q2 q3 q4 r1 r2 r3 r4 : Pos) (t f k : Str) (he : SupEv [f, k] a1 a2 a3 a4 a5 t) (s1 : SetEv [f, k] f q1 q2 q3 q4) (s2 : SetEv [f, k] k r1 r2 r3 r4) (b : IBind [f, k] params) :
      IForm [f, k] params [supCall a1 a2 a3 a4 a5 a6 t, iSet f q1 q2 q3 q4, iSet k r1 r2 r3 r4] (iScope [f, k])
/-- what the written part says of an error class C, its __init__ fI -/
structure ErTxt (prog : Program) (K : Frag) (qual : Str) (fs : List Str) (C fI : Addr) (B newId initId : String) (bmB : List Value) : Prop where
  fn : ∃ oc od, ∃ (params : Arguments) (body : List Stmt) (scope : Scope) (doc pm : Value) (an : Option Addr) (cda cc : Addr) (ct : Value) (osl : Array (Option Value)),
    K.lookup fI = some ⟨oc, od, .func (ksFn "__init__" qual params body scope .none .none doc pm an (.ref cda) ct cc), osl⟩ ∧ codeIn K (.ref cda) qual = true ∧ IForm fs params body scope ∧ SupTxt prog K C cda cc B newId initId bmB
  sa : findIn K (.ref C) "__setattr__" = some (some (.builtin "object.__setattr__"))
  ov : excOver K C bmB = true
  hd : hasDictIn K C = true
  no : ∀ f ∈ fs, findIn K (.ref C) f = some none
  init : findIn K (.ref C) "__init__" = some (some (.ref fI))
  ty : typeIn K (.ref fI) = some (.type "function")
/-- what such an __init__ leaves -/
structure IEnd (h h' : Heap) (x C t1 : Addr) (dd : Option Addr) (fvs : List (Str × Value)) : Prop where
  keep : ∀ b o, b ≠ x → h.get? b = some o → h'.get? b = some o
  obj : h'.get? x = some (excObj C t1 dd .none)
  dict : (dd = none ∧ fvs = []) ∨ fvs ≠ [] ∧ ∃ dx, dd = some dx ∧ h.objs.size ≤ dx ∧ dx ≠ x ∧ ∃ mA, h'.Ns1 dx mA ∧ ∀ y, mA y = fvs.lookup y
section
variable {prog : Program} {w : World} {A : Around} {E : Value → Shared → Prop} {R : Result → Shared → Prop} {K : Frag} {C fI : Addr} {qual : Str} {B newId initId : String} {bmB : List Value} {hp : Heap} {g : Array GenState} {d : Drawn} {t : Nat} {os : OsState}
theorem no_cell (fs : List Str) : ∀ x ∈ (iScope fs).names, x.2 ≠ NameKind.cell := by
  intro y hy
  have hy' : y ∈ (("self" : Str), NameKind.local) :: (fs.map (fun f => (f, NameKind.local)) ++ [(("__class__" : Str), NameKind.free), (("super" : Str), NameKind.globalImplicit)]) := hy
  simp only [List.mem_cons, List.mem_append, List.mem_map, List.not_mem_nil, or_false] at hy'
  rcases hy' with rfl | ⟨f, _, rfl⟩ | rfl | rfl <;> exact fun z => by cases z
theorem hide_keep {h h1 : Heap} {x : Addr} (k : ∀ b o, (hideAll h [x]).get? b = some o → h1.get? b = some o) : ∀ b o, b ≠ x → h.get? b = some o → h1.get? b = some o :=
  fun b o hb e => k b o (hideAll_get _ e (by simpa using hb))
theorem hide_in {h : Heap} {x : Addr} (X : K.In h) (hx : K.lookup x = none) : K.In (hideAll h [x]) := fun a o e => hideAll_get _ (X a o e) (by
  intro z
  have z' : a = x := by simpa using z
  rw [z', hx] at e
  cases e)
theorem hide_ns {h : Heap} {x L : Addr} {m : Str → Option Value} (n : h.Ns L m) (hx : L ≠ x) : (hideAll h [x]).Ns L m := by
  obtain ⟨o, es, ep, e, r⟩ := n
  exact ⟨o, es, ep, hideAll_get _ e (by simpa using hx), r⟩
/-- self.f = f in such an __init__ -/
theorem er_store1 {f : Str} {q1 q2 q3 q4 : Pos} {env : Env} {L x t0 : Addr} {v : Value} {m : Str → Option Value} {rest : List Stmt} {Q : Flow → Shared → Prop} (SF : StoreFacts B bmB "object.__setattr__" "object") (X : K.In hp) (hx : hp.get? x = some (excObj C t0 none .none))
    (hs : findIn K (.ref C) "__setattr__" = some (some (.builtin "object.__setattr__"))) (ho : excOver K C bmB = true) (hh : hasDictIn K C = true) (ha : findIn K (.ref C) f = some none)
    (hk : env.scope.kind = .function) (kf : env.kindOf f = some .local) (ks : env.kindOf "self" = some .local) (hn : hp.Ns env.locals m) (hf : m f = some v) (hself : m "self" = some (.ref x)) (h4 : (f == ("__debug__" : Str)) = false)
    (sw : swapsWith (.Name f q3) (some (.Attribute (.Name "self" q1) f q2)) q4.line env = pure false)
    (hq : ∀ h' tk' dx, (∀ b o, b ≠ x → hp.get? b = some o → h'.get? b = some o) → hp.objs.size ≤ dx → dx ≠ x → h'.get? x = some (excObj C t0 (some dx) .none) →
      h'.Ns1 dx (fun y => if y = f then some v else none) → wpAny (model prog w) A (execs rest env) Q E ⟨h', g, d, tk', os⟩) : wpAny (model prog w) A (execs (iSet f q1 q2 q3 q4 :: rest) env) Q E ⟨hp, g, d, t, os⟩ := by
  refine wpAny_execs_cons (plainObj_wpAny_Assign_Attribute ?_ sw)
  refine wpAny_Name (wpAny_loadName_local hk kf hn hf ?_) h4
  refine wpAny_Name (wpAny_loadName_local hk ks hn hself ?_) (by decide)
  exact er_set_new SF X hx hs ho hh ha hq
theorem er_store2 {f : Str} {q1 q2 q3 q4 : Pos} {env : Env} {L x t0 dx : Addr} {v : Value} {m m0 : Str → Option Value} {nl : List Str} {rest : List Stmt} {Q : Flow → Shared → Prop} (SF : StoreFacts B bmB "object.__setattr__" "object") (X : K.In hp) (hx : hp.get? x = some (excObj C t0 (some dx) .none))
    (hns : hp.Ns1 dx m0) (hw : Within m0 nl) (hz : nl.length ≤ 1000)
    (hs : findIn K (.ref C) "__setattr__" = some (some (.builtin "object.__setattr__"))) (ho : excOver K C bmB = true) (hh : hasDictIn K C = true) (ha : findIn K (.ref C) f = some none)
    (hk : env.scope.kind = .function) (kf : env.kindOf f = some .local) (ks : env.kindOf "self" = some .local) (hn : hp.Ns env.locals m) (hf : m f = some v) (hself : m "self" = some (.ref x)) (h4 : (f == ("__debug__" : Str)) = false)
    (sw : swapsWith (.Name f q3) (some (.Attribute (.Name "self" q1) f q2)) q4.line env = pure false)
    (hq : ∀ h' tk', (∀ b o, b ≠ dx → hp.get? b = some o → h'.get? b = some o) → h'.Ns1 dx (fun y => if y = f then some v else m0 y) → wpAny (model prog w) A (execs rest env) Q E ⟨h', g, d, tk', os⟩) :
    wpAny (model prog w) A (execs (iSet f q1 q2 q3 q4 :: rest) env) Q E ⟨hp, g, d, t, os⟩ := by
  refine wpAny_execs_cons (plainObj_wpAny_Assign_Attribute ?_ sw)
  refine wpAny_Name (wpAny_loadName_local hk kf hn hf ?_) h4
  refine wpAny_Name (wpAny_loadName_local hk ks hn hself ?_) (by decide)
  exact er_set_old SF X hx hns hw hz hs ho hh ha hq
/-- the whole __init__ -/
theorem er_init {fs : List Str} {x t0 : Addr} {vs : List Value} {mg mb : Str → Option Value} (T : ErTxt prog K qual fs C fI B newId initId bmB) (KF : KxsFacts B initId) (FB : ExcBaseFacts B newId initId bmB) (SF : StoreFacts B bmB "object.__setattr__" "object")
    (X : K.In hp) (hlim : hp.NoLimit) (hg : hp.Ns mainGlobals mg) (hb : hp.Ns builtinsNs mb) (hmb : mb "super" = bootBuiltins "super") (hx : hp.get? x = some (excObj C t0 none .none)) (hnx : K.lookup x = none) (hxg : mainGlobals ≠ x) (hxb : builtinsNs ≠ x) (hroom : A.depth < recursionLimit) (hl : vs.length = fs.length)
    (hq : ∀ h' tk' t1 dd, IEnd hp h' x C t1 dd (fs.zip vs) → R (.ok (.ret .none)) ⟨h', g, d, tk', os⟩) :
    codeAny (model prog w) A (.call (.ref fI) ⟨.ref x :: vs, []⟩) R ⟨hp, g, d, t, os⟩ := by
  obtain ⟨oc, od, params, body, scope, doc, pm, an, cda, cc, ct, osl, ho, hcd, form, S⟩ := T.fn
  have hNo := T.no
  have hsa := T.sa
  have hov := T.ov
  have hhd := T.hd
  have hGl : ∀ (h1 : Heap) (m : Str → Option Value), h1.Ns hp.objs.size m → (∀ b o, hp.get? b = some o → h1.get? b = some o) → Fr (hideAll hp [x]) hp.objs.size h1 m := fun h1 m hns k => ⟨hns, fun b o e => k b o (of_hideAll _ e), Nat.le_of_eq (hideAll_size _ _)⟩
  have hNw : ∀ (h1 : Heap), (∀ b o, hp.get? b = some o → h1.get? b = some o) → News (hideAll hp [x]) hp.objs.size h1 [(x, excObj C t0 none .none)] := fun h1 k p hp' => by
    rcases List.mem_singleton.mp hp' with rfl
    exact ⟨k _ _ hx, Nat.ne_of_lt (Heap.lt_size hx), hideAll_none _ (by simp)⟩
  have nsOf : ∀ {m : Str → Option Value} {h1 h2 : Heap} {y : Addr}, h1.Ns hp.objs.size m → (∀ b o, b ≠ y → h1.get? b = some o → h2.get? b = some o) → hp.objs.size ≠ y → h2.Ns hp.objs.size m := fun {m h1 h2 y} n k ny => by
    obtain ⟨o, es, ep, e, r⟩ := n
    exact ⟨o, es, ep, k _ _ ny e, r⟩
  have nx : hp.objs.size ≠ x := Nat.ne_of_gt (Heap.lt_size hx)
  have knx : ∀ {h1 h2 : Heap}, K.In h1 → (∀ b o, b ≠ x → h1.get? b = some o → h2.get? b = some o) → K.In h2 := fun {h1 h2} X1 k a o e => k a o (fun z => by rw [z, hnx] at e; cases e) (X1 a o e)
  have enter : ∀ (body : List Stmt) (b : IBind fs params) (ho' : K.lookup fI = some ⟨oc, od, .func (ksFn "__init__" qual params body (iScope fs) .none .none doc pm an (.ref cda) ct cc), osl⟩),
      (∀ h1 tk1, h1.Ns hp.objs.size (fun y => ((("self" : Str), Value.ref x) :: fs.zip vs).reverse.lookup y) → (∀ b o, hp.get? b = some o → h1.get? b = some o) →
        _root_.PySem.wpAt (model prog w) (A.deeper (ksEnv qual (iScope fs) hp.objs.size fI (.ref cda) cc)) (.func body (ksEnv qual (iScope fs) hp.objs.size fI (.ref cda) cc)) (execs body (ksEnv qual (iScope fs) hp.objs.size fI (.ref cda) cc))
          (fun fl s' => R (.ok (.ret (match fl with | .ret v => v | _ => .none))) s') (fun e s' => wpAny (model prog w) (A.deeper (ksEnv qual (iScope fs) hp.objs.size fI (.ref cda) cc)) (leaving (ksEnv qual (iScope fs) hp.objs.size fI (.ref cda) cc) e) (fun _ s'' => R (.error e) s'') (fun e' s'' => R (.error e') s'') s') ⟨h1, g, d, tk1, os⟩) →
      codeAny (model prog w) A (.call (.ref fI) ⟨.ref x :: vs, []⟩) R ⟨hp, g, d, t, os⟩ := fun body b ho' z => by
    refine ks_codeAny_call_defAt (fd := ksFn "__init__" qual params body (iScope fs) .none .none doc pm an (.ref cda) ct cc) (body := body) (binds := (("self" : Str), Value.ref x) :: fs.zip vs) hroom (X _ _ ho') rfl hlim (codeRec_of X hcd) rfl (BindsTo.of_eq (b.bnd _ _ _ _ _ _ _ _ _ _ hl)) (no_cell fs) (fun y hy => ?_) (fun h1 hns k => z h1 _ hns k) rfl rfl rfl
    rcases List.mem_cons.mp hy with rfl | hy
    · exact b.self
    · exact (b.loc y.1 (List.of_mem_zip hy).1).1
  cases form with
  | no params a1 a2 a3 a4 a5 a6 t he b =>
    obtain ⟨pl, he⟩ := he qual hp.objs.size fI (.ref cda) cc
    obtain ⟨ar, har, hae⟩ := b.hd
    refine enter _ b ho fun h1 tk1 hns k => ?_
    refine er_super (q := qual) (scope := iScope []) (rest := []) S KF FB (hGl _ _ hns k) (hide_in X hnx) (hNw _ k) (hide_ns hg hxg) (hide_ns hb hxb) hmb ho har (by rw [hae]; exact b.ms x vs hl) b.sup he b.cls (by rw [hae]; exact b.self) rfl (fun h' tk' t' F' hx' => ?_)
    refine wpAny_execs_nil (hq h' tk' t' none ⟨fun b o hb e => F'.keep b o (hideAll_get _ e (by simpa using hb)), hx', .inl ⟨rfl, by simp⟩⟩)
  | one params a1 a2 a3 a4 a5 a6 q1 q2 q3 q4 t f he s1 b =>
    obtain ⟨pl, he⟩ := he qual hp.objs.size fI (.ref cda) cc
    obtain ⟨ar, har, hae⟩ := b.hd
    obtain ⟨v, rfl⟩ : ∃ v, vs = [v] := by
      match vs, hl with
      | [v], _ => exact ⟨v, rfl⟩
    refine enter _ b ho fun h1 tk1 hns k => ?_
    refine er_super (q := qual) (scope := iScope [f]) (rest := [iSet f q1 q2 q3 q4]) S KF FB (hGl _ _ hns k) (hide_in X hnx) (hNw _ k) (hide_ns hg hxg) (hide_ns hb hxb) hmb ho har (by rw [hae]; exact b.ms x [v] hl) b.sup he b.cls (by rw [hae]; exact b.self) rfl (fun h' tk' t' F' hx' => ?_)
    have k' : ∀ b o, b ≠ x → hp.get? b = some o → h'.get? b = some o := fun b o hb e => F'.keep b o (hideAll_get _ e (by simpa using hb))
    refine er_store1 (L := hp.objs.size) (v := v) SF (knx X k') hx' hsa hov hhd (hNo f (by simp)) rfl (b.loc f (by simp)).1 b.self F'.ns (b.mf x [v] 0 f v hl rfl rfl) (b.ms x [v] hl) (b.loc f (by simp)).2 (s1 _ _ _ _ _) (fun h2 tk2 dx k2 big ne hx2 hn2 => ?_)
    refine wpAny_execs_nil (hq h2 tk2 t' (some dx) ⟨fun b o hb e => k2 b o hb (k' b o hb e), hx2, .inr ⟨by simp, dx, rfl, Nat.le_trans (Nat.le_of_lt F'.ns.lt) big, ne, _, hn2, fun y => ?_⟩⟩)
    show (if y = f then some v else none) = ([(f, v)] : List (Str × Value)).lookup y
    by_cases e : y = f
    · subst e
      simp [List.lookup]
    · rw [if_neg e]
      simp [List.lookup, (by simpa using e : (y == f) = false)]
  | two params a1 a2 a3 a4 a5 a6 q1 q2 q3 q4 r1 r2 r3 r4 t f kk he s1 s2 b =>
    obtain ⟨pl, he⟩ := he qual hp.objs.size fI (.ref cda) cc
    obtain ⟨ar, har, hae⟩ := b.hd
    obtain ⟨v, u, rfl⟩ : ∃ v u, vs = [v, u] := by
      match vs, hl with
      | [v, u], _ => exact ⟨v, u, rfl⟩
    refine enter _ b ho fun h1 tk1 hns k => ?_
    refine er_super (q := qual) (scope := iScope [f, kk]) (rest := [iSet f q1 q2 q3 q4, iSet kk r1 r2 r3 r4]) S KF FB (hGl _ _ hns k) (hide_in X hnx) (hNw _ k) (hide_ns hg hxg) (hide_ns hb hxb) hmb ho har (by rw [hae]; exact b.ms x [v, u] hl) b.sup he b.cls (by rw [hae]; exact b.self) rfl (fun h' tk' t' F' hx' => ?_)
    have k' : ∀ b o, b ≠ x → hp.get? b = some o → h'.get? b = some o := fun b o hb e => F'.keep b o (hideAll_get _ e (by simpa using hb))
    have hX' := knx X k'
    refine er_store1 (L := hp.objs.size) (v := v) SF hX' hx' hsa hov hhd (hNo f (by simp)) rfl (b.loc f (by simp)).1 b.self F'.ns (b.mf x [v, u] 0 f v hl rfl rfl) (b.ms x [v, u] hl) (b.loc f (by simp)).2 (s1 _ _ _ _ _) (fun h2 tk2 dx k2 big ne hx2 hn2 => ?_)
    have hX2 := knx hX' k2
    have hF2 := nsOf F'.ns k2 nx
    have dL : hp.objs.size ≠ dx := Nat.ne_of_lt (Nat.lt_of_lt_of_le F'.ns.lt big)
    refine er_store2 (L := hp.objs.size) (v := u) (nl := [f]) SF hX2 hx2 hn2 (fun y hy => ?_) (by simp) hsa hov hhd (hNo kk (by simp)) rfl (b.loc kk (by simp)).1 b.self hF2 (b.mf x [v, u] 1 kk u hl rfl rfl) (b.ms x [v, u] hl) (b.loc kk (by simp)).2 (s2 _ _ _ _ _) (fun h3 tk3 k3 hn3 => ?_)
    · by_cases e : y = f
      · simp [e]
      · exact absurd (if_neg e) hy
    refine wpAny_execs_nil (hq h3 tk3 t' (some dx) ⟨fun b o hb e => k3 b o (fun z => ?_) (k2 b o hb (k' b o hb e)), k3 _ _ ne.symm hx2, .inr ⟨by simp, dx, rfl, Nat.le_trans (Nat.le_of_lt F'.ns.lt) big, ne, _, hn3, fun y => ?_⟩⟩)
    · subst z
      exact absurd (Nat.lt_of_lt_of_le (Heap.lt_size (k' _ _ hb e)) big) (Nat.lt_irrefl _)
    show (if y = kk then some u else if y = f then some v else none) = ([(f, v), (kk, u)] : List (Str × Value)).lookup y
    have nfk : f ≠ kk := by
      have := b.ne
      simpa using this
    by_cases e : y = f
    · subst e
      simp [List.lookup, nfk]
    · have e' : (y == f) = false := by simpa using e
      by_cases e2 : y = kk
      · subst e2
        simp [List.lookup, e']
      · rw [if_neg e2, if_neg e]
        simp [List.lookup, e', (by simpa using e2 : (y == kk) = false)]
end
end Er
end PySem
namespace PySem
namespace Er
open PySem.W PySem.Calls PyProof.Rows PySem.HandSPX
/-- a made error -/
structure EMade (h h' : Heap) (e C t1 : Addr) (dd : Option Addr) (fvs : List (Str × Value)) : Prop where
  keep : ∀ b o, h.get? b = some o → h'.get? b = some o
  new : h.objs.size ≤ e
  obj : h'.get? e = some (excObj C t1 dd .none)
  dict : (dd = none ∧ fvs = []) ∨ fvs ≠ [] ∧ ∃ dx, dd = some dx ∧ h.objs.size ≤ dx ∧ dx ≠ e ∧ ∃ mA, h'.Ns1 dx mA ∧ ∀ y, mA y = fvs.lookup y
section
variable {prog : Program} {w : World} {A : Around} {E : Value → Shared → Prop} {R : Result → Shared → Prop} {K : Frag} {C fI : Addr} {qual : Str} {B newId initId : String} {bmB : List Value} {hp : Heap} {g : Array GenState} {d : Drawn} {t : Nat} {os : OsState}
theorem er_made {fs : List Str} {vs : List Value} {mg mb : Str → Option Value} (T : ErTxt prog K qual fs C fI B newId initId bmB) (KF : KxsFacts B initId) (FB : ExcBaseFacts B newId initId bmB) (SF : StoreFacts B bmB "object.__setattr__" "object") (hex : excInitIn K C bmB newId = true)
    (X : K.In hp) (hlim : hp.NoLimit) (hg : hp.Ns mainGlobals mg) (hb : hp.Ns builtinsNs mb) (hmb : mb "super" = bootBuiltins "super") (hroom : A.depth + 1 < recursionLimit) (hl : vs.length = fs.length) (hz : vs.length ≤ sizeLine)
    (hq : ∀ h' tk' e t1 dd, EMade hp h' e C t1 dd (fs.zip vs) → R (.ok (.ret (.ref e))) ⟨h', g, d, tk', os⟩) :
    codeAny (model prog w) A (.call (.ref C) ⟨vs, []⟩) R ⟨hp, g, d, t, os⟩ := by
  obtain ⟨nm, N', qn, bs, bm, hdct, sn, sub, ab, col, dd, k0, k1, k2, k3, k5, hC, hT⟩ := excInit_of X hex
  have k : ∀ b o, hp.get? b = some o → ((hp.push (kdv_tup vs)).push (excO C hp.objs.size)).get? b = some o := fun b o e => Heap.get?_push_of_some _ (Heap.get?_push_of_some _ e)
  have hget : ((hp.push (kdv_tup vs)).push (excO C hp.objs.size)).get? (hp.objs.size + 1) = some (excO C hp.objs.size) := by heap_get
  have big : ∀ {b : Addr} {o : Obj}, hp.get? b = some o → b ≠ hp.objs.size + 1 := fun {b o} e => Nat.ne_of_lt (Nat.lt_succ_of_lt (Heap.lt_size e))
  have hnx : K.lookup (hp.objs.size + 1) = none := by
    cases e : K.lookup (hp.objs.size + 1) with
    | none => rfl
    | some o => exact absurd rfl (big (X _ _ e))
  have gne : mainGlobals ≠ hp.objs.size + 1 := by
    obtain ⟨o, _, _, e, _⟩ := hg
    exact big e
  have bne : builtinsNs ≠ hp.objs.size + 1 := by
    obtain ⟨o, _, _, e, _⟩ := hb
    exact big e
  refine call_own FB hT hC (looks_findIn X T.init) (fun self => bind_fn X self T.ty) hz ?_
  refine er_init (hp := (hp.push (kdv_tup vs)).push (excO C hp.objs.size)) (x := hp.objs.size + 1) (t0 := hp.objs.size) T KF FB SF (X.keeps k) (hlim.keeps k) (hg.keeps k) (hb.keeps k) hmb hget hnx gne bne ?_ hl fun h' tk' t1 dd ⟨k', hx, hd⟩ => ?_
  · show A.depth + 1 < recursionLimit
    exact hroom
  · have old : ∀ b o, hp.get? b = some o → h'.get? b = some o := fun b o e => k' b o (big e) (k b o e)
    refine ⟨rfl, hq h' tk' (hp.objs.size + 1) t1 dd ⟨old, Nat.le_succ _, hx, ?_⟩⟩
    rcases hd with hd | ⟨e0, dx, e1, e2, e3⟩
    · exact .inl hd
    · refine .inr ⟨e0, dx, e1, ?_, e3⟩
      have z : hp.objs.size + 1 + 1 ≤ dx := by
        have q := e2
        rw [Heap.size_push, Heap.size_push] at q
        exact q
      exact Nat.le_trans (Nat.le_trans (Nat.le_succ _) (Nat.le_succ _)) z
end
end Er
end PySem
namespace L2
open PySem PySem.Spec PyProof.Rows
theorem relO_zip : ∀ {fs : List Str} {vs : List V} {us : List Value}, Vals vs us → ∀ f, RelO ((fs.zip vs).lookup f) ((fs.zip us).lookup f)
  | [], _, _, _, f => by simp [RelO]
  | _ :: _, _, _, .nil, f => by simp [RelO]
  | a :: fs, _, _, .cons r t, f => by
    simp only [List.zip_cons_cons, List.lookup_cons]
    cases e : f == a with
    | true => exact r
    | false => exact relO_zip t f
/-- an own error class: what is known of it, with its base's facts -/
structure ErC (prog : Program) (K : PySem.W.Frag) (qual : Str) (fs : List Str) (C : Addr) : Prop where
  ex : ∃ fI B newId initId bmB, PySem.Er.ErTxt prog K qual fs C fI B newId initId bmB ∧ PySem.W.KxsFacts B initId ∧ ExcBaseFacts B newId initId bmB ∧ StoreFacts B bmB "object.__setattr__" "object" ∧ PySem.W.excInitIn K C bmB newId = true
  exC : PySem.W.subIn K (.ref C) (.type "BaseException") = some true
  tyC : PySem.W.typeIn K (.ref C) = some (.type "type")
  kC : PySem.W.keepIn K (.ref C) = true
section
variable {X : Cx} {C : Addr} {qual : Str} {fs : List Str}
/-- C(e, ..) -/
def tMkEr (C : Addr) (fs : List Str) (ta : TA) : St → Hp → XK → Prop := fun σ H Q => ta σ H fun vs H1 => vs.length = fs.length ∧ vs.length ≤ 1000 ∧ (fs = [] → Q (.ref C) none H1) ∧ (fs ≠ [] → ∀ d, H1 d = none → Q (.ref C) (some d) (upd H1 d (.xd (fs.zip vs))))
theorem er_run {pins : List (Addr × Obj)} {σ : St} {H1 : Hp} {s1 : Shared} {vs : List V} {us : List Value} {Q : XK} {k : Nat} (T : ErC X.prog X.K qual fs C) (hr : Room k X.A) (I1 : Inv X pins σ H1 s1) (r1 : Vals vs us) (hl : vs.length = fs.length) (hz : vs.length ≤ 1000)
    (q0 : fs = [] → Q (.ref C) none H1) (q1 : fs ≠ [] → ∀ d, H1 d = none → Q (.ref C) (some d) (upd H1 d (.xd (fs.zip vs)))) : wpAny (model X.prog X.w) X.A (call (.ref C) us) (MkP X pins σ Q) X.xe s1 := by
  obtain ⟨fI, B, newId, initId, bmB, T1, KF, FB, SF, hex⟩ := T.ex
  have hlim := I1.nolimit
  have hK := I1.kIn
  have hm := I1.mod
  obtain ⟨mb, hb, hbt⟩ := hm.blt
  have hg := hm.glob.keeps I1.bk
  have hb' := hb.keeps I1.bk
  have lu : us.length = fs.length := r1.length.symm.trans hl
  have zu : us.length ≤ sizeLine := by
    rw [← r1.length, sizeLine_eq]
    omega
  obtain ⟨hp, g, dr, tk, os⟩ := s1
  refine wpAny_call (PySem.Er.er_made T1 KF FB SF hex hK hlim hg hb' (hbt "super" (by decide)) (by have := hr.dp; omega) lu zu fun h' tk' e t1 dd M => ?_)
  show MkP X pins σ Q (.ref e) ⟨h', g, dr, tk', os⟩
  obtain ⟨G', g1, g2⟩ := restrict h' fun b => decide (b ≠ e)
  have gk : ∀ b, b ≠ e → G'.get? b = h'.get? b := fun b hb => g1 b (decide_eq_true hb)
  have ge : G'.get? e = none := g2 e (by simp)
  have old : ∀ b o, hp.get? b = some o → G'.get? b = some o := fun b o q => (gk b (Nat.ne_of_lt (Nat.lt_of_lt_of_le (Heap.lt_size q) M.new))).trans (M.keep b o q)
  have back : ∀ b o, G'.get? b = some o → h'.get? b = some o := fun b o q => by
    by_cases hb : b = e
    · rw [hb, ge] at q
      cases q
    · exact (gk b hb).symm.trans q
  rcases M.dict with ⟨ed, ef⟩ | ⟨e0, dx, ed, big, ne, mA, hns, hmA⟩
  · subst ed
    have f0 : fs = [] := by
      cases fs with
      | nil => rfl
      | cons a l =>
        cases us with
        | nil => cases lu
        | cons u us => cases ef
    have J : Inv X pins σ H1 ⟨G', g, dr, tk', os⟩ := I1.kept (t' := tk') old
    exact ⟨e, _, _, ⟨G', g, dr, tk', os⟩, _, .ref C, none, rfl, J, back, ge, M.obj, ⟨rfl, rfl⟩, rfl, rfl, I1.hok.fresh M.new, rfl, I1.bare, raises_own T.exC T.tyC, q0 f0⟩
  · subst ed
    have f0 : fs ≠ [] := fun z => e0 (by rw [z]; rfl)
    have ob : ObjOk X.prog X.w (upd H1 dx (.xd (fs.zip vs))) G' dx (.xd (fs.zip vs)) := ⟨mA, hns.at (fun o q => (gk dx ne).trans q), fun f => by rw [hmA f]; exact relO_zip r1 f⟩
    have J : Inv X pins σ (upd H1 dx (.xd (fs.zip vs))) ⟨G', g, dr, tk', os⟩ := I1.laid (t' := tk') old big ob
    refine ⟨e, _, _, ⟨G', g, dr, tk', os⟩, _, .ref C, some dx, rfl, J, back, ge, M.obj, ⟨rfl, rfl⟩, rfl, rfl, ?_, rfl, I1.bare, raises_own T.exC T.tyC, q1 f0 dx (I1.hok.fresh big)⟩
    rw [upd_ne (Ne.symm ne)]
    exact I1.hok.fresh M.new
end
end L2
namespace L2
open PySem PySem.Spec PyProof.Rows
section
variable {X : Cx} {C : Addr} {qual : Str} {fs : List Str} {x : Str} {p pos pos2 : Pos} {e : Expr} {es : List Expr} {ta : TA} {k : Nat} {W : WX}
theorem pmk_er (T : ErC X.prog X.K qual fs C) (hr : Room k X.A) (hm : X.mg x = some (.ref C)) (ha : PA X (e :: es) ta) (hg : Gl X x := by rfl) (hdb : (x == ("__debug__" : Str)) = false := by decide)
    (he : starEach (e :: es) X.env = (false, eval e X.env) :: starEach es X.env := by rfl) (hpl : (backTo pos (starEach es X.env)).any (·.1) = false := by rfl) : PMk X (.Call (.Name x p) (e :: es) [] pos) (tMkEr C fs ta) := by
  intro pins s σ H Q I h
  refine wpAny_Call_Name_kw (ld_glob I hg hm ?_ hdb)
  refine PySem.W.callWith_K (h₀ := X.base) I.ok.mod.kin T.kC (thn (ha.run pos pins s σ H _ I h) fun us s1 hh => ?_) he hpl
  obtain ⟨vs, H1, I1, r1, hl, hz, q0, q1⟩ := hh
  exact ⟨I1.kIn, er_run T hr I1 r1 hl hz q0 q1⟩
theorem pmk_er0 (T : ErC X.prog X.K qual [] C) (hr : Room k X.A) (hm : X.mg x = some (.ref C)) (hg : Gl X x := by rfl) (hdb : (x == ("__debug__" : Str)) = false := by decide) : PMk X (.Call (.Name x p) [] [] pos) (tMkEr C [] tNil) := by
  intro pins s σ H Q I h
  refine wpAny_Call_Name_kw (ld_glob I hg hm ?_ hdb)
  refine PySem.W.callWith_K0 I.kIn T.kC ?_
  obtain ⟨hl, hz, q0, q1⟩ := h
  exact er_run T hr I .nil hl hz q0 q1
/-- raise C(e, ..) -/
def tRaiseEr (C : Addr) (fs : List Str) (W : WX) (ta : TA) : TS := fun _ σ H => tMkEr C fs ta σ H fun cls d H' => W cls d σ H'
theorem ps_raiseEr (hc : X.calm = true) (T : ErC X.prog X.K qual fs C) (hr : Room k X.A) (tk : Takes X W) (hm : X.mg x = some (.ref C)) (ha : PA X (e :: es) ta) (hg : Gl X x := by rfl) (hdb : (x == ("__debug__" : Str)) = false := by decide)
    (he : starEach (e :: es) X.env = (false, eval e X.env) :: starEach es X.env := by rfl) (hpl : (backTo pos (starEach es X.env)).any (·.1) = false := by rfl) :
    PS X (.Raise (some (.Call (.Name x p) (e :: es) [] pos)) none pos2) (tRaiseEr C fs W ta) := ps_raise hc tk (pmk_er T hr hm ha hg hdb he hpl)
theorem ps_raiseEr0 (hc : X.calm = true) (T : ErC X.prog X.K qual [] C) (hr : Room k X.A) (tk : Takes X W) (hm : X.mg x = some (.ref C)) (hg : Gl X x := by rfl) (hdb : (x == ("__debug__" : Str)) = false := by decide) :
    PS X (.Raise (some (.Call (.Name x p) [] [] pos)) none pos2) (tRaiseEr C [] W tNil) := ps_raise hc tk (pmk_er0 T hr hm hg hdb)
end
end L2
namespace Wm
open PySem L2
/-! ## the pen that a law draws with -/
def pk (c : Addr) (a r g m t : Int) : List (Key × V) := [(.inr "cells", .ref c), (.inr "at", .int a), (.inr "rest", .int r), (.inr "digits", .int g), (.inr "mix", .int m), (.inr "turn", .int t)]
theorem pk_get_cells (c : Addr) (a r g m t : Int) : valV (pk c a r g m t) (.inr "cells") = some (.ref c) := by rfl
theorem pk_get_at (c : Addr) (a r g m t : Int) : valV (pk c a r g m t) (.inr "at") = some (.int a) := by rfl
theorem pk_get_rest (c : Addr) (a r g m t : Int) : valV (pk c a r g m t) (.inr "rest") = some (.int r) := by rfl
theorem pk_get_digits (c : Addr) (a r g m t : Int) : valV (pk c a r g m t) (.inr "digits") = some (.int g) := by rfl
theorem pk_get_mix (c : Addr) (a r g m t : Int) : valV (pk c a r g m t) (.inr "mix") = some (.int m) := by rfl
theorem pk_get_turn (c : Addr) (a r g m t : Int) : valV (pk c a r g m t) (.inr "turn") = some (.int t) := by rfl
theorem pk_put_at (c : Addr) (a r g m t n : Int) : putK (pk c a r g m t) (.inr "at") (.int n) = pk c n r g m t := by rfl
theorem pk_put_rest (c : Addr) (a r g m t n : Int) : putK (pk c a r g m t) (.inr "rest") (.int n) = pk c a n g m t := by rfl
theorem pk_put_digits (c : Addr) (a r g m t n : Int) : putK (pk c a r g m t) (.inr "digits") (.int n) = pk c a r n m t := by rfl
theorem pk_put_mix (c : Addr) (a r g m t n : Int) : putK (pk c a r g m t) (.inr "mix") (.int n) = pk c a r g n t := by rfl
theorem pk_put_turn (c : Addr) (a r g m t n : Int) : putK (pk c a r g m t) (.inr "turn") (.int n) = pk c a r g m n := by rfl
/-- a pen stands at p, its cells at c -/
structure PenAt (H : Hp) (p c : Addr) : Prop where
  ex : ∃ (ns : List Int) (a r g m t : Int), H p = some (.dK (pk c a r g m t)) ∧ H c = some (.lst (ns.map V.int)) ∧ 0 ≤ a ∧ 0 ≤ m ∧ m < 2147483648
/-- a step with the pen at p: all else stands -/
structure PenStep (p c : Addr) (H H' : Hp) : Prop where
  pen : PenAt H' p c
  keep : ∀ b o, b ≠ p → H b = some o → H' b = some o
theorem PenStep.refl {p c : Addr} {H : Hp} (h : PenAt H p c) : PenStep p c H H := ⟨h, fun _ _ _ e => e⟩
theorem PenStep.trans {p c : Addr} {H H1 H2 : Hp} (a : PenStep p c H H1) (b : PenStep p c H1 H2) : PenStep p c H H2 := ⟨b.pen, fun c o n e => b.keep c o n (a.keep c o n e)⟩
theorem PenAt.same {p c : Addr} {H H' : Hp} (h : PenAt H p c) (s : Same H H') : PenAt H' p c := by
  obtain ⟨ns, a, r, g, m, t, h1, h2, h3⟩ := h.ex
  exact ⟨ns, a, r, g, m, t, s _ _ h1, s _ _ h2, h3⟩
theorem PenAt.step {p c : Addr} {H H' : Hp} (h : PenAt H p c) (s : Same H H') : PenStep p c H H' := ⟨h.same s, fun b o _ e => s b o e⟩
theorem PenStep.same {p c : Addr} {H H1 H2 : Hp} (a : PenStep p c H H1) (s : Same H1 H2) : PenStep p c H H2 := ⟨a.pen.same s, fun b o n e => s b o (a.keep b o n e)⟩
theorem PenAt.some_p {H : Hp} {p c : Addr} (h : PenAt H p c) : ∃ o, H p = some o := by
  obtain ⟨ns, a, r, g, m, t, h1, h2, h3⟩ := h.ex
  exact ⟨_, h1⟩
theorem PenAt.some_c {H : Hp} {p c : Addr} (h : PenAt H p c) : ∃ o, H c = some o := by
  obtain ⟨ns, a, r, g, m, t, h1, h2, h3⟩ := h.ex
  exact ⟨_, h2⟩
theorem PenAt.ne_new {H : Hp} {p c q : Addr} (h : PenAt H p c) (n : H q = none) : p ≠ q ∧ c ≠ q := by
  obtain ⟨o, e⟩ := h.some_p
  obtain ⟨u, e'⟩ := h.some_c
  exact ⟨ne_of_none e n, ne_of_none e' n⟩
theorem PenAt.put {H : Hp} {p c q : Addr} {o : HO} (h : PenAt H p c) (n : p ≠ q ∧ c ≠ q) : PenAt (upd H q o) p c := by
  obtain ⟨ns, a, r, g, m, t, h1, h2, h3⟩ := h.ex
  exact ⟨ns, a, r, g, m, t, by rw [upd_ne n.1]; exact h1, by rw [upd_ne n.2]; exact h2, h3⟩
/-- a write to an object that was not there at the start -/
theorem PenStep.put {p c q : Addr} {o : HO} {H H1 : Hp} (a : PenStep p c H H1) (h : PenAt H p c) (n : H q = none) : PenStep p c H (upd H1 q o) :=
  ⟨a.pen.put (h.ne_new n), fun b u nb e => by rw [upd_ne (ne_of_none e n)]; exact a.keep b u nb e⟩
theorem dg {H : Hp} {p : Addr} {kvs : List (Key × V)} {x : Str} {v : V} (h : H p = some (.dK kvs)) (e : valV kvs (.inr x) = some v) : DGet H p (.str x) (some v) := e ▸ DGet.k (k := .inr x) h
theorem dp {H : Hp} {p : Addr} {kvs kvs' : List (Key × V)} {x : Str} {v : V} (h : H p = some (.dK kvs)) (e : putK kvs (.inr x) v = kvs') (hl : kvs.length < sizeLine) : DPut H p (.str x) v (upd H p (.dK kvs')) := e ▸ DPut.k (k := .inr x) h hl
theorem dpu {H : Hp} {p : Addr} {kvs kvs' : List (Key × V)} {x : Str} {v : V} (e : putK kvs (.inr x) v = kvs') (hl : kvs.length < sizeLine) : DPut (upd H p (.dK kvs)) p (.str x) v (upd H p (.dK kvs')) := by
  have z := dp (H := upd H p (.dK kvs)) (x := x) (v := v) upd_same e hl
  rwa [upd_upd] at z
theorem same_new {H : Hp} {p : Addr} {o : HO} (h : H p = none) : Same H (upd H p o) := fun b u e => by rw [upd_ne (ne_of_none e h)]; exact e
/-- draws: r with 0 ≤ r < b -/
def spTake : Sp := fun vs H Q _ => ∃ (p c : Addr) (b : Int), vs = [.ref p, .int b] ∧ PenAt H p c ∧ 0 < b ∧ b < 2 ^ 100 ∧ ∀ r H', 0 ≤ r → r < b → PenStep p c H H' → Q (.int r) H'
def spPen (K : PySem.W.Frag) : Sp := fun vs H Q _ => ∃ (a : Addr) (ns : List Int), vs = [.ref a] ∧ SqL K H a (ns.map V.int) ∧ ∀ p c H', PenAt H' p c → Same H H' → H p = none → Q (.ref p) H'
theorem r_take {H : Hp} {Q : VK} {E : XK} {p c : Addr} {b : Int} (h : PenAt H p c) (hb : 0 < b) (hb2 : b < 2 ^ 100) (k : ∀ r H', 0 ≤ r → r < b → PenStep p c H H' → Q (.int r) H') : spTake ([.ref p, .int b] ++ []) H Q E := ⟨p, c, b, rfl, h, hb, hb2, k⟩
theorem p18 : (10 : Int) ^ (18 : Int).toNat = 1000000000000000000 := by decide
theorem sl6 (c : Addr) (a r g m t : Int) : (pk c a r g m t).length < sizeLine := by
  rw [sizeLine_eq]
  exact (by decide : 6 < 16777216)
theorem ite_and {c : Bool} {A B : Prop} (h1 : c = true → A) (h2 : c = false → B) : if c = true then A else B := by
  cases c
  · exact iteF (h2 rfl)
  · exact iteT (h1 rfl)
end Wm
namespace Wm
open PySem L2
/-! ## calls by named readings -/
def rLen (K : PySem.W.Frag) : List V → Hp → VK → Prop := fun xs H Q => ∃ p ys, xs = [.ref p] ∧ (SqL K H p ys ∨ SqT K H p ys) ∧ Q (.int ys.length) H
def rLenS : List V → Hp → VK → Prop := fun xs H Q => ∃ z, xs = [.str z] ∧ z.length ≤ sizeLine ∧ Q (.int z.length) H
def rInt1 : List V → Hp → VK → Prop := fun xs H Q => (∃ i, xs = [.int i] ∧ Q (.int i) H) ∨ ∃ k, xs = [.bl k] ∧ Q (.int (if k then 1 else 0)) H
def rListOf (K : PySem.W.Frag) : List V → Hp → VK → Prop := fun xs H Q => ∃ p ys, xs = [.ref p] ∧ (SqL K H p ys ∨ SqT K H p ys) ∧ ∀ l, H l = none → Q (.ref l) (upd H l (.lst ys))
def rTupOf (K : PySem.W.Frag) : List V → Hp → VK → Prop := fun xs H Q => ∃ p ys, xs = [.ref p] ∧ ((SqL K H p ys ∧ ∀ l, H l = none → Q (.ref l) (upd H l (.tup ys))) ∨ (SqT K H p ys ∧ Q (.ref p) H))
section
variable {X : Cx}
theorem c_len : CallR X (.builtin "len") (rLen X.K) := call_len_seq
theorem c_lenS : CallR X (.builtin "len") rLenS := call_len_str
theorem c_int1 : CallR X (.type "int") rInt1 := call_int1
theorem c_list : CallR X (.type "list") (rListOf X.K) := call_list_of
theorem c_tuple : CallR X (.type "tuple") (rTupOf X.K) := call_tuple_of
end
/-! ## steps through a reading -/
section
variable {D : Ends} {σ : St} {H : Hp} {Q : VK} {t u : TS} {te ta tb : TE} {g : TG} {x y v : V} {K : PySem.W.Frag}
theorem r_seq (h : t { D with nx := u D } σ H) : tSeq t u D σ H := h
theorem r_next (h : D.nx σ H) : tNext D σ H := h
theorem r_asg (h : te σ H fun x H1 => g x σ H1 D.nx) : tAsg te g D σ H := h
theorem r_gname {i : Nat} {σ' : St} {R : St → Hp → Prop} (e : σ.set i (some v) = σ') (h : R σ' H) : gName i v σ H R := by
  unfold gName
  rw [e]
  exact h
theorem r_ret (h : te σ H D.rt) : tRet te D σ H := h
theorem r_retN (h : D.rt .non H) : tRetN D σ H := h
theorem r_drop (h : te σ H fun _ H1 => D.nx σ H1) : tDrop te D σ H := h
theorem r_ifs {c : TT} (h : c σ H fun b H1 => if b = true then t D σ H1 else u D σ H1) : tIfS c t u D σ H := h
theorem r_var {i : Nat} (h : σ[i]? = some (some v)) (q : Q v H) : tVar i σ H Q := ⟨v, h, q⟩
theorem r_c (q : Q v H) : tC v σ H Q := q
theorem r_op {r : R2} (h : ta σ H fun x H1 => tb σ H1 fun y H2 => r x y H2 Q) : tOp r ta tb σ H Q := h
theorem r_i0 {f : Int → Int → V} {i j : Int} (h : Q (f i j) H) : rI0 f (.int i) (.int j) H Q := ⟨i, j, rfl, rfl, h⟩
theorem r_i {C : Int → Int → Prop} {f : Int → Int → V} {i j : Int} (c : C i j) (h : Q (f i j) H) : rI C f (.int i) (.int j) H Q := ⟨i, j, rfl, rfl, c, h⟩
theorem r_eqi {i j : Int} (h : Q (.bl (decide (i = j))) H) : rEq (.int i) (.int j) H Q := ⟨rfl, by rwa [show decide (V.int i = V.int j) = decide (i = j) from by simp]⟩
theorem r_eqs {i j : Str} (h : Q (.bl (decide (i = j))) H) : rEq (.str i) (.str j) H Q := ⟨rfl, by rwa [show decide (V.str i = V.str j) = decide (i = j) from by simp]⟩
theorem r_eqb {i j : Bool} (h : Q (.bl (decide (i = j))) H) : rEq (.bl i) (.bl j) H Q := ⟨rfl, by rwa [show decide (V.bl i = V.bl j) = decide (i = j) from by simp]⟩
theorem r_eq (s : scal x y = true) (h : Q (.bl (decide (x = y))) H) : rEq x y H Q := ⟨s, h⟩
theorem r_nei {i j : Int} (h : Q (.bl (!decide (i = j))) H) : rNe (.int i) (.int j) H Q := ⟨rfl, by rwa [show decide (V.int i = V.int j) = decide (i = j) from by simp]⟩
theorem r_nes {i j : Str} (h : Q (.bl (!decide (i = j))) H) : rNe (.str i) (.str j) H Q := ⟨rfl, by rwa [show decide (V.str i = V.str j) = decide (i = j) from by simp]⟩
theorem r_neb {i j : Bool} (h : Q (.bl (!decide (i = j))) H) : rNe (.bl i) (.bl j) H Q := ⟨rfl, by rwa [show decide (V.bl i = V.bl j) = decide (i = j) from by simp]⟩
theorem r_ne (s : scal x y = true) (h : Q (.bl (!decide (x = y))) H) : rNe x y H Q := ⟨s, h⟩
theorem r_test {R : Bool → Hp → Prop} (h : te σ H fun x H' => ∃ k, x = .bl k ∧ R k H') : tTest te σ H R := h
theorem r_tb {R : Bool → Hp → Prop} (h : te σ H fun x H' => ∃ k, x = .bl k ∧ R k H') : tB te σ H R := h
theorem r_bl {b : Bool} {R : Bool → Prop} (h : R b) : ∃ k, V.bl b = V.bl k ∧ R k := ⟨b, rfl, h⟩
theorem r_and {p q : TT} {R : Bool → Hp → Prop} (h : p σ H fun c H1 => if c = true then q σ H1 R else R false H1) : tAnd p q σ H R := h
theorem r_or {p q : TT} {R : Bool → Hp → Prop} (h : p σ H fun c H1 => if c = true then R true H1 else q σ H1 R) : tOr p q σ H R := h
theorem r_not {p : TT} {R : Bool → Hp → Prop} (h : p σ H fun c H1 => R (!c) H1) : tNot p σ H R := h
theorem r_andV (h : ta σ H fun x H1 => ∃ c, x = .bl c ∧ if c = true then tb σ H1 Q else Q (.bl false) H1) : tAndV ta tb σ H Q := h
theorem r_orV (h : ta σ H fun x H1 => ∃ c, x = .bl c ∧ if c = true then Q (.bl true) H1 else tb σ H1 Q) : tOrV ta tb σ H Q := h
theorem r_notV (h : ta σ H fun x H1 => ∃ c, x = .bl c ∧ Q (.bl (!c)) H1) : tNotV ta σ H Q := h
theorem r_if {c : TT} (h : c σ H fun b H1 => if b = true then ta σ H1 Q else tb σ H1 Q) : tIf c ta tb σ H Q := h
theorem r_nil {R : List V → Hp → Prop} (h : R [] H) : tNil σ H R := h
theorem r_cons {tr : TA} {R : List V → Hp → Prop} (h : te σ H fun x H1 => tr σ H1 fun xs H2 => R (x :: xs) H2) : tCons te tr σ H R := h
def lstEnd (Q : VK) : List V → Hp → Prop := fun xs H1 => xs.length ≤ sizeLine ∧ ∀ p, H1 p = none → Q (.ref p) (upd H1 p (.lst xs))
def tupEnd (Q : VK) : List V → Hp → Prop := fun xs H1 => xs.length ≤ sizeLine ∧ ∀ p, H1 p = none → Q (.ref p) (upd H1 p (.tup xs))
theorem r_lst {tr : TA} (h : tr σ H (lstEnd Q)) : tLst tr σ H Q := h
theorem r_tup {tr : TA} (h : tr σ H (tupEnd Q)) : tTup tr σ H Q := h
theorem r_lstE {xs : List V} (l : xs.length ≤ sizeLine) (k : ∀ p H', H p = none → Same H H' → H' p = some (.lst xs) → Q (.ref p) H') : lstEnd Q xs H := ⟨l, fun p n => k p _ n (same_new n) upd_same⟩
theorem r_tupE {xs : List V} (l : xs.length ≤ sizeLine) (k : ∀ p H', H p = none → Same H H' → H' p = some (.tup xs) → Q (.ref p) H') : tupEnd Q xs H := ⟨l, fun p n => k p _ n (same_new n) upd_same⟩
theorem r_cb {r : List V → Hp → VK → Prop} {tr : TA} (h : tr σ H fun vs H1 => r vs H1 Q) : tCB r tr σ H Q := h
theorem r_call {sp : Sp} {dvs : List V} {E : XK} {tr : TA} (h : tr σ H fun vs H1 => sp (vs ++ dvs) H1 Q E) : tCall sp dvs E tr σ H Q := h
theorem r_dget (h : ta σ H fun x H1 => tb σ H1 fun y H2 => ∃ a v, x = .ref a ∧ DGet H2 a y (some v) ∧ Q v H2) : tDGet ta tb σ H Q := h
theorem r_dgetK {p : Addr} {kvs : List (Key × V)} {k : Str} {R : V → Prop} (h : H p = some (.dK kvs)) (e : valV kvs (.inr k) = some v) (q : R v) : ∃ a v, V.ref p = .ref a ∧ DGet H a (.str k) (some v) ∧ R v := ⟨p, v, rfl, dg h e, q⟩
theorem r_dput {tv : TE} (h : tv σ H fun v H1 => ta σ H1 fun x H2 => tb σ H2 fun y H3 => ∃ a H4, x = .ref a ∧ DPut H3 a y v H4 ∧ D.nx σ H4) : sDPut ta tb tv D σ H := h
theorem r_dputU {p : Addr} {kvs kvs' : List (Key × V)} {k : Str} {R : Hp → Prop} (e : putK kvs (.inr k) v = kvs') (hl : kvs.length < sizeLine) (q : R (upd H p (.dK kvs'))) : ∃ a H4, V.ref p = .ref a ∧ DPut (upd H p (.dK kvs)) a (.str k) v H4 ∧ R H4 := ⟨p, _, rfl, dpu e hl, q⟩
theorem r_dputK {p : Addr} {kvs kvs' : List (Key × V)} {k : Str} {R : Hp → Prop} (h : H p = some (.dK kvs)) (e : putK kvs (.inr k) v = kvs') (hl : kvs.length < sizeLine) (q : R (upd H p (.dK kvs'))) : ∃ a H4, V.ref p = .ref a ∧ DPut H a (.str k) v H4 ∧ R H4 := ⟨p, _, rfl, dp h e hl, q⟩
theorem r_len {p : Addr} {ys : List V} (h : SqL K H p ys) (q : Q (.int ys.length) H) : rLen K [.ref p] H Q := ⟨p, ys, rfl, .inl h, q⟩
theorem r_lenT {p : Addr} {ys : List V} (h : SqT K H p ys) (q : Q (.int ys.length) H) : rLen K [.ref p] H Q := ⟨p, ys, rfl, .inr h, q⟩
theorem r_int1 {i : Int} (q : Q (.int i) H) : rInt1 [.int i] H Q := .inl ⟨i, rfl, q⟩
theorem r_listL {p : Addr} {ys : List V} (h : SqL K H p ys) (q : ∀ l, H l = none → Q (.ref l) (upd H l (.lst ys))) : rListOf K [.ref p] H Q := ⟨p, ys, rfl, .inl h, q⟩
theorem r_listT {p : Addr} {ys : List V} (h : SqT K H p ys) (q : ∀ l, H l = none → Q (.ref l) (upd H l (.lst ys))) : rListOf K [.ref p] H Q := ⟨p, ys, rfl, .inr h, q⟩
theorem r_tupL {p : Addr} {ys : List V} (h : SqL K H p ys) (q : ∀ l, H l = none → Q (.ref l) (upd H l (.tup ys))) : rTupOf K [.ref p] H Q := ⟨p, ys, rfl, .inl ⟨h, q⟩⟩
theorem r_tupT {p : Addr} {ys : List V} (h : SqT K H p ys) (q : Q (.ref p) H) : rTupOf K [.ref p] H Q := ⟨p, ys, rfl, .inr ⟨h, q⟩⟩
theorem r_ixL {p : Addr} {xs : List V} {i : Int} (h : SqL K H p xs) (a : atI xs i = some v) (q : Q v H) : rIxL K (.ref p) (.int i) H Q := ⟨p, xs, i, v, rfl, rfl, h, a, q⟩
theorem r_ixT {p : Addr} {xs : List V} {i : Int} (h : SqT K H p xs) (a : atI xs i = some v) (q : Q v H) : rIxT K (.ref p) (.int i) H Q := ⟨p, xs, i, v, rfl, rfl, h, a, q⟩
theorem r_never (h : False) : tNever D σ H := h
end
theorem at_any {α : Type} {xs : List α} {a : Int} (h0 : 0 ≤ a) (h : a < (xs.length : Nat)) : ∃ z, z ∈ xs ∧ xs[a.toNat]? = some z ∧ atI xs a = some z := by
  obtain ⟨n, rfl⟩ := Int.eq_ofNat_of_zero_le h0
  have hk : n < xs.length := by omega
  exact ⟨xs[n], List.getElem_mem hk, by rw [Int.toNat_natCast]; exact List.getElem?_eq_getElem hk, atI_nat (List.getElem?_eq_getElem hk)⟩
theorem at_int {ns : List Int} {a : Int} (h0 : 0 ≤ a) (h : a < ((ns.map V.int).length : Nat)) : ∃ z, z ∈ ns ∧ atI (ns.map V.int) a = some (V.int z) := by
  obtain ⟨v, hv, _, e⟩ := at_any h0 h
  obtain ⟨z, hz, rfl⟩ := List.mem_map.mp hv
  exact ⟨z, hz, e⟩
theorem pen_put {H : Hp} {p c : Addr} {ns : List Int} {a r g m t : Int} (h : H c = some (.lst (ns.map V.int))) (n : c ≠ p) (ha : 0 ≤ a) (hm : 0 ≤ m) (hm2 : m < 2147483648) : PenStep p c H (upd H p (.dK (pk c a r g m t))) :=
  ⟨⟨ns, a, r, g, m, t, upd_same, by rw [upd_ne n]; exact h, ha, hm, hm2⟩, fun b o nb e => by rw [upd_ne nb]; exact e⟩
theorem wide100 {i b : Int} (h : 0 < b) (hb : b < 2 ^ 100) : CDivW i b := wide_div h (b := 100) (by omega) (by decide) (by decide)
theorem pow18 : CPow 10 18 := ⟨by decide, by decide, by decide⟩
/-- what a heap holds, carried over a step with the pen -/
def isDi : HO → Bool
  | .dK _ => true
  | .dT _ => true
  | .own _ => false
  | _ => false
theorem PenAt.ne {H : Hp} {p c b : Addr} {o : HO} (h : PenAt H p c) (e : H b = some o) (d : isDi o = false) : b ≠ p := fun z => by
  obtain ⟨ns, a, r, g, m, t, h1, _⟩ := h.ex
  rw [z, h1] at e
  cases Option.some.inj e
  cases d
theorem PenStep.at {p c b : Addr} {H H' : Hp} {o : HO} (s : PenStep p c H H') (h : PenAt H p c) (e : H b = some o) (d : isDi o = false) : H' b = some o := s.keep b o (h.ne e d) e
theorem PenStep.atd {p c b : Addr} {H H' : Hp} {o : HO} (s : PenStep p c H H') (e : H b = some o) (d : b ≠ p) : H' b = some o := s.keep b o d e
theorem Same.at {b : Addr} {H H' : Hp} {o : HO} (s : Same H H') (e : H b = some o) : H' b = some o := s b o e
theorem PenStep.free {p c b : Addr} {H H' : Hp} (s : PenStep p c H H') (e : H' b = none) : H b = none := by
  cases q : H b with
  | none => rfl
  | some o =>
    by_cases z : b = p
    · obtain ⟨u, h1⟩ := s.pen.some_p
      rw [z, h1] at e
      cases e
    · rw [s.keep b o z q] at e
      cases e
theorem same_put {H H1 : Hp} {q : Addr} {o : HO} (a : Same H H1) (n : H q = none) : Same H (upd H1 q o) := fun b u e => by rw [upd_ne (ne_of_none e n)]; exact a b u e
theorem r_pick {K : PySem.W.Frag} {H : Hp} {q : Addr} {r : Int} {l : List V} {Q : VK} (ns : List Str) (h : H q = some (.lst l)) (e : l = ns.map V.str) (h0 : 0 ≤ r) (h1 : r < (ns.length : Nat)) (k : ∀ a, a ∈ ns → Q (.str a) H) : rIxL K (.ref q) (.int r) H Q := by
  subst e
  obtain ⟨v, hv, _, e⟩ := at_any (xs := ns.map V.str) h0 (by rw [List.length_map]; exact h1)
  obtain ⟨z, hz, rfl⟩ := List.mem_map.mp hv
  exact r_ixL (SqL.of h) e (k z hz)
end Wm
namespace Wm
open PySem L2 PySem.Spec
open PyProof.Rows hiding St
section
variable {X : Cx}
/-- x == y where x is an instance of a class with its own __eq__ -/
def rEqOwn (K : PySem.W.Frag) (C : Addr) (sp : Sp) (E : XK) : R2 := fun x y H Q => ∃ a dx fs tb, x = .ref a ∧ H a = some (.ins C dx fs) ∧ TyX K H y tb ∧ PySem.W.notFirst K C tb = true ∧ sp [x, y] H (fun v H' => (∃ b, v = .bl b) ∧ Q v H') E
theorem op_eqOwn {CX : CXT} {C f : Addr} {fd : FuncData} {ps : List Str} {k : Nat} {sp : Sp} {E : XK} (F : FnOk X.prog X.w X.K X.mg X.base CX k f fd ps sp) (hr : Room k X.A)
    (hm : Meth X.K C "__eq__" f) (hb : Binds X.K fd ps []) (hx : Passes CX X E) : OpR X (compareOp .Eq) (rEqOwn X.K C sp E) := by
  intro pins s σ H x y v u Q I rx ry hq
  obtain ⟨a, dx, fs, tb, rfl, ha, ty, hn, hsp⟩ := hq
  cases rx
  obtain ⟨mA, J, _⟩ := ins_get I.hok ha
  obtain ⟨od, J, _⟩ := J.look
  obtain ⟨m, hF⟩ := I.fr
  obtain ⟨PP, Z, hp, _⟩ := kit_of I ry ty
  show wpAny (model X.prog X.w) X.A (richCompare .Eq (.ref a) u) (EP X pins σ Q) X.xe s
  refine PySem.W.cmp_K (op := .Eq) (tb := tb) hr.units0 hF I.ok.mod.kin J (Z.ty _ _ I.kIn hp) hn hm.at_ hm.fn ?_
  refine wpAny_mono (run_fn F hr hb .nil hx I (vs := [.ref a, y]) (us := [.ref a, u]) (.cons rfl (.cons ry .nil)) hsp) (fun r s' z => ?_) fun _ _ e => e
  obtain ⟨v, H', I', rv, hvb, q⟩ := z
  obtain ⟨b', rfl⟩ := hvb
  cases rv
  exact ⟨.bl b', H', I', rfl, q⟩
/-- C(e, .., k = v, ..) in a try: what is wished of an error hangs on the slots -/
def tMakeKS (C : Addr) (n m : Nat) (sp : Sp) (gV : List V → List V → List V) (E : St → XK) (t tk : TA) : TE := fun σ H Q => t σ H fun vs H1 => tk σ H1 fun zs H2 => vs.length = n ∧ zs.length = m ∧ ∀ x dx, H2 x = none → H2 dx = none → dx ≠ x →
  sp (gV (.ref x :: vs) zs) (upd (upd H2 dx (.own x)) x (.ins C dx [])) (fun v H3 => v = .non ∧ Q (.ref x) H3) (E σ)
section
variable {CX : CXT} {k n : Nat} {f C : Addr} {fd : FuncData} {ps ks : List Str} {sp : Sp} {E : St → XK} {x : Str} {p pos : Pos} {e : Expr} {es : List Expr} {kws : List Keyword} {t tk : TA} {g : List Value → List Value → List Value} {gV : List V → List V → List V}
theorem run_makeKS {pins : List (Addr × Obj)} {σ : St} {H : Hp} {s : Shared} {Q : VK} {us ws : List Value} {vs zs : List V} (M : Mk X.K C f) (F : FnOk X.prog X.w X.K X.mg X.base CX k f fd ps sp) (hr : Room (k + 1) X.A) (hb : KBn X.K fd ps (n + 1) ks g gV) (hx : PassesAt CX X σ (E σ))
    (I : Inv X pins σ H s) (r : Vals vs us) (rz : Vals zs ws) (l1 : vs.length = n) (l2 : zs.length = ks.length)
    (h : ∀ x dx, H x = none → H dx = none → dx ≠ x → sp (gV (.ref x :: vs) zs) (upd (upd H dx (.own x)) x (.ins C dx [])) (fun v H2 => v = .non ∧ Q (.ref x) H2) (E σ)) :
    wpAny (model X.prog X.w) X.A (call (.ref C) us (ks.zip ws)) (EP X pins σ Q) X.xe s := by
  have hq := h (s.heap.objs.size + 1) s.heap.objs.size (I.hok.fresh (Nat.le_succ _)) (I.hok.fresh (Nat.le_refl _)) (Nat.ne_of_lt (Nat.lt_succ_self _))
  have I2 := Inv.made (C := C) I
  have r1 : Vals (V.ref (s.heap.objs.size + 1) :: vs) (Value.ref (s.heap.objs.size + 1) :: us) := .cons rfl r
  have r2 := hb.rel r1 rz
  have n1 : (Value.ref (s.heap.objs.size + 1) :: us).length = n + 1 := by rw [List.length_cons, ← r.length, l1]
  refine wpAny_call (make_map (f := f) I.kIn M.makes M.init (beq_iff_eq.mp M.fn) (codeAny_mono (F.run _ X.stack _ _ ⟨Value.ref (s.heap.objs.size + 1) :: us, ks.zip ws⟩ (g (Value.ref (s.heap.objs.size + 1) :: us) ws) _ _ (E σ) (hr.make C us (ks.zip ws))
    (I2.env0.make C us (ks.zip ws)) (hb.to _ (Value.ref (s.heap.objs.size + 1) :: us) ws I2.kIn n1 (rz.length.symm.trans l2)) r2 hq) fun r s' hq' => ?_))
  cases r with
  | error e => exact hx pins _ _ e s' I2 hq'
  | ok fl =>
    cases fl with
    | ret u =>
      obtain ⟨v, H', I3, rv, ev, q3⟩ := I2.after hq'
      subst ev
      exact ⟨rv, ⟨V.ref (s.heap.objs.size + 1), H', I3, rfl, q3⟩⟩
    | next => exact False.elim hq'
    | brk => exact False.elim hq'
    | cont => exact False.elim hq'
theorem pe_makeKS (M : Mk X.K C f) (F : FnOk X.prog X.w X.K X.mg X.base CX k f fd ps sp) (hr : Room (k + 1) X.A) (hg : Gl X x) (hm : X.mg x = some (.ref C)) (hb : KBn X.K fd ps (n + 1) ks g gV) (hx : ∀ σ, PassesAt CX X σ (E σ)) (ha : PA X (e :: es) t) (hkw : PK X kws tk)
    (hall : (backToKw pos (keywordEach kws X.env)).all (·.1.isSome) = true := by rfl) (hks : (backToKw pos (keywordEach kws X.env)).filterMap (·.1) = ks := by rfl) (hdb : (x == ("__debug__" : Str)) = false := by decide)
    (he : starEach (e :: es) X.env = (false, eval e X.env) :: starEach es X.env := by rfl) (hpl : ((backTo pos (starEach (e :: es) X.env)).any (·.1) || (backToKw pos (keywordEach kws X.env)).any (·.1.isNone)) = false := by rfl) :
    PE X (.Call (.Name x p) (e :: es) kws pos) (tMakeKS C n ks.length sp gV E t tk) := by
  refine ⟨fun pins s σ H Q I h => ?_⟩
  refine wpAny_Call_Name_kw (ld_glob I hg hm ?_ hdb)
  refine PySem.W.callWith_KW (h₀ := X.base) I.ok.mod.kin M.kp hall (thn (ha.run pos pins s σ H _ I h) fun us s1 ⟨vs, H1, I1, r, q⟩ => ?_) hpl he
  refine thn (hkw.run pos pins s1 σ H1 _ I1 q) fun ws s2 ⟨zs, H2, I2, rz, l1, l2, q2⟩ => ⟨I2.kIn, ?_⟩
  rw [hks]
  exact run_makeKS M F hr hb (hx σ) I2 r rz l1 l2 q2
end
end
section
variable {D : Ends} {σ : St} {H : Hp} {Q : VK} {K : PySem.W.Frag} {x y : V}
theorem r_isi {T a : String} {b : Bool} (h : TyX K H x (.type a)) (e : kitB a T = some b) (q : Q (.bl b) H) : rIsi K [x, .ty T] H Q := ⟨x, .ty T, .type a, .type T, b, rfl, .ty T, h, kit_ty e, q⟩
theorem r_fld {ta : TE} {f : Str} (h : ta σ H fun x H1 => ∃ a C dx fs v, x = .ref a ∧ H1 a = some (.ins C dx fs) ∧ Cls K C ∧ NoAttr K C f ∧ fs.lookup f = some v ∧ Q v H1) : tFld K ta f σ H Q := h
theorem r_fldK {p C dx : Addr} {fs : List (Str × V)} {f : Str} {v : V} {R : V → Prop} (h : H p = some (.ins C dx fs)) (c : Cls K C) (n : NoAttr K C f) (e : fs.lookup f = some v) (q : R v) :
    ∃ a C dx fs v, V.ref p = .ref a ∧ H a = some (.ins C dx fs) ∧ Cls K C ∧ NoAttr K C f ∧ fs.lookup f = some v ∧ R v := ⟨p, C, dx, fs, v, rfl, h, c, n, e, q⟩
theorem r_fldS {ta tv : TE} {f : Str} (h : tv σ H fun y H1 => ta σ H1 fun x H2 => ∃ a C dx fs, x = .ref a ∧ H2 a = some (.ins C dx fs) ∧ Cls K C ∧ NoAttr K C f ∧ fs.length < 1000 ∧ D.nx σ (upd H2 a (.ins C dx (putF f y fs)))) : sFld K ta tv f D σ H := h
theorem r_fldP {p C dx : Addr} {fs fs' : List (Str × V)} {f : Str} {y : V} (h : H p = some (.ins C dx fs)) (c : Cls K C) (n : NoAttr K C f) (l : fs.length < 1000) (e : putF f y fs = fs') (q : D.nx σ (upd H p (.ins C dx fs'))) :
    ∃ a C dx fs, V.ref p = .ref a ∧ H a = some (.ins C dx fs) ∧ Cls K C ∧ NoAttr K C f ∧ fs.length < 1000 ∧ D.nx σ (upd H a (.ins C dx (putF f y fs))) := ⟨p, C, dx, fs, rfl, h, c, n, l, by rw [e]; exact q⟩
theorem r_gsub {to ti : TE} {t : TSet} {v : V} {R : St → Hp → Prop} (h : to σ H fun o H1 => ti σ H1 fun i H2 => t o i v H2 fun H3 => R σ H3) : gSub to ti t v σ H R := h
theorem r_setL {p : Addr} {xs xs' : List V} {k : Int} {j : Nat} {v : V} {R : Hp → Prop} (h : H p = some (.lst xs)) (e : ixN xs.length k = some j) (e2 : xs.set j v = xs') (q : R (upd H p (.lst xs'))) : rSetL (.ref p) (.int k) v H R := ⟨p, xs, k, j, rfl, rfl, h, e, by rw [e2]; exact q⟩
theorem r_gtup {n : Nat} {t : TGs} {p : Addr} {xs : List V} {R : St → Hp → Prop} (h : SqT K H p xs) (l : xs.length = n) (q : t xs σ H R) : gTup K n t (.ref p) σ H R := ⟨p, xs, rfl, h, l, q⟩
theorem r_gcons {t : TG} {u : TGs} {v : V} {r : List V} {R : St → Hp → Prop} (q : t v σ H fun σ' H' => u r σ' H' R) : gCons t u (v :: r) σ H R := ⟨v, r, rfl, q⟩
theorem r_gnil {R : St → Hp → Prop} (q : R σ H) : gNil [] σ H R := ⟨rfl, q⟩
theorem r_bm {T : String} {r : V → List V → Hp → VK → Prop} {to : TE} {t : TA} (h : to σ H fun x H1 => tyV K T x H1 ∧ t σ H1 fun xs H2 => r x xs H2 Q) : tBM K T r to t σ H Q := h
theorem r_bm0 {T : String} {r : V → List V → Hp → VK → Prop} {to : TE} (h : to σ H fun x H1 => tyV K T x H1 ∧ r x [] H1 Q) : tBM0 K T r to σ H Q := h
theorem r_tyL {p : Addr} {xs : List V} {R : Prop} (h : SqL K H p xs) (q : R) : tyV K "list" (.ref p) H ∧ R := ⟨.inl ⟨rfl, xs, h⟩, q⟩
theorem r_append {p : Addr} {xs : List V} {y : V} (h : H p = some (.lst xs)) (l : xs.length < sizeLine) (q : Q .non (upd H p (.lst (xs ++ [y])))) : rAppend (.ref p) [y] H Q := ⟨p, xs, y, rfl, rfl, h, l, q⟩
theorem r_in {neg : Bool} {p : Addr} {xs : List V} {x : V} (h : SqL K H p xs ∨ SqT K H p xs) (f : flatV x = true) (g : xs.all flatV = true) (q : Q (.bl (if neg then !inV x xs else inV x xs)) H) : rIn K neg x (.ref p) H Q := ⟨p, xs, rfl, h, f, g, q⟩
theorem r_eqd {a b : PyData} (h : Dp K H x a) (h' : Dp K H y b) (s : SeqAt.shaped a = true) (s' : SeqAt.shaped b = true) (q : Q (.bl (PyData.eqv a b)) H) : rEqD K x y H Q := ⟨a, b, h, h', s, s', q⟩
theorem r_ned {a b : PyData} (h : Dp K H x a) (h' : Dp K H y b) (s : SeqAt.shaped a = true) (s' : SeqAt.shaped b = true) (q : Q (.bl (!PyData.eqv a b)) H) : rNeD K x y H Q := ⟨a, b, h, h', s, s', q⟩
theorem r_lenK {p : Addr} {ys : List V} (h : H p = some (.lst ys)) (q : Q (.int ys.length) H) : rLen K [.ref p] H Q := r_len (.of h) q
theorem r_lenTK {p : Addr} {ys : List V} (h : H p = some (.tup ys)) (q : Q (.int ys.length) H) : rLen K [.ref p] H Q := r_lenT (.of h) q
theorem r_listLK {p : Addr} {ys : List V} (h : H p = some (.lst ys)) (q : ∀ l H', H l = none → Same H H' → H' l = some (.lst ys) → Q (.ref l) H') : rListOf K [.ref p] H Q := r_listL (.of h) fun l n => q l _ n (same_new n) upd_same
theorem r_listTK {p : Addr} {ys : List V} (h : H p = some (.tup ys)) (q : ∀ l H', H l = none → Same H H' → H' l = some (.lst ys) → Q (.ref l) H') : rListOf K [.ref p] H Q := r_listT (.of h) fun l n => q l _ n (same_new n) upd_same
theorem r_ixLK {p : Addr} {xs : List V} {i : Int} {v : V} (h : H p = some (.lst xs)) (a : atI xs i = some v) (q : Q v H) : rIxL K (.ref p) (.int i) H Q := r_ixL (.of h) a q
theorem r_ixTK {p : Addr} {xs : List V} {i : Int} {v : V} (h : H p = some (.tup xs)) (a : atI xs i = some v) (q : Q v H) : rIxT K (.ref p) (.int i) H Q := r_ixT (.of h) a q
theorem r_gtupK {n : Nat} {t : TGs} {p : Addr} {xs : List V} {R : St → Hp → Prop} (h : H p = some (.tup xs)) (l : xs.length = n) (q : t xs σ H R) : gTup K n t (.ref p) σ H R := r_gtup (.of h) l q
theorem r_tyLK {p : Addr} {xs : List V} {R : Prop} (h : H p = some (.lst xs)) (q : R) : tyV K "list" (.ref p) H ∧ R := r_tyL (.of h) q
theorem r_for {wi : TI} {g : TG} {tb : TS} (h : wi σ H fun J H1 => ∃ W : Nat → Nat → St → Hp → Prop, (∃ m, W 0 m σ H1) ∧ ∀ i m σ H, W i m σ H →
  (J.stop i H ∧ D.nx σ H) ∨ (J.go i H ∧ ∃ N : St → Hp → Prop, (∀ σ' H', N σ' H' → ∃ m', m' < m ∧ W (i + 1) m' σ' H') ∧ ∀ x H', J.yld i H x H' → g x σ H' fun σ2 H2 => tb { D with nx := N, ct := N, bk := D.nx } σ2 H2)) : tFor wi g tb D σ H := h
theorem r_il {tl : TE} {R : It → Hp → Prop} (h : tl σ H fun x H1 => ∃ a, x = .ref a ∧ (∃ xs, SqL K H1 a xs) ∧ R (Itl K a) H1) : iList K tl σ H R := h
theorem r_it {tl : TE} {R : It → Hp → Prop} (h : tl σ H fun x H1 => ∃ a, x = .ref a ∧ (∃ xs, SqT K H1 a xs) ∧ R (Itt K a) H1) : iTup K tl σ H R := h
theorem r_rng1 {ta : TA} {R : It → Hp → Prop} (h : ta σ H fun vs H1 => ∃ j : Int, vs = [.int j] ∧ -(2 ^ 62) ≤ j ∧ j < 2 ^ 62 ∧ R (Itr 0 j.toNat) H1) : iRng1 ta σ H R := h
theorem r_rngK {j : Int} {R : Int → Prop} (h1 : -(2 ^ 62) ≤ j) (h2 : j < 2 ^ 62) (q : R j) : ∃ k : Int, [V.int j] = [.int k] ∧ -(2 ^ 62) ≤ k ∧ k < 2 ^ 62 ∧ R k := ⟨j, rfl, h1, h2, q⟩
theorem r_ilK {p : Addr} {xs : List V} {R : Addr → Prop} (h : SqL K H p xs) (q : R p) : ∃ a, V.ref p = .ref a ∧ (∃ xs, SqL K H a xs) ∧ R a := ⟨p, rfl, ⟨xs, h⟩, q⟩
theorem r_itK {p : Addr} {xs : List V} {R : Addr → Prop} (h : SqT K H p xs) (q : R p) : ∃ a, V.ref p = .ref a ∧ (∃ xs, SqT K H a xs) ∧ R a := ⟨p, rfl, ⟨xs, h⟩, q⟩
theorem r_dnew (q : ∀ p H', H p = none → Same H H' → H' p = some (.dK []) → Q (.ref p) H') : tDNewK σ H Q := fun p n => q p _ n (same_new n) upd_same
def dispEnd (p : Addr) (Q : VK) : List (V × V) → Hp → Prop := fun ps H2 => H2 p = some (.dK []) ∧ ∃ kvs : List (Key × V), ps = kvs.map (fun kv => (kV kv.1, kv.2)) ∧ kvs.length ≤ 15 ∧ Q (.ref p) (upd H2 p (.dK (mergeK [] kvs)))
theorem r_disp {trs : List (TE × TE)} (h : ∀ p H', H p = none → Same H H' → H' p = some (.dK []) → tPairs trs σ H' (dispEnd p Q)) : tDisp trs σ H Q := fun p n => h p _ n (same_new n) upd_same
theorem r_dispE {p : Addr} {ps : List (V × V)} (kvs kvs' : List (Key × V)) (h : H p = some (.dK [])) (e : ps = kvs.map (fun kv => (kV kv.1, kv.2))) (l : kvs.length ≤ 15) (e2 : mergeK [] kvs = kvs') (q : Q (.ref p) (upd H p (.dK kvs'))) :
    dispEnd p Q ps H := ⟨h, kvs, e, l, by rw [e2]; exact q⟩
theorem r_neg {i : Int} (q : Q (.int (-i)) H) : rU (fun i => .int (-i)) (.int i) H Q := ⟨i, rfl, q⟩
theorem r_un {r : V → Hp → VK → Prop} {ta : TE} (h : ta σ H fun x H1 => r x H1 Q) : tUn r ta σ H Q := h
theorem r_pn {R : List (V × V) → Hp → Prop} (q : R [] H) : tPairs [] σ H R := q
theorem r_pc {tk tv : TE} {r : List (TE × TE)} {R : List (V × V) → Hp → Prop} (q : tk σ H fun k H1 => tv σ H1 fun v H2 => tPairs r σ H2 fun ps H3 => R ((k, v) :: ps) H3) : tPairs ((tk, tv) :: r) σ H R := q
theorem r_anyIx {p : Addr} {r : Int} {l : List V} (h : H p = some (.lst l)) (h0 : 0 ≤ r) {n : Int} (h1 : r < n) (hn : n = (l.length : Nat)) (k : ∀ v, v ∈ l → Q v H) : rIxL K (.ref p) (.int r) H Q := by
  obtain ⟨v, hv, _, e⟩ := at_any h0 (hn ▸ h1)
  exact r_ixL (SqL.of h) e (k v hv)
def erEnd (C : Addr) (fs : List Str) (W : WX) (σ : St) : List V → Hp → Prop := fun vs H1 => vs.length = fs.length ∧ vs.length ≤ 1000 ∧ (fs = [] → W (.ref C) none σ H1) ∧ (fs ≠ [] → ∀ d, H1 d = none → W (.ref C) (some d) σ (upd H1 d (.xd (fs.zip vs))))
theorem r_raiseEr {C : Addr} {fs : List Str} {W : WX} {ta : TA} (h : ta σ H (erEnd C fs W σ)) : tRaiseEr C fs W ta D σ H := h
theorem r_erE {C : Addr} {fs : List Str} {W : WX} {vs : List V} (l : vs.length = fs.length) (l2 : vs.length ≤ 1000) (hn : fs ≠ []) (k : ∀ d H', H d = none → Same H H' → H' d = some (.xd (fs.zip vs)) → W (.ref C) (some d) σ H') : erEnd C fs W σ vs H :=
  ⟨l, l2, fun z => absurd z hn, fun _ d n => k d _ n (same_new n) upd_same⟩
theorem r_erE0 {C : Addr} {W : WX} (k : W (.ref C) none σ H) : erEnd C [] W σ [] H := ⟨rfl, Nat.zero_le _, fun _ => k, fun z => absurd rfl z⟩
theorem r_isiO {C : Addr} {t : Value} {b : Bool} (h : TyX K H x t) (e : PySem.W.kitOne K t (.ref C) = some b) (q : Q (.bl b) H) : rIsi K [x, .ref C] H Q := ⟨x, .ref C, t, .ref C, b, rfl, .own C, h, e, q⟩
/-- what isinstance and == ask of an own class -/
structure OwnC (K : PySem.W.Frag) (C : Addr) : Prop where
  cl : Cls K C
  ha : PySem.W.findIn K (.ref C) "__class__" = some (some (.builtin "object.__class__"))
  hn : PySem.W.specialIn K (.builtin "object.__class__") "__get__" = some (some (.builtin "getset_descriptor.__get__"))
  ht : PySem.W.takesIn K (.builtin "object.__class__") = some true
  hm : PySem.W.mroIn K C (.type "object") = some true
  self : PySem.W.kitOne K (.ref C) (.ref C) = some true
  base : ∀ t, t ∈ ["NoneType", "bool", "int", "str", "list", "tuple", "dict"] → PySem.W.kitOne K (.type t) (.ref C) = some false
theorem OwnC.ty {C p dx : Addr} {fs : List (Str × V)} (o : OwnC K C) (h : H p = some (.ins C dx fs)) : TyX K H (.ref p) (.ref C) := .base (.ins h o.cl o.ha o.hn o.ht o.hm)
def mkQ (Q : VK) (x : Addr) : VK := fun v H3 => v = .non ∧ Q (.ref x) H3
theorem r_mkQ {p : Addr} (q : Q (.ref p) H) : mkQ Q p .non H := ⟨rfl, q⟩
theorem mkQ_eq {p : Addr} : mkQ Q p .non H = (V.non = V.non ∧ Q (.ref p) H) := rfl
def mkEnd (C : Addr) (n m : Nat) (sp : Sp) (gV : List V → List V → List V) (E : XK) (Q : VK) (vs : List V) : List V → Hp → Prop := fun zs H2 => vs.length = n ∧ zs.length = m ∧ ∀ x dx, H2 x = none → H2 dx = none → dx ≠ x →
  sp (gV (.ref x :: vs) zs) (upd (upd H2 dx (.own x)) x (.ins C dx [])) (mkQ Q x) E
def mk1End (C : Addr) (sp : Sp) (dvs : List V) (E : XK) (Q : VK) : List V → Hp → Prop := fun vs H2 => ∀ x dx, H2 x = none → H2 dx = none → dx ≠ x →
  sp (.ref x :: (vs ++ dvs)) (upd (upd H2 dx (.own x)) x (.ins C dx [])) (mkQ Q x) E
theorem same_mk {C x dx : Addr} {fs : List (Str × V)} (n1 : H x = none) (n2 : H dx = none) (n3 : dx ≠ x) : Same H (upd (upd H dx (.own x)) x (.ins C dx fs)) := same_put (same_new n2) n1
theorem r_makeKS {C : Addr} {n m : Nat} {sp : Sp} {gV : List V → List V → List V} {E : St → XK} {tx tk : TA} (h : tx σ H fun vs H1 => tk σ H1 (mkEnd C n m sp gV (E σ) Q vs)) : tMakeKS C n m sp gV E tx tk σ H Q := h
theorem r_makeK {C : Addr} {n m : Nat} {sp : Sp} {gV : List V → List V → List V} {E : XK} {tx tk : TA} (h : tx σ H fun vs H1 => tk σ H1 (mkEnd C n m sp gV E Q vs)) : tMakeK C n m sp gV E tx tk σ H Q := h
theorem r_make {C : Addr} {sp : Sp} {dvs : List V} {E : XK} {tx : TA} (h : tx σ H (mk1End C sp dvs E Q)) : tMake C sp dvs E tx σ H Q := h
theorem r_mkE {C : Addr} {n m : Nat} {sp : Sp} {gV : List V → List V → List V} {E : XK} {vs zs : List V} (l1 : vs.length = n) (l2 : zs.length = m)
    (k : ∀ x dx H', H x = none → Same H H' → H' x = some (.ins C dx []) → sp (gV (.ref x :: vs) zs) H' (mkQ Q x) E) : mkEnd C n m sp gV E Q vs zs H := ⟨l1, l2, fun x dx n1 n2 n3 => k x dx _ n1 (same_mk n1 n2 n3) upd_same⟩
theorem r_mk1E {C : Addr} {sp : Sp} {dvs vs : List V} {E : XK} (k : ∀ x dx H', H x = none → Same H H' → H' x = some (.ins C dx []) → sp (.ref x :: (vs ++ dvs)) H' (mkQ Q x) E) : mk1End C sp dvs E Q vs H := fun x dx n1 n2 n3 => k x dx _ n1 (same_mk n1 n2 n3) upd_same
theorem same_but {p : Addr} {H1 H2 : Hp} (n : H p = none) (s : Same H H1) (k : ∀ b o, b ≠ p → H1 b = some o → H2 b = some o) : Same H H2 := fun b o e => k b o (ne_of_none e n) (s b o e)
theorem r_xf {a : Addr} {cls : Value} {d : Option Addr} {C : Addr} {f : Str} {te : TE} (h : te σ H fun x H1 => x = .ref a ∧ cls = .ref C ∧ ∃ (dd : Addr) (fs : List (Str × V)) (v : V), d = some dd ∧ H1 dd = some (.xd fs) ∧ fs.lookup f = some v ∧ Q v H1) : tXf a cls d C f te σ H Q := h
theorem r_xfK {a C dd : Addr} {fs : List (Str × V)} {f : Str} {v : V} {R : V → Prop} (h : H dd = some (.xd fs)) (e : fs.lookup f = some v) (q : R v) : V.ref a = .ref a ∧ Value.ref C = .ref C ∧ ∃ (d2 : Addr) (fs : List (Str × V)) (v : V), some dd = some d2 ∧ H d2 = some (.xd fs) ∧ fs.lookup f = some v ∧ R v :=
  ⟨rfl, rfl, dd, fs, v, rfl, h, e, q⟩
theorem iteNF {A B : Prop} (h : A) : if (!false) = true then A else B := h
theorem iteNT {A B : Prop} (h : B) : if (!true) = true then A else B := h
theorem inV_strs {x : Str} {ss : List Str} : inV (.str x) (ss.map V.str) = decide (x ∈ ss) := by
  unfold inV
  rw [List.any_map]
  induction ss with
  | nil => rfl
  | cons a l ih =>
    rw [List.any_cons, ih]
    show ((a == x) || _) = _
    by_cases e : a = x
    · subst e
      simp
    · have e' : ¬ x = a := fun z => e z.symm
      simp [e, e']
theorem flat_strs (ss : List Str) : (ss.map V.str).all flatV = true := by
  induction ss with
  | nil => rfl
  | cons a l ih => exact ih
theorem r_inSN {p : Addr} {ss : List Str} {x : Str} (h : SqL K H p (ss.map V.str) ∨ SqT K H p (ss.map V.str)) (q : Q (.bl (!decide (x ∈ ss))) H) : rIn K true (.str x) (.ref p) H Q := r_in h rfl (flat_strs ss) (by rw [inV_strs]; exact q)
theorem r_inSP {p : Addr} {ss : List Str} {x : Str} (h : SqL K H p (ss.map V.str) ∨ SqT K H p (ss.map V.str)) (q : Q (.bl (decide (x ∈ ss))) H) : rIn K false (.str x) (.ref p) H Q := r_in h rfl (flat_strs ss) (by rw [inV_strs]; exact q)
end
end Wm
namespace Wm
open PySem L2 PySem.Spec PySem.W PySem.SeqAt ClX
open PyProof.Rows hiding St
def rEqP (K : PySem.W.Frag) : R2 := fun x y H Q => ∃ d e, Dp K H x d ∧ Dp K H y e ∧ d.plain = true ∧ e.plain = true ∧ d.depth ≤ 64 ∧ Q (.bl (PyData.eqv d e)) H
def rNeP (K : PySem.W.Frag) : R2 := fun x y H Q => ∃ d e, Dp K H x d ∧ Dp K H y e ∧ d.plain = true ∧ e.plain = true ∧ d.depth ≤ 64 ∧ Q (.bl (!PyData.eqv d e)) H
section
variable {X : Cx}
theorem op_eqP (hu : X.A.units + 64 < cLine) : OpR X (compareOp .Eq) (rEqP X.K) := by
  intro pins s σ H x y v u Q I rx ry h
  obtain ⟨d, e, hd, he, sd, se, hdp, q⟩ := h
  obtain ⟨as, r1⟩ := Dp.reads I d x v hd rx
  obtain ⟨bs, r2⟩ := Dp.reads I e y u he ry
  exact eq_plain r1 r2 sd se (by omega) ⟨.bl _, H, I, rfl, q⟩
theorem op_neP (hu : X.A.units + 64 < cLine) : OpR X (compareOp .NotEq) (rNeP X.K) := by
  intro pins s σ H x y v u Q I rx ry h
  obtain ⟨d, e, hd, he, sd, se, hdp, q⟩ := h
  obtain ⟨as, r1⟩ := Dp.reads I d x v hd rx
  obtain ⟨bs, r2⟩ := Dp.reads I e y u he ry
  exact ne_plain r1 r2 sd se (by omega) ⟨.bl _, H, I, rfl, q⟩
end
section
variable {H : Hp} {Q : VK} {K : PySem.W.Frag} {x y : V}
theorem r_eqT {α : Type} [DecidableEq α] [Datum α] (a b : α) (h : Dp K H x (Datum.toD a)) (h' : Dp K H y (Datum.toD b)) (q : Q (.bl (decide (a = b))) H) (hd : Datum.depth α ≤ 64 := by decide) : rEqP K x y H Q :=
  ⟨_, _, h, h', Datum.plain a, Datum.plain b, Nat.le_trans (Datum.depth_le a) hd, by rw [Datum.eqv]; exact q⟩
theorem r_neT {α : Type} [DecidableEq α] [Datum α] (a b : α) (h : Dp K H x (Datum.toD a)) (h' : Dp K H y (Datum.toD b)) (q : Q (.bl (!decide (a = b))) H) (hd : Datum.depth α ≤ 64 := by decide) : rNeP K x y H Q :=
  ⟨_, _, h, h', Datum.plain a, Datum.plain b, Nat.le_trans (Datum.depth_le a) hd, by rw [Datum.eqv]; exact q⟩
theorem dps_str : ∀ (ss : List Str), DpAll K H (ss.map V.str) (ss.map Datum.toD)
  | [] => .nil
  | s :: ss => .cons (.str s) (dps_str ss)
theorem dp_strs {p : Addr} {ss : List Str} (h : H p = some (.lst (ss.map V.str))) : Dp K H (.ref p) (Datum.toD ss) := .lst (.of h) (dps_str ss)
theorem dp_strsT {p : Addr} {ss : List Str} (h : H p = some (.tup (ss.map V.str))) : Dp K H (.ref p) (Datum.toD (Tup.mk ss)) := .tup (.of h) (dps_str ss)
theorem dp_strsTK {p : Addr} {ss : List Str} (h : SqT K H p (ss.map V.str)) : Dp K H (.ref p) (Datum.toD (Tup.mk ss)) := .tup h (dps_str ss)
/-- two lists of texts -/
theorem r_eqSS {p q : Addr} {xs ys : List V} (ss tt : List Str) (h : H p = some (.lst xs)) (h' : H q = some (.lst ys)) (e : xs = ss.map V.str) (e' : ys = tt.map V.str) (k : Q (.bl (decide (ss = tt))) H) : rEqP K (.ref p) (.ref q) H Q :=
  r_eqT ss tt (dp_strs (e ▸ h)) (dp_strs (e' ▸ h')) k
theorem r_neSS {p q : Addr} {xs ys : List V} (ss tt : List Str) (h : H p = some (.lst xs)) (h' : H q = some (.lst ys)) (e : xs = ss.map V.str) (e' : ys = tt.map V.str) (k : Q (.bl (!decide (ss = tt))) H) : rNeP K (.ref p) (.ref q) H Q :=
  r_neT ss tt (dp_strs (e ▸ h)) (dp_strs (e' ▸ h')) k
theorem r_glst {σ : St} {n : Nat} {t : TGs} {p : Addr} {xs : List V} {R : St → Hp → Prop} (h : H p = some (.lst xs)) (l : xs.length = n) (q : t xs σ H R) : gLst K n t (.ref p) σ H R := ⟨p, xs, rfl, .of h, l, q⟩
theorem r_cval {σ : St} {ta : TE} {f : Str} (h : ta σ H fun x H1 => ∃ C mc v u, x = .ref C ∧ CRead K C mc ∧ CVal K C mc f v u ∧ Q v H1) : tCVal K ta f σ H Q := h
theorem r_cvalK {C : Addr} {mc u : Value} {f : Str} {v : V} {R : V → Prop} (a : CRead K C mc) (b : CVal K C mc f v u) (q : R v) : ∃ C' mc v u, V.ref C = .ref C' ∧ CRead K C' mc ∧ CVal K C' mc f v u ∧ R v := ⟨C, mc, v, u, rfl, a, b, q⟩
theorem r_rEqOwn {a C dx : Addr} {fs : List (Str × V)} {tb : Value} {sp : Sp} {E : XK} (h : H a = some (.ins C dx fs)) (ty : TyX K H y tb) (n : PySem.W.notFirst K C tb = true) (k : sp [.ref a, y] H (fun v H' => (∃ b, v = .bl b) ∧ Q v H') E) : rEqOwn K C sp E (.ref a) y H Q := ⟨a, dx, fs, tb, rfl, h, ty, n, k⟩
theorem r_ifJ {t u : TS} {D : Ends} {σ : St} {b : Bool} (P : St → Hp → Prop) (rest : ∀ σ H, P σ H → D.nx σ H) (k : ∀ N : St → Hp → Prop, (∀ σ H, P σ H → N σ H) → if b = true then t { D with nx := N } σ H else u { D with nx := N } σ H) : if b = true then t D σ H else u D σ H := k D.nx rest
theorem r_nebE {i j : Bool} (e : i = j) (q : Q (.bl false) H) : rNe (.bl i) (.bl j) H Q := ⟨rfl, by rwa [show decide (V.bl i = V.bl j) = true from by simp [e]]⟩
theorem r_neSE {p q : Addr} {xs ys : List V} (ss : List Str) (h : H p = some (.lst xs)) (h' : H q = some (.lst ys)) (e : xs = ss.map V.str) (e' : ys = ss.map V.str) (k : Q (.bl false) H) : rNeP K (.ref p) (.ref q) H Q :=
  r_neSS ss ss h h' e e' (by rwa [show (!decide (ss = ss)) = false from by simp])
theorem r_eqT1 {α : Type} [DecidableEq α] [Datum α] (a : α) (h : Dp K H x (Datum.toD a)) (h' : Dp K H y (Datum.toD a)) (q : Q (.bl true) H) (hd : Datum.depth α ≤ 64 := by decide) : rEqP K x y H Q :=
  r_eqT a a h h' (by rwa [show decide (a = a) = true from by simp]) hd
theorem r_setLN {p : Addr} {xs : List V} {j : Nat} {v : V} {R : Hp → Prop} (h : H p = some (.lst xs)) (e : j < xs.length) (q : R (upd H p (.lst (xs.set j v)))) : rSetL (.ref p) (.int (j : Int)) v H R := r_setL h (Evl.ixN_nat e) rfl q
theorem ite_nd {p q : Bool} {A B : Prop} (e : p = q) (h : B) : if (!decide (p = q)) = true then A else B := by
  rw [e]
  simpa using h
end
end Wm
namespace Wm
open PySem L2 PySem.Er PySem.W
theorem er_mk {prog : Program} {K : Frag} {qual : Str} {fs : List Str} {C fI cda cc : Addr} {oc ct ccl cl doc pm : Value} {od an cdd cld : Option Addr} {params : Arguments} {body : List Stmt} {scope : Scope} {osl ccs csl : Array (Option Value)} {vs : Array Value} {file : Str} {tf : Tok}
    {B newId initId : String} {bmB : List Value} (KF : KxsFacts B initId) (FB : ExcBaseFacts B newId initId bmB) (SF : StoreFacts B bmB "object.__setattr__" "object") (fm : IForm fs params body scope)
    (init : findIn K (.ref C) "__init__" = some (some (.ref fI))) (ty : typeIn K (.ref fI) = some (.type "function"))
    (lk : K.lookup fI = some ⟨oc, od, .func (ksFn "__init__" qual params body scope .none .none doc pm an (.ref cda) ct cc), osl⟩) (hc : codeIn K (.ref cda) qual = true)
    (code : K.lookup cda = some ⟨ccl, cdd, .fields vs, ccs⟩) (hv : vs[2]? = some (.str file tf)) (hf : ((prog.main.file : Str) == file) = true) (cell : K.lookup cc = some ⟨cl, cld, .cell (some (.ref C)), csl⟩)
    (ic : isClsIn K C = true) (sub : mroIn K C (.ref C) = some true) (noS : nsIn K mainGlobals "super" = some none) (noT : nsIn K cStatics "thirdparty.any" = some none) (top : (prog.main.scope.names.lookup ("super" : Str)).isSome = false)
    (sup : ks_superIn K C C "__init__" = some (some (.builtin initId))) (base : subIn K (.ref C) (.type B) = some true) (exc : excInitIn K C bmB newId = true)
    (sa : findIn K (.ref C) "__setattr__" = some (some (.builtin "object.__setattr__"))) (ov : excOver K C bmB = true) (hd : hasDictIn K C = true) (no : ∀ f ∈ fs, findIn K (.ref C) f = some none)
    (exC : subIn K (.ref C) (.type "BaseException") = some true) (tyC : typeIn K (.ref C) = some (.type "type")) (kC : keepIn K (.ref C) = true) : ErC prog K qual fs C :=
  { ex := ⟨fI, B, newId, initId, bmB, { fn := ⟨oc, od, params, body, scope, doc, pm, an, cda, cc, ct, osl, lk, hc, fm, { code := ⟨ccl, cdd, ccs, vs, file, tf, code, hv, hf⟩, cell := ⟨cl, cld, csl, cell⟩, cls := Option.isSome_iff_exists.mp ic, sub := sub, noS := noS, noT := noT, top := top, sup := sup, base := base, exc := exc }⟩, sa := sa, ov := ov, hd := hd, no := no, init := init, ty := ty }, KF, FB, SF, exc⟩
    exC := exC, tyC := tyC, kC := kC }
theorem exm_self {K : Frag} {S : Addr} (h1 : subIn K (.ref S) (.type "BaseException") = some true) (h2 : isClsIn K S = true) (h3 : typeIn K (.ref S) = some (.type "type")) (h4 : subIn K (.ref S) (.ref S) = some true) : exmOne K (.ref S) (.ref S) = some true := by
  have e1 : (subIn K (.ref S) (.type "BaseException") == some true) = true := by rw [h1] <;> rfl
  have e2 : ((clsIn K S).isSome && typeIn K (.ref S) == some (.type "type")) = true := by
    have h2' : (clsIn K S).isSome = true := h2
    rw [h2', h3] <;> rfl
  show (if (subIn K (.ref S) (.type "BaseException") == some true) = true then (if ((clsIn K S).isSome && typeIn K (.ref S) == some (.type "type")) = true then subIn K (.ref S) (.ref S) else none) else none) = some true
  rw [if_pos e1, if_pos e2]
  exact h4
/-- a constant tuple of texts -/
theorem sqt_mk {K : Frag} {a : Addr} {od : Option Addr} {its : Array Value} {n : Nat} {sl : Array (Option Value)} {xs : List V} (h : K.lookup a = some ⟨.type "tuple", od, .seq its n, sl⟩) (l : decide (its.size ≤ 16777216) = true) (r : Vals xs its.toList) : ∀ H, SqT K H a xs :=
  fun H => .inr ⟨_, its, n, h, rfl, rfl, by rw [sizeLine_eq]; exact of_decide_eq_true l, r⟩
theorem own_mk {K : Frag} {C : Addr} (pg : plainGet K C Str.empty = true) (hd : hasDictIn K C = true) (po : plainOver K C = true) (sa : findIn K (.ref C) "__setattr__" = some (some (.builtin "object.__setattr__")))
    (ha : findIn K (.ref C) "__class__" = some (some (.builtin "object.__class__"))) (hn : specialIn K (.builtin "object.__class__") "__get__" = some (some (.builtin "getset_descriptor.__get__"))) (ht : takesIn K (.builtin "object.__class__") = some true) (hm : mroIn K C (.type "object") = some true)
    (k1 : kitOne K (.ref C) (.ref C) = some true) (b1 : kitOne K (.type "NoneType") (.ref C) = some false) (b2 : kitOne K (.type "bool") (.ref C) = some false) (b3 : kitOne K (.type "int") (.ref C) = some false) (b4 : kitOne K (.type "str") (.ref C) = some false)
    (b5 : kitOne K (.type "list") (.ref C) = some false) (b6 : kitOne K (.type "tuple") (.ref C) = some false) (b7 : kitOne K (.type "dict") (.ref C) = some false) : OwnC K C :=
  { cl := ⟨pg, hd, po, sa⟩, ha := ha, hn := hn, ht := ht, hm := hm, self := k1, base := fun t ht => by
      simp only [List.mem_cons, List.not_mem_nil, or_false] at ht
      rcases ht with rfl | rfl | rfl | rfl | rfl | rfl | rfl <;> assumption }
theorem nf_mk {K : Frag} {C : Addr} (b1 : notFirst K C (.type "NoneType") = true) (b2 : notFirst K C (.type "bool") = true) (b3 : notFirst K C (.type "int") = true) (b4 : notFirst K C (.type "str") = true) (b5 : notFirst K C (.type "list") = true) (b6 : notFirst K C (.type "tuple") = true) (b7 : notFirst K C (.type "dict") = true) :
    ∀ t, t ∈ ["NoneType", "bool", "int", "str", "list", "tuple", "dict"] → notFirst K C (.type t) = true := fun t ht => by
  simp only [List.mem_cons, List.not_mem_nil, or_false] at ht
  rcases ht with rfl | rfl | rfl | rfl | rfl | rfl | rfl <;> assumption
theorem dflt_mk {K : Frag} {T : Addr} {tc : Value} {td : Option Addr} {its : Array Value} {n : Nat} {tsl : Array (Option Value)} {dvs : List V} (h : K.lookup T = some ⟨tc, td, .seq its n, tsl⟩) (r : Vals dvs its.toList) (hn : dvs ≠ []) : DflV K (.ref T) dvs :=
  .inr ⟨hn, T, _, its.toList, n, rfl, h, by simp, r⟩
theorem cx_none {P : Program} {w : World} {H : Hp} {s s' : Shared} {e : Value} (z : L2.CX P w [] H s (fun _ _ _ => False) e s') : False := by
  obtain ⟨_, _, _, _, _, _, _, _, _, _, _, _, h⟩ := z
  exact h
end Wm
namespace Wm
open PySem L2 PySem.Spec
open PyProof.Rows hiding St
/-! ## one or the other reading -/
def rOr (r1 r2 : R2) : R2 := fun x y H Q => r1 x y H Q ∨ r2 x y H Q
theorem op_or {X : Cx} {op : Value → Value → Sem Value} {r1 r2 : R2} (h1 : OpR X op r1) (h2 : OpR X op r2) : OpR X op (rOr r1 r2) := by
  intro pins s σ H x y v u Q I rx ry h
  rcases h with h | h
  · exact h1 pins s σ H x y v u Q I rx ry h
  · exact h2 pins s σ H x y v u Q I rx ry h
def iOr (w1 w2 : TI) : TI := fun σ H R => w1 σ H R ∨ w2 σ H R
section
variable {X : Cx} {D : Ends} {σ : St} {H : Hp} {Q : VK} {K : PySem.W.Frag}
/-! ## list comprehensions whose parts leave the heap -/
def lcEnd (g : TG) (tt : TT) (te : TE) (vs : List Nat) (σ : St) (Q : VK) : It → Hp → Prop := fun J H1 => ∀ D, H1 D = none → ∃ W : Nat → Nat → Hp → Prop, (∃ m, W 0 m (upd H1 D (.lst []))) ∧ ∀ i m H, W i m H →
  (J.stop i H ∧ Q (.ref D) H) ∨ (J.go i H ∧ ∃ Nx : Hp → Prop, (∀ H', Nx H' → ∃ m', m' < m ∧ W (i + 1) m' H') ∧ ∀ x H', J.yld i H x H' → g x (wipe σ vs) H' fun σ2 H2 => wipe σ2 vs = wipe σ vs ∧ tt σ2 H2 fun b H3 =>
    if b = true then te σ2 H3 fun y H4 => ∃ acc, H4 D = some (.lst acc) ∧ acc.length < sizeLine ∧ Nx (upd H4 D (.lst (acc ++ [y]))) else Nx H3)
theorem r_lc {wi : TI} {g : TG} {tt : TT} {te : TE} {vs : List Nat} (h : wi σ H (lcEnd g tt te vs σ Q)) : tLc wi g tt te vs σ H Q := h
theorem same_seqT {H H' : Hp} {a : Addr} {xs : List V} (e : Same H H') (h : SqT K H a xs) : SqT K H' a xs := by
  rcases h with (h | ⟨o, h⟩) | h
  · exact .inl (.inl (e _ _ h))
  · exact .inl (.inr ⟨o, e _ _ h⟩)
  · exact .inr h
theorem wipe_set1 {i : Nat} {x : Option V} : wipe ((wipe σ [i]).set i x) [i] = wipe σ [i] := by
  show ((σ.set i none).set i x).set i none = σ.set i none
  rw [List.set_set, List.set_set]
theorem take_more {α : Type} : ∀ {l : List α} {i : Nat} {x : α}, l[i]? = some x → l.take (i + 1) = l.take i ++ [x]
  | [], i, x, h => by simp at h
  | a :: l, 0, x, h => by
    cases Option.some.inj h
    rfl
  | a :: l, i + 1, x, h => by
    have ih := take_more (l := l) (i := i) (x := x) h
    show a :: l.take (i + 1) = a :: l.take i ++ [x]
    rw [ih]
    rfl
theorem len_filt {α : Type} {l : List α} {p : α → Bool} {i : Nat} {x : α} (h : l[i]? = some x) : ((l.take i).filter p).length < l.length := by
  have h1 := List.length_filter_le p (l.take i)
  have h2 : i < l.length := by
    rcases Nat.lt_or_ge i l.length with z | z
    · exact z
    · rw [List.getElem?_eq_none z] at h
      cases h
  rw [List.length_take] at h1
  omega
/-- what a turn of such a block gives -/
def LcTurn (tt : TT) (te : TE) (i : Nat) (σ : St) (H1 : Hp) (p : V → Bool) (f : V → V) (x : V) : Prop :=
  (∀ (H' : Hp) (R : Bool → Hp → Prop), Same H1 H' → R (p x) H' → tt ((wipe σ [i]).set i (some x)) H' R) ∧ ∀ (H' : Hp) (R : VK), p x = true → Same H1 H' → R (f x) H' → te ((wipe σ [i]).set i (some x)) H' R
theorem lc_turn {tt : TT} {te : TE} {i : Nat} {H1 H' : Hp} {p : V → Bool} {f : V → V} {xs : List V} {x : V} {j : Nat} {D : Addr} (hz : xs.length ≤ sizeLine) (hD : H1 D = none) (hj : xs[j]? = some x) (t : LcTurn tt te i σ H1 p f x) (s : Same H1 H') (e : H' D = some (.lst (((xs.take j).filter p).map f))) :
    gName i x (wipe σ [i]) H' fun σ2 H2 => wipe σ2 [i] = wipe σ [i] ∧ tt σ2 H2 fun b H3 => if b = true then te σ2 H3 fun y H4 => ∃ acc, H4 D = some (.lst acc) ∧ acc.length < sizeLine ∧ (Same H1 (upd H4 D (.lst (acc ++ [y]))) ∧ upd H4 D (.lst (acc ++ [y])) D = some (.lst (((xs.take (j + 1)).filter p).map f))) else Same H1 H3 ∧ H3 D = some (.lst (((xs.take (j + 1)).filter p).map f)) := by
  refine ⟨wipe_set1, t.1 H' _ s ?_⟩
  cases hp : p x with
  | true =>
    refine iteT (t.2 H' _ hp s ⟨_, e, ?_, same_put s hD, ?_⟩)
    · rw [List.length_map]
      exact Nat.lt_of_lt_of_le (len_filt hj) hz
    · rw [upd_same, take_more hj, List.filter_append, List.map_append]
      simp [hp]
  | false =>
    refine iteF ⟨s, ?_⟩
    rw [e, take_more hj, List.filter_append, List.map_append]
    simp [hp]
theorem r_lcL {tt : TT} {te : TE} {i : Nat} {a : Addr} {xs : List V} (p : V → Bool) (f : V → V) (hS : SqL K H a xs) (hz : xs.length ≤ sizeLine) (ht : ∀ (j : Nat) (x : V), xs[j]? = some x → LcTurn tt te i σ H p f x)
    (k : ∀ q H', H q = none → Same H H' → H' q = some (.lst ((xs.filter p).map f)) → Q (.ref q) H') : lcEnd (gName i) tt te [i] σ Q (Itl K a) H := fun D hD =>
  lc_list (K := K) (a := a) (xs := xs) (fun j H' => Same H H' ∧ H' D = some (.lst (((xs.take j).filter p).map f))) ⟨same_new hD, upd_same⟩ (fun j H' _ h => h.1.seq hS) (fun j x H' hj h => lc_turn hz hD hj (ht j x hj) h.1 h.2)
    fun H' h => k D H' hD h.1 (by rw [h.2, List.take_length])
theorem r_lcT {tt : TT} {te : TE} {i : Nat} {a : Addr} {xs : List V} (p : V → Bool) (f : V → V) (hS : SqT K H a xs) (hz : xs.length ≤ sizeLine) (ht : ∀ (j : Nat) (x : V), xs[j]? = some x → LcTurn tt te i σ H p f x)
    (k : ∀ q H', H q = none → Same H H' → H' q = some (.lst ((xs.filter p).map f)) → Q (.ref q) H') : lcEnd (gName i) tt te [i] σ Q (Itt K a) H := fun D hD =>
  lc_tup (K := K) (a := a) (xs := xs) (fun j H' => Same H H' ∧ H' D = some (.lst (((xs.take j).filter p).map f))) ⟨same_new hD, upd_same⟩ (fun j H' _ h => same_seqT h.1 hS) (fun j x H' hj h => lc_turn hz hD hj (ht j x hj) h.1 h.2)
    fun H' h => k D H' hD h.1 (by rw [h.2, List.take_length])
def vInts (lo : Int) (n : Nat) : List V := (List.range n).map fun (k : Nat) => V.int (lo + (k : Int))
theorem ints_at {lo : Int} {n j : Nat} (h : j < n) : (vInts lo n)[j]? = some (.int (lo + (j : Int))) := by
  unfold vInts
  rw [List.getElem?_map, List.getElem?_range h]
  rfl
theorem ints_len {lo : Int} {n : Nat} : (vInts lo n).length = n := by simp [vInts]
theorem r_lcR {tt : TT} {te : TE} {i : Nat} {lo : Int} {n : Nat} (p : V → Bool) (f : V → V) (hz : n ≤ sizeLine) (ht : ∀ j : Nat, j < n → LcTurn tt te i σ H p f (.int (lo + (j : Int))))
    (k : ∀ q H', H q = none → Same H H' → H' q = some (.lst (((vInts lo n).filter p).map f)) → Q (.ref q) H') : lcEnd (gName i) tt te [i] σ Q (Itr lo n) H := fun D hD =>
  lc_range (lo := lo) (n := n) (fun j H' => Same H H' ∧ H' D = some (.lst ((((vInts lo n).take j).filter p).map f))) ⟨same_new hD, upd_same⟩ (fun j H' hj h => lc_turn (xs := vInts lo n) (by rw [ints_len]; exact hz) hD (ints_at hj) (ht j hj) h.1 h.2)
    fun H' h => k D H' hD h.1 (by
      have e : (vInts lo n).take n = vInts lo n := List.take_of_length_le (by rw [ints_len]; exact Nat.le_refl n)
      rw [h.2, e])
theorem pi_or {tg iter : Expr} {w1 w2 : TI} (h1 : PI X tg iter w1) (h2 : PI X tg iter w2) : PI X tg iter (iOr w1 w2) := ⟨fun pins s σ H R I h => h.elim (h1.run pins s σ H R I) (h2.run pins s σ H R I)⟩
def rAddS : R2 := fun x y H Q => ∃ i j, x = .str i ∧ y = .str j ∧ i.length + j.length ≤ sizeLine ∧ Q (.str (i ++ j)) H
theorem op_addS : OpR X (binaryOp .Add) rAddS := op_add_str
theorem r_addS {a b : Str} (hz : a.length + b.length ≤ sizeLine) (q : Q (.str (a ++ b)) H) : rAddS (.str a) (.str b) H Q := ⟨a, b, rfl, rfl, hz, q⟩
theorem r_extend {p q : Addr} {xs ys : List V} (h : H p = some (.lst xs)) (h' : H q = some (.lst ys)) (hz : xs.length + ys.length ≤ sizeLine) (k : Q .non (upd H p (.lst (xs ++ ys)))) : rExtend (.ref p) [.ref q] H Q := ⟨p, q, xs, ys, rfl, rfl, h, h', hz, k⟩
theorem r_any {p : Addr} {xs : List V} (bs : List Bool) (h : H p = some (.lst xs)) (e : xs = bs.map V.bl) (q : Q (.bl (bs.any id)) H) : rAny K [.ref p] H Q := ⟨p, bs, rfl, e ▸ SqL.of h, q⟩
/-! ## method calls whose wish of an error hangs on the slots -/
theorem run_fnRT {CX : CXT} {k : Nat} {f : Addr} {sp : Sp} {E : XK} {us : List Value} {vs : List V} {pins : List (Addr × Obj)} {s : Shared} (F : FnR X.prog X.w X.K X.mg X.base CX k f sp) (hr : Room k X.A) (hx : PassesAt CX X σ E) (I : Inv X pins σ H s) (r : Vals vs us) (h : sp vs H Q E) :
    codeAny (model X.prog X.w) X.A (.call (.ref f) ⟨us, []⟩) (fun r s' => match r with | .ok (.ret v) => EP X pins σ Q v s' | .ok _ => False | .error e => X.xe e s') s := by
  refine codeAny_mono (F X.A X.stack s H us vs Q E hr I.env0 r h) fun r s' hq => ?_
  cases r with
  | error e => exact hx pins H s e s' I hq
  | ok fl =>
    cases fl with
    | ret u => exact I.after hq
    | next => exact False.elim hq
    | brk => exact False.elim hq
    | cont => exact False.elim hq
/-- o.m(e, ..), in a try too -/
def tMethT (C : Addr) (m : Str) (sp : Sp) (E : St → XK) (ta : TE) (t : TA) : TE := fun σ H Q => ta σ H fun x H1 => ∃ a dx fs, x = .ref a ∧ H1 a = some (.ins C dx fs) ∧ fs.lookup m = none ∧ t σ H1 fun vs H2 => sp (x :: vs) H2 Q (E σ)
theorem pe_methT {CX : CXT} {k : Nat} {C f : Addr} {m : Str} {sp : Sp} {E : St → XK} {o e : Expr} {es : List Expr} {ta : TE} {t : TA} {apos pos : Pos} {pl : Sem Bool} (he : PE X o ta) (c : Cls X.K C) (hm : Meth X.K C m f)
    (F : FnR X.prog X.w X.K X.mg X.base CX k f sp) (hr : Room k X.A) (hx : ∀ σ, PassesAt CX X σ (E σ)) (ha : PA X (e :: es) t)
    (hst : starEach (e :: es) X.env = (false, eval e X.env) :: starEach es X.env := by rfl) (hpl : (backTo pos (starEach es X.env)).any (·.1) = false := by rfl)
    (ht : eval (.Call (.Attribute o m apos) (e :: es) [] pos) X.env = (do
      let ov ← eval o X.env
      standAt apos.atName
      let (f, first) ← holding [ov] (getMethod ov m pl)
      callWith pos f first (backTo pos (starEach (e :: es) X.env)) (backToKw pos (keywordEach [] X.env))) := by rfl) :
    PE X (.Call (.Attribute o m apos) (e :: es) [] pos) (tMethT C m sp E ta t) := by
  refine ⟨fun pins s σ H Q I h => ?_⟩
  refine PySem.W.methodCall_KW (pl := pl) (thn (he.run pins s σ H _ I h) fun u s1 ⟨x, H1, I1, rx, a, dx, fs, ex, ea, l, q⟩ => ?_) ht
  subst ex
  obtain rfl : u = Value.ref a := rx
  refine getmeth_ok I1 ea c hm l ?_
  refine PySem.W.callWith_K (first := [.ref a]) (h₀ := X.base) I.ok.mod.kin hm.kp (thn (ha.run pos pins s1 σ H1 _ I1 q) fun us s2 ⟨vs, H2, I2, r, q2⟩ => ⟨I2.kIn, ?_⟩) hst hpl
  exact wpAny_call (run_fnRT (us := .ref a :: us) (vs := .ref a :: vs) F hr (hx σ) I2 (.cons rfl r) q2)
theorem pe_methT0 {CX : CXT} {k : Nat} {C f : Addr} {m : Str} {sp : Sp} {E : St → XK} {o : Expr} {ta : TE} {apos pos : Pos} {pl : Sem Bool} (he : PE X o ta) (c : Cls X.K C) (hm : Meth X.K C m f)
    (F : FnR X.prog X.w X.K X.mg X.base CX k f sp) (hr : Room k X.A) (hx : ∀ σ, PassesAt CX X σ (E σ))
    (ht : eval (.Call (.Attribute o m apos) [] [] pos) X.env = (do
      let ov ← eval o X.env
      standAt apos.atName
      let (f, first) ← holding [ov] (getMethod ov m pl)
      callWith pos f first (backTo pos (starEach [] X.env)) (backToKw pos (keywordEach [] X.env))) := by rfl) :
    PE X (.Call (.Attribute o m apos) [] [] pos) (tMethT C m sp E ta tNil) := by
  refine ⟨fun pins s σ H Q I h => ?_⟩
  refine PySem.W.methodCall_KW (pl := pl) (thn (he.run pins s σ H _ I h) fun u s1 ⟨x, H1, I1, rx, a, dx, fs, ex, ea, l, q⟩ => ?_) ht
  subst ex
  obtain rfl : u = Value.ref a := rx
  refine getmeth_ok I1 ea c hm l ?_
  exact PySem.W.callWith_K0 (first := [.ref a]) I1.kIn hm.kp (wpAny_call (run_fnRT (us := [.ref a]) (vs := [.ref a]) F hr (hx σ) I1 (.cons rfl .nil) q))
def methE (C : Addr) (m : Str) (R : V → Hp → Prop) : V → Hp → Prop := fun x H1 => ∃ a dx fs, x = .ref a ∧ H1 a = some (.ins C dx fs) ∧ fs.lookup m = none ∧ R x H1
theorem r_meth {C : Addr} {m : Str} {sp : Sp} {dvs : List V} {E : XK} {ta : TE} {t : TA} (h : ta σ H (methE C m fun x H1 => t σ H1 fun vs H2 => sp (x :: (vs ++ dvs)) H2 Q E)) : tMeth C m sp dvs E ta t σ H Q := h
theorem r_methT {C : Addr} {m : Str} {sp : Sp} {E : St → XK} {ta : TE} {t : TA} (h : ta σ H (methE C m fun x H1 => t σ H1 fun vs H2 => sp (x :: vs) H2 Q (E σ))) : tMethT C m sp E ta t σ H Q := h
theorem r_methK {p C dx : Addr} {m : Str} {fs : List (Str × V)} {R : V → Hp → Prop} (h : H p = some (.ins C dx fs)) (e : fs.lookup m = none) (q : R (.ref p) H) : methE C m R (.ref p) H := ⟨p, dx, fs, rfl, h, e, q⟩
end
end Wm
namespace Wm
open PySem L2
def MARKSl : List Str := ["none", "way", "lasting"]
def ACTSl : List Str := ["ring", "skip", "refuse"]
def BYl : List Str := ["same", "equal"]
def KEEPSl : List Str := ["none", "ahead", "behind"]
def FLAGSl : List Str := ["here", "left", "twin here", "twin left"]
/-! ### plain functions -/
def plain5 (m a b k e : Str) : List Str := [m, if m = "none" then "ring" else a, if m = "none" then "same" else b, k, if k = "none" then "same" else e]
def okv (v : V) (cs : List Str) : Bool := match v with
  | .str x => decide (x ∈ cs)
  | _ => false
def badPart (v0 v1 v2 v3 v4 : V) : Option Str :=
  if okv v0 MARKSl = false then some "mark" else if okv v1 ACTSl = false then some "act" else if okv v2 BYl = false then some "by"
  else if okv v3 KEEPSl = false then some "keep" else if okv v4 BYl = false then some "keep_by" else none
def strOf : V → Str
  | .str x => x
  | _ => ""
def madeL (v0 v1 v2 v3 v4 : V) : List Str := match badPart v0 v1 v2 v3 v4 with
  | some p => ["bad", p]
  | none => plain5 (strOf v0) (strOf v1) (strOf v2) (strOf v3) (strOf v4)
/-- a value whose type is known -/
def AnyV (H : Hp) : V → Prop
  | .non => True
  | .bl _ => True
  | .int _ => True
  | .str _ => True
  | .ref a => (∃ xs, H a = some (.lst xs)) ∨ (∃ xs, H a = some (.tup xs)) ∨ ∃ kvs, H a = some (.dK kvs)
  | _ => False
theorem AnyV.ty {K : PySem.W.Frag} {H : Hp} {v : V} (h : AnyV H v) : ∃ t, TyX K H v (.type t) ∧ t ∈ ["NoneType", "bool", "int", "str", "list", "tuple", "dict"] ∧ (t = "str" ↔ ∃ x, v = .str x) := by
  cases v with
  | non => exact ⟨_, .base .non, by simp, by simp⟩
  | bl b => exact ⟨_, .base (.bl b), by simp, by simp⟩
  | int i => exact ⟨_, .base (.int i), by simp, by simp⟩
  | str x => exact ⟨_, .base (.str x), by simp, by simp⟩
  | ref a =>
    rcases h with ⟨xs, h⟩ | ⟨xs, h⟩ | ⟨kvs, h⟩
    · exact ⟨_, .base (.lst h), by simp, by simp⟩
    · exact ⟨_, .base (.tup h), by simp, by simp⟩
    · exact ⟨_, .base (.dK h), by simp, by simp⟩
  | _ => exact h.elim
theorem AnyV.isStr {K : PySem.W.Frag} {H : Hp} {v : V} (h : AnyV H v) : ∃ t b, TyX K H v (.type t) ∧ kitB t "str" = some b ∧ (b = true ↔ ∃ x, v = .str x) := by
  obtain ⟨t, h1, h2, h3⟩ := h.ty (K := K)
  simp only [List.mem_cons, List.not_mem_nil, or_false] at h2
  rcases h2 with rfl | rfl | rfl | rfl | rfl | rfl | rfl
  all_goals first
    | exact ⟨_, true, h1, by decide +kernel, by simpa using h3⟩
    | exact ⟨_, false, h1, by decide +kernel, by simpa using h3⟩
/-! ### promises -/
def spBit : Sp := fun vs H Q _ => ∃ (p c : Addr) (b : Int), vs = [.ref p, .int b] ∧ PenAt H p c ∧ 0 < b ∧ b < 2 ^ 100 ∧ ∀ r H', PenStep p c H H' → Q (.bl r) H'
theorem r_bit {H : Hp} {Q : VK} {E : XK} {p c : Addr} {b : Int} (h : PenAt H p c) (hb : 0 < b) (hb2 : b < 2 ^ 100) (k : ∀ r H', PenStep p c H H' → Q (.bl r) H') : spBit ([.ref p, .int b] ++ []) H Q E := ⟨p, c, b, rfl, h, hb, hb2, k⟩
/-- a drawn odd value: it stands apart from the pen -/
def OddV (p : Addr) (H : Hp) (v : V) : Prop := AnyV H v ∧ v ≠ .ref p
theorem oddT {p c q : Addr} {H : Hp} {xs : List V} (h : PenAt H p c) (e : H q = some (.tup xs)) : OddV p H (.ref q) := ⟨.inr (.inl ⟨xs, e⟩), fun z => h.ne e rfl (V.ref.inj z)⟩
theorem oddL {p c q : Addr} {H : Hp} {xs : List V} (h : PenAt H p c) (e : H q = some (.lst xs)) : OddV p H (.ref q) := ⟨.inl ⟨xs, e⟩, fun z => h.ne e rfl (V.ref.inj z)⟩
theorem oddD {p q : Addr} {H : Hp} {kvs : List (Key × V)} (n : q ≠ p) (e : H q = some (.dK kvs)) : OddV p H (.ref q) := ⟨.inr (.inr ⟨kvs, e⟩), fun z => n (V.ref.inj z)⟩
def spOdd : Sp := fun vs H Q _ => ∃ (p c : Addr), vs = [.ref p] ∧ PenAt H p c ∧ ∀ v H', PenStep p c H H' → OddV p H' v → Q v H'
def spFive : Sp := fun vs H Q _ => ∃ (p c : Addr), vs = [.ref p] ∧ PenAt H p c ∧ ∀ q H' m a b k e, m ∈ MARKSl → a ∈ ACTSl → b ∈ BYl → k ∈ KEEPSl → e ∈ BYl → PenStep p c H H' → H q = none → H' q = some (.lst [.str m, .str a, .str b, .str k, .str e]) → Q (.ref q) H'
def spPlain : Sp := fun vs H Q _ => ∃ (q : Addr) (m a b k e : Str), vs = [.ref q] ∧ H q = some (.lst [.str m, .str a, .str b, .str k, .str e]) ∧ ∀ r H', Same H H' → H r = none → H' r = some (.lst ((plain5 m a b k e).map V.str)) → Q (.ref r) H'
def gfs (l : List Str) : List (Str × V) := [("mark", .str (l.getD 0 "")), ("act", .str (l.getD 1 "")), ("by", .str (l.getD 2 "")), ("keep", .str (l.getD 3 "")), ("keep_by", .str (l.getD 4 ""))]
theorem AnyV.same {v : V} {H H' : Hp} (h : AnyV H v) (s : Same H H') : AnyV H' v := by
  cases v with
  | ref a =>
    rcases h with ⟨xs, h⟩ | ⟨xs, h⟩ | ⟨xs, h⟩
    · exact .inl ⟨xs, s _ _ h⟩
    · exact .inr (.inl ⟨xs, s _ _ h⟩)
    · exact .inr (.inr ⟨xs, s _ _ h⟩)
  | _ => exact h
def Any5 (H : Hp) (v0 v1 v2 v3 v4 : V) : Prop := AnyV H v0 ∧ AnyV H v1 ∧ AnyV H v2 ∧ AnyV H v3 ∧ AnyV H v4
theorem Any5.same {v0 v1 v2 v3 v4 : V} {H H' : Hp} (h : Any5 H v0 v1 v2 v3 v4) (s : Same H H') : Any5 H' v0 v1 v2 v3 v4 := ⟨h.1.same s, h.2.1.same s, h.2.2.1.same s, h.2.2.2.1.same s, h.2.2.2.2.same s⟩
def spInitG (CG CB : Addr) : Sp := fun vs H Q E => ∃ (a dx : Addr) (v0 v1 v2 v3 v4 : V), vs = [.ref a, v0, v1, v2, v3, v4] ∧ H a = some (.ins CG dx []) ∧ Any5 H v0 v1 v2 v3 v4 ∧
  (∀ part, badPart v0 v1 v2 v3 v4 = some part → ∀ d H', Same H H' → H d = none → H' d = some (.xd [("part", .str part)]) → E (.ref CB) (some d) H') ∧
  (∀ m t b k e, v0 = .str m → v1 = .str t → v2 = .str b → v3 = .str k → v4 = .str e → m ∈ MARKSl → t ∈ ACTSl → b ∈ BYl → k ∈ KEEPSl → e ∈ BYl → ∀ H', (∀ b o, b ≠ a → H b = some o → H' b = some o) → H' a = some (.ins CG dx (gfs (plain5 m t b k e))) → Q .non H')
theorem okv_str {v : V} {l : List Str} (h : okv v l = true) : ∃ x, v = .str x ∧ x ∈ l := by
  cases v with
  | str x => exact ⟨x, rfl, by simpa [okv] using h⟩
  | _ => cases h
def spEqG (CG : Addr) : Sp := fun vs H Q _ => ∃ (a dx : Addr) (m t b k e : Str) (v : V), vs = [.ref a, v] ∧ H a = some (.ins CG dx (gfs [m, t, b, k, e])) ∧
  ((∃ (a' dx' : Addr) (m' t' b' k' e' : Str), v = .ref a' ∧ H a' = some (.ins CG dx' (gfs [m', t', b', k', e'])) ∧ Q (.bl (decide ([m, t, b, k, e] = [m', t', b', k', e']))) H) ∨ (AnyV H v ∧ Q (.bl false) H))
def spMade : Sp := fun vs H Q _ => ∃ (q : Addr) (v0 v1 v2 v3 v4 : V), vs = [.ref q] ∧ H q = some (.lst [v0, v1, v2, v3, v4]) ∧ Any5 H v0 v1 v2 v3 v4 ∧ ∀ r H', Same H H' → H r = none → H' r = some (.lst ((madeL v0 v1 v2 v3 v4).map V.str)) → Q (.ref r) H'
def spFewG (CG : Addr) : Sp := fun vs H Q _ => ∃ (w : Int) (q : Addr) (m t b k e : Str), vs = [.int w, .ref q] ∧ H q = some (.lst [.str m, .str t, .str b, .str k, .str e]) ∧ (m ∈ MARKSl ∧ t ∈ ACTSl ∧ b ∈ BYl ∧ k ∈ KEEPSl ∧ e ∈ BYl) ∧
  ∀ r g d dx m' t' b' k' e' H', Same H H' → H r = none → H' r = some (.lst [.ref g, .ref d]) → H' g = some (.ins CG dx (gfs [m', t', b', k', e'])) → H' d = some (.lst [.str m', .str t', .str b', .str k', .str e']) → Q (.ref r) H'
theorem bad_none {v0 v1 v2 v3 v4 : V} (h0 : okv v0 MARKSl = true) (h1 : okv v1 ACTSl = true) (h2 : okv v2 BYl = true) (h3 : okv v3 KEEPSl = true) (h4 : okv v4 BYl = true) : badPart v0 v1 v2 v3 v4 = none := by
  unfold badPart
  rw [if_neg (by simp [h0]), if_neg (by simp [h1]), if_neg (by simp [h2]), if_neg (by simp [h3]), if_neg (by simp [h4])]
theorem okv_mem {x : Str} {l : List Str} (h : x ∈ l) : okv (.str x) l = true := by simpa [okv] using h
def spChoice (K : PySem.W.Frag) : Sp := fun vs H Q _ => ∃ (v : V) (a : Addr) (ss : List Str), vs = [v, .ref a] ∧ SqT K H a (ss.map V.str) ∧ AnyV H v ∧ Q (.bl (okv v ss)) H
def Ok5 (m t b k e : Str) : Prop := m ∈ MARKSl ∧ t ∈ ACTSl ∧ b ∈ BYl ∧ k ∈ KEEPSl ∧ e ∈ BYl
theorem made_ok {m t b k e : Str} (h : Ok5 m t b k e) : madeL (.str m) (.str t) (.str b) (.str k) (.str e) = plain5 m t b k e := by
  unfold madeL
  rw [bad_none (okv_mem h.1) (okv_mem h.2.1) (okv_mem h.2.2.1) (okv_mem h.2.2.2.1) (okv_mem h.2.2.2.2)]
  rfl
theorem AnyV.step {p c : Addr} {H H' : Hp} {v : V} (h : AnyV H v) (n : v ≠ .ref p) (s : PenStep p c H H') : AnyV H' v := by
  cases v with
  | ref a =>
    have n' : a ≠ p := fun z => n (by rw [z])
    rcases h with ⟨xs, h⟩ | ⟨xs, h⟩ | ⟨xs, h⟩
    · exact .inl ⟨xs, s.keep _ _ n' h⟩
    · exact .inr (.inl ⟨xs, s.keep _ _ n' h⟩)
    · exact .inr (.inr ⟨xs, s.keep _ _ n' h⟩)
  | _ => exact h
theorem OddV.step {p c : Addr} {H H' : Hp} {v : V} (h : OddV p H v) (s : PenStep p c H H') : OddV p H' v := ⟨h.1.step h.2 s, h.2⟩
theorem OddV.same {p : Addr} {H H' : Hp} {v : V} (h : OddV p H v) (s : Same H H') : OddV p H' v := ⟨h.1.same s, h.2⟩
theorem OddV.put {p q : Addr} {H : Hp} {v : V} {xs : List V} (h : OddV p H v) : OddV p (upd H q (.lst xs)) v := by
  refine ⟨?_, h.2⟩
  obtain ⟨h, _⟩ := h
  cases v with
  | ref a =>
    by_cases e : a = q
    · subst e
      exact .inl ⟨xs, upd_same⟩
    · rcases h with ⟨ys, h⟩ | ⟨ys, h⟩ | ⟨ys, h⟩
      · exact .inl ⟨ys, by rw [upd_ne e]; exact h⟩
      · exact .inr (.inl ⟨ys, by rw [upd_ne e]; exact h⟩)
      · exact .inr (.inr ⟨ys, by rw [upd_ne e]; exact h⟩)
  | _ => exact h
theorem oddS {p : Addr} {H : Hp} {x : Str} : OddV p H (.str x) := ⟨trivial, fun z => by cases z⟩
theorem sp_initG {CG CB : Addr} {H : Hp} {Q : VK} {E : XK} {a dx : Addr} {m t b k e : Str} (h : H a = some (.ins CG dx [])) (m0 : m ∈ MARKSl) (m1 : t ∈ ACTSl) (m2 : b ∈ BYl) (m3 : k ∈ KEEPSl) (m4 : e ∈ BYl)
    (q : ∀ H', (∀ b o, b ≠ a → H b = some o → H' b = some o) → H' a = some (.ins CG dx (gfs (plain5 m t b k e))) → Q .non H') : spInitG CG CB [.ref a, .str m, .str t, .str b, .str k, .str e] H Q E := by
  refine ⟨a, dx, _, _, _, _, _, rfl, h, ⟨trivial, trivial, trivial, trivial, trivial⟩, fun part hb => ?_, fun m' t' b' k' e' z0 z1 z2 z3 z4 _ _ _ _ _ => ?_⟩
  · rw [bad_none (okv_mem m0) (okv_mem m1) (okv_mem m2) (okv_mem m3) (okv_mem m4)] at hb
    cases hb
  · cases z0
    cases z1
    cases z2
    cases z3
    cases z4
    exact q
def spLaw (K : PySem.W.Frag) : Sp := fun vs H Q _ => ∃ (a : Addr) (ns : List Int), vs = [.ref a] ∧ SqL K H a (ns.map V.int) ∧ ∀ H', Q (.bl true) H'
theorem at_n {xs : List V} {i : Nat} {v : V} (h : xs[i]? = some v) : atI xs (0 + (i : Int)) = some v := by
  rw [Int.zero_add]
  exact atI_nat h
theorem str_in {ss : List Str} {j : Nat} {x : V} (h : (ss.map V.str)[j]? = some x) : ∃ y, x = .str y ∧ y ∈ ss := by
  rw [List.getElem?_map] at h
  cases e : ss[j]? with
  | none =>
    rw [e] at h
    cases h
  | some u =>
    rw [e] at h
    exact ⟨u, (Option.some.inj h).symm, List.mem_of_getElem? e⟩
theorem str_at {ss : List Str} {j : Nat} {x : V} (h : (ss.map V.str)[j]? = some x) : ∃ y, x = .str y := by
  obtain ⟨y, h, _⟩ := str_in h
  exact ⟨y, h⟩
theorem filt_true {α : Type} {l : List α} : l.filter (fun _ => true) = l := List.filter_eq_self.mpr fun _ _ => rfl
def SqA (K : PySem.W.Frag) (H : Hp) (t : Addr) (xs : List V) : Prop := SqL K H t xs ∨ SqT K H t xs
theorem SqA.same {K : PySem.W.Frag} {H H' : Hp} {t : Addr} {xs : List V} (h : SqA K H t xs) (s : Same H H') : SqA K H' t xs := h.imp (fun h => s.seq h) (fun h => same_seqT s h)
theorem r_forA {K : PySem.W.Frag} {p : Addr} {xs : List V} {g : TG} {tb : TS} {D : Ends} {σ : St} {H : Hp} {sl : Nat} (hv : σ[sl]? = some (some (.ref p))) (hS : SqA K H p xs) (Pv : Nat → St → Hp → Prop) (h0 : Pv 0 σ H) (hsm : ∀ i σ' H', Pv i σ' H' → Same H H')
    (hs : ∀ i x σ H, xs[i]? = some x → Pv i σ H → g x σ H fun σ2 H2 => tb { D with nx := Pv (i + 1), ct := Pv (i + 1), bk := D.nx } σ2 H2) (hd : ∀ σ H, Pv xs.length σ H → D.nx σ H) :
    iOr (iList K (tVar sl)) (iTup K (tVar sl)) σ H (fun J H1 => ∃ W : Nat → Nat → St → Hp → Prop, (∃ m, W 0 m σ H1) ∧ ∀ i m σ H, W i m σ H →
      (J.stop i H ∧ D.nx σ H) ∨ (J.go i H ∧ ∃ N : St → Hp → Prop, (∀ σ' H', N σ' H' → ∃ m', m' < m ∧ W (i + 1) m' σ' H') ∧ ∀ x H', J.yld i H x H' → g x σ H' fun σ2 H2 => tb { D with nx := N, ct := N, bk := D.nx } σ2 H2)) := by
  rcases hS with hS | hS
  · exact .inl ⟨_, hv, p, rfl, ⟨xs, hS⟩, for_list (K := K) (a := p) (xs := xs) Pv h0 (fun i σ' H' _ z => (hsm i σ' H' z).seq hS) hs hd⟩
  · exact .inr ⟨_, hv, p, rfl, ⟨xs, hS⟩, for_tup (K := K) (a := p) (xs := xs) Pv h0 (fun i σ' H' _ z => same_seqT (hsm i σ' H' z) hS) hs hd⟩
theorem r_orV2 {ta tb : TE} {σ : St} {H : Hp} {Q : VK} {c d : Bool} (ha : ∀ R : VK, R (.bl c) H → ta σ H R) (hb : ∀ R : VK, R (.bl d) H → tb σ H R) (q : Q (.bl (c || d)) H) : tOrV ta tb σ H Q :=
  ha _ ⟨c, rfl, by
    cases c
    · exact iteF (hb _ q)
    · exact iteT q⟩
theorem r_andV2 {ta tb : TE} {σ : St} {H : Hp} {Q : VK} {c d : Bool} (ha : ∀ R : VK, R (.bl c) H → ta σ H R) (hb : ∀ R : VK, R (.bl d) H → tb σ H R) (q : Q (.bl (c && d)) H) : tAndV ta tb σ H Q :=
  ha _ ⟨c, rfl, by
    cases c
    · exact iteF q
    · exact iteT (hb _ q)⟩
theorem r_and2 {p q : TT} {σ : St} {H : Hp} {R : Bool → Hp → Prop} {c d : Bool} (ha : ∀ R : Bool → Hp → Prop, R c H → p σ H R) (hb : ∀ R : Bool → Hp → Prop, R d H → q σ H R) (k : R (c && d) H) : tAnd p q σ H R := ha _ (by
    cases c
    · exact iteF k
    · exact iteT (hb _ k))
theorem r_or2 {p q : TT} {σ : St} {H : Hp} {R : Bool → Hp → Prop} {c d : Bool} (ha : ∀ R : Bool → Hp → Prop, R c H → p σ H R) (hb : ∀ R : Bool → Hp → Prop, R d H → q σ H R) (k : R (c || d) H) : tOr p q σ H R := ha _ (by
    cases c
    · exact iteF (hb _ k)
    · exact iteT k)
theorem all_strs : ∀ {fl : List V}, (∀ v, v ∈ fl → ∃ x, v = .str x) → ∃ ss : List Str, fl = ss.map V.str
  | [], _ => ⟨[], rfl⟩
  | v :: r, h => by
    obtain ⟨x, rfl⟩ := h v (by simp)
    obtain ⟨ss, rfl⟩ := all_strs (fl := r) fun v hv => h v (by simp [hv])
    exact ⟨x :: ss, rfl⟩
def firstBad (fl : List V) : Option V := fl.find? fun v => !okv v FLAGSl
theorem first_none {fl : List V} (h : ∀ (j : Nat) v, fl[j]? = some v → okv v FLAGSl = true) : firstBad fl = none := by
  refine List.find?_eq_none.mpr fun v hv => ?_
  obtain ⟨j, hj⟩ := List.mem_iff_getElem?.mp hv
  simp [h j v hj]
theorem first_bad : ∀ {fl : List V} {i : Nat} {x : V}, fl[i]? = some x → (∀ (j : Nat) v, j < i → fl[j]? = some v → okv v FLAGSl = true) → okv x FLAGSl = false → firstBad fl = some x
  | [], i, x, h, _, _ => by simp at h
  | a :: r, 0, x, h, _, hb => by
    cases Option.some.inj h
    unfold firstBad
    rw [List.find?_cons_of_pos (by simp [hb])]
  | a :: r, i + 1, x, h, hj, hb => by
    have ih := first_bad (fl := r) (i := i) (x := x) h (fun j v hl e => hj (j + 1) v (by omega) e) hb
    unfold firstBad at ih ⊢
    rw [List.find?_cons_of_neg (by simp [hj 0 a (by omega) rfl])]
    exact ih
theorem ite_eqT {i j : Int} {A B : Prop} (e : i = j) (h : A) : if decide (i = j) = true then A else B := by simpa [e] using h
theorem ite_eqF {i j : Int} {A B : Prop} (e : i ≠ j) (h : B) : if decide (i = j) = true then A else B := by simpa [e] using h
def rInsert : V → List V → Hp → VK → Prop := fun x vs H Q => ∃ (l : Addr) (xs : List V) (i : Int) (y : V), x = .ref l ∧ vs = [.int i, y] ∧ H l = some (.lst xs) ∧ xs.length < sizeLine ∧ 0 ≤ i ∧ i < 2 ^ 63 ∧ Q .non (upd H l (.lst (xs.take i.toNat ++ [y] ++ xs.drop i.toNat)))
theorem mtInsert {X : Cx} : MtR X "list.insert" rInsert := mt_insert
theorem r_insert {H : Hp} {Q : VK} {p : Addr} {xs : List V} {i : Int} {y : V} (h : H p = some (.lst xs)) (l : xs.length < sizeLine) (h0 : 0 ≤ i) (h1 : i < 2 ^ 63) (q : Q .non (upd H p (.lst (xs.take i.toNat ++ [y] ++ xs.drop i.toNat)))) : rInsert (.ref p) [.int i, y] H Q := ⟨p, xs, i, y, rfl, rfl, h, l, h0, h1, q⟩
theorem mem_ins {xs : List V} {n : Nat} {x y : V} : x ∈ xs.take n ++ [y] ++ xs.drop n ↔ x ∈ xs ∨ x = y := by
  have h : x ∈ xs ↔ x ∈ xs.take n ∨ x ∈ xs.drop n := by
    rw [← List.mem_append, List.take_append_drop]
  rw [h]
  simp only [List.mem_append, List.mem_cons, List.not_mem_nil, or_false]
  constructor
  · rintro ((h | h) | h)
    · exact .inl (.inl h)
    · exact .inr h
    · exact .inl (.inr h)
  · rintro ((h | h) | h)
    · exact .inl (.inl h)
    · exact .inr h
    · exact .inl (.inr h)
theorem len_ins {xs : List V} {n : Nat} {y : V} : (xs.take n ++ [y] ++ xs.drop n).length = xs.length + 1 := by
  simp only [List.length_append, List.length_take, List.length_drop, List.length_cons, List.length_nil]
  omega
def spMing : Sp := fun vs H Q _ => ∃ (p c q : Addr) (fl : List V), vs = [.ref p, .ref q] ∧ PenAt H p c ∧ H q = some (.lst fl) ∧ fl.length ≤ 1000 ∧ ∀ r H' gl, PenStep p c H H' → H r = none → H' r = some (.lst gl) → gl.length ≤ fl.length + 2 → (∀ x, x ∈ gl ↔ x ∈ fl) → Q (.ref r) H'
/-- a value that is found equal to itself -/
def SelfEq (K : PySem.W.Frag) (H : Hp) (v : V) : Prop := (∃ d, Dp K H v d ∧ d.plain = true ∧ d.depth ≤ 64) ∨ ∃ a ks, v = .ref a ∧ H a = some (.dK ks) ∧ ∀ p ∈ ks, valV ks p.1 = some p.2 ∧ flatB p.2 = true
mutual
theorem dp_same {K : PySem.W.Frag} {H H' : Hp} (s : Same H H') : ∀ {v : V} {d : PyData}, Dp K H v d → Dp K H' v d
  | _, _, .non => .non
  | _, _, .bl b => .bl b
  | _, _, .int i => .int i
  | _, _, .str x => .str x
  | _, _, .lst h k => .lst (s.seq h) (dps_same s k)
  | _, _, .tup h k => .tup (same_seqT s h) (dps_same s k)
theorem dps_same {K : PySem.W.Frag} {H H' : Hp} (s : Same H H') : ∀ {vs : List V} {ds : List PyData}, DpAll K H vs ds → DpAll K H' vs ds
  | _, _, .nil => .nil
  | _, _, .cons h k => .cons (dp_same s h) (dps_same s k)
end
theorem SelfEq.same {K : PySem.W.Frag} {H H' : Hp} {v : V} (h : SelfEq K H v) (s : Same H H') : SelfEq K H' v := by
  rcases h with ⟨d, h, a, b⟩ | ⟨a, ks, e, h, k⟩
  · exact .inl ⟨d, dp_same s h, a, b⟩
  · exact .inr ⟨a, ks, e, s _ _ h, k⟩
theorem SelfEq.eq {K : PySem.W.Frag} {H H' : Hp} {v : V} {Q : VK} (h : SelfEq K H v) (s : Same H H') (q : Q (.bl true) H') : rOr (rEqP K) (rEqV K) v v H' Q := by
  rcases h.same s with ⟨d, h, a, b⟩ | ⟨a, ks, rfl, h, k⟩
  · refine .inl ⟨d, d, h, h, a, a, b, ?_⟩
    rw [SeqAt.eqv_refl_plain d a]
    exact q
  · exact .inr ⟨1, by decide, .inr ⟨a, a, ks, ks, rfl, rfl, h, h, rfl, fun p hp => ⟨p.2, (k p hp).1, .inl ⟨rfl, (k p hp).2⟩⟩⟩, q⟩
theorem r_neStr {K : PySem.W.Frag} {H : Hp} {Q : VK} {x y : Str} (e : x = y) (q : Q (.bl false) H) : rNeP K (.str x) (.str y) H Q := r_neT x y (.str x) (.str y) (by
  subst e
  simpa using q)
theorem mem_strs {ss : List Str} {x : Str} : V.str x ∈ ss.map V.str ↔ x ∈ ss := by
  rw [List.mem_map]
  exact ⟨fun ⟨y, h, e⟩ => (V.str.inj e) ▸ h, fun h => ⟨x, h, rfl⟩⟩
theorem strs_inj : ∀ {ss tt : List Str}, ss.map V.str = tt.map V.str → ss = tt
  | [], [], _ => rfl
  | [], _ :: _, h => by cases h
  | _ :: _, [], h => by cases h
  | a :: ss, b :: tt, h => by
    have h' := List.cons.inj h
    rw [V.str.inj h'.1, strs_inj h'.2]
/-- the part of H' that was not there in H0 -/
def newOf (H0 H' : Hp) : Hp := fun b => if (H0 b).isNone = true then H' b else none
theorem newOf_at {H0 H' : Hp} {b : Addr} {o : HO} (n : H0 b = none) (e : H' b = some o) : newOf H0 H' b = some o := by
  unfold newOf
  rw [n]
  exact e
theorem newOf_get {H0 H' : Hp} {b : Addr} {o : HO} (e : newOf H0 H' b = some o) : H0 b = none ∧ H' b = some o := by
  unfold newOf at e
  by_cases h : (H0 b).isNone = true
  · rw [if_pos h] at e
    exact ⟨Option.isNone_iff_eq_none.mp h, e⟩
  · rw [if_neg h] at e
    cases e
def spOddN (K : PySem.W.Frag) : Sp := fun vs H Q _ => ∃ (p c : Addr), vs = [.ref p] ∧ PenAt H p c ∧ ∀ v H', PenStep p c H H' → OddV p H' v → okv v FLAGSl = false → SelfEq K (newOf H H') v → Q v H'
end Wm
namespace Wm
open PySem PySem.SeqAt PyProof.Rows PySem.Spec PySem.Calls
theorem str_eq_declines_dict (b : Str) (u : Tok) (l : Addr) (c : Value) (es : Array DictEntry) (n : Nat) (dd : Option Addr) (sl : Array (Option Value)) :
    Meets (Builtin.«str.__eq__» ⟨[.str b u, .ref l], []⟩) (fun _ R s => s.heap.get? l = some { cls := c, dict := dd, data := .dict es n, slots := sl } ∧ R (.ok (.ret .notImplemented)) s) :=
  .of_wp fun prog w A R s h => by obtain ⟨hp, g, d, tk, os⟩ := s; obtain ⟨hl, h⟩ := h; wp_walk using wpAny_loadPart' hl; exact ⟨_, rfl, h⟩
theorem dict_eq_declines_str (l : Addr) (es : Array DictEntry) (n : Nat) (dd : Option Addr) (sl : Array (Option Value)) (b : Str) (u : Tok) :
    Meets (Builtin.«dict.__eq__» ⟨[.ref l, .str b u], []⟩) (fun _ R s => s.heap.get? l = some { cls := .type "dict", dict := dd, data := .dict es n, slots := sl } ∧ R (.ok (.ret .notImplemented)) s) :=
  .of_wp fun prog w A R s h => by obtain ⟨hp, g, d, tk, os⟩ := s; obtain ⟨hl, h⟩ := h; have f1 := F.sub_str_dict; wp_walk using wpAny_loadPart' hl; exact ⟨_, rfl, h⟩
section
variable {A : Around} {s : Shared}
theorem rc_str_dict {l : Addr} {es : Array DictEntry} {n : Nat} {dd : Option Addr} {sl : Array (Option Value)} (b : Str) (u : Tok) (ho : s.heap.get? l = some { cls := .type "dict", dict := dd, data := .dict es n, slots := sl }) (hu : A.units < cLine) : RcAt A s (.str b u) (.ref l) false := fun prog w E Q h =>
  rc_eq_decline_or (k := false) (typeIs_str s b u) ⟨_, ho, rfl⟩ (by decide) F.sub_dict_str F.slot_str_eq F.slot_dict_eq_refl
    (fun _ hq => call_meets F.slot_str_eq (typeIs_str s b u) F.entry_str_eq (F.args_str_eq_2 _ _) (str_eq_declines_dict b u l (.type "dict") es n dd sl) ⟨ho, hq⟩)
    (fun _ hq => call_meets F.slot_dict_eq_refl ⟨_, ho, rfl⟩ F.entry_dict_eq (F.args_dict_eq_2 _ _) (dict_eq_declines_str l es n dd sl b u) ⟨ho, hq⟩)
    (fun _ hq => wpAny_of_eq (rfl : isSame (.str b u) (.ref l) = pure false) hq) (.inr hu) h
theorem eq_str_dict {l : Addr} {es : Array DictEntry} {n : Nat} {dd : Option Addr} {sl : Array (Option Value)} (b : Str) (u : Tok) (ho : s.heap.get? l = some { cls := .type "dict", dict := dd, data := .dict es n, slots := sl }) (hu : A.units < cLine) : EqAt A s (.str b u) (.ref l) false := fun prog w E Q h => by
  unfold eqBool
  refine wpAny_holding ?_
  refine wpAny_ite_split (fun hab => absurd (eq_of_beq hab) nofun) (fun _ => ?_)
  exact wpAny_bind (rc_str_dict b u ho hu prog w E _ (wpAny_truthy_bool h))
end
section
open L2
variable {X : Cx} {pins : List (Addr × Obj)} {σ : L2.St} {H : Hp} {s : Shared}
theorem eq_str_any (I : Inv X pins σ H s) {a : Addr} (h : AnyV H (.ref a)) {A : Around} (hu : A.units < cLine) (b : Str) (u : Tok) : EqAt A s (.str b u) (.ref a) false := by
  rcases h with ⟨xs, h⟩ | ⟨xs, h⟩ | ⟨kvs, h⟩
  · obtain ⟨its, r, pl, hz⟩ := I.list (SqL.of (K := X.K) h)
    exact EqAt.str_list b u pl.isList hu
  · obtain ⟨its, r, pl, hz⟩ := I.tuple (SqT.of (K := X.K) h)
    exact EqAt.str_tuple b u pl hu
  · obtain ⟨_, ya, va, ra, da⟩ := (show ObjOk X.prog X.w H s.heap a (.dK kvs) from I.hok a _ h)
    obtain ⟨o, es, ep, ho, hx, hd, _⟩ := da
    obtain ⟨oc, od, dt, sl⟩ := o
    obtain ⟨h1, h2, h3⟩ := hx
    simp only at h1 hd
    subst h1 hd
    exact eq_str_dict b u ho hu
def rNotStr (K : PySem.W.Frag) : R2 := fun x y H Q => ∃ (a p : Addr) (ss : List Str), x = .ref a ∧ y = .ref p ∧ AnyV H (.ref a) ∧ SqA K H p (ss.map V.str) ∧ Q (.bl true) H
theorem op_notStr (hu : X.A.units + 64 < cLine) : OpR X (compareOp .NotIn) (rNotStr X.K) := by
  intro pins s σ H x y v u Q I rx ry h
  obtain ⟨a, p, ss, rfl, rfl, ha, hq, q⟩ := h
  cases (show v = Value.ref a from rx)
  cases (show u = Value.ref p from ry)
  have key : ∀ {its : List Value}, Vals (ss.map V.str) its → ∀ w, w ∈ its → EqAt X.A.in1 s w (.ref a) ((fun _ : Value => false) w) := fun {its} r w hw => by
    obtain ⟨i, hi⟩ := List.mem_iff_getElem?.mp hw
    have hl : i < (ss.map V.str).length := by
      rw [r.length]
      rcases Nat.lt_or_ge i its.length with z | z
      · exact z
      · rw [List.getElem?_eq_none z] at hi
        cases hi
    obtain ⟨w', h1, h2⟩ := r.get (List.getElem?_eq_getElem hl)
    rw [hi] at h1
    cases h1
    rw [List.getElem_map] at h2
    obtain ⟨t, rfl⟩ := h2
    exact eq_str_any I ha (by show X.A.units + 1 < cLine; omega) _ t
  rcases hq with hq | hq
  · obtain ⟨its, r, pl, hz⟩ := I.list hq
    refine SeqAt.notIn_listAt (fun _ => false) pl.isList (fun w hw => key r w (by simpa using hw)) ⟨.bl true, H, I, ?_, q⟩
    show Value.bool (!its.toArray.any fun _ => false) = Value.bool true
    simp
  · obtain ⟨its, r, pl, hz⟩ := I.tuple hq
    refine SeqAt.notIn_tupleAt (fun _ => false) pl (fun w hw => key r w (by simpa using hw)) ⟨.bl true, H, I, ?_, q⟩
    show Value.bool (!its.toArray.any fun _ => false) = Value.bool true
    simp
end
section
open L2
variable {D : Ends} {σ : L2.St} {H : Hp} {Q : VK} {K : PySem.W.Frag}
def slEnd (r : V → Option Int → Option Int → Hp → VK → Prop) (Q : VK) (x : V) (lo : Option Int) : Option Int → Hp → Prop := fun hi H3 => r x lo hi H3 Q
theorem r_slice {r : V → Option Int → Option Int → Hp → VK → Prop} {te : TE} {tl th : TO} (h : te σ H fun x H1 => tl σ H1 fun lo H2 => th σ H2 (slEnd r Q x lo)) : tSl r te tl th σ H Q := h
theorem r_nopart {R : Option Int → Hp → Prop} (h : R none H) : tNoPart σ H R := h
theorem r_part {te : TE} {R : Option Int → Hp → Prop} (h : te σ H fun x H1 => ∃ i, x = .int i ∧ R (some i) H1) : tPart te σ H R := h
theorem r_partI {i : Int} {R : Int → Prop} (q : R i) : ∃ j, V.int i = .int j ∧ R j := ⟨i, rfl, q⟩
theorem r_slL {p : Addr} {xs : List V} {lo hi : Option Int} (h : H p = some (.lst xs)) (k : ∀ q H', H q = none → Same H H' → H' q = some (.lst (cutV xs lo hi)) → Q (.ref q) H') : slEnd (rSlL K) Q (.ref p) lo hi H := ⟨p, xs, rfl, SqL.of h, fun q n => k q _ n (same_new n) upd_same⟩
theorem eqv_self {v : V} (h : AnyV H v) : EqV K H 1 v v := by
  cases v with
  | ref a => exact .inr (.inl ⟨a, rfl, rfl⟩)
  | non => exact .inl ⟨rfl, rfl⟩
  | bl b => exact .inl ⟨rfl, rfl⟩
  | int i => exact .inl ⟨rfl, rfl⟩
  | str x => exact .inl ⟨rfl, rfl⟩
  | _ => exact h.elim
/-- a drawn flag: p the pen, fr the list that it stands in -/
structure GoodV (K : PySem.W.Frag) (p fr : Addr) (H : Hp) (v : V) : Prop where
  odd : OddV p H v
  sf : ∃ G : Hp, SelfEq K G v ∧ ∀ b o, G b = some o → b ≠ p ∧ b ≠ fr ∧ H b = some o
  kind : okv v FLAGSl = false ∨ ∃ x, v = .str x ∧ x ∈ (["here", "left", "twin left"] : List Str)
theorem GoodV.self {p fr : Addr} {v : V} (h : GoodV K p fr H v) : SelfEq K H v := by
  obtain ⟨G, a, b⟩ := h.sf
  exact a.same fun c o e => (b c o e).2.2
theorem GoodV.step {p c fr : Addr} {H' : Hp} {v : V} (h : GoodV K p fr H v) (s : PenStep p c H H') : GoodV K p fr H' v := by
  obtain ⟨G, a, b⟩ := h.sf
  exact ⟨h.odd.step s, ⟨G, a, fun c o e => ⟨(b c o e).1, (b c o e).2.1, s.keep c o (b c o e).1 (b c o e).2.2⟩⟩, h.kind⟩
theorem GoodV.same {p fr : Addr} {H' : Hp} {v : V} (h : GoodV K p fr H v) (s : Same H H') : GoodV K p fr H' v := by
  obtain ⟨G, a, b⟩ := h.sf
  exact ⟨h.odd.same s, ⟨G, a, fun c o e => ⟨(b c o e).1, (b c o e).2.1, s c o (b c o e).2.2⟩⟩, h.kind⟩
theorem GoodV.put {p fr : Addr} {v : V} {xs : List V} (h : GoodV K p fr H v) : GoodV K p fr (upd H fr (.lst xs)) v := by
  obtain ⟨G, a, b⟩ := h.sf
  exact ⟨h.odd.put, ⟨G, a, fun c o e => ⟨(b c o e).1, (b c o e).2.1, by rw [upd_ne (b c o e).2.1]; exact (b c o e).2.2⟩⟩, h.kind⟩
theorem good_str {p fr : Addr} {x : Str} (h : okv (.str x) FLAGSl = false ∨ x ∈ (["here", "left", "twin left"] : List Str)) : GoodV K p fr H (.str x) :=
  ⟨oddS, ⟨fun _ => none, .inl ⟨_, .str x, rfl, by simp [PyData.depth]⟩, fun b o e => by cases e⟩, h.imp id fun h => ⟨x, rfl, h⟩⟩
theorem good_odd {p c fr : Addr} {H0 : Hp} {v : V} {of : HO} (hp : PenAt H0 p c) (hf : H0 fr = some of) (o : OddV p H v) (b : okv v FLAGSl = false) (s : SelfEq K (newOf H0 H) v) : GoodV K p fr H v :=
  ⟨o, ⟨newOf H0 H, s, fun c u e => by
    refine ⟨fun z => ?_, fun z => ?_, (newOf_get e).2⟩
    · obtain ⟨w, hw⟩ := hp.some_p
      rw [z] at e
      rw [(newOf_get e).1] at hw
      cases hw
    · rw [z] at e
      rw [(newOf_get e).1] at hf
      cases hf⟩, .inl b⟩
theorem three_flags {x : Str} (h : x ∈ (["here", "left", "twin left"] : List Str)) : okv (.str x) FLAGSl = true := by
  simp only [List.mem_cons, List.not_mem_nil, or_false] at h
  rcases h with rfl | rfl | rfl <;> decide
theorem bad_head {fl : List V} : firstBad fl = (fl.filter fun v => !okv v FLAGSl).head? := by
  unfold firstBad
  rw [← List.head?_filter]
end
section
open L2
variable {H : Hp} {Q : VK} {K : PySem.W.Frag}
theorem notin_three {v : V} {q : Addr} (ha : AnyV H v) (kd : okv v FLAGSl = false ∨ ∃ x, v = .str x ∧ x ∈ (["here", "left", "twin left"] : List Str)) (h : H q = some (.lst [.str "here", .str "left", .str "twin left"])) (k : Q (.bl (!okv v FLAGSl)) H) : rOr (rIn K true) (rNotStr K) v (.ref q) H Q := by
  have hq : SqL K H q ((["here", "left", "twin left"] : List Str).map V.str) := SqL.of h
  cases v with
  | non => exact .inl (r_in (.inl hq) rfl rfl k)
  | bl b => exact .inl (r_in (.inl hq) rfl rfl k)
  | int i => exact .inl (r_in (.inl hq) rfl rfl k)
  | str x =>
    refine .inl (r_inSN (.inl hq) ?_)
    have e : decide (x ∈ (["here", "left", "twin left"] : List Str)) = okv (.str x) FLAGSl := by
      rcases kd with h | ⟨y, e, h⟩
      · rw [h]
        refine decide_eq_false fun z => ?_
        rw [three_flags z] at h
        cases h
      · cases e
        rw [three_flags h]
        exact decide_eq_true h
    rw [e]
    exact k
  | ref a => exact .inr ⟨a, q, _, rfl, rfl, ha, .inl hq, k⟩
  | _ => exact ha.elim
theorem cut_mem {xs : List V} {lo hi : Option Int} {x : V} (h : x ∈ cutV xs lo hi) : x ∈ xs := List.mem_of_mem_drop (List.mem_of_mem_take h)
theorem eq_pair {p q : Addr} {v : V} (h : H p = some (.lst [.str "none", v])) (h' : H q = some (.lst [.str "none", v])) (ha : AnyV H v) (k : Q (.bl true) H) : rEqV K (.ref p) (.ref q) H Q :=
  ⟨1, by decide, .inl ⟨p, q, _, _, rfl, rfl, SqL.of h, SqL.of h', .cons (.inl ⟨rfl, rfl⟩) (.cons (eqv_self ha) .nil)⟩, k⟩
end
end Wm
namespace Wm
open PySem L2
def top (i : Nat) : Stmt := PySem.Challenge.pw_walkmarks_k23_results_of_guards.main.body.getD i (.Pass ⟨0, 0, 0, 0⟩)
abbrev s_is_choice : Stmt := top 10
abbrev s_Guard_init : Stmt := inClass (top 11) 1
abbrev s_Guard_treats : Stmt := inClass (top 11) 6
abbrev s_Guard_speaks : Stmt := inClass (top 11) 7
abbrev s_Guard_stops : Stmt := inClass (top 11) 8
abbrev s_Guard_given : Stmt := inClass (top 11) 5
abbrev s_l_pen : Stmt := top 14
abbrev s_l_take : Stmt := top 15
abbrev s_l_odd : Stmt := top 16
abbrev s_l_result : Stmt := top 17
abbrev s_l_given : Stmt := top 18
abbrev s_l_treats : Stmt := top 19
abbrev s_l_mingled : Stmt := top 20
abbrev s_l_all_sets : Stmt := top 21
abbrev s_l_stops_refused : Stmt := top 22
abbrev s_law : Stmt := top 23
theorem sc_is_choice : FnScope ["thing", "choices"] ["thing", "choices"] (defScope s_is_choice) := ⟨rfl, rfl, rfl, by decide +kernel, rfl, by decide +kernel, by decide +kernel⟩
theorem sc_Guard_init : FnScope ["self", "mark", "act", "by", "keep", "keep_by", "checked", "part", "value", "choices"] ["self", "mark", "act", "by", "keep", "keep_by"] (defScope s_Guard_init) := ⟨rfl, rfl, rfl, by decide +kernel, rfl, by decide +kernel, by decide +kernel⟩
theorem sc_Guard_treats : FnScope ["self", "flags", "flag", "here", "left"] ["self", "flags"] (defScope s_Guard_treats) := ⟨rfl, rfl, rfl, by decide +kernel, rfl, by decide +kernel, by decide +kernel⟩
theorem sc_Guard_speaks : FnScope ["self", "flags", "heard", "flag"] ["self", "flags"] (defScope s_Guard_speaks) := ⟨rfl, rfl, rfl, by decide +kernel, rfl, by decide +kernel, by decide +kernel⟩
theorem sc_Guard_stops : FnScope ["self", "flag"] ["self", "flag"] (defScope s_Guard_stops) := ⟨rfl, rfl, rfl, by decide +kernel, rfl, by decide +kernel, by decide +kernel⟩
theorem sc_Guard_given : FnScope ["self", "flags"] ["self", "flags"] (defScope s_Guard_given) := ⟨rfl, rfl, rfl, by decide +kernel, rfl, by decide +kernel, by decide +kernel⟩
theorem sc_l_pen : FnScope ["_law_script", "_law_total", "_law_cell"] ["_law_script"] (defScope s_l_pen) := ⟨rfl, rfl, rfl, by decide +kernel, rfl, by decide +kernel, by decide +kernel⟩
theorem sc_l_take : FnScope ["_law_pen_here", "_law_bound", "_law_cell", "_law_mixed", "_law_digit"] ["_law_pen_here", "_law_bound"] (defScope s_l_take) := ⟨rfl, rfl, rfl, by decide +kernel, rfl, by decide +kernel, by decide +kernel⟩
theorem sc_l_odd : FnScope ["_law_pen_here", "_law_menu"] ["_law_pen_here"] (defScope s_l_odd) := ⟨rfl, rfl, rfl, by decide +kernel, rfl, by decide +kernel, by decide +kernel⟩
theorem sc_l_result : FnScope ["_law_five", "_law_here", "_law_left", "_law_twin_here", "_law_twin_left", "_law_mark", "_law_deed", "_law_equal", "_law_storing", "_law_keep_equal", "_law_on_way", "_law_gone", "_law_begun", "_law_finished"] ["_law_five", "_law_here", "_law_left", "_law_twin_here", "_law_twin_left"] (defScope s_l_result) := ⟨rfl, rfl, rfl, by decide +kernel, rfl, by decide +kernel, by decide +kernel⟩
theorem sc_l_given : FnScope ["_law_guard", "_law_flags", "e"] ["_law_guard", "_law_flags"] (defScope s_l_given) := ⟨rfl, rfl, rfl, by decide +kernel, rfl, by decide +kernel, by decide +kernel⟩
theorem sc_l_treats : FnScope ["_law_guard", "_law_flags", "e"] ["_law_guard", "_law_flags"] (defScope s_l_treats) := ⟨rfl, rfl, rfl, by decide +kernel, rfl, by decide +kernel, by decide +kernel⟩
theorem sc_l_mingled : FnScope ["_law_pen_here", "_law_flags", "_law_found", "_law_turn"] ["_law_pen_here", "_law_flags"] (defScope s_l_mingled) := ⟨rfl, rfl, rfl, by decide +kernel, rfl, by decide +kernel, by decide +kernel⟩
theorem sc_l_all_sets : FnScope ["_law_pen_here", "_law_guard", "_law_five", "_law_words", "_law_alone", "_law_k", "_law_number", "_law_bits", "_law_due", "_law_flags", "_law_told"] ["_law_pen_here", "_law_guard", "_law_five"] (defScope s_l_all_sets) := ⟨rfl, rfl, rfl, by decide +kernel, rfl, by decide +kernel, by decide +kernel⟩
theorem sc_l_stops_refused : FnScope ["_law_guard", "_law_flag", "e"] ["_law_guard", "_law_flag"] (defScope s_l_stops_refused) := ⟨rfl, rfl, rfl, by decide +kernel, rfl, by decide +kernel, by decide +kernel⟩
theorem sc_law : FnScope ["_law_script", "_law_pen_here", "_law_first", "_law_deed", "_law_five", "_law_guard", "_law_flags", "_law_turn", "_law_strange", "_law_wrong", "_law_flag"] ["_law_script"] (defScope s_law) := ⟨rfl, rfl, rfl, by decide +kernel, rfl, by decide +kernel, by decide +kernel⟩
abbrev s_BadGuard_init : Stmt := inClass (top 3) 0
abbrev s_NoFlag_init : Stmt := inClass (top 4) 0
structure Ad where
  (MARKS ACTS BY KEEPS BadGuard NoFlag Guard Guard_init Guard_given is_choice Guard_treats Guard_speaks Guard_stops l_pen l_take l_odd l_result l_given l_treats l_mingled l_all_sets l_stops_refused law FLAGS : Addr)
  (fd_Guard_init fd_Guard_given fd_is_choice fd_Guard_treats fd_Guard_speaks fd_Guard_stops fd_l_pen fd_l_take fd_l_odd fd_l_result fd_l_given fd_l_treats fd_l_mingled fd_l_all_sets fd_l_stops_refused fd_law : FuncData)
structure Txt (P : Program) (K : PySem.W.Frag) (mg : Str → Option Value) (ad : Ad) : Prop where
  n_len : mg "len" = none
  n_int : mg "int" = none
  n_list : mg "list" = none
  n_range : mg "range" = none
  n_isinstance : mg "isinstance" = none
  n_str : mg "str" = none
  n_tuple : mg "tuple" = none
  n_any : mg "any" = none
  n_bool : mg "bool" = none
  c_MARKS : ∀ H, SqT K H ad.MARKS (MARKSl.map V.str)
  g_MARKS : mg "MARKS" = some (.ref ad.MARKS)
  c_ACTS : ∀ H, SqT K H ad.ACTS (ACTSl.map V.str)
  g_ACTS : mg "ACTS" = some (.ref ad.ACTS)
  c_BY : ∀ H, SqT K H ad.BY (BYl.map V.str)
  g_BY : mg "BY" = some (.ref ad.BY)
  c_KEEPS : ∀ H, SqT K H ad.KEEPS (KEEPSl.map V.str)
  g_KEEPS : mg "KEEPS" = some (.ref ad.KEEPS)
  g_BadGuard : mg "BadGuard" = some (.ref ad.BadGuard)
  er_BadGuard : ErC P K "BadGuard.__init__" ["part"] ad.BadGuard
  te_BadGuard : PySem.W.exmOne K (.ref ad.BadGuard) (.ref ad.BadGuard) = some true
  xf_BadGuard : XfC K ad.BadGuard
  no_BadGuard_part : PySem.W.findIn K (.ref ad.BadGuard) "part" = some none
  g_NoFlag : mg "NoFlag" = some (.ref ad.NoFlag)
  er_NoFlag : ErC P K "NoFlag.__init__" ["flag"] ad.NoFlag
  te_NoFlag : PySem.W.exmOne K (.ref ad.NoFlag) (.ref ad.NoFlag) = some true
  xf_NoFlag : XfC K ad.NoFlag
  no_NoFlag_flag : PySem.W.findIn K (.ref ad.NoFlag) "flag" = some none
  g_Guard : mg "Guard" = some (.ref ad.Guard)
  ow_Guard : OwnC K ad.Guard
  no_Guard_mark : NoAttr K ad.Guard "mark"
  no_Guard_act : NoAttr K ad.Guard "act"
  no_Guard_by : NoAttr K ad.Guard "by"
  no_Guard_keep : NoAttr K ad.Guard "keep"
  no_Guard_keep_by : NoAttr K ad.Guard "keep_by"
  F_Guard_init : FunD K "__init__" "Guard.__init__" (defArgs s_Guard_init) (defBody s_Guard_init) (defScope s_Guard_init) [.str "none"] [("act", .str "ring"), ("by", .str "same"), ("keep", .str "none"), ("keep_by", .str "same")] ad.Guard_init ad.fd_Guard_init
  F_Guard_given : Fun K "given" "Guard.given" s_Guard_given ad.Guard_given ad.fd_Guard_given
  me_Guard_given : Meth K ad.Guard "given" ad.Guard_given
  g_is_choice : mg "is_choice" = some (.ref ad.is_choice)
  F_is_choice : Fun K "is_choice" "is_choice" s_is_choice ad.is_choice ad.fd_is_choice
  b_is_choice : Binds K ad.fd_is_choice ["thing", "choices"] []
  F_Guard_treats : Fun K "treats" "Guard.treats" s_Guard_treats ad.Guard_treats ad.fd_Guard_treats
  b_Guard_treats : Binds K ad.fd_Guard_treats ["self", "flags"] []
  me_Guard_treats : Meth K ad.Guard "treats" ad.Guard_treats
  F_Guard_speaks : Fun K "speaks" "Guard.speaks" s_Guard_speaks ad.Guard_speaks ad.fd_Guard_speaks
  b_Guard_speaks : Binds K ad.fd_Guard_speaks ["self", "flags"] []
  me_Guard_speaks : Meth K ad.Guard "speaks" ad.Guard_speaks
  F_Guard_stops : Fun K "stops" "Guard.stops" s_Guard_stops ad.Guard_stops ad.fd_Guard_stops
  b_Guard_stops : Binds K ad.fd_Guard_stops ["self", "flag"] []
  me_Guard_stops : Meth K ad.Guard "stops" ad.Guard_stops
  g_l_pen : mg "_law_pen" = some (.ref ad.l_pen)
  F_l_pen : Fun K "_law_pen" "_law_pen" s_l_pen ad.l_pen ad.fd_l_pen
  b_l_pen : Binds K ad.fd_l_pen ["_law_script"] []
  g_l_take : mg "_law_take" = some (.ref ad.l_take)
  F_l_take : Fun K "_law_take" "_law_take" s_l_take ad.l_take ad.fd_l_take
  b_l_take : Binds K ad.fd_l_take ["_law_pen_here", "_law_bound"] []
  g_l_odd : mg "_law_odd" = some (.ref ad.l_odd)
  F_l_odd : Fun K "_law_odd" "_law_odd" s_l_odd ad.l_odd ad.fd_l_odd
  b_l_odd : Binds K ad.fd_l_odd ["_law_pen_here"] []
  g_l_result : mg "_law_result" = some (.ref ad.l_result)
  F_l_result : Fun K "_law_result" "_law_result" s_l_result ad.l_result ad.fd_l_result
  b_l_result : Binds K ad.fd_l_result ["_law_five", "_law_here", "_law_left", "_law_twin_here", "_law_twin_left"] []
  g_l_given : mg "_law_given" = some (.ref ad.l_given)
  F_l_given : Fun K "_law_given" "_law_given" s_l_given ad.l_given ad.fd_l_given
  b_l_given : Binds K ad.fd_l_given ["_law_guard", "_law_flags"] []
  g_l_treats : mg "_law_treats" = some (.ref ad.l_treats)
  F_l_treats : Fun K "_law_treats" "_law_treats" s_l_treats ad.l_treats ad.fd_l_treats
  b_l_treats : Binds K ad.fd_l_treats ["_law_guard", "_law_flags"] []
  g_l_mingled : mg "_law_mingled" = some (.ref ad.l_mingled)
  F_l_mingled : Fun K "_law_mingled" "_law_mingled" s_l_mingled ad.l_mingled ad.fd_l_mingled
  b_l_mingled : Binds K ad.fd_l_mingled ["_law_pen_here", "_law_flags"] []
  g_l_all_sets : mg "_law_all_sets" = some (.ref ad.l_all_sets)
  F_l_all_sets : Fun K "_law_all_sets" "_law_all_sets" s_l_all_sets ad.l_all_sets ad.fd_l_all_sets
  b_l_all_sets : Binds K ad.fd_l_all_sets ["_law_pen_here", "_law_guard", "_law_five"] []
  g_l_stops_refused : mg "_law_stops_refused" = some (.ref ad.l_stops_refused)
  F_l_stops_refused : Fun K "_law_stops_refused" "_law_stops_refused" s_l_stops_refused ad.l_stops_refused ad.fd_l_stops_refused
  b_l_stops_refused : Binds K ad.fd_l_stops_refused ["_law_guard", "_law_flag"] []
  F_law : Fun K "law" "law" s_law ad.law ad.fd_law
  cr_Guard_FLAGS : ∃ mc u, ClX.CRead K ad.Guard mc ∧ ClX.CVal K ad.Guard mc "FLAGS" (.ref ad.FLAGS) u
  c_FLAGS : ∀ H, SqT K H ad.FLAGS (FLAGSl.map V.str)
  mk_Guard : Mk K ad.Guard ad.Guard_init
abbrev spInit (ad : Ad) : Sp := spInitG ad.Guard ad.BadGuard
abbrev GI (K : PySem.W.Frag) (f : Addr) (fd : FuncData) := FunD K "__init__" "Guard.__init__" (defArgs s_Guard_init) (defBody s_Guard_init) (defScope s_Guard_init) [.str "none"] [("act", .str "ring"), ("by", .str "same"), ("keep", .str "none"), ("keep_by", .str "same")] f fd
abbrev ips : List Str := ["self", "mark", "act", "by", "keep", "keep_by"]
theorem kb_all (F : GI K f fd) : ∃ g, KBn K fd ips 2 ["act", "by", "keep", "keep_by"] g (fun vs zs => vs ++ zs) := by
  obtain ⟨its, mv, h⟩ := F.kbinds (ps := ips) 2 ["act", "by", "keep", "keep_by"] [] (fun us _ _ ws => us ++ ws) (by simp) (by simp) (by simp) (fun r1 _ _ r4 => r1.append r4)
    (fun T D doc pm an cdv ct us its mv ws l1 l2 l3 l4 => match us, its, mv, ws, l1, l2, l3, l4 with
      | [_, _], [_], [], [_, _, _, _], _, _, _, _ => ⟨_, rfl, rfl⟩)
  exact ⟨_, h⟩

def heard0 (m : Str) : List Str := if m = "lasting" then ["here", "left"] else ["here"]
def heardL (m b : Str) : List Str := if b = "equal" then heard0 m ++ (heard0 m).map (fun x => ("twin " : Str) ++ x) else heard0 m
def speaksB (m b : Str) (ss : List Str) : Bool := if m = "none" then false else ss.any fun x => decide (x ∈ heardL m b)
def resultF (m a b k e : Str) (ss : List Str) : Str :=
  if speaksB m b ss = true then a
  else if (decide (k = "ahead") && (decide (("here" : Str) ∈ ss) || (decide (e = "equal") && decide (("twin here" : Str) ∈ ss)))) = true then "half"
  else if (!decide (k = "none") && (decide (("left" : Str) ∈ ss) || (decide (e = "equal") && decide (("twin left" : Str) ∈ ss)))) = true then "kept" else "enter"
def spSpeaks (K : PySem.W.Frag) (ad : Ad) : Sp := fun vs H Q _ => ∃ (g dx t : Addr) (m a b k e : Str) (ss : List Str), vs = [.ref g, .ref t] ∧ H g = some (.ins ad.Guard dx (gfs [m, a, b, k, e])) ∧ SqA K H t (ss.map V.str) ∧ ss.length ≤ 1000 ∧ ∀ H', Same H H' → Q (.bl (speaksB m b ss)) H'
def resL (m a b k e : Str) (h l th tl : Bool) : Str :=
  if (!decide (m = "none") && ((h || (decide (b = "equal") && th)) || (decide (m = "lasting") && (l || (decide (b = "equal") && tl))))) = true then a
  else if (decide (k = "ahead") && (h || (decide (e = "equal") && th))) = true then "half"
  else if (!decide (k = "none") && (l || (decide (e = "equal") && tl))) = true then "kept" else "enter"
def spRes : Sp := fun vs H Q _ => ∃ (q : Addr) (m a b k e : Str) (h l th tl : Bool), vs = [.ref q, .bl h, .bl l, .bl th, .bl tl] ∧ H q = some (.lst [.str m, .str a, .str b, .str k, .str e]) ∧ Q (.str (resL m a b k e h l th tl)) H
/-- what is asked of a call by flags fl -/
def Told (ad : Ad) (H : Hp) (Q : VK) (E : XK) (m a b k e : Str) (fl : List V) : Prop := fl.length ≤ 1000 ∧ (∀ v, v ∈ fl → AnyV H v) ∧
  (∀ v, firstBad fl = some v → ∀ d H', Same H H' → H d = none → H' d = some (.xd [("flag", v)]) → E (.ref ad.NoFlag) (some d) H') ∧ (∀ ss, fl = ss.map V.str → firstBad fl = none → ∀ H', Same H H' → Q (.str (resultF m a b k e ss)) H')
theorem Told.same {ad : Ad} {H H1 : Hp} {Q : VK} {E : XK} {m a b k e : Str} {fl : List V} (h : Told ad H Q E m a b k e fl) (s : Same H H1) : Told ad H1 Q E m a b k e fl :=
  ⟨h.1, fun v hv => (h.2.1 v hv).same s, fun v hv d H' s' n' e' => h.2.2.1 v hv d H' (s.trans s') (s.free n') e', fun ss hs hb H' s' => h.2.2.2 ss hs hb H' (s.trans s')⟩
def spGiven (ad : Ad) : Sp := fun vs H Q E => ∃ (g dx : Addr) (m a b k e : Str) (fl : List V), vs = .ref g :: fl ∧ H g = some (.ins ad.Guard dx (gfs [m, a, b, k, e])) ∧ Told ad H Q E m a b k e fl
def spStops (ad : Ad) : Sp := fun vs H Q E => ∃ (g dx : Addr) (m a b k e : Str) (v : V), vs = [.ref g, v] ∧ H g = some (.ins ad.Guard dx (gfs [m, a, b, k, e])) ∧ AnyV H v ∧
  (okv v FLAGSl = false → ∀ d H', Same H H' → H d = none → H' d = some (.xd [("flag", v)]) → E (.ref ad.NoFlag) (some d) H') ∧ (∀ x, v = .str x → okv v FLAGSl = true → ∀ H', Same H H' → Q (.bl (!decide (resultF m a b k e [x] = "enter"))) H')
/-- the law's own calls: a list of a text and the flag, or the result -/
def spAsk (ad : Ad) : Sp := fun vs H Q _ => ∃ (g dx q : Addr) (m a b k e : Str) (fl : List V), vs = [.ref g, .ref q] ∧ H g = some (.ins ad.Guard dx (gfs [m, a, b, k, e])) ∧ H q = some (.lst fl) ∧ fl.length ≤ 1000 ∧ (∀ v, v ∈ fl → AnyV H v) ∧
  (∀ v, firstBad fl = some v → ∀ r H', Same H H' → H r = none → H' r = some (.lst [.str "none", v]) → Q (.ref r) H') ∧ (∀ ss, fl = ss.map V.str → firstBad fl = none → ∀ H', Same H H' → Q (.str (resultF m a b k e ss)) H')
def spRef (K : PySem.W.Frag) (ad : Ad) : Sp := fun vs H Q _ => ∃ (g dx : Addr) (m a b k e : Str) (v : V), vs = [.ref g, v] ∧ H g = some (.ins ad.Guard dx (gfs [m, a, b, k, e])) ∧ AnyV H v ∧ SelfEq K H v ∧ ∀ H', Same H H' → Q (.bl (!okv v FLAGSl)) H'
def spTreats (K : PySem.W.Frag) (ad : Ad) : Sp := fun vs H Q E => ∃ (g dx t : Addr) (m a b k e : Str) (fl : List V), vs = [.ref g, .ref t] ∧ H g = some (.ins ad.Guard dx (gfs [m, a, b, k, e])) ∧ SqA K H t fl ∧ fl.length ≤ 1000 ∧ (∀ v, v ∈ fl → AnyV H v) ∧
  (∀ v, firstBad fl = some v → ∀ d H', Same H H' → H d = none → H' d = some (.xd [("flag", v)]) → E (.ref ad.NoFlag) (some d) H') ∧ (∀ ss, fl = ss.map V.str → firstBad fl = none → ∀ H', Same H H' → Q (.str (resultF m a b k e ss)) H')
theorem Told.treats {K : PySem.W.Frag} {ad : Ad} {H : Hp} {Q : VK} {E : XK} {g dx q : Addr} {m a b k e : Str} {fl : List V} (h : Told ad H Q E m a b k e fl) (hg : H g = some (.ins ad.Guard dx (gfs [m, a, b, k, e]))) (hq : SqA K H q fl) : spTreats K ad [.ref g, .ref q] H Q E :=
  ⟨g, dx, q, m, a, b, k, e, fl, rfl, hg, hq, h.1, h.2.1, h.2.2.1, h.2.2.2⟩
end Wm
namespace Wm
open PySem L2
theorem any_mem {ss hs : List Str} : (ss.any fun x => decide (x ∈ hs)) = hs.any fun y => decide (y ∈ ss) := by
  rw [Bool.eq_iff_iff]
  simp only [List.any_eq_true, decide_eq_true_eq]
  exact ⟨fun ⟨x, a, b⟩ => ⟨x, b, a⟩, fun ⟨x, a, b⟩ => ⟨x, b, a⟩⟩
theorem speaks_eq {m b : Str} {ss : List Str} : speaksB m b ss = (!decide (m = "none") && ((decide (("here" : Str) ∈ ss) || (decide (b = "equal") && decide (("twin here" : Str) ∈ ss))) || (decide (m = "lasting") && (decide (("left" : Str) ∈ ss) || (decide (b = "equal") && decide (("twin left" : Str) ∈ ss)))))) := by
  unfold speaksB
  have e1 : ("twin " : Str) ++ "here" = "twin here" := by decide
  have e2 : ("twin " : Str) ++ "left" = "twin left" := by decide
  by_cases h1 : m = "none"
  · simp [h1]
  · rw [if_neg h1, any_mem]
    have hl : heardL m b = if b = "equal" then (if m = "lasting" then ([.ofString "here", .ofString "left", .ofString "twin here", .ofString "twin left"] : List Str) else [.ofString "here", .ofString "twin here"]) else (if m = "lasting" then [.ofString "here", .ofString "left"] else [.ofString "here"]) := by
      unfold heardL heard0
      by_cases h2 : m = "lasting" <;> by_cases h3 : b = "equal" <;> simp only [h2, h3, if_true, if_false, List.map_cons, List.map_nil, e1, e2, List.cons_append, List.nil_append]
    rw [hl]
    by_cases h2 : m = "lasting" <;> by_cases h3 : b = "equal" <;> simp only [h1, h2, h3, if_true, if_false, List.any_cons, List.any_nil, decide_true, decide_false, Bool.not_false, Bool.true_and, Bool.false_and, Bool.or_false]
    all_goals
      generalize decide (("here" : Str) ∈ ss) = x0
      generalize decide (("left" : Str) ∈ ss) = x1
      generalize decide (("twin here" : Str) ∈ ss) = x2
      generalize decide (("twin left" : Str) ∈ ss) = x3
      cases x0 <;> cases x1 <;> cases x2 <;> cases x3 <;> (first | rfl | (subst_vars; revert h1; decide))
theorem res_eq {m a b k e : Str} {ss : List Str} : resultF m (if m = "none" then "ring" else a) (if m = "none" then "same" else b) k (if k = "none" then "same" else e) ss =
    resL m a b k e (decide (("here" : Str) ∈ ss)) (decide (("left" : Str) ∈ ss)) (decide (("twin here" : Str) ∈ ss)) (decide (("twin left" : Str) ∈ ss)) := by
  unfold resultF resL
  rw [speaks_eq]
  have hna : ((Str.ofString "none") = (Str.ofString "ahead")) = False := eq_false (by decide)
  by_cases h1 : m = "none"
  · by_cases h2 : k = "none"
    · subst h1 h2
      simp [hna]
    · simp [h1, h2]
  · by_cases h2 : k = "none"
    · simp only [h1, h2, if_false, if_true]
      simp [hna]
    · simp only [h1, h2, if_false]
def sel (b0 b1 b2 b3 : Bool) : List Str := (if b0 = true then [("here" : Str)] else []) ++ (if b1 = true then [("left" : Str)] else []) ++ (if b2 = true then [("twin here" : Str)] else []) ++ (if b3 = true then [("twin left" : Str)] else [])
theorem sel_mem {b0 b1 b2 b3 : Bool} : (decide (("here" : Str) ∈ sel b0 b1 b2 b3) = b0 ∧ decide (("left" : Str) ∈ sel b0 b1 b2 b3) = b1) ∧ (decide (("twin here" : Str) ∈ sel b0 b1 b2 b3) = b2 ∧ decide (("twin left" : Str) ∈ sel b0 b1 b2 b3) = b3) := by
  cases b0 <;> cases b1 <;> cases b2 <;> cases b3 <;> decide +kernel
theorem sel_flag {b0 b1 b2 b3 : Bool} {x : Str} (h : x ∈ sel b0 b1 b2 b3) : x ∈ FLAGSl := by
  have k : ∀ y ∈ sel b0 b1 b2 b3, y ∈ FLAGSl := by
    cases b0 <;> cases b1 <;> cases b2 <;> cases b3 <;> decide +kernel
  exact k x h
def selR (m a b k e : Str) (b0 b1 b2 b3 : Bool) : List Str := (if b0 = true then [resL m a b k e true false false false] else []) ++ (if b1 = true then [resL m a b k e false true false false] else []) ++ (if b2 = true then [resL m a b k e false false true false] else []) ++ (if b3 = true then [resL m a b k e false false false true] else [])
theorem res_alone {m a b k e : Str} {b0 b1 b2 b3 : Bool} (h : resL m a b k e b0 b1 b2 b3 ≠ "enter") : resL m a b k e b0 b1 b2 b3 ∈ selR m a b k e b0 b1 b2 b3 := by
  revert h
  unfold selR resL
  cases decide (m = "none") <;> cases decide (m = "lasting") <;> cases decide (b = "equal") <;> cases decide (k = "ahead") <;> cases decide (k = "none") <;> cases decide (e = "equal") <;> cases b0 <;> cases b1 <;> cases b2 <;> cases b3 <;> simp
def spSets (ad : Ad) : Sp := fun vs H Q _ => ∃ (p c g dx q : Addr) (m a b k e : Str), vs = [.ref p, .ref g, .ref q] ∧ PenAt H p c ∧ H g = some (.ins ad.Guard dx (gfs (plain5 m a b k e))) ∧ H q = some (.lst [.str m, .str a, .str b, .str k, .str e]) ∧ ∀ H', PenStep p c H H' → Q (.bl true) H'
end Wm
local macro_rules | `(tactic| walk_at "w_ne") => `(tactic| first
  | with_reducible assumption
  | ((with_reducible refine' Ne.symm ?h1); (case h1 => with_reducible assumption))
  | ((with_reducible refine' L2.ne_of_none ?h1 ?h2); (case h2 => with_reducible assumption); (case h1 => walk_at "w_hp"))
  | ((with_reducible refine' Ne.symm (L2.ne_of_none ?h1 ?h2)); (case h2 => with_reducible assumption); (case h1 => walk_at "w_hp"))
  | exact L2.ne_of (by with_reducible assumption) (by with_reducible assumption) (by intro z; cases z)
  | fail "no way")
local macro_rules | `(tactic| walk_at "w_pen") => `(tactic| first
  | with_reducible assumption
  | ((with_reducible refine' Wm.PenStep.pen ?h1); (case h1 => with_reducible assumption))
  | ((with_reducible refine' Wm.PenAt.same ?h1 ?h2); (case h2 => ((with_reducible refine' Wm.same_new ?h9); (case h9 => with_reducible assumption))); (case h1 => walk_at "w_pen"))
  | ((with_reducible refine' Wm.PenAt.same ?h1 ?h2); (case h2 => with_reducible assumption); (case h1 => walk_at "w_pen"))
  | ((with_reducible refine' Wm.PenAt.put ?h1 ?h2); (case h2 => walk_at "w_pne"); (case h1 => walk_at "w_pen"))
  | fail "no way")
local macro_rules | `(tactic| walk_at "w_pne") => `(tactic| first
  | with_reducible assumption
  | ((with_reducible refine' Wm.PenAt.ne_new ?h1 ?h2); (case h2 => with_reducible assumption); (case h1 => walk_at "w_pen"))
  | ((with_reducible refine' Wm.PenAt.ne_new ?h1 ?h2); (case h1 => with_reducible assumption); (case h2 => walk_at "w_fr"))
  | fail "no way")
local macro_rules | `(tactic| walk_at "w_fr") => `(tactic| first
  | with_reducible assumption
  | ((with_reducible refine' Wm.PenStep.free ?h1 ?h2); (case h2 => with_reducible assumption); (case h1 => walk_at "w_step"))
  | fail "no way")
local macro_rules | `(tactic| walk_at "w_step") => `(tactic| first
  | with_reducible assumption
  | ((with_reducible refine' Wm.PenStep.refl ?h1); (case h1 => walk_at "w_pen"))
  | ((with_reducible refine' Wm.PenStep.same ?h1 ?h2); (case h2 => ((with_reducible refine' Wm.same_new ?h9); (case h9 => with_reducible assumption))); (case h1 => walk_at "w_step"))
  | ((with_reducible refine' Wm.PenStep.trans ?h1 ?h2); (case h2 => with_reducible assumption); (case h1 => walk_at "w_step"))
  | ((with_reducible refine' Wm.PenStep.same ?h1 ?h2); (case h2 => with_reducible assumption); (case h1 => walk_at "w_step"))
  | ((with_reducible refine' Wm.PenStep.put ?h1 ?h2 ?h3); (case h2 => walk_at "w_pen"); (case h3 => walk_at "w_fr"); (case h1 => walk_at "w_step"))
  | fail "no way")
local macro_rules | `(tactic| walk_at "w_frs") => `(tactic| first
  | with_reducible assumption
  | ((with_reducible refine' L2.Same.free ?h1 ?h2); (case h2 => with_reducible assumption); (case h1 => walk_at "w_same"))
  | fail "no way")
local macro_rules | `(tactic| walk_at "w_same") => `(tactic| first
  | with_reducible assumption
  | with_reducible exact L2.Same.refl _
  | ((with_reducible refine' Wm.same_put ?h1 ?h2); (case h2 => walk_at "w_frs"); (case h1 => walk_at "w_same"))
  | ((with_reducible refine' L2.Same.trans ?h1 ?h2); (case h2 => with_reducible assumption); (case h1 => walk_at "w_same"))
  | fail "no way")
local macro_rules | `(tactic| walk_at "w_hp") => `(tactic| first
  | with_reducible assumption
  | with_reducible exact L2.upd_same
  | ((with_reducible refine Eq.trans (L2.upd_ne ?_) ?_); (walk_at "w_ne"); (walk_at "w_hp"))
  | ((with_reducible refine' Wm.Same.at ?h1 ?h2); (case h1 => with_reducible assumption); (case h2 => walk_at "w_hp"))
  | ((with_reducible refine' Wm.PenStep.at ?h1 ?h2 ?h4 ?h3); (case h1 => with_reducible assumption); (case h2 => walk_at "w_pen"); (case h4 => walk_at "w_hp"); (case h3 => rfl))
  | ((with_reducible refine' Wm.PenStep.atd ?h1 ?h4 ?h3); (case h1 => with_reducible assumption); (case h4 => walk_at "w_hp"); (case h3 => walk_at "w_ne"))
  | fail "no way")
local macro_rules | `(tactic| walk_at "w_sz") => `(tactic| first
  | (rw [PySem.sizeLine_eq]; exact (by decide))
  | (rw [PySem.sizeLine_eq]; simp only [List.length_map, List.length_cons, List.length_nil, List.length_append, List.length_set] at *; omega)
  | exact Wm.sl6 _ _ _ _ _ _
  | fail "no way")
local macro_rules | `(tactic| walk_at "w_side") => `(tactic| first
  | rfl
  | assumption
  | omega
  | (refine ⟨?_, ?_⟩ <;> (walk_at "w_side"))
  | decide
  | fail "no way")
local macro_rules | `(tactic| walk_at "w_val") => `(tactic| first
  | exact Wm.pk_get_cells _ _ _ _ _ _ | exact Wm.pk_get_at _ _ _ _ _ _ | exact Wm.pk_get_rest _ _ _ _ _ _ | exact Wm.pk_get_digits _ _ _ _ _ _ | exact Wm.pk_get_mix _ _ _ _ _ _ | exact Wm.pk_get_turn _ _ _ _ _ _
  | rfl
  | fail "no way")
local macro_rules | `(tactic| walk_at "w_put") => `(tactic| first
  | exact Wm.pk_put_at _ _ _ _ _ _ _ | exact Wm.pk_put_rest _ _ _ _ _ _ _ | exact Wm.pk_put_digits _ _ _ _ _ _ _ | exact Wm.pk_put_mix _ _ _ _ _ _ _ | exact Wm.pk_put_turn _ _ _ _ _ _ _
  | rfl
  | fail "no way")
local macro_rules | `(tactic| walk_at "w_putf") => `(tactic| rfl)
local macro_rules | `(tactic| walk_at "w_d") => `(tactic| (refine Wm.r_dispE _ _ (by walk_at "w_hp") (by rfl) (by first | decide | simp) (by rfl) ?_))
local macro_rules | `(tactic| walk_at "w_s") => `(tactic| first
  | with_reducible refine L2.iteT ?_
  | with_reducible refine L2.iteF ?_
  | with_reducible refine Wm.iteNF ?_
  | with_reducible refine Wm.iteNT ?_
  | with_reducible refine Wm.r_seq ?_
  | with_reducible refine Wm.r_next ?_
  | with_reducible refine Wm.r_asg ?_
  | ((with_reducible refine' Wm.r_gname ?h1 ?_); (case h1 => (simp only [List.set_cons_succ, List.set_cons_zero]; rfl)))
  | with_reducible refine Wm.r_ret ?_
  | with_reducible refine Wm.r_drop ?_
  | with_reducible refine Wm.r_ifs ?_
  | ((with_reducible refine' Wm.r_var ?h1 ?_); (case h1 => rfl))
  | with_reducible refine Wm.r_c ?_
  | with_reducible refine Wm.r_op ?_
  | with_reducible refine Wm.r_i0 ?_
  | ((with_reducible refine' Wm.r_i ?h1 ?_); (case h1 => walk_at "w_arith"))
  | with_reducible refine Wm.r_eqi ?_
  | with_reducible refine Wm.r_eqs ?_
  | with_reducible refine Wm.r_eqb ?_
  | with_reducible refine Wm.r_nei ?_
  | with_reducible refine Wm.r_nes ?_
  | with_reducible refine Wm.r_neb ?_
  | with_reducible refine Wm.r_test ?_
  | with_reducible refine Wm.r_tb ?_
  | with_reducible refine Wm.r_bl ?_
  | with_reducible refine Wm.r_and ?_
  | with_reducible refine Wm.r_or ?_
  | with_reducible refine Wm.r_not ?_
  | with_reducible refine Wm.r_andV ?_
  | with_reducible refine Wm.r_orV ?_
  | with_reducible refine Wm.r_notV ?_
  | with_reducible refine Wm.r_if ?_
  | with_reducible refine Wm.r_nil ?_
  | with_reducible refine Wm.r_cons ?_
  | with_reducible refine Wm.r_cb ?_
  | with_reducible refine Wm.r_call ?_
  | with_reducible refine Wm.r_dget ?_
  | with_reducible refine Wm.r_dput ?_
  | with_reducible refine Wm.r_int1 ?_
  | with_reducible refine Wm.r_lst ?_
  | ((with_reducible refine' Wm.r_lstE ?h1 ?_); (case h1 => walk_at "w_sz"); (intro q H' nq sq eq))
  | ((with_reducible refine' Wm.r_tupE ?h1 ?_); (case h1 => walk_at "w_sz"); (intro q H' nq sq eq))
  | with_reducible refine Wm.r_tup ?_
  | with_reducible refine Wm.r_for ?_
  | with_reducible refine Wm.r_il ?_
  | with_reducible refine Wm.r_it ?_
  | with_reducible refine Wm.r_rng1 ?_
  | ((with_reducible refine Wm.r_disp ?_); (intro q H' nq sq eq))
  | with_reducible refine Wm.r_pc ?_
  | with_reducible refine Wm.r_pn ?_
  | with_reducible refine Wm.r_un ?_
  | with_reducible refine Wm.r_slice ?_
  | with_reducible refine Wm.r_nopart ?_
  | with_reducible refine Wm.r_part ?_
  | with_reducible refine Wm.r_partI ?_
  | ((with_reducible refine' Wm.r_slL ?h1 ?_); (case h1 => walk_at "w_hp"); (intro q H' nq sq eq))
  | with_reducible refine Wm.r_meth ?_
  | with_reducible refine Wm.r_methT ?_
  | ((with_reducible refine' Wm.r_methK ?h1 ?h2 ?_); (case h1 => walk_at "w_hp"); (case h2 => rfl))
  | with_reducible refine Wm.r_lc ?_
  | ((with_reducible refine' Wm.r_addS ?h1 ?_); (case h1 => walk_at "w_sz"))
  | with_reducible refine Wm.r_cval ?_
  | ((with_reducible refine' Wm.r_cvalK ?h1 ?h2 ?_); (case h1 => assumption); (case h2 => assumption))
  | ((with_reducible refine' Wm.r_glst ?h1 ?h2 ?_); (case h1 => walk_at "w_hp"); (case h2 => rfl))
  | with_reducible refine Wm.r_makeKS ?_
  | with_reducible refine Wm.r_makeK ?_
  | with_reducible refine Wm.r_make ?_
  | with_reducible refine Wm.r_mkQ ?_
  | ((with_reducible refine' Wm.r_mkE ?h1 ?h2 ?_); (case h1 => rfl); (case h2 => rfl); (intro x dx H' nx sx ex))
  | ((with_reducible refine Wm.r_mk1E ?_); (intro x dx H' nx sx ex))
  | with_reducible refine Wm.r_xf ?_
  | ((with_reducible refine' Wm.r_xfK ?h1 ?h2 ?_); (case h1 => walk_at "w_hp"); (case h2 => rfl))
  | with_reducible refine Wm.r_raiseEr ?_
  | with_reducible refine Wm.r_erE0 ?_
  | ((with_reducible refine' Wm.r_erE ?h1 ?h2 ?h3 ?_); (case h1 => rfl); (case h2 => exact Nat.le_of_ble_eq_true rfl); (case h3 => (intro z; cases z)); (intro q H' nq sq eq))
  | with_reducible refine Wm.r_neg ?_
  | ((with_reducible refine Wm.r_dnew ?_); (intro q H' nq sq eq))
  | with_reducible refine Wm.r_fld ?_
  | with_reducible refine Wm.r_fldS ?_
  | with_reducible refine Wm.r_gsub ?_
  | with_reducible refine Wm.r_gcons ?_
  | with_reducible refine Wm.r_gnil ?_
  | with_reducible refine Wm.r_bm ?_
  | with_reducible refine Wm.r_bm0 ?_
  | ((with_reducible refine' Wm.r_fldK ?h1 ?h2 ?h3 ?h4 ?_); (case h1 => walk_at "w_hp"); (case h2 => assumption); (case h3 => assumption); (case h4 => rfl))
  | ((with_reducible refine' Wm.r_fldP ?h1 ?h2 ?h3 ?h4 ?h5 ?_); (case h1 => walk_at "w_hp"); (case h2 => assumption); (case h3 => assumption); (case h4 => exact Nat.le_of_ble_eq_true rfl); (case h5 => walk_at "w_putf"))
  | ((with_reducible refine' Wm.r_setL ?h1 ?h2 ?h3 ?_); (case h1 => walk_at "w_hp"); (case h2 => rfl); (case h3 => (simp only [Int.reduceToNat, Int.toNat_one, Int.toNat_zero, List.set_cons_succ, List.set_cons_zero]; rfl)))
  | ((with_reducible refine' Wm.r_gtupK ?h1 ?h2 ?_); (case h1 => walk_at "w_hp"); (case h2 => rfl))
  | ((with_reducible refine' Wm.r_tyLK ?h1 ?_); (case h1 => walk_at "w_hp"))
  | ((with_reducible refine' Wm.r_append ?h1 ?h2 ?_); (case h1 => walk_at "w_hp"); (case h2 => walk_at "w_sz"))
  | ((with_reducible refine' Wm.r_listLK ?h1 ?_); (case h1 => walk_at "w_hp"); (intro q H' nq sq eq))
  | ((with_reducible refine' Wm.r_ixLK ?h1 ?h2 ?_); (case h1 => walk_at "w_hp"); (case h2 => rfl))
  | ((with_reducible refine' Wm.r_dgetK ?h1 ?h2 ?_); (case h1 => walk_at "w_hp"); (case h2 => walk_at "w_val"))
  | ((with_reducible refine' Wm.r_dputU ?h1 ?h2 ?_); (case h1 => walk_at "w_put"); (case h2 => walk_at "w_sz"))
  | ((with_reducible refine' Wm.r_dputK ?h1 ?h2 ?h3 ?_); (case h1 => walk_at "w_hp"); (case h2 => walk_at "w_put"); (case h3 => walk_at "w_sz"))
  | ((with_reducible refine' Wm.r_lenK ?h1 ?_); (case h1 => walk_at "w_hp"))
  | fail "no way")
local macro_rules | `(tactic| walk_at "w_arith") => `(tactic| first
  | assumption
  | exact Wm.pow18
  | exact Wm.wide100 (by assumption) (by assumption)
  | omega
  | exact Or.inr ⟨by decide, by decide⟩
  | exact Or.inl ⟨by omega, by omega⟩
  | exact ⟨by decide, by decide⟩
  | exact ⟨by decide, by decide, by decide⟩
  | fail "no way")
local macro_rules | `(tactic| walk_at "w_go") => `(tactic| repeat walk_at "w_s")
local macro_rules | `(tactic| walk_at "w_br") => `(tactic| ((with_reducible refine Wm.ite_and (fun hbr => ?_) (fun hbr => ?_)) <;> (try simp only [decide_eq_true_eq, decide_eq_false_iff_not, Bool.not_eq_true', Bool.not_eq_false', bne_iff_ne, Bool.not_eq_true, Bool.not_eq_false] at hbr)))
local macro_rules | `(tactic| walk_at "w_leaf") => `(tactic| first
  | k_is
  | kit_is
  | ks_is
  | kx_is
  | rfl
  | decide +kernel
  | fail "no leaf")
local macro_rules | `(tactic| walk_at "w_rel") => `(tactic| first
  | exact ⟨_, rfl⟩
  | exact rfl
  | fail "no way")
local macro_rules | `(tactic| walk_at "w_vals") => `(tactic| (repeat (first | exact PySem.Paired.nil | refine PySem.Paired.cons ⟨_, rfl⟩ ?_ | refine PySem.Paired.cons rfl ?_)))
local macro_rules | `(tactic| walk_at "w_sp") => `(tactic| first
  | with_reducible refine L2.iteT ?_
  | with_reducible refine L2.iteF ?_
  | with_reducible refine Wm.iteNF ?_
  | with_reducible refine Wm.iteNT ?_
  | with_reducible refine Wm.r_seq ?_
  | with_reducible refine Wm.r_next ?_
  | with_reducible refine Wm.r_asg ?_
  | ((with_reducible refine' Wm.r_gname ?h1 ?_); (case h1 => (simp only [List.set_cons_succ, List.set_cons_zero]; rfl)))
  | with_reducible refine Wm.r_ret ?_
  | with_reducible refine Wm.r_drop ?_
  | with_reducible refine Wm.r_ifs ?_
  | ((with_reducible refine' Wm.r_var ?h1 ?_); (case h1 => rfl))
  | with_reducible refine Wm.r_c ?_
  | with_reducible refine Wm.r_op ?_
  | with_reducible refine Wm.r_i0 ?_
  | ((with_reducible refine' Wm.r_i ?h1 ?_); (case h1 => walk_at "w_arith"))
  | with_reducible refine Wm.r_eqi ?_
  | with_reducible refine Wm.r_eqs ?_
  | with_reducible refine Wm.r_eqb ?_
  | with_reducible refine Wm.r_nei ?_
  | with_reducible refine Wm.r_nes ?_
  | with_reducible refine Wm.r_neb ?_
  | with_reducible refine Wm.r_test ?_
  | with_reducible refine Wm.r_tb ?_
  | with_reducible refine Wm.r_bl ?_
  | with_reducible refine Wm.r_not ?_
  | with_reducible refine Wm.r_notV ?_
  | with_reducible refine Wm.r_if ?_
  | with_reducible refine Wm.r_nil ?_
  | with_reducible refine Wm.r_cons ?_
  | with_reducible refine Wm.r_cb ?_
  | with_reducible refine Wm.r_call ?_
  | with_reducible refine Wm.r_dget ?_
  | with_reducible refine Wm.r_dput ?_
  | with_reducible refine Wm.r_int1 ?_
  | with_reducible refine Wm.r_lst ?_
  | ((with_reducible refine' Wm.r_lstE ?h1 ?_); (case h1 => walk_at "w_sz"); (intro q H' nq sq eq))
  | ((with_reducible refine' Wm.r_tupE ?h1 ?_); (case h1 => walk_at "w_sz"); (intro q H' nq sq eq))
  | with_reducible refine Wm.r_tup ?_
  | with_reducible refine Wm.r_for ?_
  | with_reducible refine Wm.r_il ?_
  | with_reducible refine Wm.r_it ?_
  | with_reducible refine Wm.r_rng1 ?_
  | ((with_reducible refine Wm.r_disp ?_); (intro q H' nq sq eq))
  | with_reducible refine Wm.r_pc ?_
  | with_reducible refine Wm.r_pn ?_
  | with_reducible refine Wm.r_un ?_
  | with_reducible refine Wm.r_slice ?_
  | with_reducible refine Wm.r_nopart ?_
  | with_reducible refine Wm.r_part ?_
  | with_reducible refine Wm.r_partI ?_
  | ((with_reducible refine' Wm.r_slL ?h1 ?_); (case h1 => walk_at "w_hp"); (intro q H' nq sq eq))
  | with_reducible refine Wm.r_meth ?_
  | with_reducible refine Wm.r_methT ?_
  | ((with_reducible refine' Wm.r_methK ?h1 ?h2 ?_); (case h1 => walk_at "w_hp"); (case h2 => rfl))
  | with_reducible refine Wm.r_lc ?_
  | ((with_reducible refine' Wm.r_addS ?h1 ?_); (case h1 => walk_at "w_sz"))
  | with_reducible refine Wm.r_cval ?_
  | ((with_reducible refine' Wm.r_cvalK ?h1 ?h2 ?_); (case h1 => assumption); (case h2 => assumption))
  | ((with_reducible refine' Wm.r_glst ?h1 ?h2 ?_); (case h1 => walk_at "w_hp"); (case h2 => rfl))
  | with_reducible refine Wm.r_makeKS ?_
  | with_reducible refine Wm.r_makeK ?_
  | with_reducible refine Wm.r_make ?_
  | with_reducible refine Wm.r_mkQ ?_
  | ((with_reducible refine' Wm.r_mkE ?h1 ?h2 ?_); (case h1 => rfl); (case h2 => rfl); (intro x dx H' nx sx ex))
  | ((with_reducible refine Wm.r_mk1E ?_); (intro x dx H' nx sx ex))
  | with_reducible refine Wm.r_xf ?_
  | ((with_reducible refine' Wm.r_xfK ?h1 ?h2 ?_); (case h1 => walk_at "w_hp"); (case h2 => rfl))
  | with_reducible refine Wm.r_raiseEr ?_
  | with_reducible refine Wm.r_erE0 ?_
  | ((with_reducible refine' Wm.r_erE ?h1 ?h2 ?h3 ?_); (case h1 => rfl); (case h2 => exact Nat.le_of_ble_eq_true rfl); (case h3 => (intro z; cases z)); (intro q H' nq sq eq))
  | with_reducible refine Wm.r_neg ?_
  | ((with_reducible refine Wm.r_dnew ?_); (intro q H' nq sq eq))
  | with_reducible refine Wm.r_fld ?_
  | with_reducible refine Wm.r_fldS ?_
  | with_reducible refine Wm.r_gsub ?_
  | with_reducible refine Wm.r_gcons ?_
  | with_reducible refine Wm.r_gnil ?_
  | with_reducible refine Wm.r_bm ?_
  | with_reducible refine Wm.r_bm0 ?_
  | ((with_reducible refine' Wm.r_fldK ?h1 ?h2 ?h3 ?h4 ?_); (case h1 => walk_at "w_hp"); (case h2 => assumption); (case h3 => assumption); (case h4 => rfl))
  | ((with_reducible refine' Wm.r_fldP ?h1 ?h2 ?h3 ?h4 ?h5 ?_); (case h1 => walk_at "w_hp"); (case h2 => assumption); (case h3 => assumption); (case h4 => exact Nat.le_of_ble_eq_true rfl); (case h5 => walk_at "w_putf"))
  | ((with_reducible refine' Wm.r_setL ?h1 ?h2 ?h3 ?_); (case h1 => walk_at "w_hp"); (case h2 => rfl); (case h3 => (simp only [Int.reduceToNat, Int.toNat_one, Int.toNat_zero, List.set_cons_succ, List.set_cons_zero]; rfl)))
  | ((with_reducible refine' Wm.r_gtupK ?h1 ?h2 ?_); (case h1 => walk_at "w_hp"); (case h2 => rfl))
  | ((with_reducible refine' Wm.r_tyLK ?h1 ?_); (case h1 => walk_at "w_hp"))
  | ((with_reducible refine' Wm.r_append ?h1 ?h2 ?_); (case h1 => walk_at "w_hp"); (case h2 => walk_at "w_sz"))
  | ((with_reducible refine' Wm.r_listLK ?h1 ?_); (case h1 => walk_at "w_hp"); (intro q H' nq sq eq))
  | ((with_reducible refine' Wm.r_ixLK ?h1 ?h2 ?_); (case h1 => walk_at "w_hp"); (case h2 => rfl))
  | ((with_reducible refine' Wm.r_dgetK ?h1 ?h2 ?_); (case h1 => walk_at "w_hp"); (case h2 => walk_at "w_val"))
  | ((with_reducible refine' Wm.r_dputU ?h1 ?h2 ?_); (case h1 => walk_at "w_put"); (case h2 => walk_at "w_sz"))
  | ((with_reducible refine' Wm.r_dputK ?h1 ?h2 ?h3 ?_); (case h1 => walk_at "w_hp"); (case h2 => walk_at "w_put"); (case h3 => walk_at "w_sz"))
  | ((with_reducible refine' Wm.r_lenK ?h1 ?_); (case h1 => walk_at "w_hp"))
  | fail "no way")
local macro_rules | `(tactic| walk_at "w_gp") => `(tactic| repeat walk_at "w_sp")
namespace Wm
open PySem L2

section
variable {P : Program} {w : World} {K : PySem.W.Frag} {mg : Str → Option Value} {base : Heap} {ad : Ad}
theorem ok_l_take (T : Txt P K mg ad) : FnOk P w K mg base (L2.CX P w) 2 ad.l_take ad.fd_l_take ["_law_pen_here", "_law_bound"] spTake := by
  refine T.F_l_take.okX sc_l_take (fun vs H Q E h => ?_) (fun cdv A outer s H vs Q E hr h => ?_)
  · obtain ⟨p, c, b, rfl, _⟩ := h
    rfl
  obtain ⟨p, c, b, rfl, ⟨ns, a, r, g, m, t, hp, hc, ha, hm, hm2⟩, hb, hb2, k⟩ := h
  have hcp : c ≠ p := ne_of hc hp (by intro z; cases z)
  refine ⟨_, (pss_cons (ps_dput (hu_of hr) (pv 0) pe_str (pe_op op_add (pe_dget (hu_of hr) (pv 0) pe_str (fun _ _ => rfl)) pe_int) rfl)
    (pss_cons (ps_if (PW.pt (pw_and (pt_cmpR op_eq (pe_dget (hu_of hr) (pv 0) pe_str (fun _ _ => rfl)) pe_int (nomark _)) (pw_and1 (pt_cmpR op_lt (pe_dget (hu_of hr) (pv 0) pe_str (fun _ _ => rfl)) (pe_callB c_len (by rfl) T.n_len PySem.boot_len (pa_cons (pe_dget (hu_of hr) (pv 0) pe_str (fun _ _ => rfl)) pa_nil)) (nomark _))))) (pss_cons (ps_set (i := 2) sc_l_take.nd rfl (Or.inl rfl) (pe_ix ix_list (pe_dget (hu_of hr) (pv 0) pe_str (fun _ _ => rfl)) (pe_dget (hu_of hr) (pv 0) pe_str (fun _ _ => rfl)) (fun _ _ => rfl)))
    (pss_cons (ps_dput (hu_of hr) (pv 0) pe_str (pe_op op_add (pe_dget (hu_of hr) (pv 0) pe_str (fun _ _ => rfl)) pe_int) rfl)
    (pss_cons (ps_if (pt_cmpR op_lt (pv 2) (pe_op op_pow pe_int pe_int) (nomark _)) (pss_cons (ps_set (i := 3) sc_l_take.nd rfl (Or.inl rfl) (pe_op op_mod (pe_callTy c_int1 (by rfl) T.n_int (by decide +kernel) (pa_cons (pv 2) pa_nil)) pe_int))
    (pss_cons (ps_set (i := 3) sc_l_take.nd rfl (Or.inl rfl) (pe_op op_mod (pe_callTy c_int1 (by rfl) T.n_int (by decide +kernel) (pa_cons (pe_op op_add (pe_op op_add (pe_op op_mul (pv 3) pe_int) (pe_dget (hu_of hr) (pv 0) pe_str (fun _ _ => rfl))) (pe_op op_mul (pe_dget (hu_of hr) (pv 0) pe_str (fun _ _ => rfl)) pe_int)) pa_nil)) pe_int))
    (pss_cons (ps_dput (hu_of hr) (pv 0) pe_str (pe_op op_mod (pe_callTy c_int1 (by rfl) T.n_int (by decide +kernel) (pa_cons (pe_op op_add (pe_op op_add (pe_op op_mul (pe_dget (hu_of hr) (pv 0) pe_str (fun _ _ => rfl)) pe_int) (pv 3)) pe_int) pa_nil)) pe_int) rfl)
    (pss_one (ps_ret (pe_op op_mod (pe_op op_fdiv (pe_op op_mod (pe_callTy c_int1 (by rfl) T.n_int (by decide +kernel) (pa_cons (pe_op op_add (pe_op op_mul (pv 3) (pv 3)) (pe_dget (hu_of hr) (pv 0) pe_str (fun _ _ => rfl))) pa_nil)) pe_int) pe_int) (pv 1))))))) pss_nil)
    (pss_cons (ps_dput (hu_of hr) (pv 0) pe_str (pe_op op_sub (pv 2) (pe_op op_pow pe_int pe_int)) rfl)
    (pss_one (ps_dput (hu_of hr) (pv 0) pe_str pe_int rfl)))))) pss_nil)
    (pss_cons (ps_if (pt_cmpR op_gt (pe_dget (hu_of hr) (pv 0) pe_str (fun _ _ => rfl)) pe_int (nomark _)) (pss_cons (ps_dput (hu_of hr) (pv 0) pe_str (pe_op op_sub (pe_dget (hu_of hr) (pv 0) pe_str (fun _ _ => rfl)) pe_int) rfl)
    (pss_cons (ps_set (i := 4) sc_l_take.nd rfl (Or.inl rfl) (pe_op op_mod (pe_callTy c_int1 (by rfl) T.n_int (by decide +kernel) (pa_cons (pe_dget (hu_of hr) (pv 0) pe_str (fun _ _ => rfl)) pa_nil)) (pv 1)))
    (pss_cons (ps_dput (hu_of hr) (pv 0) pe_str (pe_op op_fdivW (pe_dget (hu_of hr) (pv 0) pe_str (fun _ _ => rfl)) (pv 1)) rfl)
    (pss_one (ps_ret (pv 4)))))) pss_nil)
    (pss_cons (ps_dput (hu_of hr) (pv 0) pe_str (pe_op op_mod (pe_callTy c_int1 (by rfl) T.n_int (by decide +kernel) (pa_cons (pe_op op_add (pe_op op_add (pe_op op_mul (pe_dget (hu_of hr) (pv 0) pe_str (fun _ _ => rfl)) pe_int) (pe_op op_mul (pe_dget (hu_of hr) (pv 0) pe_str (fun _ _ => rfl)) pe_int)) pe_int) pa_nil)) pe_int) rfl)
    (pss_one (ps_ret (pe_op op_mod (pe_op op_fdiv (pe_op op_mod (pe_callTy c_int1 (by rfl) T.n_int (by decide +kernel) (pa_cons (pe_op op_add (pe_op op_mul (pe_dget (hu_of hr) (pv 0) pe_str (fun _ _ => rfl)) (pe_dget (hu_of hr) (pv 0) pe_str (fun _ _ => rfl))) (pe_dget (hu_of hr) (pv 0) pe_str (fun _ _ => rfl))) pa_nil)) pe_int) pe_int) (pv 1)))))))), ?_⟩
  rw [show L2.start ["_law_pen_here", "_law_bound", "_law_cell", "_law_mixed", "_law_digit"] [V.ref p, V.int b] = [some (V.ref p), some (V.int b), none, none, none] from rfl]
  have fin : ∀ (x a r g m t : Int), 0 ≤ a → 0 ≤ m → m < 2147483648 → Q (.int (x % b)) (upd H p (.dK (pk c a r g m t))) := fun x a r g m t h1 h2 h3 => k _ _ (Int.emod_nonneg _ (by omega)) (Int.emod_lt_of_pos _ hb) (pen_put hc hcp h1 h2 h3)
  have h1 : ∀ x : Int, 0 ≤ x % 2147483629 ∧ x % 2147483629 < 2147483629 := fun x => by omega
  have h2 : ∀ x : Int, 0 ≤ x % 2147483647 ∧ x % 2147483647 < 2147483647 := fun x => by omega
  walk_at "w_go"
  walk_at "w_br"
  · walk_at "w_go"
    walk_at "w_br"
    · walk_at "w_go"
      obtain ⟨z, _, hz⟩ := at_int ha (by assumption)
      refine r_ixL (SqL.of (by walk_at "w_hp")) hz ?_
      walk_at "w_go"
      walk_at "w_br"
      · walk_at "w_go"
        exact fin _ _ _ _ _ _ (by omega) (by omega) (by omega)
      · walk_at "w_go"
        walk_at "w_br"
        · walk_at "w_go"
          exact fin _ _ _ _ _ _ (by omega) (by omega) (by omega)
        · omega
    · walk_at "w_go"
      walk_at "w_br"
      · omega
      · walk_at "w_go"
        exact fin _ _ _ _ _ _ (by omega) (by omega) (by omega)
  · walk_at "w_go"
    walk_at "w_br"
    · walk_at "w_go"
      exact fin _ _ _ _ _ _ (by omega) (by omega) (by omega)
    · walk_at "w_go"
      exact fin _ _ _ _ _ _ (by omega) (by omega) (by omega)
theorem ok_is_choice (T : Txt P K mg ad) : FnOk P w K mg base (L2.CX P w) 2 ad.is_choice ad.fd_is_choice ["thing", "choices"] (spChoice K) := by
  refine T.F_is_choice.okX sc_is_choice (fun vs H Q E h => ?_) (fun cdv A outer s H vs Q E hr h => ?_)
  · obtain ⟨v, a, ss, rfl, _⟩ := h
    rfl
  obtain ⟨v, a, ss, rfl, ha, hv, k⟩ := h
  refine ⟨_, (pss_one (ps_ret (pe_and (pe_callB call_isi (by rfl) T.n_isinstance (by decide +kernel) (pa_cons (pv 0) (pa_cons (pe_bltn (v := .ty "str") (by rfl) T.n_str (by decide +kernel) rfl) pa_nil))) (pe_one (pe_cmpR op_in_seq (pv 0) (pv 1) (by rfl)))))), ?_⟩
  rw [show L2.start ["thing", "choices"] [v, V.ref a] = [some (v), some (V.ref a)] from rfl]
  walk_at "w_go"
  obtain ⟨t, b, h1, h2, h3⟩ := hv.isStr (K := K)
  refine r_isi h1 h2 ?_
  walk_at "w_go"
  cases b with
  | true =>
    obtain ⟨x, rfl⟩ := h3.mp rfl
    walk_at "w_go"
    refine r_in (.inr ha) rfl (flat_strs ss) ?_
    rw [if_neg Bool.false_ne_true, inV_strs]
    exact k
  | false =>
    walk_at "w_go"
    have e : okv v ss = false := by
      cases v with
      | str x => exact absurd (h3.mpr ⟨x, rfl⟩) Bool.false_ne_true
      | _ => rfl
    rw [e] at k
    exact k
theorem ok_l_pen (T : Txt P K mg ad) : FnOk P w K mg base (L2.CX P w) 2 ad.l_pen ad.fd_l_pen ["_law_script"] (spPen K) := by
  refine T.F_l_pen.okX sc_l_pen (fun vs H Q E h => ?_) (fun cdv A outer s H vs Q E hr h => ?_)
  · obtain ⟨a, ns, rfl, _⟩ := h
    rfl
  obtain ⟨a, ns, rfl, hS, k⟩ := h
  refine ⟨_, (pss_cons (ps_set (i := 1) sc_l_pen.nd rfl (Or.inl rfl) pe_int)
    (pss_cons (ps_for (passes_of rfl) rfl (pi_list (pv 0)) (pg_name (i := 2) sc_l_pen.nd rfl (Or.inl rfl)) (pss_one (ps_set (i := 1) sc_l_pen.nd rfl (Or.inl rfl) (pe_op op_mod (pe_callTy c_int1 (by rfl) T.n_int (by decide +kernel) (pa_cons (pe_op op_add (pe_op op_mul (pv 1) pe_int) (pv 2)) pa_nil)) pe_int))))
    (pss_one (ps_ret (pe_disp (pps_cons pe_str (pe_callTy c_list (by rfl) T.n_list (by decide +kernel) (pa_cons (pv 0) pa_nil)) (pps_cons pe_str pe_int (pps_cons pe_str pe_int (pps_cons pe_str pe_int (pps_cons pe_str (pv 1) (pps_cons pe_str pe_int pps_nil)))))) (by rfl) (by rfl) (fun z => by cases z) (by decide)))))), ?_⟩
  rw [show L2.start ["_law_script", "_law_total", "_law_cell"] [V.ref a] = [some (V.ref a), none, none] from rfl]
  walk_at "w_go"
  refine r_ilK hS (for_list (K := K) (a := a) (xs := ns.map V.int) (fun i σ H' => H' = H ∧ ∃ (t : Int) (v : Option V), σ = [some (.ref a), some (.int t), v] ∧ 0 ≤ t ∧ t < 2147483629) ⟨rfl, 17, none, rfl, by decide, by decide⟩ ?_ ?_ ?_)
  · rintro i σ H' _ ⟨rfl, _⟩
    exact hS
  · rintro i x σ H' hi ⟨rfl, t, v, rfl, h0, h1⟩
    obtain ⟨z, rfl⟩ : ∃ z, x = V.int z := by
      rw [List.getElem?_map] at hi
      cases e : ns[i]? with
      | none => rw [e] at hi; cases hi
      | some u => rw [e] at hi; exact ⟨u, (Option.some.inj hi).symm⟩
    walk_at "w_go"
    exact ⟨rfl, _, _, rfl, by omega, by omega⟩
  · rintro σ H' ⟨rfl, t, v, rfl, h0, h1⟩
    walk_at "w_go"
    rename_i q H1 nq sq eq
    refine r_listL (Same.seq sq hS) (fun c nc => ?_)
    walk_at "w_go"
    refine r_dispE [(.inr "cells", .ref c), (.inr "at", .int 0), (.inr "rest", .int 0), (.inr "digits", .int 0), (.inr "mix", .int t), (.inr "turn", .int 0)] (pk c 0 0 0 t 0) (by walk_at "w_hp") rfl (by simp) rfl ?_
    have ncq : c ≠ q := (ne_of_none eq nc).symm
    refine k q c _ ⟨ns, 0, 0, 0, t, 0, upd_same, by rw [upd_ne ncq]; exact upd_same, by decide, h0, by omega⟩ ?_ nq
    exact same_put (Same.trans sq (same_new nc)) nq
theorem ok_Guard_init (T : Txt P K mg ad) : FnOk P w K mg base (L2.CX P w) 3 ad.Guard_init ad.fd_Guard_init ["self", "mark", "act", "by", "keep", "keep_by"] (spInit ad) := by
  refine T.F_Guard_init.ok sc_Guard_init (fun vs H Q E h => ?_) (fun cdv A outer s H vs Q E hr h => ?_)
  · obtain ⟨a, dx, v0, v1, v2, v3, v4, rfl, _⟩ := h
    rfl
  obtain ⟨a, dx, v0, v1, v2, v3, v4, rfl, hx, ⟨a0, a1, a2, a3, a4⟩, kE, kS⟩ := h
  refine ⟨_, (pss_cons (ps_set (i := 6) sc_Guard_init.nd rfl (Or.inl rfl) (pe_lst (pa_cons (pe_tup (pa_cons pe_str (pa_cons (pv 1) (pa_cons (pe_glob (v := .ref ad.MARKS) rfl T.g_MARKS rfl) pa_nil)))) (pa_cons (pe_tup (pa_cons pe_str (pa_cons (pv 2) (pa_cons (pe_glob (v := .ref ad.ACTS) rfl T.g_ACTS rfl) pa_nil)))) (pa_cons (pe_tup (pa_cons pe_str (pa_cons (pv 3) (pa_cons (pe_glob (v := .ref ad.BY) rfl T.g_BY rfl) pa_nil)))) (pa_cons (pe_tup (pa_cons pe_str (pa_cons (pv 4) (pa_cons (pe_glob (v := .ref ad.KEEPS) rfl T.g_KEEPS rfl) pa_nil)))) pa_nil))))))
    (pss_cons (ps_expr (pe_bm PySem.F.plainAttrs_list PySem.F.slot_list_append PySem.F.type_list_append mt_append (pv 6) (pa_cons (pe_tup (pa_cons pe_str (pa_cons (pv 5) (pa_cons (pe_glob (v := .ref ad.BY) rfl T.g_BY rfl) pa_nil)))) pa_nil)))
    (pss_cons (ps_for (passes_of rfl) rfl (pi_list (pv 6)) (pg_tup rfl (pgs_cons (pg_name (i := 7) sc_Guard_init.nd rfl (Or.inl rfl)) (pgs_cons (pg_name (i := 8) sc_Guard_init.nd rfl (Or.inl rfl)) (pgs_cons (pg_name (i := 9) sc_Guard_init.nd rfl (Or.inl rfl)) pgs_nil)))) (pss_one (ps_if (pt_not (pt_val (pe_call (ok_is_choice T) hr rfl T.g_is_choice T.F_is_choice.kp T.b_is_choice .nil passL (pa_cons (pv 8) (pa_cons (pv 9) pa_nil))))) (pss_one (ps_raiseEr rfl T.er_BadGuard hr (takes_of rfl rfl rfl rfl) T.g_BadGuard (pa_cons (pv 7) pa_nil))) pss_nil)))
    (pss_cons (ps_fld (pv 0) (pv 1) rfl)
    (pss_cons (ps_fld (pv 0) (pe_ifExp (pt_cmpR op_eq (pv 1) pe_str (nomark _)) pe_str (pv 2)) rfl)
    (pss_cons (ps_fld (pv 0) (pe_ifExp (pt_cmpR op_eq (pv 1) pe_str (nomark _)) pe_str (pv 3)) rfl)
    (pss_cons (ps_fld (pv 0) (pv 4) rfl)
    (pss_one (ps_fld (pv 0) (pe_ifExp (pt_cmpR op_eq (pv 4) pe_str (nomark _)) pe_str (pv 5)) rfl))))))))), ?_⟩
  rw [show L2.start ["self", "mark", "act", "by", "keep", "keep_by", "checked", "part", "value", "choices"] [V.ref a, v0, v1, v2, v3, v4] = [some (V.ref a), some (v0), some (v1), some (v2), some (v3), some (v4), none, none, none, none] from rfl]
  walk_at "w_go"
  rename_i t0 G0 n0 s0 e0 t1 G1 n1 s1 e1 t2 G2 n2 s2 e2 t3 G3 n3 s3 e3 L G4 n4 s4 e4 t4 G5 n5 s5 e5
  have h0 : upd G5 L (.lst ([V.ref t0, .ref t1, .ref t2, .ref t3] ++ [.ref t4])) t0 = some (.tup [.str "mark", v0, .ref ad.MARKS]) := by walk_at "w_hp"
  have h1 : upd G5 L (.lst ([V.ref t0, .ref t1, .ref t2, .ref t3] ++ [.ref t4])) t1 = some (.tup [.str "act", v1, .ref ad.ACTS]) := by walk_at "w_hp"
  have h2 : upd G5 L (.lst ([V.ref t0, .ref t1, .ref t2, .ref t3] ++ [.ref t4])) t2 = some (.tup [.str "by", v2, .ref ad.BY]) := by walk_at "w_hp"
  have h3 : upd G5 L (.lst ([V.ref t0, .ref t1, .ref t2, .ref t3] ++ [.ref t4])) t3 = some (.tup [.str "keep", v3, .ref ad.KEEPS]) := by walk_at "w_hp"
  have h4 : upd G5 L (.lst ([V.ref t0, .ref t1, .ref t2, .ref t3] ++ [.ref t4])) t4 = some (.tup [.str "keep_by", v4, .ref ad.BY]) := by walk_at "w_hp"
  have hL : upd G5 L (.lst ([V.ref t0, .ref t1, .ref t2, .ref t3] ++ [.ref t4])) L = some (.lst [V.ref t0, .ref t1, .ref t2, .ref t3, .ref t4]) := upd_same
  have hS : Same H (upd G5 L (.lst ([V.ref t0, .ref t1, .ref t2, .ref t3] ++ [.ref t4]))) := by walk_at "w_same"
  clear s0 s1 s2 s3 s4 s5 e0 e1 e2 e3 e4 e5 n0 n1 n2 n3 n4 n5
  generalize upd G5 L (.lst ([V.ref t0, .ref t1, .ref t2, .ref t3] ++ [.ref t4])) = Hc at h0 h1 h2 h3 h4 hL hS ⊢
  let okN : Nat → Bool := fun j => [okv v0 MARKSl, okv v1 ACTSl, okv v2 BYl, okv v3 KEEPSl, okv v4 BYl].getD j true
  have item : ∀ (i : Nat) (x : V), [V.ref t0, .ref t1, .ref t2, .ref t3, .ref t4][i]? = some x → ∃ (t : Addr) (part : Str) (v : V) (cA : Addr) (cs : List Str), x = .ref t ∧ Hc t = some (.tup [.str part, v, .ref cA]) ∧ (∀ H, SqT K H cA (cs.map V.str)) ∧ AnyV Hc v ∧ okN i = okv v cs ∧ ((∀ j, j < i → okN j = true) → okv v cs = false → badPart v0 v1 v2 v3 v4 = some part) := by
    intro i x hi
    match i, hi with
    | 0, hi =>
      cases hi
      refine ⟨_, _, _, _, _, rfl, h0, T.c_MARKS, a0.same hS, rfl, fun _ z => ?_⟩
      unfold badPart
      rw [if_pos z]
    | 1, hi =>
      cases hi
      refine ⟨_, _, _, _, _, rfl, h1, T.c_ACTS, a1.same hS, rfl, fun hj z => ?_⟩
      have j0 : okv v0 MARKSl = true := hj 0 (by decide)
      unfold badPart
      rw [if_neg (by simp [j0]), if_pos z]
    | 2, hi =>
      cases hi
      refine ⟨_, _, _, _, _, rfl, h2, T.c_BY, a2.same hS, rfl, fun hj z => ?_⟩
      have j0 : okv v0 MARKSl = true := hj 0 (by decide)
      have j1 : okv v1 ACTSl = true := hj 1 (by decide)
      unfold badPart
      rw [if_neg (by simp [j0]), if_neg (by simp [j1]), if_pos z]
    | 3, hi =>
      cases hi
      refine ⟨_, _, _, _, _, rfl, h3, T.c_KEEPS, a3.same hS, rfl, fun hj z => ?_⟩
      have j0 : okv v0 MARKSl = true := hj 0 (by decide)
      have j1 : okv v1 ACTSl = true := hj 1 (by decide)
      have j2 : okv v2 BYl = true := hj 2 (by decide)
      unfold badPart
      rw [if_neg (by simp [j0]), if_neg (by simp [j1]), if_neg (by simp [j2]), if_pos z]
    | 4, hi =>
      cases hi
      refine ⟨_, _, _, _, _, rfl, h4, T.c_BY, a4.same hS, rfl, fun hj z => ?_⟩
      have j0 : okv v0 MARKSl = true := hj 0 (by decide)
      have j1 : okv v1 ACTSl = true := hj 1 (by decide)
      have j2 : okv v2 BYl = true := hj 2 (by decide)
      have j3 : okv v3 KEEPSl = true := hj 3 (by decide)
      unfold badPart
      rw [if_neg (by simp [j0]), if_neg (by simp [j1]), if_neg (by simp [j2]), if_neg (by simp [j3]), if_pos z]
    | n + 5, hi => cases hi
  refine r_ilK (SqL.of hL) (for_list (K := K) (a := L) (xs := [V.ref t0, .ref t1, .ref t2, .ref t3, .ref t4]) (fun i σ H' => H' = Hc ∧ (∀ j, j < i → okN j = true) ∧ ∃ (p v c : Option V), σ = [some (.ref a), some v0, some v1, some v2, some v3, some v4, some (.ref L), p, v, c]) ⟨rfl, fun j hj => absurd hj (Nat.not_lt_zero j), none, none, none, rfl⟩ ?_ ?_ ?_)
  · rintro i σ H' _ ⟨rfl, _⟩
    exact SqL.of hL
  · rintro i x σ H' hi ⟨rfl, hj, p, v, c, rfl⟩
    obtain ⟨t, part, u, cA, cs, rfl, ht, hsq, hany, hok, hbad⟩ := item i x hi
    walk_at "w_go"
    refine ⟨u, cA, cs, rfl, hsq _, hany, ?_⟩
    walk_at "w_go"
    walk_at "w_br"
    · rename_i hbr
      walk_at "w_go"
      rename_i d Hd nd sd ed
      exact kE part (hbad hj hbr) d Hd (hS.trans sd) (by walk_at "w_frs") ed
    · rename_i hbr
      walk_at "w_go"
      refine ⟨rfl, fun j hj' => ?_, _, _, _, rfl⟩
      by_cases e : j = i
      · rw [e, hok, hbr]
      · exact hj j (by omega)
  · rintro σ H' ⟨rfl, hj, p, v, c, rfl⟩
    obtain ⟨m, rfl, m1⟩ := okv_str (show okv v0 MARKSl = true from hj 0 (by simp))
    obtain ⟨t, rfl, m2⟩ := okv_str (show okv v1 ACTSl = true from hj 1 (by simp))
    obtain ⟨b, rfl, m3⟩ := okv_str (show okv v2 BYl = true from hj 2 (by simp))
    obtain ⟨k, rfl, m4⟩ := okv_str (show okv v3 KEEPSl = true from hj 3 (by simp))
    obtain ⟨e, rfl, m5⟩ := okv_str (show okv v4 BYl = true from hj 4 (by simp))
    have kk := kS m t b k e rfl rfl rfl rfl rfl m1 m2 m3 m4 m5
    have hxa := hS _ _ hx
    have cl := T.ow_Guard.cl
    have f1 := T.no_Guard_mark
    have f2 := T.no_Guard_act
    have f3 := T.no_Guard_by
    have f4 := T.no_Guard_keep
    have f5 := T.no_Guard_keep_by
    walk_at "w_go"
    have fin : ∀ {H2 : Hp} {l : List (Str × V)}, (∀ (b : Addr) (o : HO), b ≠ a → H b = some o → H2 b = some o) → H2 a = some (.ins ad.Guard dx l) → l = gfs (plain5 m t b k e) → Q V.non H2 := fun g h z => kk _ g (z ▸ h)
    clear kk kE kS item
    walk_at "w_br"
    · rename_i hm
      walk_at "w_go"
      walk_at "w_br"
      · walk_at "w_go"
        walk_at "w_br"
        · rename_i hk
          walk_at "w_go"
          exact fin (fun b o nb hb => by walk_at "w_hp") upd_same (by simp only [gfs, plain5, hm, hk, if_true, if_false, reduceIte]; rfl)
        · rename_i hk
          walk_at "w_go"
          exact fin (fun b o nb hb => by walk_at "w_hp") upd_same (by simp only [gfs, plain5, hm, hk, if_true, if_false, reduceIte]; rfl)
      · rename_i hm'
        exact absurd hm hm'
    · rename_i hm
      walk_at "w_go"
      walk_at "w_br"
      · rename_i hm'
        exact absurd hm' hm
      · walk_at "w_go"
        walk_at "w_br"
        · rename_i hk
          walk_at "w_go"
          exact fin (fun b o nb hb => by walk_at "w_hp") upd_same (by simp only [gfs, plain5, hm, hk, if_true, if_false, reduceIte]; rfl)
        · rename_i hk
          walk_at "w_go"
          exact fin (fun b o nb hb => by walk_at "w_hp") upd_same (by simp only [gfs, plain5, hm, hk, if_true, if_false, reduceIte]; rfl)
end
end Wm
namespace Wm
open PySem L2

section
variable {P : Program} {w : World} {K : PySem.W.Frag} {mg : Str → Option Value} {base : Heap} {ad : Ad}
theorem ok_l_odd (T : Txt P K mg ad) : FnOk P w K mg base (L2.CX P w) 3 ad.l_odd ad.fd_l_odd ["_law_pen_here"] (spOddN K) := by
  refine T.F_l_odd.okX sc_l_odd (fun vs H Q E h => ?_) (fun cdv A outer s H vs Q E hr h => ?_)
  · obtain ⟨p, c, rfl, _⟩ := h
    rfl
  obtain ⟨p, c, rfl, hp, k⟩ := h
  refine ⟨_, (pss_cons (ps_set (i := 1) sc_l_odd.nd rfl (Or.inl rfl) (pe_lst (pa_cons pe_non (pa_cons pe_bl (pa_cons pe_bl (pa_cons (pe_un un_neg pe_int) (pa_cons pe_str (pa_cons pe_str (pa_cons (pe_tup pa_nil) (pa_cons (pe_lst pa_nil) (pa_cons pe_dnewK (pa_cons (pe_tup (pa_cons pe_str pa_nil)) (pa_cons (pe_lst (pa_cons pe_int pa_nil)) (pa_cons (pe_disp (pps_cons pe_str pe_int pps_nil) (by rfl) (by rfl) (fun z => by cases z) (by decide)) (pa_cons pe_str (pa_cons pe_str (pa_cons (pe_op op_add (pe_op op_pow pe_int pe_int) pe_int) (pa_cons (pe_lst (pa_cons pe_non (pa_cons (pe_lst (pa_cons (pe_tup pa_nil) pa_nil)) pa_nil))) pa_nil))))))))))))))))))
    (pss_one (ps_ret (pe_ix ix_list (pv 1) (pe_call (ok_l_take T) hr rfl T.g_l_take T.F_l_take.kp T.b_l_take .nil passL (pa_cons (pv 0) (pa_cons pe_int pa_nil))) (fun _ _ => rfl))))), ?_⟩
  rw [show L2.start ["_law_pen_here", "_law_menu"] [V.ref p] = [some (V.ref p), none] from rfl]
  walk_at "w_go"
  refine r_dispE [(.inr "a", .int 1)] [(.inr "a", .int 1)] (by walk_at "w_hp") rfl (by decide) rfl ?_
  walk_at "w_go"
  refine r_take (by walk_at "w_pen") (by decide) (by decide) (fun r H1 h0 h1 s1 => ?_)
  walk_at "w_go"
  rename_i q9 H9 nq9 sq9 eq9 q8 H8 nq8 sq8 eq8 q7 H7 nq7 sq7 eq7 q6 H6 nq6 sq6 eq6 q5 H5 nq5 sq5 eq5 q4 H4 nq4 sq4 eq4 q3 H3 nq3 sq3 eq3 q2 H2 nq2 sq2 eq2 qa Ha nqa sqa eqa qb Hb nqb sqb eqb
  have n7 : q7 ≠ p := (PenAt.ne_new (H := H8) (by walk_at "w_pen") nq7).1.symm
  have n4 : q4 ≠ p := (PenAt.ne_new (H := H5) (by walk_at "w_pen") nq4).1.symm
  have hp1 : PenAt H1 p c := s1.pen
  have x9 : newOf H H1 q9 = some (.tup []) := newOf_at (by walk_at "w_frs") (by walk_at "w_hp")
  have x8 : newOf H H1 q8 = some (.lst []) := newOf_at (by walk_at "w_frs") (by walk_at "w_hp")
  have x7 : newOf H H1 q7 = some (.dK []) := newOf_at (by walk_at "w_frs") (by walk_at "w_hp")
  have x6 : newOf H H1 q6 = some (.tup [.str "x"]) := newOf_at (by walk_at "w_frs") (by walk_at "w_hp")
  have x5 : newOf H H1 q5 = some (.lst [.int 0]) := newOf_at (by walk_at "w_frs") (by walk_at "w_hp")
  have x4 : newOf H H1 q4 = some (.dK [(.inr "a", .int 1)]) := newOf_at (by walk_at "w_frs") (by walk_at "w_hp")
  have x3 : newOf H H1 q3 = some (.tup []) := newOf_at (by walk_at "w_frs") (by walk_at "w_hp")
  have x2 : newOf H H1 q2 = some (.lst [.ref q3]) := newOf_at (by walk_at "w_frs") (by walk_at "w_hp")
  have xa : newOf H H1 qa = some (.lst [.non, .ref q2]) := newOf_at (by walk_at "w_frs") (by walk_at "w_hp")
  refine r_anyIx (by walk_at "w_hp") h0 h1 (by rfl) (fun v hv => k _ _ (by walk_at "w_step") ?_ ?_ ?_)
  · simp only [List.mem_cons, List.not_mem_nil, or_false] at hv
    rcases hv with rfl | rfl | rfl | rfl | rfl | rfl | rfl | rfl | rfl | rfl | rfl | rfl | rfl | rfl | rfl | rfl
    · exact ⟨trivial, fun z => by cases z⟩
    · exact ⟨trivial, fun z => by cases z⟩
    · exact ⟨trivial, fun z => by cases z⟩
    · exact ⟨trivial, fun z => by cases z⟩
    · exact ⟨trivial, fun z => by cases z⟩
    · exact ⟨trivial, fun z => by cases z⟩
    · exact oddT hp1 (newOf_get x9).2
    · exact oddL hp1 (newOf_get x8).2
    · exact oddD n7 (newOf_get x7).2
    · exact oddT hp1 (newOf_get x6).2
    · exact oddL hp1 (newOf_get x5).2
    · exact oddD n4 (newOf_get x4).2
    · exact ⟨trivial, fun z => by cases z⟩
    · exact ⟨trivial, fun z => by cases z⟩
    · exact ⟨trivial, fun z => by cases z⟩
    · exact oddL hp1 (newOf_get xa).2
  · simp only [List.mem_cons, List.not_mem_nil, or_false] at hv
    rcases hv with rfl | rfl | rfl | rfl | rfl | rfl | rfl | rfl | rfl | rfl | rfl | rfl | rfl | rfl | rfl | rfl
    all_goals first | rfl | decide
  · simp only [List.mem_cons, List.not_mem_nil, or_false] at hv
    rcases hv with rfl | rfl | rfl | rfl | rfl | rfl | rfl | rfl | rfl | rfl | rfl | rfl | rfl | rfl | rfl | rfl
    · exact .inl ⟨_, .non, rfl, by decide⟩
    · exact .inl ⟨_, .bl true, rfl, by decide⟩
    · exact .inl ⟨_, .bl false, rfl, by decide⟩
    · exact .inl ⟨_, .int (-1), rfl, by decide⟩
    · exact .inl ⟨_, .str _, rfl, by decide⟩
    · exact .inl ⟨_, .str _, rfl, by decide⟩
    · exact .inl ⟨_, .tup (SqT.of x9) .nil, rfl, by decide⟩
    · exact .inl ⟨_, .lst (SqL.of x8) .nil, rfl, by decide⟩
    · exact .inr ⟨q7, _, rfl, x7, fun p hp => by cases hp⟩
    · exact .inl ⟨_, .tup (SqT.of x6) (.cons (.str _) .nil), rfl, by decide⟩
    · exact .inl ⟨_, .lst (SqL.of x5) (.cons (.int 0) .nil), rfl, by decide⟩
    · refine .inr ⟨q4, _, rfl, x4, fun p hp => ?_⟩
      simp only [List.mem_cons, List.not_mem_nil, or_false] at hp
      subst hp
      exact ⟨rfl, rfl⟩
    · exact .inl ⟨_, .str _, rfl, by decide⟩
    · exact .inl ⟨_, .str _, rfl, by decide⟩
    · exact .inl ⟨_, .int _, rfl, by simp [PyData.depth]⟩
    · exact .inl ⟨_, .lst (SqL.of xa) (.cons .non (.cons (.lst (SqL.of x2) (.cons (.tup (SqT.of x3) .nil) .nil)) .nil)), rfl, by decide⟩
end
end Wm
namespace Wm
open PySem L2

section
variable {P : Program} {w : World} {K : PySem.W.Frag} {mg : Str → Option Value} {base : Heap} {ad : Ad}
theorem any_strs {ss : List Str} {f : Str → Bool} : ((ss.map V.str).map fun v => V.bl (f (strOf v))) = (ss.map f).map V.bl := by simp [strOf]
theorem ok_Guard_speaks (T : Txt P K mg ad) : FnOk P w K mg base (L2.CX P w) 2 ad.Guard_speaks ad.fd_Guard_speaks ["self", "flags"] (spSpeaks K ad) := by
  refine T.F_Guard_speaks.okX sc_Guard_speaks (fun vs H Q E h => ?_) (fun cdv A outer s H vs Q E hr h => ?_)
  · obtain ⟨g, dx, t, m, a, b, k, e, ss, rfl, _⟩ := h
    rfl
  obtain ⟨g, dx, t, m, a, b, kk, e, ss, rfl, hg, ht, hz, k⟩ := h
  refine ⟨_, (pss_cons (ps_if (pt_cmpR op_eq (pe_fld (pv 0) rfl) pe_str (nomark _)) (pss_one (ps_ret pe_bl)) pss_nil)
    (pss_cons (ps_set (i := 2) sc_Guard_speaks.nd rfl (Or.inr rfl) (pe_lst (pa_cons pe_str pa_nil)))
    (pss_cons (ps_if (pt_cmpR op_eq (pe_fld (pv 0) rfl) pe_str (nomark _)) (pss_one (ps_expr (pe_bm PySem.F.plainAttrs_list PySem.F.slot_list_append PySem.F.type_list_append mt_append (pv 2) (pa_cons pe_str pa_nil)))) pss_nil)
    (pss_cons (ps_if (pt_cmpR op_eq (pe_fld (pv 0) rfl) pe_str (nomark _)) (pss_one (ps_expr (pe_bm PySem.F.plainAttrs_list PySem.F.slot_list_extend PySem.F.type_list_extend mt_extend (pv 2) (pa_cons (pe_lc (own := [("flag", 3)]) (g := gName 3) (tt := tYes) rfl sc_Guard_speaks.nd (pi_list (pv 2)) (blkOk_by (own := [("flag", 3)]) (N := ["self", "flags", "heard", "flag"]) (sc := defScope s_Guard_speaks) (by decide +kernel)) (fun _ _ _ _ _ => pg_name (i := 3) sc_Guard_speaks.nd rfl (Or.inl rfl)) (fun _ _ _ _ _ => pts_nil) (fun _ _ _ _ _ => (pe_op op_addS pe_str (pv 3)))) pa_nil)))) pss_nil)
    (pss_one (ps_ret (pe_callB (cr_any rfl) (by rfl) T.n_any (by decide +kernel) (pa_cons (pe_lc (own := [("flag", 3)]) (g := gName 3) (tt := tYes) rfl sc_Guard_speaks.nd (pi_or (pi_list (pv 1)) (pi_tup (pv 1))) (blkOk_by (own := [("flag", 3)]) (N := ["self", "flags", "heard", "flag"]) (sc := defScope s_Guard_speaks) (by decide +kernel)) (fun _ _ _ _ _ => pg_name (i := 3) sc_Guard_speaks.nd rfl (Or.inl rfl)) (fun _ _ _ _ _ => pts_nil) (fun _ _ _ _ _ => (pe_cmpR (op_in_seq : OpR _ _ (rIn K false)) (pv 3) (pv 2) (by rfl)))) pa_nil)))))))), ?_⟩
  rw [show L2.start ["self", "flags", "heard", "flag"] [V.ref g, V.ref t] = [some (V.ref g), some (V.ref t), none, none] from rfl]
  have cl := T.ow_Guard.cl
  have f1 := T.no_Guard_mark
  have f3 := T.no_Guard_by
  walk_at "w_go"
  walk_at "w_br"
  · rename_i hm
    walk_at "w_go"
    have e1 : speaksB m b ss = false := by simp [speaksB, show m = "none" from hm]
    rw [← e1]
    exact k H (Same.refl H)
  · rename_i hm
    walk_at "w_go"
    rename_i q H1 n1 s1 e1
    refine r_ifJ (fun σ H' => σ = [some (.ref g), some (.ref t), some (.ref q), none] ∧ Same H H' ∧ H' q = some (.lst ((heard0 m).map V.str))) ?_ (fun N rest => ?_)
    · rintro σ H2 ⟨rfl, s2, e2⟩
      have hg2 := s2 _ _ hg
      walk_at "w_go"
      refine r_ifJ (fun σ H' => (∃ x, σ = [some (.ref g), some (.ref t), some (.ref q), x]) ∧ Same H H' ∧ H' q = some (.lst ((heardL m b).map V.str))) ?_ (fun N rest => ?_)
      · rintro σ H3 ⟨⟨x, rfl⟩, s3, e3⟩
        walk_at "w_go"
        have hzz : (ss.map V.str).length ≤ sizeLine := by
          rw [List.length_map, PySem.sizeLine_eq]
          omega
        have es : speaksB m b ss = (ss.map fun y => decide (y ∈ heardL m b)).any id := by
          simp only [speaksB, show ¬ m = "none" from hm, if_false, List.any_map]
          rfl
        rcases ht.same s3 with hL | hL
        · refine .inl ?_
          walk_at "w_go"
          refine r_ilK hL ?_
          refine r_lcL (fun _ => true) (fun v => V.bl (decide (strOf v ∈ heardL m b))) hL hzz (fun j x hj => ⟨fun H' R _ h => h, fun H' R _ s4 h => ?_⟩) (fun r H4 n4 s4 e4 => ?_)
          · obtain ⟨y, rfl⟩ := str_at hj
            walk_at "w_go"
            exact r_inSP (.inl (SqL.of (s4 _ _ e3))) h
          · walk_at "w_go"
            refine r_any (ss.map fun y => decide (y ∈ heardL m b)) e4 (by rw [filt_true]; exact any_strs (f := fun y => decide (y ∈ heardL m b))) ?_
            walk_at "w_go"
            rw [← es]
            exact k H4 (s3.trans s4)
        · refine .inr ?_
          walk_at "w_go"
          refine r_itK hL ?_
          refine r_lcT (fun _ => true) (fun v => V.bl (decide (strOf v ∈ heardL m b))) hL hzz (fun j x hj => ⟨fun H' R _ h => h, fun H' R _ s4 h => ?_⟩) (fun r H4 n4 s4 e4 => ?_)
          · obtain ⟨y, rfl⟩ := str_at hj
            walk_at "w_go"
            exact r_inSP (.inl (SqL.of (s4 _ _ e3))) h
          · walk_at "w_go"
            refine r_any (ss.map fun y => decide (y ∈ heardL m b)) e4 (by rw [filt_true]; exact any_strs (f := fun y => decide (y ∈ heardL m b))) ?_
            walk_at "w_go"
            rw [← es]
            exact k H4 (s3.trans s4)
      · walk_at "w_br"
        · rename_i hb
          walk_at "w_go"
          refine r_ilK (SqL.of e2) ?_
          refine r_lcL (fun _ => true) (fun v => V.str (("twin " : Str) ++ strOf v)) (SqL.of e2) (by rw [List.length_map, PySem.sizeLine_eq]; unfold heard0; split <;> decide) (fun j x hj => ⟨fun H' R _ h => h, fun H' R _ s4 h => ?_⟩) (fun r H4 n4 s4 e4 => ?_)
          · obtain ⟨y, rfl, hy⟩ := str_in hj
            walk_at "w_go"
            refine r_addS ?_ h
            have hlen : y.length ≤ 10 := by
              unfold heard0 at hy
              split at hy <;> simp only [List.mem_cons, List.not_mem_nil, or_false] at hy
              · rcases hy with rfl | rfl <;> decide
              · subst hy
                decide
            rw [PySem.sizeLine_eq]
            have h5 : ("twin " : Str).length = 5 := by decide
            omega
          · walk_at "w_go"
            refine r_extend (by walk_at "w_hp") e4 (by rw [filt_true, List.length_map, List.length_map, List.length_map, PySem.sizeLine_eq]; unfold heard0; split <;> decide) ?_
            walk_at "w_go"
            refine rest _ _ ⟨⟨_, rfl⟩, by walk_at "w_same", ?_⟩
            rw [upd_same, filt_true]
            simp [heardL, show b = "equal" from hb, strOf]
        · rename_i hb
          walk_at "w_go"
          exact rest _ _ ⟨⟨_, rfl⟩, s2, by rw [e2]; simp [heardL, show ¬ b = "equal" from hb]⟩
    · walk_at "w_br"
      · rename_i hl
        walk_at "w_go"
        exact rest _ _ ⟨rfl, by walk_at "w_same", by rw [upd_same]; simp [heard0, show m = "lasting" from hl]⟩
      · rename_i hl
        walk_at "w_go"
        exact rest _ _ ⟨rfl, s1, by rw [e1]; simp [heard0, show ¬ m = "lasting" from hl]⟩
end
end Wm
namespace Wm
open PySem L2

section
variable {P : Program} {w : World} {K : PySem.W.Frag} {mg : Str → Option Value} {base : Heap} {ad : Ad}
theorem ok_Guard_treats (T : Txt P K mg ad) : FnOk P w K mg base (L2.CX P w) 3 ad.Guard_treats ad.fd_Guard_treats ["self", "flags"] (spTreats K ad) := by
  refine T.F_Guard_treats.okX sc_Guard_treats (fun vs H Q E h => ?_) (fun cdv A outer s H vs Q E hr h => ?_)
  · obtain ⟨g, dx, t, m, a, b, k, e, fl, rfl, _⟩ := h
    rfl
  obtain ⟨g, dx, t, m, a, b, kk, e, fl, rfl, hg, ht, hz, hany, kE, kS⟩ := h
  refine ⟨_, (pss_cons (ps_for (passes_of rfl) rfl (pi_or (pi_list (pv 1)) (pi_tup (pv 1))) (pg_name (i := 2) sc_Guard_treats.nd rfl (Or.inl rfl)) (pss_one (ps_if (pt_not (pt_val (pe_call (ok_is_choice T) hr rfl T.g_is_choice T.F_is_choice.kp T.b_is_choice .nil passL (pa_cons (pv 2) (pa_cons (ClX.pe_cval (pe_glob (v := .ref ad.Guard) rfl T.g_Guard rfl)) pa_nil))))) (pss_one (ps_raiseEr rfl T.er_NoFlag hr (takes_of rfl rfl rfl rfl) T.g_NoFlag (pa_cons (pv 2) pa_nil))) pss_nil)))
    (pss_cons (ps_if (pt_val (pe_meth (pv 0) T.ow_Guard.cl T.me_Guard_speaks (ok_Guard_speaks T) hr T.b_Guard_speaks .nil passL (pa_cons (pv 1) pa_nil))) (pss_one (ps_ret (pe_fld (pv 0) rfl))) pss_nil)
    (pss_cons (ps_set (i := 3) sc_Guard_treats.nd rfl (Or.inl rfl) (pe_or (pe_cmpR op_in_seq pe_str (pv 1) (by rfl)) (pe_one (pe_and (pe_cmpR op_eq (pe_fld (pv 0) rfl) pe_str (nomark _)) (pe_one (pe_cmpR op_in_seq pe_str (pv 1) (by rfl)))))))
    (pss_cons (ps_set (i := 4) sc_Guard_treats.nd rfl (Or.inl rfl) (pe_or (pe_cmpR op_in_seq pe_str (pv 1) (by rfl)) (pe_one (pe_and (pe_cmpR op_eq (pe_fld (pv 0) rfl) pe_str (nomark _)) (pe_one (pe_cmpR op_in_seq pe_str (pv 1) (by rfl)))))))
    (pss_cons (ps_if (PW.pt (pw_and (pt_cmpR op_eq (pe_fld (pv 0) rfl) pe_str (nomark _)) (pw_and1 (pt_val (pv 3))))) (pss_one (ps_ret pe_str)) pss_nil)
    (pss_cons (ps_if (PW.pt (pw_and (pt_cmpR op_ne (pe_fld (pv 0) rfl) pe_str (nomark _)) (pw_and1 (pt_val (pv 4))))) (pss_one (ps_ret pe_str)) pss_nil)
    (pss_one (ps_ret pe_str)))))))), ?_⟩
  rw [show L2.start ["self", "flags", "flag", "here", "left"] [V.ref g, V.ref t] = [some (V.ref g), some (V.ref t), none, none, none] from rfl]
  have cl := T.ow_Guard.cl
  have f1 := T.no_Guard_mark
  have f2 := T.no_Guard_act
  have f4 := T.no_Guard_keep
  have f5 := T.no_Guard_keep_by
  obtain ⟨mc, u, cr, cv⟩ := T.cr_Guard_FLAGS
  walk_at "w_go"
  refine r_forA rfl ht (fun i σ H' => H' = H ∧ (∀ j v, j < i → fl[j]? = some v → okv v FLAGSl = true) ∧ ∃ f, σ = [some (.ref g), some (.ref t), f, none, none]) ⟨rfl, fun j v hj => absurd hj (Nat.not_lt_zero j), none, rfl⟩ (fun i σ' H' h => by rw [h.1]; exact Same.refl H) ?_ ?_
  · rintro i x σ H' hi ⟨rfl, hok, f, rfl⟩
    walk_at "w_go"
    refine ⟨x, ad.FLAGS, FLAGSl, rfl, T.c_FLAGS _, hany x (List.mem_of_getElem? hi), ?_⟩
    walk_at "w_go"
    walk_at "w_br"
    · rename_i hb
      walk_at "w_go"
      rename_i d Hd nd sd ed
      refine kE x ?_ d Hd sd nd ed
      exact first_bad hi (fun j v hj e => hok j v hj e) hb
    · rename_i hb
      walk_at "w_go"
      refine ⟨rfl, fun j v hj e => ?_, _, rfl⟩
      by_cases z : j = i
      · subst z
        rw [hi] at e
        cases e
        exact hb
      · exact hok j v (by omega) e
  · rintro σ H' ⟨rfl, hok, f, rfl⟩
    obtain ⟨ss, rfl⟩ := all_strs fun v hv => by
      obtain ⟨j, hj⟩ := List.mem_iff_getElem?.mp hv
      have hl : j < fl.length := by
        rcases Nat.lt_or_ge j fl.length with z | z
        · exact z
        · rw [List.getElem?_eq_none z] at hj
          cases hj
      obtain ⟨x, h, _⟩ := okv_str (hok j v hl hj)
      exact ⟨x, h⟩
    have hnone : firstBad (ss.map V.str) = none := first_none fun j v hj => hok j v (by
      rcases Nat.lt_or_ge j (ss.map V.str).length with z | z
      · exact z
      · rw [List.getElem?_eq_none z] at hj
        cases hj) hj
    have kk' := kS ss rfl hnone
    have hz' : ss.length ≤ 1000 := by rw [List.length_map] at hz; exact hz
    walk_at "w_go"
    refine ⟨g, dx, t, m, a, b, kk, e, ss, rfl, hg, ht, hz', fun H2 s2 => ?_⟩
    have hg2 := s2 _ _ hg
    have ht2 := ht.same s2
    have hin : ∀ (x : Str) (R : VK), R (.bl (decide (x ∈ ss))) H2 → rIn K false (.str x) (.ref t) H2 R := fun x R h => r_inSP ht2 h
    have fin : ∀ {x : Str}, x = resultF m a b kk e ss → Q (.str x) H2 := fun z => z ▸ kk' H2 s2
    clear kk' kS kE
    walk_at "w_gp"
    walk_at "w_br"
    · rename_i hs
      walk_at "w_gp"
      exact fin (by simp [resultF, hs])
    · rename_i hs
      walk_at "w_gp"
      refine r_orV2 (c := decide (("here" : Str) ∈ ss)) (d := decide (e = "equal") && decide (("twin here" : Str) ∈ ss)) (fun R h => ?_) (fun R h => ?_) ?_
      · walk_at "w_gp"
        exact hin _ _ h
      · refine r_andV2 (c := decide (e = "equal")) (d := decide (("twin here" : Str) ∈ ss)) (fun R h => ?_) (fun R h => ?_) h
        · walk_at "w_gp"
          exact h
        · walk_at "w_gp"
          exact hin _ _ h
      walk_at "w_gp"
      refine r_orV2 (c := decide (("left" : Str) ∈ ss)) (d := decide (e = "equal") && decide (("twin left" : Str) ∈ ss)) (fun R h => ?_) (fun R h => ?_) ?_
      · walk_at "w_gp"
        exact hin _ _ h
      · refine r_andV2 (c := decide (e = "equal")) (d := decide (("twin left" : Str) ∈ ss)) (fun R h => ?_) (fun R h => ?_) h
        · walk_at "w_gp"
          exact h
        · walk_at "w_gp"
          exact hin _ _ h
      walk_at "w_gp"
      refine r_and2 (c := decide (kk = "ahead")) (d := decide (("here" : Str) ∈ ss) || (decide (e = "equal") && decide (("twin here" : Str) ∈ ss))) (fun R h => ?_) (fun R h => ?_) ?_
      · walk_at "w_gp"
        exact h
      · walk_at "w_gp"
        exact h
      refine ite_and (fun h1 => ?_) (fun h1 => ?_)
      · walk_at "w_gp"
        refine fin ?_
        unfold resultF
        rw [if_neg (by rw [hs]; simp), if_pos h1]
      · walk_at "w_gp"
        refine r_and2 (c := !decide (kk = "none")) (d := decide (("left" : Str) ∈ ss) || (decide (e = "equal") && decide (("twin left" : Str) ∈ ss))) (fun R h => ?_) (fun R h => ?_) ?_
        · walk_at "w_gp"
          exact h
        · walk_at "w_gp"
          exact h
        refine ite_and (fun h2 => ?_) (fun h2 => ?_)
        · walk_at "w_gp"
          refine fin ?_
          unfold resultF
          rw [if_neg (by rw [hs]; simp), if_neg (by rw [h1]; simp), if_pos h2]
        · walk_at "w_gp"
          refine fin ?_
          unfold resultF
          rw [if_neg (by rw [hs]; simp), if_neg (by rw [h1]; simp), if_neg (by rw [h2]; simp)]
end
end Wm
namespace Wm
open PySem L2

section
variable {P : Program} {w : World} {K : PySem.W.Frag} {mg : Str → Option Value} {base : Heap} {ad : Ad}
theorem ok_Guard_given (T : Txt P K mg ad) : FnR P w K mg base (L2.CX P w) 4 ad.Guard_given (spGiven ad) := by
  obtain ⟨oc, od, kV, doc, pm, an, cdv, ct, osl, hfd, lk, hcd⟩ := T.F_Guard_given.ex
  rw [hfd] at lk
  refine FnR.imp (StX.fn_star (ps := ["self"]) (pv := "flags") (sp := fun vs H Q E => ∃ (g dx t : Addr) (m a b k e : Str) (fl : List V), vs = [.ref g, .ref t] ∧ H g = some (.ins ad.Guard dx (gfs [m, a, b, k, e])) ∧ H t = some (.tup fl) ∧ Told ad H Q E m a b k e fl)
    lk hcd sc_Guard_given StX.cxUp (StX.bind_star1 (B := fun xs => bindArgs (PySem.W.fnOf "given" "Guard.given" (defArgs s_Guard_given) (defBody s_Guard_given) (defScope s_Guard_given) .none kV doc pm an cdv ct) ⟨xs, []⟩) (fun _ => rfl) (fun _ _ _ => rfl)) (fun A outer s H vs Q E hr h => ?_)) (fun vs H Q E h => ?_)
  · obtain ⟨g, dx, t, m, a, b, k, e, fl, rfl, hg, ht, hl⟩ := h
    refine ⟨_, (pss_one (ps_ret (pe_meth (pv 0) T.ow_Guard.cl T.me_Guard_treats (ok_Guard_treats T) hr T.b_Guard_treats .nil (passes_call (takes_of rfl rfl rfl rfl) (fun _ _ _ _ h => h)) (pa_cons (pv 1) pa_nil)))), ?_⟩
    rw [show L2.start ["self", "flags"] [V.ref g, V.ref t] = [some (V.ref g), some (V.ref t)] from rfl]
    walk_at "w_go"
    exact ⟨g, dx, t, m, a, b, k, e, fl, rfl, hg, .inr (SqT.of ht), hl.1, hl.2.1, hl.2.2.1, hl.2.2.2⟩
  · obtain ⟨g, dx, m, a, b, k, e, fl, rfl, hg, hl⟩ := h
    refine ⟨[.ref g], fl, rfl, rfl, Nat.le_trans hl.1 (by rw [PySem.sizeLine_eq]; decide), fun p np => ?_⟩
    have s := same_new (o := .tup fl) np
    exact ⟨g, dx, p, m, a, b, k, e, fl, rfl, s _ _ hg, upd_same, hl.same s⟩
theorem ok_Guard_stops (T : Txt P K mg ad) : FnOk P w K mg base (L2.CX P w) 4 ad.Guard_stops ad.fd_Guard_stops ["self", "flag"] (spStops ad) := by
  refine T.F_Guard_stops.okX sc_Guard_stops (fun vs H Q E h => ?_) (fun cdv A outer s H vs Q E hr h => ?_)
  · obtain ⟨g, dx, m, a, b, k, e, v, rfl, _⟩ := h
    rfl
  obtain ⟨g, dx, m, a, b, kk, e, v, rfl, hg, hv, kE, kS⟩ := h
  refine ⟨_, (pss_one (ps_ret (pe_cmpR op_ne (pe_meth (pv 0) T.ow_Guard.cl T.me_Guard_treats (ok_Guard_treats T) hr T.b_Guard_treats .nil (passes_call (takes_of rfl rfl rfl rfl) (fun _ _ _ _ h => h)) (pa_cons (pe_tup (pa_cons (pv 1) pa_nil)) pa_nil)) pe_str (nomark _)))), ?_⟩
  rw [show L2.start ["self", "flag"] [V.ref g, v] = [some (V.ref g), some (v)] from rfl]
  walk_at "w_go"
  rename_i t H1 n1 s1 e1
  refine ⟨g, dx, t, m, a, b, kk, e, [v], rfl, s1 _ _ hg, .inr (SqT.of e1), by simp, ?_, ?_, ?_⟩
  · intro x hx
    simp only [List.mem_cons, List.not_mem_nil, or_false] at hx
    subst hx
    exact hv.same s1
  · intro x hx d H' s' n' e'
    unfold firstBad at hx
    cases hb : okv v FLAGSl with
    | true => simp [List.find?_cons, hb] at hx
    | false =>
      simp [List.find?_cons, hb] at hx
      subst hx
      exact kE hb d H' (s1.trans s') (s1.free n') e'
  · intro ss hs hb H' s'
    have hok : okv v FLAGSl = true := by
      cases h : okv v FLAGSl with
      | true => rfl
      | false =>
        unfold firstBad at hb
        simp [List.find?_cons, h] at hb
    match ss, hs with
    | [x], hs =>
      cases hs
      walk_at "w_go"
      exact kS x rfl hok H' (s1.trans s')
theorem ok_l_result (T : Txt P K mg ad) : FnOk P w K mg base (L2.CX P w) 2 ad.l_result ad.fd_l_result ["_law_five", "_law_here", "_law_left", "_law_twin_here", "_law_twin_left"] spRes := by
  refine T.F_l_result.okX sc_l_result (fun vs H Q E h => ?_) (fun cdv A outer s H vs Q E hr h => ?_)
  · obtain ⟨q, m, a, b, k, e, h, l, th, tl, rfl, _⟩ := h
    rfl
  obtain ⟨q, m, a, b, kk, e, h, l, th, tl, rfl, hq, k⟩ := h
  refine ⟨_, (pss_cons (ps_asg (pv 0) (pg_lst rfl (pgs_cons (pg_name (i := 5) sc_l_result.nd rfl (Or.inl rfl)) (pgs_cons (pg_name (i := 6) sc_l_result.nd rfl (Or.inl rfl)) (pgs_cons (pg_name (i := 7) sc_l_result.nd rfl (Or.inl rfl)) (pgs_cons (pg_name (i := 8) sc_l_result.nd rfl (Or.inl rfl)) (pgs_cons (pg_name (i := 9) sc_l_result.nd rfl (Or.inl rfl)) pgs_nil)))))))
    (pss_cons (ps_set (i := 10) sc_l_result.nd rfl (Or.inl rfl) (pe_or (pv 1) (pe_one (pe_and (pe_cmpR op_eq (pv 7) pe_str (nomark _)) (pe_one (pv 3))))))
    (pss_cons (ps_set (i := 11) sc_l_result.nd rfl (Or.inl rfl) (pe_or (pv 2) (pe_one (pe_and (pe_cmpR op_eq (pv 7) pe_str (nomark _)) (pe_one (pv 4))))))
    (pss_cons (ps_if (PW.pt (pw_and (pt_cmpR op_ne (pv 5) pe_str (nomark _)) (pw_and1 (PW.pt (pw_or (pt_val (pv 10)) (pw_or1 (PW.pt (pw_and (pt_cmpR op_eq (pv 5) pe_str (nomark _)) (pw_and1 (pt_val (pv 11))))))))))) (pss_one (ps_ret (pv 6))) pss_nil)
    (pss_cons (ps_set (i := 12) sc_l_result.nd rfl (Or.inl rfl) (pe_or (pv 1) (pe_one (pe_and (pe_cmpR op_eq (pv 9) pe_str (nomark _)) (pe_one (pv 3))))))
    (pss_cons (ps_set (i := 13) sc_l_result.nd rfl (Or.inl rfl) (pe_or (pv 2) (pe_one (pe_and (pe_cmpR op_eq (pv 9) pe_str (nomark _)) (pe_one (pv 4))))))
    (pss_cons (ps_if (PW.pt (pw_and (pt_cmpR op_eq (pv 8) pe_str (nomark _)) (pw_and1 (pt_val (pv 12))))) (pss_one (ps_ret pe_str)) pss_nil)
    (pss_cons (ps_if (PW.pt (pw_and (pt_cmpR op_ne (pv 8) pe_str (nomark _)) (pw_and1 (pt_val (pv 13))))) (pss_one (ps_ret pe_str)) pss_nil)
    (pss_one (ps_ret pe_str)))))))))), ?_⟩
  rw [show L2.start ["_law_five", "_law_here", "_law_left", "_law_twin_here", "_law_twin_left", "_law_mark", "_law_deed", "_law_equal", "_law_storing", "_law_keep_equal", "_law_on_way", "_law_gone", "_law_begun", "_law_finished"] [V.ref q, V.bl h, V.bl l, V.bl th, V.bl tl] = [some (V.ref q), some (V.bl h), some (V.bl l), some (V.bl th), some (V.bl tl), none, none, none, none, none, none, none, none, none] from rfl]
  have fin : ∀ {x : Str}, x = resL m a b kk e h l th tl → Q (.str x) H := fun z => z ▸ k
  clear k
  walk_at "w_gp"
  refine r_orV2 (c := h) (d := decide (b = "equal") && th) (fun R h => ?_) (fun R h => ?_) ?_
  · walk_at "w_gp"
    exact h
  · refine r_andV2 (c := decide (b = "equal")) (d := th) (fun R h => ?_) (fun R h => ?_) h
    · walk_at "w_gp"
      exact h
    · walk_at "w_gp"
      exact h
  walk_at "w_gp"
  refine r_orV2 (c := l) (d := decide (b = "equal") && tl) (fun R h => ?_) (fun R h => ?_) ?_
  · walk_at "w_gp"
    exact h
  · refine r_andV2 (c := decide (b = "equal")) (d := tl) (fun R h => ?_) (fun R h => ?_) h
    · walk_at "w_gp"
      exact h
    · walk_at "w_gp"
      exact h
  walk_at "w_gp"
  refine r_and2 (c := !decide (m = "none")) (d := (h || (decide (b = "equal") && th)) || (decide (m = "lasting") && (l || (decide (b = "equal") && tl)))) (fun R h => ?_) (fun R h => ?_) ?_
  · walk_at "w_gp"
    exact h
  · refine r_or2 (c := _) (d := decide (m = "lasting") && (l || (decide (b = "equal") && tl))) (fun R h => ?_) (fun R h => ?_) h
    · walk_at "w_gp"
      exact h
    · refine r_and2 (c := decide (m = "lasting")) (d := _) (fun R h => ?_) (fun R h => ?_) h
      · walk_at "w_gp"
        exact h
      · walk_at "w_gp"
        exact h
  refine ite_and (fun h1 => ?_) (fun h1 => ?_)
  · walk_at "w_gp"
    refine fin ?_
    unfold resL
    rw [if_pos h1]
  walk_at "w_gp"
  refine r_orV2 (c := h) (d := decide (e = "equal") && th) (fun R h => ?_) (fun R h => ?_) ?_
  · walk_at "w_gp"
    exact h
  · refine r_andV2 (c := decide (e = "equal")) (d := th) (fun R h => ?_) (fun R h => ?_) h
    · walk_at "w_gp"
      exact h
    · walk_at "w_gp"
      exact h
  walk_at "w_gp"
  refine r_orV2 (c := l) (d := decide (e = "equal") && tl) (fun R h => ?_) (fun R h => ?_) ?_
  · walk_at "w_gp"
    exact h
  · refine r_andV2 (c := decide (e = "equal")) (d := tl) (fun R h => ?_) (fun R h => ?_) h
    · walk_at "w_gp"
      exact h
    · walk_at "w_gp"
      exact h
  walk_at "w_gp"
  refine r_and2 (c := decide (kk = "ahead")) (d := h || (decide (e = "equal") && th)) (fun R h => ?_) (fun R h => ?_) ?_
  · walk_at "w_gp"
    exact h
  · walk_at "w_gp"
    exact h
  refine ite_and (fun h2 => ?_) (fun h2 => ?_)
  · walk_at "w_gp"
    refine fin ?_
    unfold resL
    rw [if_neg (by rw [h1]; simp), if_pos h2]
  walk_at "w_gp"
  refine r_and2 (c := !decide (kk = "none")) (d := l || (decide (e = "equal") && tl)) (fun R h => ?_) (fun R h => ?_) ?_
  · walk_at "w_gp"
    exact h
  · walk_at "w_gp"
    exact h
  refine ite_and (fun h3 => ?_) (fun h3 => ?_)
  · walk_at "w_gp"
    refine fin ?_
    unfold resL
    rw [if_neg (by rw [h1]; simp), if_neg (by rw [h2]; simp), if_pos h3]
  · walk_at "w_gp"
    refine fin ?_
    unfold resL
    rw [if_neg (by rw [h1]; simp), if_neg (by rw [h2]; simp), if_neg (by rw [h3]; simp)]
end
end Wm
namespace Wm
open PySem L2

section
variable {P : Program} {w : World} {K : PySem.W.Frag} {mg : Str → Option Value} {base : Heap} {ad : Ad}
theorem ok_l_treats (T : Txt P K mg ad) : FnOk P w K mg base (L2.CX P w) 4 ad.l_treats ad.fd_l_treats ["_law_guard", "_law_flags"] (spAsk ad) := by
  refine T.F_l_treats.okX sc_l_treats (fun vs H Q E h => ?_) (fun cdv A outer s H vs Q E hr h => ?_)
  · obtain ⟨g, dx, q, m, a, b, k, e, fl, rfl, _⟩ := h
    rfl
  obtain ⟨g, dx, q, m, a, b, kk, e, fl, rfl, hg, hq, hl, hany, kE, kS⟩ := h
  refine ⟨_, (pss_one (ps_try_as (i := 2) rfl rfl sc_l_treats.nd rfl rfl ⟨rfl, by decide, .inl T.g_NoFlag⟩ takes0 (fun W pn xe tk pown => (pss_one (ps_ret (pe_methT (pv 0) T.ow_Guard.cl T.me_Guard_treats ((ok_Guard_treats T).raw T.b_Guard_treats .nil) hr (fun σ => passAt tk σ) (pa_cons (pe_callTy (c_tuple : CallR _ (.type "tuple") (rTupOf K)) (by rfl) T.n_tuple (by decide +kernel) (pa_cons (pv 1) pa_nil)) pa_nil))))) (fun a oe cls d pn hz hf => (pss_one (ps_ret (pe_lst (pa_cons pe_str (pa_cons (pe_xf T.xf_NoFlag T.no_NoFlag_flag hz hf (pv 2)) pa_nil)))))))), ?_⟩
  rw [show L2.start ["_law_guard", "_law_flags", "e"] [V.ref g, V.ref q] = [some (V.ref g), some (V.ref q), none] from rfl]
  walk_at "w_go"
  refine r_tupL (SqL.of hq) (fun t nt => ?_)
  have st := same_new (o := HO.tup fl) nt
  have et : upd H t (.tup fl) t = some (.tup fl) := upd_same
  generalize upd H t (.tup fl) = H1 at st et ⊢
  walk_at "w_go"
  refine ⟨g, dx, t, m, a, b, kk, e, fl, rfl, st _ _ hg, .inr (SqT.of et), hl, fun v hv => (hany v hv).same st, fun v hv d H' s n ed => ?_, fun ss hs hb H' s => ?_⟩
  · refine ⟨true, T.te_NoFlag, fun _ e1 ne1 => ?_, fun z => by cases z⟩
    walk_at "w_go"
    rename_i r H3 nr sr er
    exact kE v hv r H3 ((st.trans s).trans sr) (st.free (s.free nr)) er
  · walk_at "w_go"
    exact kS ss hs hb H' (st.trans s)
theorem ok_l_given (T : Txt P K mg ad) : FnOk P w K mg base (L2.CX P w) 5 ad.l_given ad.fd_l_given ["_law_guard", "_law_flags"] (spAsk ad) := by
  refine T.F_l_given.okX sc_l_given (fun vs H Q E h => ?_) (fun cdv A outer s H vs Q E hr h => ?_)
  · obtain ⟨g, dx, q, m, a, b, k, e, fl, rfl, _⟩ := h
    rfl
  obtain ⟨g, dx, q, m, a, b, kk, e, fl, rfl, hg, hq, hl, hany, kE, kS⟩ := h
  refine ⟨_, (pss_one (ps_try_as (i := 2) rfl rfl sc_l_given.nd rfl rfl ⟨rfl, by decide, .inl T.g_NoFlag⟩ takes0 (fun W pn xe tk pown => (pss_cons (ps_if (pt_cmpR op_eq (pe_callB (c_len : CallR _ (.builtin "len") (rLen K)) (by rfl) T.n_len PySem.boot_len (pa_cons (pv 1) pa_nil)) pe_int (nomark _)) (pss_one (ps_ret (pe_methT0 (pv 0) T.ow_Guard.cl T.me_Guard_given (ok_Guard_given T) hr (fun σ => passAt tk σ)))) pss_nil)
    (pss_cons (ps_if (pt_cmpR op_eq (pe_callB (c_len : CallR _ (.builtin "len") (rLen K)) (by rfl) T.n_len PySem.boot_len (pa_cons (pv 1) pa_nil)) pe_int (nomark _)) (pss_one (ps_ret (pe_methT (pv 0) T.ow_Guard.cl T.me_Guard_given (ok_Guard_given T) hr (fun σ => passAt tk σ) (pa_cons (pe_ix (ix_list : IxR _ (rIxL K)) (pv 1) pe_int (fun _ _ => rfl)) pa_nil)))) pss_nil)
    (pss_cons (ps_if (pt_cmpR op_eq (pe_callB (c_len : CallR _ (.builtin "len") (rLen K)) (by rfl) T.n_len PySem.boot_len (pa_cons (pv 1) pa_nil)) pe_int (nomark _)) (pss_one (ps_ret (pe_methT (pv 0) T.ow_Guard.cl T.me_Guard_given (ok_Guard_given T) hr (fun σ => passAt tk σ) (pa_cons (pe_ix (ix_list : IxR _ (rIxL K)) (pv 1) pe_int (fun _ _ => rfl)) (pa_cons (pe_ix (ix_list : IxR _ (rIxL K)) (pv 1) pe_int (fun _ _ => rfl)) pa_nil))))) pss_nil)
    (pss_cons (ps_if (pt_cmpR op_eq (pe_callB (c_len : CallR _ (.builtin "len") (rLen K)) (by rfl) T.n_len PySem.boot_len (pa_cons (pv 1) pa_nil)) pe_int (nomark _)) (pss_one (ps_ret (pe_methT (pv 0) T.ow_Guard.cl T.me_Guard_given (ok_Guard_given T) hr (fun σ => passAt tk σ) (pa_cons (pe_ix (ix_list : IxR _ (rIxL K)) (pv 1) pe_int (fun _ _ => rfl)) (pa_cons (pe_ix (ix_list : IxR _ (rIxL K)) (pv 1) pe_int (fun _ _ => rfl)) (pa_cons (pe_ix (ix_list : IxR _ (rIxL K)) (pv 1) pe_int (fun _ _ => rfl)) pa_nil)))))) pss_nil)
    (pss_one (ps_ret (pe_methT (pv 0) T.ow_Guard.cl T.me_Guard_treats ((ok_Guard_treats T).raw T.b_Guard_treats .nil) (hr.mono (by decide)) (fun σ => passAt tk σ) (pa_cons (pv 1) pa_nil))))))))) (fun a oe cls d pn hz hf => (pss_one (ps_ret (pe_lst (pa_cons pe_str (pa_cons (pe_xf T.xf_NoFlag T.no_NoFlag_flag hz hf (pv 2)) pa_nil)))))))), ?_⟩
  rw [show L2.start ["_law_guard", "_law_flags", "e"] [V.ref g, V.ref q] = [some (V.ref g), some (V.ref q), none] from rfl]
  have mk : ∀ (Q' : VK) (E' : XK), (∀ d v H', Same H H' → H d = none → H' d = some (.xd [("flag", v)]) → (∀ r H'', Same H H'' → H r = none → H'' r = some (.lst [.str "none", v]) → Q (.ref r) H'') → E' (.ref ad.NoFlag) (some d) H') →
      (∀ x H', Same H H' → Q (.str x) H' → Q' (.str x) H') → Told ad H Q' E' m a b kk e fl := fun Q' E' h1 h2 =>
    ⟨hl, hany, fun v hv d H' s n ed => h1 d v H' s n ed (kE v hv), fun ss hs hb H' s => h2 _ H' s (kS ss hs hb H' s)⟩
  clear kE kS
  match fl, hq, hl, hany, mk with
  | [], hq, hl, hany, mk =>
    walk_at "w_go"
    refine ite_eqT rfl ?_
    walk_at "w_go"
    refine ⟨g, dx, m, a, b, kk, e, [], rfl, hg, mk _ _ (fun d v H' s n ed kq => ?_) (fun x H' s q => ?_)⟩
    · refine ⟨true, T.te_NoFlag, fun _ e1 ne1 => ?_, fun z => by cases z⟩
      walk_at "w_go"
      rename_i r H3 nr sr er
      exact kq r H3 (s.trans sr) (s.free nr) er
    · walk_at "w_go"
      exact q
  | [x0], hq, hl, hany, mk =>
    walk_at "w_go"
    refine ite_eqF (by simp) ?_
    walk_at "w_go"
    refine ite_eqT rfl ?_
    walk_at "w_go"
    refine ⟨g, dx, m, a, b, kk, e, [x0], rfl, hg, mk _ _ (fun d v H' s n ed kq => ?_) (fun x H' s q => ?_)⟩
    · refine ⟨true, T.te_NoFlag, fun _ e1 ne1 => ?_, fun z => by cases z⟩
      walk_at "w_go"
      rename_i r H3 nr sr er
      exact kq r H3 (s.trans sr) (s.free nr) er
    · walk_at "w_go"
      exact q
  | [x0, x1], hq, hl, hany, mk =>
    walk_at "w_go"
    refine ite_eqF (by simp) ?_
    walk_at "w_go"
    refine ite_eqF (by simp) ?_
    walk_at "w_go"
    refine ite_eqT rfl ?_
    walk_at "w_go"
    refine ⟨g, dx, m, a, b, kk, e, [x0, x1], rfl, hg, mk _ _ (fun d v H' s n ed kq => ?_) (fun x H' s q => ?_)⟩
    · refine ⟨true, T.te_NoFlag, fun _ e1 ne1 => ?_, fun z => by cases z⟩
      walk_at "w_go"
      rename_i r H3 nr sr er
      exact kq r H3 (s.trans sr) (s.free nr) er
    · walk_at "w_go"
      exact q
  | [x0, x1, x2], hq, hl, hany, mk =>
    walk_at "w_go"
    refine ite_eqF (by simp) ?_
    walk_at "w_go"
    refine ite_eqF (by simp) ?_
    walk_at "w_go"
    refine ite_eqF (by simp) ?_
    walk_at "w_go"
    refine ite_eqT rfl ?_
    walk_at "w_go"
    refine ⟨g, dx, m, a, b, kk, e, [x0, x1, x2], rfl, hg, mk _ _ (fun d v H' s n ed kq => ?_) (fun x H' s q => ?_)⟩
    · refine ⟨true, T.te_NoFlag, fun _ e1 ne1 => ?_, fun z => by cases z⟩
      walk_at "w_go"
      rename_i r H3 nr sr er
      exact kq r H3 (s.trans sr) (s.free nr) er
    · walk_at "w_go"
      exact q
  | x0 :: x1 :: x2 :: x3 :: rr, hq, hl, hany, mk =>
    walk_at "w_go"
    refine ite_eqF (by simp only [List.length_cons]; omega) ?_
    walk_at "w_go"
    refine ite_eqF (by simp only [List.length_cons]; omega) ?_
    walk_at "w_go"
    refine ite_eqF (by simp only [List.length_cons]; omega) ?_
    walk_at "w_go"
    refine ite_eqF (by simp only [List.length_cons]; omega) ?_
    walk_at "w_go"
    refine Told.treats (mk _ _ (fun d v H' s n ed kq => ?_) (fun x H' s q => ?_)) hg (.inl (SqL.of hq))
    · refine ⟨true, T.te_NoFlag, fun _ e1 ne1 => ?_, fun z => by cases z⟩
      walk_at "w_go"
      rename_i r H3 nr sr er
      exact kq r H3 (s.trans sr) (s.free nr) er
    · walk_at "w_go"
      exact q
end
end Wm
namespace Wm
open PySem L2

section
variable {P : Program} {w : World} {K : PySem.W.Frag} {mg : Str → Option Value} {base : Heap} {ad : Ad}
theorem ok_l_mingled (T : Txt P K mg ad) : FnOk P w K mg base (L2.CX P w) 3 ad.l_mingled ad.fd_l_mingled ["_law_pen_here", "_law_flags"] spMing := by
  refine T.F_l_mingled.okX sc_l_mingled (fun vs H Q E h => ?_) (fun cdv A outer s H vs Q E hr h => ?_)
  · obtain ⟨p, c, q, fl, rfl, _⟩ := h
    rfl
  obtain ⟨p, c, q, fl, rfl, hp, hq, hl, k⟩ := h
  refine ⟨_, (pss_cons (ps_set (i := 2) sc_l_mingled.nd rfl (Or.inl rfl) (pe_callTy c_list (by rfl) T.n_list (by decide +kernel) (pa_cons (pv 1) pa_nil)))
    (pss_cons (ps_for (passes_of rfl) rfl (pi_range1 rfl T.n_range (pa_cons (pe_call (ok_l_take T) hr rfl T.g_l_take T.F_l_take.kp T.b_l_take .nil passL (pa_cons (pv 0) (pa_cons pe_int pa_nil))) pa_nil)) (pg_name (i := 3) sc_l_mingled.nd rfl (Or.inl rfl)) (pss_one (ps_if (pt_cmpR op_gt (pe_callB c_len (by rfl) T.n_len PySem.boot_len (pa_cons (pv 1) pa_nil)) pe_int (nomark _)) (pss_one (ps_expr (pe_bm PySem.F.plainAttrs_list PySem.F.slot_list_insert PySem.F.type_list_insert mtInsert (pv 2) (pa_cons (pe_call (ok_l_take T) hr rfl T.g_l_take T.F_l_take.kp T.b_l_take .nil passL (pa_cons (pv 0) (pa_cons (pe_op op_add (pe_callB c_len (by rfl) T.n_len PySem.boot_len (pa_cons (pv 2) pa_nil)) pe_int) pa_nil))) (pa_cons (pe_ix ix_list (pv 1) (pe_call (ok_l_take T) hr rfl T.g_l_take T.F_l_take.kp T.b_l_take .nil passL (pa_cons (pv 0) (pa_cons (pe_callB c_len (by rfl) T.n_len PySem.boot_len (pa_cons (pv 1) pa_nil)) pa_nil))) (fun _ _ => rfl)) pa_nil))))) pss_nil)))
    (pss_one (ps_ret (pv 2))))), ?_⟩
  rw [show L2.start ["_law_pen_here", "_law_flags", "_law_found", "_law_turn"] [V.ref p, V.ref q] = [some (V.ref p), some (V.ref q), none, none] from rfl]
  walk_at "w_go"
  rename_i r H1 n1 s1 e1
  refine r_take (by walk_at "w_pen") (by decide) (by decide) (fun z H2 z0 z1 st => ?_)
  walk_at "w_go"
  have f1 : H2 q = some (.lst fl) := by walk_at "w_hp"
  have f2 : H2 r = some (.lst fl) := by walk_at "w_hp"
  have f3 : PenStep p c H H2 := by walk_at "w_step"
  have nq : q ≠ r := ne_of_none hq n1
  have np : p ≠ r ∧ c ≠ r := hp.ne_new n1
  clear st s1 e1
  refine r_rngK (by omega) (by omega) (for_range (lo := 0) (n := z.toNat) (fun i σ H' => (∃ u, σ = [some (.ref p), some (.ref q), some (.ref r), u]) ∧ PenStep p c H H' ∧ H' q = some (.lst fl) ∧ ∃ gl, H' r = some (.lst gl) ∧ gl.length ≤ fl.length + i ∧ fl.length ≤ gl.length ∧ ∀ x, x ∈ gl ↔ x ∈ fl) ⟨⟨_, rfl⟩, f3, f1, fl, f2, Nat.le_refl _, Nat.le_refl _, fun x => Iff.rfl⟩ ?_ ?_)
  · rintro i σ H' hi ⟨⟨u, rfl⟩, st, hq', gl, hr', hg, hg2, hm⟩
    have hp' : PenAt H' p c := st.pen
    have keep : True → PenStep p c H H' := fun _ => st
    clear st
    have hsz : gl.length < sizeLine := by
      rw [PySem.sizeLine_eq]
      omega
    walk_at "w_go"
    have hb1 : (fl.length : Int) < 2 ^ 100 := by omega
    have hb2 : (gl.length : Int) + 1 < 2 ^ 100 := by omega
    walk_at "w_br"
    · rename_i hpos
      walk_at "w_go"
      refine r_take (by walk_at "w_pen") (by omega) hb2 (fun z1 H3 a0 a1 sa => ?_)
      walk_at "w_go"
      refine r_take (by walk_at "w_pen") hpos hb1 (fun z2 H4 b0 b1 sb => ?_)
      walk_at "w_go"
      refine r_anyIx (by walk_at "w_hp") b0 b1 (by rfl) (fun y hy => ?_)
      walk_at "w_go"
      have hr4 : H4 r = some (.lst gl) := by walk_at "w_hp"
      refine r_insert hr4 hsz a0 (by omega) ?_
      walk_at "w_go"
      refine ⟨⟨_, rfl⟩, (((keep trivial).trans sa).trans sb).put hp n1, by walk_at "w_hp", _, upd_same, ?_, ?_, fun x => ?_⟩
      · rw [len_ins]
        omega
      · rw [len_ins]
        omega
      · rw [mem_ins, hm]
        exact ⟨fun h => h.elim id (fun h => h ▸ hy), .inl⟩
    · rename_i hpos
      walk_at "w_go"
      exact ⟨⟨_, rfl⟩, keep trivial, hq', gl, hr', by omega, hg2, hm⟩
  · rintro σ H' ⟨⟨u, rfl⟩, st, hq', gl, hr', hg, hg2, hm⟩
    walk_at "w_go"
    exact k r H' gl st n1 hr' (by omega) hm
theorem ok_l_stops_refused (T : Txt P K mg ad) : FnOk P w K mg base (L2.CX P w) 5 ad.l_stops_refused ad.fd_l_stops_refused ["_law_guard", "_law_flag"] (spRef K ad) := by
  refine T.F_l_stops_refused.okX sc_l_stops_refused (fun vs H Q E h => ?_) (fun cdv A outer s H vs Q E hr h => ?_)
  · obtain ⟨g, dx, m, a, b, k, e, v, rfl, _⟩ := h
    rfl
  obtain ⟨g, dx, m, a, b, kk, e, v, rfl, hg, hv, hs, k⟩ := h
  refine ⟨_, (pss_cons (ps_try_as (i := 2) rfl rfl sc_l_stops_refused.nd rfl rfl ⟨rfl, by decide, .inl T.g_NoFlag⟩ takes0 (fun W pn xe tk pown => (pss_one (ps_expr (pe_methT (pv 0) T.ow_Guard.cl T.me_Guard_stops ((ok_Guard_stops T).raw T.b_Guard_stops .nil) hr (fun σ => passAt tk σ) (pa_cons (pv 1) pa_nil))))) (fun a oe cls d pn hz hf => (pss_one (ps_ret (pe_cmpR (op_or (op_eqP hr.units) (op_eqV hr.units) : OpR _ _ (rOr (rEqP K) (rEqV K))) (pe_xf T.xf_NoFlag T.no_NoFlag_flag hz hf (pv 2)) (pv 1) (nomark _))))))
    (pss_one (ps_ret pe_bl))), ?_⟩
  rw [show L2.start ["_law_guard", "_law_flag", "e"] [V.ref g, v] = [some (V.ref g), some (v), none] from rfl]
  walk_at "w_go"
  refine ⟨g, dx, m, a, b, kk, e, v, rfl, hg, hv, fun hb d H' s n ed => ?_, fun x hx hok H' s => ?_⟩
  · refine ⟨true, T.te_NoFlag, fun _ e1 ne1 => ?_, fun z => by cases z⟩
    walk_at "w_go"
    refine hs.eq s ?_
    walk_at "w_go"
    have := k H' s
    rw [hb] at this
    exact this
  · walk_at "w_go"
    have := k H' s
    rw [hok] at this
    exact this
end
end Wm
namespace Wm
open PySem L2

def fAlone (m a b k e : Str) : V → V
  | .int i => .str (resL m a b k e (decide (i = 0)) (decide (i = 1)) (decide (i = 2)) (decide (i = 3)))
  | _ => .non
def pBits (b0 b1 b2 b3 : Bool) : V → Bool
  | .int i => if i = 0 then b0 else if i = 1 then b1 else if i = 2 then b2 else b3
  | _ => false
def fWord : V → V
  | .int i => .str (if i = 0 then "here" else if i = 1 then "left" else if i = 2 then "twin here" else "twin left")
  | _ => .non
theorem alone_is {m a b k e : Str} : ((vInts 0 4).filter fun _ => true).map (fAlone m a b k e) = [.str (resL m a b k e true false false false), .str (resL m a b k e false true false false), .str (resL m a b k e false false true false), .str (resL m a b k e false false false true)] := by
  rw [filt_true]
  rfl
theorem words_are {b0 b1 b2 b3 : Bool} : ((vInts 0 4).filter (pBits b0 b1 b2 b3)).map fWord = (sel b0 b1 b2 b3).map V.str := by
  cases b0 <;> cases b1 <;> cases b2 <;> cases b3 <;> rfl
theorem picked_are {m a b k e : Str} {b0 b1 b2 b3 : Bool} : ((vInts 0 4).filter (pBits b0 b1 b2 b3)).map (fAlone m a b k e) = (selR m a b k e b0 b1 b2 b3).map V.str := by
  cases b0 <;> cases b1 <;> cases b2 <;> cases b3 <;> rfl
section
variable {P : Program} {w : World} {K : PySem.W.Frag} {mg : Str → Option Value} {base : Heap} {ad : Ad}
theorem ok_l_all_sets (T : Txt P K mg ad) : FnOk P w K mg base (L2.CX P w) 6 ad.l_all_sets ad.fd_l_all_sets ["_law_pen_here", "_law_guard", "_law_five"] (spSets ad) := by
  refine T.F_l_all_sets.okX sc_l_all_sets (fun vs H Q E h => ?_) (fun cdv A outer s H vs Q E hr h => ?_)
  · obtain ⟨p, c, g, dx, q, m, a, b, k, e, rfl, _⟩ := h
    rfl
  obtain ⟨p, c, g, dx, q, m, a, b, kk, e, rfl, hp, hg, hq, k⟩ := h
  refine ⟨_, (pss_cons (ps_set (i := 3) sc_l_all_sets.nd rfl (Or.inr rfl) (pe_lst (pa_cons pe_str (pa_cons pe_str (pa_cons pe_str (pa_cons pe_str pa_nil))))))
    (pss_cons (ps_set (i := 4) sc_l_all_sets.nd rfl (Or.inr rfl) (pe_lc (own := [("_law_k", 5)]) (g := gName 5) (tt := tYes) rfl sc_l_all_sets.nd (pi_range1 rfl T.n_range (pa_cons pe_int pa_nil)) (blkOk_by (own := [("_law_k", 5)]) (N := ["_law_pen_here", "_law_guard", "_law_five", "_law_words", "_law_alone", "_law_k", "_law_number", "_law_bits", "_law_due", "_law_flags", "_law_told"]) (sc := defScope s_l_all_sets) (by decide +kernel)) (fun _ _ _ _ _ => pg_name (i := 5) sc_l_all_sets.nd rfl (Or.inl rfl)) (fun _ _ _ _ _ => pts_nil) (fun _ _ _ _ _ => (pe_call (ok_l_result T) (hr.mono (by decide)) rfl T.g_l_result T.F_l_result.kp T.b_l_result .nil passL (pa_cons (pv 2) (pa_cons (pe_cmpR op_eq (pv 5) pe_int (nomark _)) (pa_cons (pe_cmpR op_eq (pv 5) pe_int (nomark _)) (pa_cons (pe_cmpR op_eq (pv 5) pe_int (nomark _)) (pa_cons (pe_cmpR op_eq (pv 5) pe_int (nomark _)) pa_nil)))))))))
    (pss_cons (ps_for (passes_of rfl) rfl (pi_range1 rfl T.n_range (pa_cons pe_int pa_nil)) (pg_name (i := 6) sc_l_all_sets.nd rfl (Or.inl rfl)) (pss_cons (ps_set (i := 7) sc_l_all_sets.nd rfl (Or.inr rfl) (pe_lst (pa_cons (pe_cmpR op_eq (pe_op op_mod (pv 6) pe_int) pe_int (nomark _)) (pa_cons (pe_cmpR op_eq (pe_op op_mod (pe_op op_fdiv (pv 6) pe_int) pe_int) pe_int (nomark _)) (pa_cons (pe_cmpR op_eq (pe_op op_mod (pe_op op_fdiv (pv 6) pe_int) pe_int) pe_int (nomark _)) (pa_cons (pe_cmpR op_eq (pe_op op_mod (pe_op op_fdiv (pv 6) pe_int) pe_int) pe_int (nomark _)) pa_nil))))))
    (pss_cons (ps_set (i := 8) sc_l_all_sets.nd rfl (Or.inl rfl) (pe_call (ok_l_result T) (hr.mono (by decide)) rfl T.g_l_result T.F_l_result.kp T.b_l_result .nil passL (pa_cons (pv 2) (pa_cons (pe_ix ix_list (pv 7) pe_int (fun _ _ => rfl)) (pa_cons (pe_ix ix_list (pv 7) pe_int (fun _ _ => rfl)) (pa_cons (pe_ix ix_list (pv 7) pe_int (fun _ _ => rfl)) (pa_cons (pe_ix ix_list (pv 7) pe_int (fun _ _ => rfl)) pa_nil)))))))
    (pss_cons (ps_set (i := 9) sc_l_all_sets.nd rfl (Or.inl rfl) (pe_call (ok_l_mingled T) (hr.mono (by decide)) rfl T.g_l_mingled T.F_l_mingled.kp T.b_l_mingled .nil passL (pa_cons (pv 0) (pa_cons (pe_lc (own := [("_law_k", 5)]) (g := gName 5) rfl sc_l_all_sets.nd (pi_range1 rfl T.n_range (pa_cons pe_int pa_nil)) (blkOk_by (own := [("_law_k", 5)]) (N := ["_law_pen_here", "_law_guard", "_law_five", "_law_words", "_law_alone", "_law_k", "_law_number", "_law_bits", "_law_due", "_law_flags", "_law_told"]) (sc := defScope s_l_all_sets) (by decide +kernel)) (fun _ _ _ _ _ => pg_name (i := 5) sc_l_all_sets.nd rfl (Or.inl rfl)) (fun _ _ _ _ _ => (pts_one (pt_val (pe_ix (ix_list : IxR _ (rIxL K)) (pv 7) (pv 5) (fun _ _ => rfl))))) (fun _ _ _ _ _ => (pe_ix (ix_list : IxR _ (rIxL K)) (pv 3) (pv 5) (fun _ _ => rfl)))) pa_nil))))
    (pss_cons (ps_if (PW.pt (pw_or (pt_cmpR (op_neP hr.units) (pe_call (ok_l_given T) hr rfl T.g_l_given T.F_l_given.kp T.b_l_given .nil passL (pa_cons (pv 1) (pa_cons (pv 9) pa_nil))) (pv 8) (nomark _)) (pw_or1 (pt_cmpR (op_neP hr.units) (pe_call (ok_l_treats T) (hr.mono (by decide)) rfl T.g_l_treats T.F_l_treats.kp T.b_l_treats .nil passL (pa_cons (pv 1) (pa_cons (pv 9) pa_nil))) (pv 8) (nomark _))))) (pss_one (ps_ret pe_bl)) pss_nil)
    (pss_one (ps_if (PW.pt (pw_and (pt_cmpR op_ne (pv 8) pe_str (nomark _)) (pw_and1 (pt_cmpR op_notIn_seq (pv 8) (pe_lc (own := [("_law_k", 5)]) (g := gName 5) rfl sc_l_all_sets.nd (pi_range1 rfl T.n_range (pa_cons pe_int pa_nil)) (blkOk_by (own := [("_law_k", 5)]) (N := ["_law_pen_here", "_law_guard", "_law_five", "_law_words", "_law_alone", "_law_k", "_law_number", "_law_bits", "_law_due", "_law_flags", "_law_told"]) (sc := defScope s_l_all_sets) (by decide +kernel)) (fun _ _ _ _ _ => pg_name (i := 5) sc_l_all_sets.nd rfl (Or.inl rfl)) (fun _ _ _ _ _ => (pts_one (pt_val (pe_ix (ix_list : IxR _ (rIxL K)) (pv 7) (pv 5) (fun _ _ => rfl))))) (fun _ _ _ _ _ => (pe_ix (ix_list : IxR _ (rIxL K)) (pv 4) (pv 5) (fun _ _ => rfl)))) (by rfl))))) (pss_one (ps_ret pe_bl)) pss_nil)))))))
    (pss_cons (ps_for (passes_of rfl) rfl (pi_range1 rfl T.n_range (pa_cons pe_int pa_nil)) (pg_name (i := 5) sc_l_all_sets.nd rfl (Or.inl rfl)) (pss_cons (ps_set (i := 10) sc_l_all_sets.nd rfl (Or.inl rfl) (pe_meth (pv 1) T.ow_Guard.cl T.me_Guard_stops (ok_Guard_stops T) (hr.mono (by decide)) T.b_Guard_stops .nil (passes_call (takes_of rfl rfl rfl rfl) (fun _ _ _ _ h => h)) (pa_cons (pe_ix ix_list (pv 3) (pv 5) (fun _ _ => rfl)) pa_nil)))
    (pss_one (ps_if (PW.pt (pw_or (pt_not (pt_val (pe_callB call_isi (by rfl) T.n_isinstance (by decide +kernel) (pa_cons (pv 10) (pa_cons (pe_bltn (v := .ty "bool") (by rfl) T.n_bool (by decide +kernel) rfl) pa_nil))))) (pw_or1 (pt_cmpR op_ne (pv 10) (pe_cmpR op_ne (pe_ix ix_list (pv 4) (pv 5) (fun _ _ => rfl)) pe_str (nomark _)) (nomark _))))) (pss_one (ps_ret pe_bl)) pss_nil))))
    (pss_one (ps_ret pe_bl)))))), ?_⟩
  rw [show L2.start ["_law_pen_here", "_law_guard", "_law_five", "_law_words", "_law_alone", "_law_k", "_law_number", "_law_bits", "_law_due", "_law_flags", "_law_told"] [V.ref p, V.ref g, V.ref q] = [some (V.ref p), some (V.ref g), some (V.ref q), none, none, none, none, none, none, none, none] from rfl]
  walk_at "w_go"
  rename_i wd H1 n1 s1 e1
  refine r_rngK (by decide) (by decide) ?_
  refine r_lcR (lo := 0) (n := 4) (fun _ => true) (fAlone m a b kk e) (by rw [PySem.sizeLine_eq]; decide) (fun j hj => ⟨fun H' R _ h => h, fun H' R _ s4 h => ?_⟩) (fun al H2 n2 s2 e2 => ?_)
  · walk_at "w_go"
    exact ⟨q, m, a, b, kk, e, _, _, _, _, rfl, by walk_at "w_hp", h⟩
  rw [alone_is] at e2
  have hp2 : PenAt H2 p c := by walk_at "w_pen"
  have hg2 : H2 g = some (.ins ad.Guard dx (gfs (plain5 m a b kk e))) := by walk_at "w_hp"
  have hq2 : H2 q = some (.lst [.str m, .str a, .str b, .str kk, .str e]) := by walk_at "w_hp"
  have hw2 : H2 wd = some (.lst [.str "here", .str "left", .str "twin here", .str "twin left"]) := by walk_at "w_hp"
  have st2 : PenStep p c H H2 := by walk_at "w_step"
  clear s1 s2 n1 n2 e1
  walk_at "w_go"
  refine r_rngK (by decide) (by decide) (for_range (lo := 0) (n := 16) (fun i σ H' => (∃ (u5 u6 u7 u8 u9 u10 : Option V), σ = [some (.ref p), some (.ref g), some (.ref q), some (.ref wd), some (.ref al), u5, u6, u7, u8, u9, u10]) ∧ PenStep p c H H' ∧ H' g = some (.ins ad.Guard dx (gfs (plain5 m a b kk e))) ∧ H' q = some (.lst [.str m, .str a, .str b, .str kk, .str e]) ∧ H' wd = some (.lst [.str "here", .str "left", .str "twin here", .str "twin left"]) ∧ H' al = some (.lst [.str (resL m a b kk e true false false false), .str (resL m a b kk e false true false false), .str (resL m a b kk e false false true false), .str (resL m a b kk e false false false true)])) ⟨⟨_, _, _, _, _, _, rfl⟩, st2, hg2, hq2, hw2, e2⟩ ?_ ?_)
  · rintro i σ H' hi ⟨⟨u5, u6, u7, u8, u9, u10, rfl⟩, st, hg', hq', hw', hal'⟩
    have keep : True → PenStep p c H H' := fun _ => st
    have hp' : PenAt H' p c := st.pen
    clear st hg hq hp hp2 hg2 hq2 hw2 st2 e2
    walk_at "w_go"
    rename_i bq B1 n1 s1 e1
    generalize decide ((0 + (i : Int)) % 2 = 1) = b0 at e1 ⊢
    generalize decide ((0 + (i : Int)) / 2 % 2 = 1) = b1 at e1 ⊢
    generalize decide ((0 + (i : Int)) / 4 % 2 = 1) = b2 at e1 ⊢
    generalize decide ((0 + (i : Int)) / 8 % 2 = 1) = b3 at e1 ⊢
    refine ⟨q, m, a, b, kk, e, b0, b1, b2, b3, rfl, by walk_at "w_hp", ?_⟩
    walk_at "w_go"
    refine r_rngK (by decide) (by decide) ?_
    refine r_lcR (lo := 0) (n := 4) (pBits b0 b1 b2 b3) fWord (by rw [PySem.sizeLine_eq]; decide) (fun j hj => ⟨fun H2 R s2 h => ?_, fun H2 R _ s2 h => ?_⟩) (fun fq B2 n2 s2 e2 => ?_)
    · match j, hj with
      | 0, _ => (walk_at "w_go"; exact h)
      | 1, _ => (walk_at "w_go"; exact h)
      | 2, _ => (walk_at "w_go"; exact h)
      | 3, _ => (walk_at "w_go"; exact h)
    · match j, hj with
      | 0, _ => (walk_at "w_go"; exact h)
      | 1, _ => (walk_at "w_go"; exact h)
      | 2, _ => (walk_at "w_go"; exact h)
      | 3, _ => (walk_at "w_go"; exact h)
    rw [words_are] at e2
    walk_at "w_go"
    have hlen : ((sel b0 b1 b2 b3).map V.str).length ≤ 4 := by
      cases b0 <;> cases b1 <;> cases b2 <;> cases b3 <;> decide
    refine ⟨p, c, fq, _, rfl, by walk_at "w_pen", e2, by omega, fun r B3 gl st3 n3 e3 hl3 hmem => ?_⟩
    obtain ⟨ss, rfl⟩ := all_strs (fl := gl) fun v hv => by
      obtain ⟨x, _, hx⟩ := List.mem_map.mp ((hmem v).mp hv)
      exact ⟨x, hx.symm⟩
    have hm : ∀ x, x ∈ ss ↔ x ∈ sel b0 b1 b2 b3 := fun x => by
      rw [← mem_strs, hmem, mem_strs]
    have hres : resultF m (if m = "none" then "ring" else a) (if m = "none" then "same" else b) kk (if kk = "none" then "same" else e) ss = resL m a b kk e b0 b1 b2 b3 := by
      rw [res_eq]
      simp only [hm]
      rw [sel_mem.1.1, sel_mem.1.2, sel_mem.2.1, sel_mem.2.2]
    have hfb : firstBad (ss.map V.str) = none := first_none fun j v hj => by
      obtain ⟨y, rfl, hy⟩ := str_in hj
      exact okv_mem (sel_flag ((hm y).mp hy))
    have hany : ∀ (G : Hp) v, v ∈ ss.map V.str → AnyV G v := fun G v hv => by
      obtain ⟨x, _, rfl⟩ := List.mem_map.mp hv
      exact trivial
    have hl3' : (ss.map V.str).length ≤ 1000 := by omega
    have hg3 : B3 g = some (.ins ad.Guard dx (gfs (plain5 m a b kk e))) := by walk_at "w_hp"
    walk_at "w_go"
    refine ⟨g, dx, r, _, _, _, _, _, _, rfl, hg3, e3, hl3', hany B3, (fun v hv => (by rw [hfb] at hv; cases hv)), fun s' hs _ B4 s4 => ?_⟩
    obtain rfl := strs_inj hs
    rw [hres]
    have hg4 := s4 _ _ hg3
    have e4 := s4 _ _ e3
    walk_at "w_go"
    refine r_neStr rfl ?_
    walk_at "w_go"
    refine ⟨g, dx, r, _, _, _, _, _, _, rfl, hg4, e4, hl3', hany B4, (fun v hv => (by rw [hfb] at hv; cases hv)), fun s' hs _ B5 s5 => ?_⟩
    obtain rfl := strs_inj hs
    rw [hres]
    walk_at "w_go"
    refine r_neStr rfl ?_
    walk_at "w_go"
    walk_at "w_br"
    · rename_i hne
      walk_at "w_go"
      refine r_rngK (by decide) (by decide) ?_
      have hb5 : B5 bq = some (.lst [.bl b0, .bl b1, .bl b2, .bl b3]) := by walk_at "w_hp"
      have ha5 : B5 al = some (.lst [.str (resL m a b kk e true false false false), .str (resL m a b kk e false true false false), .str (resL m a b kk e false false true false), .str (resL m a b kk e false false false true)]) := by walk_at "w_hp"
      refine r_lcR (lo := 0) (n := 4) (pBits b0 b1 b2 b3) (fAlone m a b kk e) (by rw [PySem.sizeLine_eq]; decide) (fun j hj => ⟨fun H2 R s2 h => ?_, fun H2 R _ s2 h => ?_⟩) (fun pq B6 n6 s6 e6 => ?_)
      · match j, hj with
        | 0, _ => (walk_at "w_go"; exact h)
        | 1, _ => (walk_at "w_go"; exact h)
        | 2, _ => (walk_at "w_go"; exact h)
        | 3, _ => (walk_at "w_go"; exact h)
      · match j, hj with
        | 0, _ => (walk_at "w_go"; exact h)
        | 1, _ => (walk_at "w_go"; exact h)
        | 2, _ => (walk_at "w_go"; exact h)
        | 3, _ => (walk_at "w_go"; exact h)
      rw [picked_are] at e6
      refine r_inSN (.inl (SqL.of e6)) ?_
      walk_at "w_gp"
      walk_at "w_br"
      · rename_i hno
        exact absurd (res_alone hne) hno
      · walk_at "w_go"
        have kk0 := keep trivial
        exact ⟨⟨_, _, _, _, _, _, rfl⟩, by walk_at "w_step", by walk_at "w_hp", by walk_at "w_hp", by walk_at "w_hp", by walk_at "w_hp"⟩
    · walk_at "w_go"
      have kk0 := keep trivial
      exact ⟨⟨_, _, _, _, _, _, rfl⟩, by walk_at "w_step", by walk_at "w_hp", by walk_at "w_hp", by walk_at "w_hp", by walk_at "w_hp"⟩
  · rintro σ H' ⟨⟨u5, u6, u7, u8, u9, u10, rfl⟩, st, hg', hq', hw', hal'⟩
    have keep : True → PenStep p c H H' := fun _ => st
    have hp' : PenAt H' p c := st.pen
    clear st hg hq hp hp2 hg2 hq2 hw2 st2 e2
    walk_at "w_go"
    refine r_rngK (by decide) (by decide) (for_range (lo := 0) (n := 4) (fun i σ H' => (∃ (u5 u6 u7 u8 u9 u10 : Option V), σ = [some (.ref p), some (.ref g), some (.ref q), some (.ref wd), some (.ref al), u5, u6, u7, u8, u9, u10]) ∧ PenStep p c H H' ∧ H' g = some (.ins ad.Guard dx (gfs (plain5 m a b kk e))) ∧ H' q = some (.lst [.str m, .str a, .str b, .str kk, .str e]) ∧ H' wd = some (.lst [.str "here", .str "left", .str "twin here", .str "twin left"]) ∧ H' al = some (.lst [.str (resL m a b kk e true false false false), .str (resL m a b kk e false true false false), .str (resL m a b kk e false false true false), .str (resL m a b kk e false false false true)])) ⟨⟨_, _, _, _, _, _, rfl⟩, keep trivial, hg', hq', hw', hal'⟩ ?_ ?_)
    · rintro i σ H' hi ⟨⟨u5, u6, u7, u8, u9, u10, rfl⟩, st, hg', hq', hw', hal'⟩
      have keep : True → PenStep p c H H' := fun _ => st
      have hp' : PenAt H' p c := st.pen
      clear st
      obtain ⟨x, b0, b1, b2, b3, hx, hxa, hxb⟩ : ∃ (x : Str) (b0 b1 b2 b3 : Bool), [V.str "here", .str "left", .str "twin here", .str "twin left"][i]? = some (.str x) ∧ [V.str (resL m a b kk e true false false false), .str (resL m a b kk e false true false false), .str (resL m a b kk e false false true false), .str (resL m a b kk e false false false true)][i]? = some (.str (resL m a b kk e b0 b1 b2 b3)) ∧ [x] = sel b0 b1 b2 b3 :=
        match i, hi with
        | 0, _ => ⟨"here", true, false, false, false, rfl, rfl, rfl⟩
        | 1, _ => ⟨"left", false, true, false, false, rfl, rfl, rfl⟩
        | 2, _ => ⟨"twin here", false, false, true, false, rfl, rfl, rfl⟩
        | 3, _ => ⟨"twin left", false, false, false, true, rfl, rfl, rfl⟩
      have hok : okv (.str x) FLAGSl = true := okv_mem (sel_flag (hxb ▸ List.mem_singleton.mpr rfl))
      walk_at "w_go"
      refine r_ixLK hw' (at_n hx) ?_
      walk_at "w_go"
      refine ⟨g, dx, _, _, _, _, _, .str x, rfl, hg', trivial, fun hb => ?_, fun y hy _ H2 s2 => ?_⟩
      · rw [hok] at hb
        cases hb
      cases hy
      have hal2 := s2 _ _ hal'
      rw [show resultF m (if m = "none" then "ring" else a) (if m = "none" then "same" else b) kk (if kk = "none" then "same" else e) [x] = resL m a b kk e b0 b1 b2 b3 from by
        rw [res_eq, hxb, sel_mem.1.1, sel_mem.1.2, sel_mem.2.1, sel_mem.2.2]]
      walk_at "w_go"
      refine r_isi (b := true) (.base (.bl _)) (by decide +kernel) ?_
      walk_at "w_go"
      refine r_ixLK hal2 (at_n hxa) ?_
      walk_at "w_gp"
      refine ite_nd rfl ?_
      walk_at "w_go"
      exact ⟨⟨_, _, _, _, _, _, rfl⟩, (keep trivial).same s2, s2 _ _ hg', s2 _ _ hq', s2 _ _ hw', hal2⟩
    · rintro σ H' ⟨⟨u5, u6, u7, u8, u9, u10, rfl⟩, st, _⟩
      walk_at "w_go"
      exact k H' st
end
end Wm
namespace Wm
open PySem L2

section
variable {P : Program} {w : World} {K : PySem.W.Frag} {mg : Str → Option Value} {base : Heap} {ad : Ad}
theorem ok_law (T : Txt P K mg ad) : FnOk P w K mg base (L2.CX P w) 7 ad.law ad.fd_law ["_law_script"] (spLaw K) := by
  refine T.F_law.okX sc_law (fun vs H Q E h => ?_) (fun cdv A outer s H vs Q E hr h => ?_)
  · obtain ⟨a, ns, rfl, _⟩ := h
    rfl
  obtain ⟨a, ns, rfl, hS, k⟩ := h
  obtain ⟨gA, hbAll⟩ := kb_all T.F_Guard_init
  obtain ⟨mc, u, cr, cv⟩ := T.cr_Guard_FLAGS
  refine ⟨_, (pss_cons (ps_set (i := 1) sc_law.nd rfl (Or.inl rfl) (pe_call (ok_l_pen T) (hr.mono (by decide)) rfl T.g_l_pen T.F_l_pen.kp T.b_l_pen .nil passL (pa_cons (pv 0) pa_nil)))
    (pss_cons (ps_set (i := 2) sc_law.nd rfl (Or.inl rfl) (pe_ix ix_list (pe_lst (pa_cons pe_str (pa_cons pe_str (pa_cons pe_str pa_nil)))) (pe_call (ok_l_take T) (hr.mono (by decide)) rfl T.g_l_take T.F_l_take.kp T.b_l_take .nil passL (pa_cons (pv 1) (pa_cons pe_int pa_nil))) (fun _ _ => rfl)))
    (pss_cons (ps_set (i := 3) sc_law.nd rfl (Or.inl rfl) (pe_ix ix_list (pe_lst (pa_cons pe_str (pa_cons pe_str (pa_cons pe_str pa_nil)))) (pe_call (ok_l_take T) (hr.mono (by decide)) rfl T.g_l_take T.F_l_take.kp T.b_l_take .nil passL (pa_cons (pv 1) (pa_cons pe_int pa_nil))) (fun _ _ => rfl)))
    (pss_cons (ps_set (i := 4) sc_law.nd rfl (Or.inl rfl) (pe_lst (pa_cons (pv 2) (pa_cons (pv 3) (pa_cons (pe_ix ix_list (pe_lst (pa_cons pe_str (pa_cons pe_str pa_nil))) (pe_call (ok_l_take T) (hr.mono (by decide)) rfl T.g_l_take T.F_l_take.kp T.b_l_take .nil passL (pa_cons (pv 1) (pa_cons pe_int pa_nil))) (fun _ _ => rfl)) (pa_cons (pe_ix ix_list (pe_lst (pa_cons pe_str (pa_cons pe_str (pa_cons pe_str pa_nil)))) (pe_call (ok_l_take T) (hr.mono (by decide)) rfl T.g_l_take T.F_l_take.kp T.b_l_take .nil passL (pa_cons (pv 1) (pa_cons pe_int pa_nil))) (fun _ _ => rfl)) pa_nil))))))
    (pss_cons (ps_expr (pe_bm PySem.F.plainAttrs_list PySem.F.slot_list_append PySem.F.type_list_append mt_append (pv 4) (pa_cons (pe_ix ix_list (pe_lst (pa_cons pe_str (pa_cons pe_str pa_nil))) (pe_call (ok_l_take T) (hr.mono (by decide)) rfl T.g_l_take T.F_l_take.kp T.b_l_take .nil passL (pa_cons (pv 1) (pa_cons pe_int pa_nil))) (fun _ _ => rfl)) pa_nil)))
    (pss_cons (ps_set (i := 5) sc_law.nd rfl (Or.inl rfl) (pe_makeK T.mk_Guard (ok_Guard_init T) (hr.mono (by decide)) rfl T.g_Guard hbAll passL (pa_cons (pe_ix ix_list (pv 4) pe_int (fun _ _ => rfl)) pa_nil) (pk_cons (pe_ix ix_list (pv 4) pe_int (fun _ _ => rfl)) (pk_cons (pe_ix ix_list (pv 4) pe_int (fun _ _ => rfl)) (pk_cons (pe_ix ix_list (pv 4) pe_int (fun _ _ => rfl)) (pk_cons (pe_ix ix_list (pv 4) pe_int (fun _ _ => rfl)) pk_nil))))))
    (pss_cons (ps_if (pt_not (pt_val (pe_call (ok_l_all_sets T) hr rfl T.g_l_all_sets T.F_l_all_sets.kp T.b_l_all_sets .nil passL (pa_cons (pv 1) (pa_cons (pv 5) (pa_cons (pv 4) pa_nil)))))) (pss_one (ps_ret pe_bl)) pss_nil)
    (pss_cons (ps_set (i := 6) sc_law.nd rfl (Or.inl rfl) (pe_call (ok_l_mingled T) (hr.mono (by decide)) rfl T.g_l_mingled T.F_l_mingled.kp T.b_l_mingled .nil passL (pa_cons (pv 1) (pa_cons (pe_slice sl_list (pe_lst (pa_cons pe_str (pa_cons pe_str (pa_cons pe_str pa_nil)))) po_none (po_some (pe_call (ok_l_take T) (hr.mono (by decide)) rfl T.g_l_take T.F_l_take.kp T.b_l_take .nil passL (pa_cons (pv 1) (pa_cons pe_int pa_nil))))) pa_nil))))
    (pss_cons (ps_for (passes_of rfl) rfl (pi_range1 rfl T.n_range (pa_cons (pe_op op_add pe_int (pe_call (ok_l_take T) (hr.mono (by decide)) rfl T.g_l_take T.F_l_take.kp T.b_l_take .nil passL (pa_cons (pv 1) (pa_cons pe_int pa_nil)))) pa_nil)) (pg_name (i := 7) sc_law.nd rfl (Or.inl rfl)) (pss_cons (ps_set (i := 8) sc_law.nd rfl (Or.inl rfl) (pe_ix ix_list (pe_lst (pa_cons (pe_call (ok_l_odd T) (hr.mono (by decide)) rfl T.g_l_odd T.F_l_odd.kp T.b_l_odd .nil passL (pa_cons (pv 1) pa_nil)) (pa_cons pe_str (pa_cons pe_str (pa_cons pe_str (pa_cons pe_str pa_nil)))))) (pe_call (ok_l_take T) (hr.mono (by decide)) rfl T.g_l_take T.F_l_take.kp T.b_l_take .nil passL (pa_cons (pv 1) (pa_cons pe_int pa_nil))) (fun _ _ => rfl)))
    (pss_one (ps_expr (pe_bm PySem.F.plainAttrs_list PySem.F.slot_list_insert PySem.F.type_list_insert mtInsert (pv 6) (pa_cons (pe_call (ok_l_take T) (hr.mono (by decide)) rfl T.g_l_take T.F_l_take.kp T.b_l_take .nil passL (pa_cons (pv 1) (pa_cons (pe_op op_add (pe_callB c_len (by rfl) T.n_len PySem.boot_len (pa_cons (pv 6) pa_nil)) pe_int) pa_nil))) (pa_cons (pv 8) pa_nil)))))))
    (pss_cons (ps_if (pt_cmpR op_ne (pe_call (ok_l_stops_refused T) (hr.mono (by decide)) rfl T.g_l_stops_refused T.F_l_stops_refused.kp T.b_l_stops_refused .nil passL (pa_cons (pv 5) (pa_cons (pe_ix ix_list (pv 6) pe_int (fun _ _ => rfl)) pa_nil))) (pe_cmpR (op_or op_notIn_seq (op_notStr hr.units)) (pe_ix ix_list (pv 6) pe_int (fun _ _ => rfl)) (pe_lst (pa_cons pe_str (pa_cons pe_str (pa_cons pe_str pa_nil)))) (by rfl)) (nomark _)) (pss_one (ps_ret pe_bl)) pss_nil)
    (pss_cons (ps_setLc (i := 9) (own := [("_law_flag", 10)]) (g := gName 10) rfl sc_law.nd rfl rfl (sw_true rfl rfl rfl (by decide +kernel)) (pi_list (pv 6)) (blkOk_by (own := [("_law_flag", 10)]) (N := ["_law_script", "_law_pen_here", "_law_first", "_law_deed", "_law_five", "_law_guard", "_law_flags", "_law_turn", "_law_strange", "_law_wrong", "_law_flag"]) (sc := defScope s_law) (by decide +kernel)) (fun _ _ _ _ _ => pg_name (i := 10) sc_law.nd rfl (Or.inl rfl)) (fun _ _ _ _ _ => (pts_one (PW.pt (pw_or (pt_not (pt_val (pe_callB (call_isi : CallR _ (.builtin "isinstance") (rIsi K)) (by rfl) T.n_isinstance (by decide +kernel) (pa_cons (pv 10) (pa_cons (pe_bltn (v := .ty "str") (by rfl) T.n_str (by decide +kernel) rfl) pa_nil))))) (pw_or1 (pt_cmpR (op_notIn_seq : OpR _ _ (rIn K true)) (pv 10) (ClX.pe_cval (pe_glob (v := .ref ad.Guard) (by rfl) T.g_Guard (by rfl)) : PE _ _ (ClX.tCVal K _ _)) (by rfl))))))) (fun _ _ _ _ _ => (pv 10)))
    (pss_one (ps_ret (pe_and (pe_cmpR (op_eqV hr.units) (pe_call (ok_l_given T) (hr.mono (by decide)) rfl T.g_l_given T.F_l_given.kp T.b_l_given .nil passL (pa_cons (pv 5) (pa_cons (pv 6) pa_nil))) (pe_lst (pa_cons pe_str (pa_cons (pe_ix ix_list (pv 9) pe_int (fun _ _ => rfl)) pa_nil))) (nomark _)) (pe_one (pe_cmpR (op_eqV hr.units) (pe_call (ok_l_treats T) (hr.mono (by decide)) rfl T.g_l_treats T.F_l_treats.kp T.b_l_treats .nil passL (pa_cons (pv 5) (pa_cons (pv 6) pa_nil))) (pe_lst (pa_cons pe_str (pa_cons (pe_ix ix_list (pv 9) pe_int (fun _ _ => rfl)) pa_nil))) (nomark _))))))))))))))))), ?_⟩
  rw [show L2.start ["_law_script", "_law_pen_here", "_law_first", "_law_deed", "_law_five", "_law_guard", "_law_flags", "_law_turn", "_law_strange", "_law_wrong", "_law_flag"] [V.ref a] = [some (V.ref a), none, none, none, none, none, none, none, none, none, none] from rfl]
  walk_at "w_go"
  refine ⟨a, ns, rfl, hS, fun p c H1 hp _ _ => ?_⟩
  walk_at "w_go"
  refine r_take (by walk_at "w_pen") (by decide) (by decide) (fun r1 H2 a0 a1 t1 => ?_)
  walk_at "w_go"
  refine r_pick MARKSl (by walk_at "w_hp") (by rfl) a0 a1 (fun m hm => ?_)
  walk_at "w_go"
  refine r_take (by walk_at "w_pen") (by decide) (by decide) (fun r2 H3 b0 b1 t2 => ?_)
  walk_at "w_go"
  refine r_pick ACTSl (by walk_at "w_hp") (by rfl) b0 b1 (fun ac hac => ?_)
  walk_at "w_go"
  refine r_take (by walk_at "w_pen") (by decide) (by decide) (fun r3 H4 c0 c1 t3 => ?_)
  walk_at "w_go"
  refine r_pick BYl (by walk_at "w_hp") (by rfl) c0 c1 (fun b hb => ?_)
  walk_at "w_go"
  refine r_take (by walk_at "w_pen") (by decide) (by decide) (fun r4 H5 d0 d1 t4 => ?_)
  walk_at "w_go"
  refine r_pick KEEPSl (by walk_at "w_hp") (by rfl) d0 d1 (fun kk hk => ?_)
  walk_at "w_go"
  rename_i q H6 n6 s6 e6 xx H7 n7 s7 e7
  refine r_take (by walk_at "w_pen") (by decide) (by decide) (fun r5 H8 f0 f1 t5 => ?_)
  walk_at "w_go"
  refine r_pick BYl (by walk_at "w_hp") (by rfl) f0 f1 (fun e he => ?_)
  walk_at "w_go"
  have hq : upd H8 q (.lst ([V.str m, .str ac, .str b, .str kk] ++ [.str e])) q = some (.lst [.str m, .str ac, .str b, .str kk, .str e]) := upd_same
  have hp8 : PenAt (upd H8 q (.lst ([V.str m, .str ac, .str b, .str kk] ++ [.str e]))) p c := by walk_at "w_pen"
  rename_i g dx G0 n0 s0 e0
  refine sp_initG e0 hm hac hb hk he (fun G1 k1 e1 => ?_)
  have s1 := same_but n0 s0 k1
  have hq1 : G1 q = some (.lst [.str m, .str ac, .str b, .str kk, .str e]) := s1 _ _ hq
  have hp1 : PenAt G1 p c := hp8.same s1
  clear s0 s1 k1 e0 hp hp8 hq t1 t2 t3 t4 t5 s6 s7 e6 e7 n6 n7 n0
  walk_at "w_go"
  refine ⟨p, c, g, dx, q, m, ac, b, kk, e, rfl, hp1, e1, hq1, fun G2 st2 => ?_⟩
  walk_at "w_go"
  refine r_take (by walk_at "w_pen") (by decide) (by decide) (fun rs G4 h0 h1 st4 => ?_)
  walk_at "w_go"
  rename_i lq G5 n5 s5 e5
  refine ⟨p, c, lq, _, rfl, by walk_at "w_pen", e5, Nat.le_trans (cutV_length _ _ _) (by decide), fun fr G6 gl st6 n6 e6 hl6 hm6 => ?_⟩
  have hg6 : G6 g = some (.ins ad.Guard dx (gfs (plain5 m ac b kk e))) := by walk_at "w_hp"
  have hp6 : PenAt G6 p c := st6.pen
  have hp5 : PenAt G5 p c := by walk_at "w_pen"
  have np : p ≠ fr ∧ c ≠ fr := hp5.ne_new n6
  have good6 : ∀ v, v ∈ gl → GoodV K p fr G6 v := fun v hv => by
    have h := cut_mem ((hm6 v).mp hv)
    simp only [List.mem_cons, List.not_mem_nil, or_false] at h
    rcases h with rfl | rfl | rfl <;> exact good_str (.inr (by simp))
  have hlen6 : gl.length ≤ 20 := Nat.le_trans hl6 (Nat.le_trans (Nat.add_le_add_right (cutV_length _ _ _) 2) (by decide))
  clear st6 st4 s5 e5 n5 n6 hm6 hl6 hp1 e1 hq1 st2 hp5
  walk_at "w_go"
  refine r_take (by walk_at "w_pen") (by decide) (by decide) (fun rt G7 g0 g1 st7 => ?_)
  walk_at "w_go"
  have hg7 : G7 g = some (.ins ad.Guard dx (gfs (plain5 m ac b kk e))) := by walk_at "w_hp"
  have hf7 : G7 fr = some (.lst gl) := by walk_at "w_hp"
  have hp7 : PenAt G7 p c := st7.pen
  have good7 : ∀ v, v ∈ gl → GoodV K p fr G7 v := fun v hv => (good6 v hv).step st7
  clear st7 hp6 hg6 e6 good6
  refine r_rngK (by omega) (by omega) (for_range (lo := 0) (n := (1 + rt).toNat) (fun i σ H' => (∃ (u7 u8 u9 u10 : Option V), σ = [some (.ref a), some (.ref p), some (.str m), some (.str ac), some (.ref q), some (.ref g), some (.ref fr), u7, u8, u9, u10]) ∧ PenAt H' p c ∧ H' g = some (.ins ad.Guard dx (gfs (plain5 m ac b kk e))) ∧ ∃ gl, H' fr = some (.lst gl) ∧ gl.length ≤ 20 + i ∧ (∀ v, v ∈ gl → GoodV K p fr H' v) ∧ (0 < i → ∃ v, v ∈ gl ∧ okv v FLAGSl = false)) ⟨⟨_, _, _, _, rfl⟩, hp7, hg7, gl, hf7, hlen6, good7, fun z => absurd z (Nat.lt_irrefl 0)⟩ ?_ ?_)
  · rintro i σ H' hi ⟨⟨u7, u8, u9, u10, rfl⟩, hp', hg', gl, hf', hlen, good, _⟩
    clear hp7 hg7 hf7 good7
    have hsz : gl.length < sizeLine := by
      rw [PySem.sizeLine_eq]
      omega
    walk_at "w_go"
    refine ⟨p, c, rfl, by walk_at "w_pen", fun v A1 sa hv hb hs => ?_⟩
    have gv : GoodV K p fr A1 v := good_odd hp' hf' hv hb hs
    walk_at "w_go"
    rename_i sq A2 n2 s2 e2
    refine r_take (by walk_at "w_pen") (by decide) (by decide) (fun r7 A3 d0 d1 sd => ?_)
    walk_at "w_go"
    refine r_anyIx (by walk_at "w_hp") d0 d1 (by rfl) (fun z hz => ?_)
    have gz : GoodV K p fr A3 z ∧ okv z FLAGSl = false := by
      simp only [List.mem_cons, List.not_mem_nil, or_false] at hz
      rcases hz with rfl | rfl | rfl | rfl | rfl
      · exact ⟨(gv.same s2).step sd, hb⟩
      all_goals exact ⟨good_str (.inl (by decide)), by decide⟩
    clear hz
    walk_at "w_go"
    refine r_take (by walk_at "w_pen") (by omega) (by omega) (fun r8 A4 i0 i1 se => ?_)
    walk_at "w_go"
    have hf4 : A4 fr = some (.lst gl) := by walk_at "w_hp"
    have good4 : ∀ x, x ∈ gl → GoodV K p fr A4 x := fun x hx => ((((good x hx).step sa).same s2).step sd).step se
    have gz4 := gz.1.step se
    refine r_insert hf4 hsz i0 (by omega) ?_
    walk_at "w_go"
    refine ⟨⟨_, _, _, _, rfl⟩, by walk_at "w_pen", by walk_at "w_hp", _, upd_same, ?_, fun x hx => ?_, fun _ => ⟨z, mem_ins.mpr (.inr rfl), gz.2⟩⟩
    · rw [len_ins]
      omega
    · rcases mem_ins.mp hx with hx | rfl
      · exact (good4 x hx).put
      · exact gz4.put
  · rintro σ H' ⟨⟨u7, u8, u9, u10, rfl⟩, hp', hg', gl, hf', hlen, good, hbad⟩
    clear hp7 hg7 hf7 good7
    obtain ⟨vb, hvb, hvb2⟩ := hbad (by omega)
    have hlen' : gl.length ≤ 1000 := by omega
    obtain ⟨v1, rest1, hfil⟩ : ∃ v1 rest1, (gl.filter fun v => !okv v FLAGSl) = v1 :: rest1 := by
      cases hf : gl.filter fun v => !okv v FLAGSl with
      | nil =>
        have : vb ∈ gl.filter fun v => !okv v FLAGSl := List.mem_filter.mpr ⟨hvb, by simp [hvb2]⟩
        rw [hf] at this
        cases this
      | cons v1 r1 => exact ⟨v1, r1, rfl⟩
    have hfb : firstBad gl = some v1 := by rw [bad_head, hfil]; rfl
    have hv1 : v1 ∈ gl := (List.mem_filter.mp (hfil ▸ List.mem_cons_self)).1
    obtain ⟨v0, rest0, hgl⟩ : ∃ v0 rest0, gl = v0 :: rest0 := by
      cases gl with
      | nil => cases hvb
      | cons v r => exact ⟨v, r, rfl⟩
    have hv0 : v0 ∈ gl := hgl ▸ List.mem_cons_self
    have g0' := good v0 hv0
    have hix : atI gl 0 = some v0 := by
      rw [hgl]
      show atI (v0 :: rest0) ((0 : Nat) : Int) = some v0
      exact atI_nat rfl
    walk_at "w_go"
    refine r_ixLK hf' hix ?_
    walk_at "w_go"
    refine ⟨g, dx, _, _, _, _, _, v0, rfl, hg', g0'.odd.1, g0'.self, fun B1 sB1 => ?_⟩
    have hf1 := sB1 _ _ hf'
    walk_at "w_go"
    refine r_ixLK hf1 hix ?_
    walk_at "w_go"
    rename_i w3 B2 nB2 sB2 eB2
    refine notin_three ((g0'.odd.1.same sB1).same sB2) g0'.kind eB2 ?_
    walk_at "w_gp"
    refine ite_nd rfl ?_
    have hf2 := sB2 _ _ hf1
    have hg2 := sB2 _ _ (sB1 _ _ hg')
    have any2 : ∀ x, x ∈ gl → AnyV B2 x := fun x hx => ((good x hx).odd.1.same sB1).same sB2
    walk_at "w_go"
    refine r_ilK (SqL.of hf2) ?_
    refine r_lcL (fun v => !okv v FLAGSl) (fun v => v) (SqL.of hf2) (by rw [PySem.sizeLine_eq]; omega) (fun j x hj => ⟨fun H'' R s h => ?_, fun H'' R _ s h => ?_⟩) (fun wq B3 nB3 sB3 eB3 => ?_)
    · have hx := (any2 x (List.mem_of_getElem? hj)).same s
      obtain ⟨ty, bb, i1, i2, i3⟩ := hx.isStr (K := K)
      walk_at "w_go"
      refine r_isi i1 i2 ?_
      walk_at "w_go"
      cases bb with
      | false =>
        have hno : okv x FLAGSl = false := by
          cases x with
          | str y => exact absurd (i3.mpr ⟨y, rfl⟩) (by simp)
          | _ => rfl
        change R (!okv x FLAGSl) H'' at h
        rw [hno] at h
        walk_at "w_go"
        exact h
      | true =>
        obtain ⟨y, rfl⟩ := i3.mp rfl
        walk_at "w_go"
        exact r_inSN (.inr (T.c_FLAGS _)) ⟨_, rfl, h⟩
    · walk_at "w_go"
      exact h
    rw [List.map_id' , hfil] at eB3
    have hf3 := sB3 _ _ hf2
    have hg3 := sB3 _ _ hg2
    have any3 : ∀ x, x ∈ gl → AnyV B3 x := fun x hx => (any2 x hx).same sB3
    walk_at "w_go"
    refine ⟨g, dx, fr, _, _, _, _, _, gl, rfl, hg3, hf3, hlen', any3, fun v hv r1 B4 sB4 nB4 eB4 => ?_, fun ss _ hs => by rw [hfb] at hs; cases hs⟩
    have ev : v = v1 := (Option.some.inj (hfb.symm.trans hv)).symm
    rw [ev] at eB4
    have hw4 := sB4 _ _ eB3
    have hx0 : atI (v1 :: rest1) (0 : Int) = some v1 := by
      show atI (v1 :: rest1) ((0 : Nat) : Int) = some v1
      exact atI_nat rfl
    walk_at "w_go"
    refine r_ixLK hw4 hx0 ?_
    walk_at "w_go"
    rename_i lq2 B5 nB5 sB5 eB5
    refine eq_pair (sB5 _ _ eB4) eB5 (((any3 v1 hv1).same sB4).same sB5) ?_
    walk_at "w_go"
    have hf5 := sB5 _ _ (sB4 _ _ hf3)
    have hg5 := sB5 _ _ (sB4 _ _ hg3)
    have hw5 := sB5 _ _ hw4
    have any5 : ∀ x, x ∈ gl → AnyV B5 x := fun x hx => ((any3 x hx).same sB4).same sB5
    refine ⟨g, dx, fr, _, _, _, _, _, gl, rfl, hg5, hf5, hlen', any5, fun v hv r1 B6 sB6 nB6 eB6 => ?_, fun ss _ hs => by rw [hfb] at hs; cases hs⟩
    have ev2 : v = v1 := (Option.some.inj (hfb.symm.trans hv)).symm
    rw [ev2] at eB6
    have hw6 := sB6 _ _ hw5
    walk_at "w_go"
    refine r_ixLK hw6 hx0 ?_
    walk_at "w_go"
    rename_i lq3 B7 nB7 sB7 eB7
    refine eq_pair (sB7 _ _ eB6) eB7 (((any5 v1 hv1).same sB6).same sB7) ?_
    walk_at "w_go"
    exact k _
end
end Wm
namespace Wm
open PySem L2

theorem fm_BadGuard : PySem.Er.IForm ["part"] (defArgs s_BadGuard_init) (defBody s_BadGuard_init) (defScope s_BadGuard_init) :=
  PySem.Er.IForm.one _ _ _ _ _ _ _ _ _ _ _ _ _ (fun _ _ _ _ _ => ⟨_, rfl⟩) (fun _ _ _ _ _ => rfl) ⟨fun _ _ _ _ _ _ _ _ _ vs hl => match vs, hl with | [_], _ => rfl, ⟨_, rfl, rfl⟩, rfl, rfl, rfl, (by
      intro f hf
      simp only [List.mem_cons, List.not_mem_nil, or_false] at hf
      rcases hf with rfl <;> exact ⟨rfl, by decide⟩), fun x vs hl => match vs, hl with | [_], _ => rfl, (fun x vs i f v hl h1 h2 => match vs, hl, i, h1, h2 with | [_], _, 0, h1, h2 => by cases h1; cases h2; rfl), by decide⟩
theorem fm_NoFlag : PySem.Er.IForm ["flag"] (defArgs s_NoFlag_init) (defBody s_NoFlag_init) (defScope s_NoFlag_init) :=
  PySem.Er.IForm.one _ _ _ _ _ _ _ _ _ _ _ _ _ (fun _ _ _ _ _ => ⟨_, rfl⟩) (fun _ _ _ _ _ => rfl) ⟨fun _ _ _ _ _ _ _ _ _ vs hl => match vs, hl with | [_], _ => rfl, ⟨_, rfl, rfl⟩, rfl, rfl, rfl, (by
      intro f hf
      simp only [List.mem_cons, List.not_mem_nil, or_false] at hf
      rcases hf with rfl <;> exact ⟨rfl, by decide⟩), fun x vs hl => match vs, hl with | [_], _ => rfl, (fun x vs i f v hl h1 h2 => match vs, hl, i, h1, h2 with | [_], _, 0, h1, h2 => by cases h1; cases h2; rfl), by decide⟩
theorem all_mk {l : PySem.W.OpenLaw} {w : World} {K : PySem.W.Frag} {h : Heap} {mg : Str → Option Value} {fa : Addr} (X : K.In h) (G : h.Ns mainGlobals mg) (hfa : mg "law" = some (.ref fa))
    {A_MARKS : Addr} {td_MARKS : Option Addr} {ti_MARKS : Array Value} {tn_MARKS : Nat} {ts_MARKS : Array (Option Value)} {A_ACTS : Addr} {td_ACTS : Option Addr} {ti_ACTS : Array Value} {tn_ACTS : Nat} {ts_ACTS : Array (Option Value)} {A_BY : Addr} {td_BY : Option Addr} {ti_BY : Array Value} {tn_BY : Nat} {ts_BY : Array (Option Value)} {A_KEEPS : Addr} {td_KEEPS : Option Addr} {ti_KEEPS : Array Value} {tn_KEEPS : Nat} {ts_KEEPS : Array (Option Value)} {C_BadGuard f_BadGuard_init cda_BadGuard_init cc_BadGuard_init : Addr} {oc_BadGuard_init ct_BadGuard_init ccl_BadGuard_init ccc_BadGuard_init dc_BadGuard_init pm_BadGuard_init : Value} {od_BadGuard_init an_BadGuard_init cdd_BadGuard_init cld_BadGuard_init : Option Addr} {osl_BadGuard_init ccs_BadGuard_init csl_BadGuard_init : Array (Option Value)} {vs_BadGuard_init : Array Value} {file_BadGuard_init : Str} {tf_BadGuard_init : Tok} {C_NoFlag f_NoFlag_init cda_NoFlag_init cc_NoFlag_init : Addr} {oc_NoFlag_init ct_NoFlag_init ccl_NoFlag_init ccc_NoFlag_init dc_NoFlag_init pm_NoFlag_init : Value} {od_NoFlag_init an_NoFlag_init cdd_NoFlag_init cld_NoFlag_init : Option Addr} {osl_NoFlag_init ccs_NoFlag_init csl_NoFlag_init : Array (Option Value)} {vs_NoFlag_init : Array Value} {file_NoFlag_init : Str} {tf_NoFlag_init : Tok} {C_Guard : Addr} {od_Guard_init an_Guard_init : Option Addr} {sl_Guard_init : Array (Option Value)} {oc_Guard_init  dc_Guard_init pm_Guard_init cd_Guard_init ct_Guard_init : Value} {f_Guard_init : Addr} {dT_Guard_init : Addr} {dc_TGuard_init : Value} {dd_TGuard_init : Option Addr} {di_TGuard_init : Array Value} {dn_TGuard_init : Nat} {ds_TGuard_init : Array (Option Value)} {kD_Guard_init : Addr} {ku0_Guard_init ku1_Guard_init ku2_Guard_init ku3_Guard_init : Value} {od_Guard_given an_Guard_given : Option Addr} {sl_Guard_given : Array (Option Value)} {oc_Guard_given kV_Guard_given dc_Guard_given pm_Guard_given cd_Guard_given ct_Guard_given : Value} {f_Guard_given : Addr} {od_is_choice an_is_choice : Option Addr} {sl_is_choice : Array (Option Value)} {oc_is_choice kV_is_choice dc_is_choice pm_is_choice cd_is_choice ct_is_choice : Value} {f_is_choice : Addr} {od_Guard_treats an_Guard_treats : Option Addr} {sl_Guard_treats : Array (Option Value)} {oc_Guard_treats kV_Guard_treats dc_Guard_treats pm_Guard_treats cd_Guard_treats ct_Guard_treats : Value} {f_Guard_treats : Addr} {od_Guard_speaks an_Guard_speaks : Option Addr} {sl_Guard_speaks : Array (Option Value)} {oc_Guard_speaks kV_Guard_speaks dc_Guard_speaks pm_Guard_speaks cd_Guard_speaks ct_Guard_speaks : Value} {f_Guard_speaks : Addr} {od_Guard_stops an_Guard_stops : Option Addr} {sl_Guard_stops : Array (Option Value)} {oc_Guard_stops kV_Guard_stops dc_Guard_stops pm_Guard_stops cd_Guard_stops ct_Guard_stops : Value} {f_Guard_stops : Addr} {od_l_pen an_l_pen : Option Addr} {sl_l_pen : Array (Option Value)} {oc_l_pen kV_l_pen dc_l_pen pm_l_pen cd_l_pen ct_l_pen : Value} {f_l_pen : Addr} {od_l_take an_l_take : Option Addr} {sl_l_take : Array (Option Value)} {oc_l_take kV_l_take dc_l_take pm_l_take cd_l_take ct_l_take : Value} {f_l_take : Addr} {od_l_odd an_l_odd : Option Addr} {sl_l_odd : Array (Option Value)} {oc_l_odd kV_l_odd dc_l_odd pm_l_odd cd_l_odd ct_l_odd : Value} {f_l_odd : Addr} {od_l_result an_l_result : Option Addr} {sl_l_result : Array (Option Value)} {oc_l_result kV_l_result dc_l_result pm_l_result cd_l_result ct_l_result : Value} {f_l_result : Addr} {od_l_given an_l_given : Option Addr} {sl_l_given : Array (Option Value)} {oc_l_given kV_l_given dc_l_given pm_l_given cd_l_given ct_l_given : Value} {f_l_given : Addr} {od_l_treats an_l_treats : Option Addr} {sl_l_treats : Array (Option Value)} {oc_l_treats kV_l_treats dc_l_treats pm_l_treats cd_l_treats ct_l_treats : Value} {f_l_treats : Addr} {od_l_mingled an_l_mingled : Option Addr} {sl_l_mingled : Array (Option Value)} {oc_l_mingled kV_l_mingled dc_l_mingled pm_l_mingled cd_l_mingled ct_l_mingled : Value} {f_l_mingled : Addr} {od_l_all_sets an_l_all_sets : Option Addr} {sl_l_all_sets : Array (Option Value)} {oc_l_all_sets kV_l_all_sets dc_l_all_sets pm_l_all_sets cd_l_all_sets ct_l_all_sets : Value} {f_l_all_sets : Addr} {od_l_stops_refused an_l_stops_refused : Option Addr} {sl_l_stops_refused : Array (Option Value)} {oc_l_stops_refused kV_l_stops_refused dc_l_stops_refused pm_l_stops_refused cd_l_stops_refused ct_l_stops_refused : Value} {f_l_stops_refused : Addr} {od_law an_law : Option Addr} {sl_law : Array (Option Value)} {oc_law kV_law dc_law pm_law cd_law ct_law : Value} {f_law : Addr} {A_FLAGS : Addr} {td_FLAGS : Option Addr} {ti_FLAGS : Array Value} {tn_FLAGS : Nat} {ts_FLAGS : Array (Option Value)}
    (z_len : PySem.W.nsIn K mainGlobals "len" = some none)
    (z_int : PySem.W.nsIn K mainGlobals "int" = some none)
    (z_list : PySem.W.nsIn K mainGlobals "list" = some none)
    (z_range : PySem.W.nsIn K mainGlobals "range" = some none)
    (z_isinstance : PySem.W.nsIn K mainGlobals "isinstance" = some none)
    (z_str : PySem.W.nsIn K mainGlobals "str" = some none)
    (z_tuple : PySem.W.nsIn K mainGlobals "tuple" = some none)
    (z_any : PySem.W.nsIn K mainGlobals "any" = some none)
    (z_bool : PySem.W.nsIn K mainGlobals "bool" = some none)
    (aG_MARKS : PySem.W.nsIn K mainGlobals "MARKS" = some (some (.ref A_MARKS)))
    (lt_MARKS : K.lookup A_MARKS = some ⟨.type "tuple", td_MARKS, .seq ti_MARKS tn_MARKS, ts_MARKS⟩)
    (ls_MARKS : decide (ti_MARKS.size ≤ 16777216) = true)
    (lv_MARKS : Vals (MARKSl.map V.str) ti_MARKS.toList)
    (aG_ACTS : PySem.W.nsIn K mainGlobals "ACTS" = some (some (.ref A_ACTS)))
    (lt_ACTS : K.lookup A_ACTS = some ⟨.type "tuple", td_ACTS, .seq ti_ACTS tn_ACTS, ts_ACTS⟩)
    (ls_ACTS : decide (ti_ACTS.size ≤ 16777216) = true)
    (lv_ACTS : Vals (ACTSl.map V.str) ti_ACTS.toList)
    (aG_BY : PySem.W.nsIn K mainGlobals "BY" = some (some (.ref A_BY)))
    (lt_BY : K.lookup A_BY = some ⟨.type "tuple", td_BY, .seq ti_BY tn_BY, ts_BY⟩)
    (ls_BY : decide (ti_BY.size ≤ 16777216) = true)
    (lv_BY : Vals (BYl.map V.str) ti_BY.toList)
    (aG_KEEPS : PySem.W.nsIn K mainGlobals "KEEPS" = some (some (.ref A_KEEPS)))
    (lt_KEEPS : K.lookup A_KEEPS = some ⟨.type "tuple", td_KEEPS, .seq ti_KEEPS tn_KEEPS, ts_KEEPS⟩)
    (ls_KEEPS : decide (ti_KEEPS.size ≤ 16777216) = true)
    (lv_KEEPS : Vals (KEEPSl.map V.str) ti_KEEPS.toList)
    (aC_BadGuard : PySem.W.nsIn K mainGlobals "BadGuard" = some (some (.ref C_BadGuard)))
    (init_BadGuard : PySem.W.findIn K (.ref C_BadGuard) "__init__" = some (some (.ref f_BadGuard_init)))
    (ty_BadGuard : PySem.W.typeIn K (.ref f_BadGuard_init) = some (.type "function"))
    (lk_BadGuard : K.lookup f_BadGuard_init = some ⟨oc_BadGuard_init, od_BadGuard_init, .func (PySem.W.ksFn "__init__" "BadGuard.__init__" (defArgs s_BadGuard_init) (defBody s_BadGuard_init) (defScope s_BadGuard_init) .none .none dc_BadGuard_init pm_BadGuard_init an_BadGuard_init (.ref cda_BadGuard_init) ct_BadGuard_init cc_BadGuard_init), osl_BadGuard_init⟩)
    (hc_BadGuard : PySem.W.codeIn K (.ref cda_BadGuard_init) "BadGuard.__init__" = true)
    (code_BadGuard : K.lookup cda_BadGuard_init = some ⟨ccl_BadGuard_init, cdd_BadGuard_init, .fields vs_BadGuard_init, ccs_BadGuard_init⟩)
    (hv_BadGuard : vs_BadGuard_init[2]? = some (.str file_BadGuard_init tf_BadGuard_init))
    (hf_BadGuard : ((l.prog.main.file : Str) == file_BadGuard_init) = true)
    (cell_BadGuard : K.lookup cc_BadGuard_init = some ⟨ccc_BadGuard_init, cld_BadGuard_init, .cell (some (.ref C_BadGuard)), csl_BadGuard_init⟩)
    (ic_BadGuard : PySem.W.isClsIn K C_BadGuard = true)
    (sub_BadGuard : PySem.W.mroIn K C_BadGuard (.ref C_BadGuard) = some true)
    (z_super : PySem.W.nsIn K mainGlobals "super" = some none)
    (z_tp : PySem.W.nsIn K cStatics "thirdparty.any" = some none)
    (z_top : (l.prog.main.scope.names.lookup ("super" : Str)).isSome = false)
    (sup_BadGuard : PySem.W.ks_superIn K C_BadGuard C_BadGuard "__init__" = some (some (.builtin "ValueError.__init__")))
    (base_BadGuard : PySem.W.subIn K (.ref C_BadGuard) (.type "ValueError") = some true)
    (exc_BadGuard : PySem.W.excInitIn K C_BadGuard [.type "ValueError", .type "Exception", .type "BaseException", .type "object"] "ValueError.__new__" = true)
    (sa_BadGuard : PySem.W.findIn K (.ref C_BadGuard) "__setattr__" = some (some (.builtin "object.__setattr__")))
    (ov_BadGuard : PySem.W.excOver K C_BadGuard [.type "ValueError", .type "Exception", .type "BaseException", .type "object"] = true)
    (hd_BadGuard : PySem.W.hasDictIn K C_BadGuard = true)
    (no_BadGuard_part : PySem.W.findIn K (.ref C_BadGuard) "part" = some none)
    (exC_BadGuard : PySem.W.subIn K (.ref C_BadGuard) (.type "BaseException") = some true)
    (tyC_BadGuard : PySem.W.typeIn K (.ref C_BadGuard) = some (.type "type"))
    (kC_BadGuard : PySem.W.keepIn K (.ref C_BadGuard) = true)
    (su_BadGuard : PySem.W.subIn K (.ref C_BadGuard) (.ref C_BadGuard) = some true)
    (ga_BadGuard : PySem.W.findIn K (.ref C_BadGuard) "__getattribute__" = some (some (.builtin "BaseException.__getattribute__")))
    (gg_BadGuard : PySem.W.findIn K (.ref C_BadGuard) "__getattr__" = some none)
    (aC_NoFlag : PySem.W.nsIn K mainGlobals "NoFlag" = some (some (.ref C_NoFlag)))
    (init_NoFlag : PySem.W.findIn K (.ref C_NoFlag) "__init__" = some (some (.ref f_NoFlag_init)))
    (ty_NoFlag : PySem.W.typeIn K (.ref f_NoFlag_init) = some (.type "function"))
    (lk_NoFlag : K.lookup f_NoFlag_init = some ⟨oc_NoFlag_init, od_NoFlag_init, .func (PySem.W.ksFn "__init__" "NoFlag.__init__" (defArgs s_NoFlag_init) (defBody s_NoFlag_init) (defScope s_NoFlag_init) .none .none dc_NoFlag_init pm_NoFlag_init an_NoFlag_init (.ref cda_NoFlag_init) ct_NoFlag_init cc_NoFlag_init), osl_NoFlag_init⟩)
    (hc_NoFlag : PySem.W.codeIn K (.ref cda_NoFlag_init) "NoFlag.__init__" = true)
    (code_NoFlag : K.lookup cda_NoFlag_init = some ⟨ccl_NoFlag_init, cdd_NoFlag_init, .fields vs_NoFlag_init, ccs_NoFlag_init⟩)
    (hv_NoFlag : vs_NoFlag_init[2]? = some (.str file_NoFlag_init tf_NoFlag_init))
    (hf_NoFlag : ((l.prog.main.file : Str) == file_NoFlag_init) = true)
    (cell_NoFlag : K.lookup cc_NoFlag_init = some ⟨ccc_NoFlag_init, cld_NoFlag_init, .cell (some (.ref C_NoFlag)), csl_NoFlag_init⟩)
    (ic_NoFlag : PySem.W.isClsIn K C_NoFlag = true)
    (sub_NoFlag : PySem.W.mroIn K C_NoFlag (.ref C_NoFlag) = some true)
    (sup_NoFlag : PySem.W.ks_superIn K C_NoFlag C_NoFlag "__init__" = some (some (.builtin "ValueError.__init__")))
    (base_NoFlag : PySem.W.subIn K (.ref C_NoFlag) (.type "ValueError") = some true)
    (exc_NoFlag : PySem.W.excInitIn K C_NoFlag [.type "ValueError", .type "Exception", .type "BaseException", .type "object"] "ValueError.__new__" = true)
    (sa_NoFlag : PySem.W.findIn K (.ref C_NoFlag) "__setattr__" = some (some (.builtin "object.__setattr__")))
    (ov_NoFlag : PySem.W.excOver K C_NoFlag [.type "ValueError", .type "Exception", .type "BaseException", .type "object"] = true)
    (hd_NoFlag : PySem.W.hasDictIn K C_NoFlag = true)
    (no_NoFlag_flag : PySem.W.findIn K (.ref C_NoFlag) "flag" = some none)
    (exC_NoFlag : PySem.W.subIn K (.ref C_NoFlag) (.type "BaseException") = some true)
    (tyC_NoFlag : PySem.W.typeIn K (.ref C_NoFlag) = some (.type "type"))
    (kC_NoFlag : PySem.W.keepIn K (.ref C_NoFlag) = true)
    (su_NoFlag : PySem.W.subIn K (.ref C_NoFlag) (.ref C_NoFlag) = some true)
    (ga_NoFlag : PySem.W.findIn K (.ref C_NoFlag) "__getattribute__" = some (some (.builtin "BaseException.__getattribute__")))
    (gg_NoFlag : PySem.W.findIn K (.ref C_NoFlag) "__getattr__" = some none)
    (aC_Guard : PySem.W.nsIn K mainGlobals "Guard" = some (some (.ref C_Guard)))
    (pg_Guard : PySem.W.plainGet K C_Guard Str.empty = true)
    (hd_Guard : PySem.W.hasDictIn K C_Guard = true)
    (po_Guard : PySem.W.plainOver K C_Guard = true)
    (sa_Guard : PySem.W.findIn K (.ref C_Guard) "__setattr__" = some (some (.builtin "object.__setattr__")))
    (ha_Guard : PySem.W.findIn K (.ref C_Guard) "__class__" = some (some (.builtin "object.__class__")))
    (hn_Guard : PySem.W.specialIn K (.builtin "object.__class__") "__get__" = some (some (.builtin "getset_descriptor.__get__")))
    (ht_Guard : PySem.W.takesIn K (.builtin "object.__class__") = some true)
    (hm_Guard : PySem.W.mroIn K C_Guard (.type "object") = some true)
    (k1_Guard : PySem.W.kitOne K (.ref C_Guard) (.ref C_Guard) = some true)
    (b1_Guard : PySem.W.kitOne K (.type "NoneType") (.ref C_Guard) = some false)
    (b2_Guard : PySem.W.kitOne K (.type "bool") (.ref C_Guard) = some false)
    (b3_Guard : PySem.W.kitOne K (.type "int") (.ref C_Guard) = some false)
    (b4_Guard : PySem.W.kitOne K (.type "str") (.ref C_Guard) = some false)
    (b5_Guard : PySem.W.kitOne K (.type "list") (.ref C_Guard) = some false)
    (b6_Guard : PySem.W.kitOne K (.type "tuple") (.ref C_Guard) = some false)
    (b7_Guard : PySem.W.kitOne K (.type "dict") (.ref C_Guard) = some false)
    (no_Guard_mark : PySem.W.findIn K (.ref C_Guard) "mark" = some none)
    (no_Guard_act : PySem.W.findIn K (.ref C_Guard) "act" = some none)
    (no_Guard_by : PySem.W.findIn K (.ref C_Guard) "by" = some none)
    (no_Guard_keep : PySem.W.findIn K (.ref C_Guard) "keep" = some none)
    (no_Guard_keep_by : PySem.W.findIn K (.ref C_Guard) "keep_by" = some none)
    (mk_Guard : PySem.W.makesIn K C_Guard = true)
    (kc_Guard : PySem.W.keepIn K (.ref C_Guard) = true)
    (a_Guard_init : PySem.W.findIn K (.ref C_Guard) "__init__" = some (some (.ref f_Guard_init)))
    (i_Guard_init : PySem.W.isFn K (.ref f_Guard_init) = true)
    (l_Guard_init : K.lookup f_Guard_init = some ⟨oc_Guard_init, od_Guard_init, .func (PySem.W.fnOf "__init__" "Guard.__init__" (defArgs s_Guard_init) (defBody s_Guard_init) (defScope s_Guard_init) (.ref dT_Guard_init) (.ref kD_Guard_init) dc_Guard_init pm_Guard_init an_Guard_init cd_Guard_init ct_Guard_init), sl_Guard_init⟩)
    (c_Guard_init : PySem.W.codeIn K cd_Guard_init "Guard.__init__" = true)
    (k_Guard_init : PySem.W.keepIn K (.ref f_Guard_init) = true)
    (dl_Guard_init : K.lookup dT_Guard_init = some ⟨dc_TGuard_init, dd_TGuard_init, .seq di_TGuard_init dn_TGuard_init, ds_TGuard_init⟩)
    (dv_Guard_init : Vals [.str "none"] di_TGuard_init.toList)
    (kw0_Guard_init : PySem.W.nsIn K kD_Guard_init "act" = some (some ku0_Guard_init))
    (kr0_Guard_init : RelV (.str "ring") ku0_Guard_init)
    (kw1_Guard_init : PySem.W.nsIn K kD_Guard_init "by" = some (some ku1_Guard_init))
    (kr1_Guard_init : RelV (.str "same") ku1_Guard_init)
    (kw2_Guard_init : PySem.W.nsIn K kD_Guard_init "keep" = some (some ku2_Guard_init))
    (kr2_Guard_init : RelV (.str "none") ku2_Guard_init)
    (kw3_Guard_init : PySem.W.nsIn K kD_Guard_init "keep_by" = some (some ku3_Guard_init))
    (kr3_Guard_init : RelV (.str "same") ku3_Guard_init)
    (a_Guard_given : PySem.W.findIn K (.ref C_Guard) "given" = some (some (.ref f_Guard_given)))
    (i_Guard_given : PySem.W.isFn K (.ref f_Guard_given) = true)
    (l_Guard_given : K.lookup f_Guard_given = some ⟨oc_Guard_given, od_Guard_given, .func (PySem.W.fnOf "given" "Guard.given" (defArgs s_Guard_given) (defBody s_Guard_given) (defScope s_Guard_given) .none kV_Guard_given dc_Guard_given pm_Guard_given an_Guard_given cd_Guard_given ct_Guard_given), sl_Guard_given⟩)
    (c_Guard_given : PySem.W.codeIn K cd_Guard_given "Guard.given" = true)
    (k_Guard_given : PySem.W.keepIn K (.ref f_Guard_given) = true)
    (a_is_choice : PySem.W.nsIn K mainGlobals "is_choice" = some (some (.ref f_is_choice)))
    (l_is_choice : K.lookup f_is_choice = some ⟨oc_is_choice, od_is_choice, .func (PySem.W.fnOf "is_choice" "is_choice" (defArgs s_is_choice) (defBody s_is_choice) (defScope s_is_choice) .none kV_is_choice dc_is_choice pm_is_choice an_is_choice cd_is_choice ct_is_choice), sl_is_choice⟩)
    (c_is_choice : PySem.W.codeIn K cd_is_choice "is_choice" = true)
    (k_is_choice : PySem.W.keepIn K (.ref f_is_choice) = true)
    (a_Guard_treats : PySem.W.findIn K (.ref C_Guard) "treats" = some (some (.ref f_Guard_treats)))
    (i_Guard_treats : PySem.W.isFn K (.ref f_Guard_treats) = true)
    (l_Guard_treats : K.lookup f_Guard_treats = some ⟨oc_Guard_treats, od_Guard_treats, .func (PySem.W.fnOf "treats" "Guard.treats" (defArgs s_Guard_treats) (defBody s_Guard_treats) (defScope s_Guard_treats) .none kV_Guard_treats dc_Guard_treats pm_Guard_treats an_Guard_treats cd_Guard_treats ct_Guard_treats), sl_Guard_treats⟩)
    (c_Guard_treats : PySem.W.codeIn K cd_Guard_treats "Guard.treats" = true)
    (k_Guard_treats : PySem.W.keepIn K (.ref f_Guard_treats) = true)
    (a_Guard_speaks : PySem.W.findIn K (.ref C_Guard) "speaks" = some (some (.ref f_Guard_speaks)))
    (i_Guard_speaks : PySem.W.isFn K (.ref f_Guard_speaks) = true)
    (l_Guard_speaks : K.lookup f_Guard_speaks = some ⟨oc_Guard_speaks, od_Guard_speaks, .func (PySem.W.fnOf "speaks" "Guard.speaks" (defArgs s_Guard_speaks) (defBody s_Guard_speaks) (defScope s_Guard_speaks) .none kV_Guard_speaks dc_Guard_speaks pm_Guard_speaks an_Guard_speaks cd_Guard_speaks ct_Guard_speaks), sl_Guard_speaks⟩)
    (c_Guard_speaks : PySem.W.codeIn K cd_Guard_speaks "Guard.speaks" = true)
    (k_Guard_speaks : PySem.W.keepIn K (.ref f_Guard_speaks) = true)
    (a_Guard_stops : PySem.W.findIn K (.ref C_Guard) "stops" = some (some (.ref f_Guard_stops)))
    (i_Guard_stops : PySem.W.isFn K (.ref f_Guard_stops) = true)
    (l_Guard_stops : K.lookup f_Guard_stops = some ⟨oc_Guard_stops, od_Guard_stops, .func (PySem.W.fnOf "stops" "Guard.stops" (defArgs s_Guard_stops) (defBody s_Guard_stops) (defScope s_Guard_stops) .none kV_Guard_stops dc_Guard_stops pm_Guard_stops an_Guard_stops cd_Guard_stops ct_Guard_stops), sl_Guard_stops⟩)
    (c_Guard_stops : PySem.W.codeIn K cd_Guard_stops "Guard.stops" = true)
    (k_Guard_stops : PySem.W.keepIn K (.ref f_Guard_stops) = true)
    (a_l_pen : PySem.W.nsIn K mainGlobals "_law_pen" = some (some (.ref f_l_pen)))
    (l_l_pen : K.lookup f_l_pen = some ⟨oc_l_pen, od_l_pen, .func (PySem.W.fnOf "_law_pen" "_law_pen" (defArgs s_l_pen) (defBody s_l_pen) (defScope s_l_pen) .none kV_l_pen dc_l_pen pm_l_pen an_l_pen cd_l_pen ct_l_pen), sl_l_pen⟩)
    (c_l_pen : PySem.W.codeIn K cd_l_pen "_law_pen" = true)
    (k_l_pen : PySem.W.keepIn K (.ref f_l_pen) = true)
    (a_l_take : PySem.W.nsIn K mainGlobals "_law_take" = some (some (.ref f_l_take)))
    (l_l_take : K.lookup f_l_take = some ⟨oc_l_take, od_l_take, .func (PySem.W.fnOf "_law_take" "_law_take" (defArgs s_l_take) (defBody s_l_take) (defScope s_l_take) .none kV_l_take dc_l_take pm_l_take an_l_take cd_l_take ct_l_take), sl_l_take⟩)
    (c_l_take : PySem.W.codeIn K cd_l_take "_law_take" = true)
    (k_l_take : PySem.W.keepIn K (.ref f_l_take) = true)
    (a_l_odd : PySem.W.nsIn K mainGlobals "_law_odd" = some (some (.ref f_l_odd)))
    (l_l_odd : K.lookup f_l_odd = some ⟨oc_l_odd, od_l_odd, .func (PySem.W.fnOf "_law_odd" "_law_odd" (defArgs s_l_odd) (defBody s_l_odd) (defScope s_l_odd) .none kV_l_odd dc_l_odd pm_l_odd an_l_odd cd_l_odd ct_l_odd), sl_l_odd⟩)
    (c_l_odd : PySem.W.codeIn K cd_l_odd "_law_odd" = true)
    (k_l_odd : PySem.W.keepIn K (.ref f_l_odd) = true)
    (a_l_result : PySem.W.nsIn K mainGlobals "_law_result" = some (some (.ref f_l_result)))
    (l_l_result : K.lookup f_l_result = some ⟨oc_l_result, od_l_result, .func (PySem.W.fnOf "_law_result" "_law_result" (defArgs s_l_result) (defBody s_l_result) (defScope s_l_result) .none kV_l_result dc_l_result pm_l_result an_l_result cd_l_result ct_l_result), sl_l_result⟩)
    (c_l_result : PySem.W.codeIn K cd_l_result "_law_result" = true)
    (k_l_result : PySem.W.keepIn K (.ref f_l_result) = true)
    (a_l_given : PySem.W.nsIn K mainGlobals "_law_given" = some (some (.ref f_l_given)))
    (l_l_given : K.lookup f_l_given = some ⟨oc_l_given, od_l_given, .func (PySem.W.fnOf "_law_given" "_law_given" (defArgs s_l_given) (defBody s_l_given) (defScope s_l_given) .none kV_l_given dc_l_given pm_l_given an_l_given cd_l_given ct_l_given), sl_l_given⟩)
    (c_l_given : PySem.W.codeIn K cd_l_given "_law_given" = true)
    (k_l_given : PySem.W.keepIn K (.ref f_l_given) = true)
    (a_l_treats : PySem.W.nsIn K mainGlobals "_law_treats" = some (some (.ref f_l_treats)))
    (l_l_treats : K.lookup f_l_treats = some ⟨oc_l_treats, od_l_treats, .func (PySem.W.fnOf "_law_treats" "_law_treats" (defArgs s_l_treats) (defBody s_l_treats) (defScope s_l_treats) .none kV_l_treats dc_l_treats pm_l_treats an_l_treats cd_l_treats ct_l_treats), sl_l_treats⟩)
    (c_l_treats : PySem.W.codeIn K cd_l_treats "_law_treats" = true)
    (k_l_treats : PySem.W.keepIn K (.ref f_l_treats) = true)
    (a_l_mingled : PySem.W.nsIn K mainGlobals "_law_mingled" = some (some (.ref f_l_mingled)))
    (l_l_mingled : K.lookup f_l_mingled = some ⟨oc_l_mingled, od_l_mingled, .func (PySem.W.fnOf "_law_mingled" "_law_mingled" (defArgs s_l_mingled) (defBody s_l_mingled) (defScope s_l_mingled) .none kV_l_mingled dc_l_mingled pm_l_mingled an_l_mingled cd_l_mingled ct_l_mingled), sl_l_mingled⟩)
    (c_l_mingled : PySem.W.codeIn K cd_l_mingled "_law_mingled" = true)
    (k_l_mingled : PySem.W.keepIn K (.ref f_l_mingled) = true)
    (a_l_all_sets : PySem.W.nsIn K mainGlobals "_law_all_sets" = some (some (.ref f_l_all_sets)))
    (l_l_all_sets : K.lookup f_l_all_sets = some ⟨oc_l_all_sets, od_l_all_sets, .func (PySem.W.fnOf "_law_all_sets" "_law_all_sets" (defArgs s_l_all_sets) (defBody s_l_all_sets) (defScope s_l_all_sets) .none kV_l_all_sets dc_l_all_sets pm_l_all_sets an_l_all_sets cd_l_all_sets ct_l_all_sets), sl_l_all_sets⟩)
    (c_l_all_sets : PySem.W.codeIn K cd_l_all_sets "_law_all_sets" = true)
    (k_l_all_sets : PySem.W.keepIn K (.ref f_l_all_sets) = true)
    (a_l_stops_refused : PySem.W.nsIn K mainGlobals "_law_stops_refused" = some (some (.ref f_l_stops_refused)))
    (l_l_stops_refused : K.lookup f_l_stops_refused = some ⟨oc_l_stops_refused, od_l_stops_refused, .func (PySem.W.fnOf "_law_stops_refused" "_law_stops_refused" (defArgs s_l_stops_refused) (defBody s_l_stops_refused) (defScope s_l_stops_refused) .none kV_l_stops_refused dc_l_stops_refused pm_l_stops_refused an_l_stops_refused cd_l_stops_refused ct_l_stops_refused), sl_l_stops_refused⟩)
    (c_l_stops_refused : PySem.W.codeIn K cd_l_stops_refused "_law_stops_refused" = true)
    (k_l_stops_refused : PySem.W.keepIn K (.ref f_l_stops_refused) = true)
    (a_law : PySem.W.nsIn K mainGlobals "law" = some (some (.ref f_law)))
    (l_law : K.lookup f_law = some ⟨oc_law, od_law, .func (PySem.W.fnOf "law" "law" (defArgs s_law) (defBody s_law) (defScope s_law) .none kV_law dc_law pm_law an_law cd_law ct_law), sl_law⟩)
    (c_law : PySem.W.codeIn K cd_law "law" = true)
    (k_law : PySem.W.keepIn K (.ref f_law) = true)
    (cr1_Guard : PySem.W.readsIn K C_Guard (.type "type") = true)
    (cr2_Guard : PySem.W.specialIn K (.ref C_Guard) "__getattribute__" = some (some (.builtin "type.__getattribute__")))
    (cr3_Guard_FLAGS : PySem.W.findCls K (.ref C_Guard) (.type "type") "FLAGS" = some (.val (.ref A_FLAGS)))
    (lt_FLAGS : K.lookup A_FLAGS = some ⟨.type "tuple", td_FLAGS, .seq ti_FLAGS tn_FLAGS, ts_FLAGS⟩)
    (ls_FLAGS : decide (ti_FLAGS.size ≤ 16777216) = true)
    (lv_FLAGS : Vals (FLAGSl.map V.str) ti_FLAGS.toList)
    : ∃ fd : FuncData, (∀ (s : Shared) (v : Value), BindsTo s fd ⟨[v], []⟩ [("_law_script", v)]) ∧ ∀ base : Heap, K.In base → base.Ns mainGlobals mg → FnOk l.prog w K mg base (L2.CX l.prog w) 7 fa fd ["_law_script"] (spLaw K) := by
  have e := hfa.symm.trans (PySem.W.mg_of X G a_law)
  cases e
  have er_BadGuard : ErC l.prog K "BadGuard.__init__" ["part"] C_BadGuard := er_mk PySem.W.kxs_ValueError PySem.F.excBase_ValueError PySem.F.store_ValueError fm_BadGuard init_BadGuard ty_BadGuard lk_BadGuard hc_BadGuard code_BadGuard hv_BadGuard hf_BadGuard cell_BadGuard ic_BadGuard sub_BadGuard z_super z_tp z_top sup_BadGuard base_BadGuard exc_BadGuard sa_BadGuard ov_BadGuard hd_BadGuard (by
    intro f hf
    simp only [List.mem_cons, List.not_mem_nil, or_false] at hf
    rcases hf with rfl <;> assumption) exC_BadGuard tyC_BadGuard kC_BadGuard
  have er_NoFlag : ErC l.prog K "NoFlag.__init__" ["flag"] C_NoFlag := er_mk PySem.W.kxs_ValueError PySem.F.excBase_ValueError PySem.F.store_ValueError fm_NoFlag init_NoFlag ty_NoFlag lk_NoFlag hc_NoFlag code_NoFlag hv_NoFlag hf_NoFlag cell_NoFlag ic_NoFlag sub_NoFlag z_super z_tp z_top sup_NoFlag base_NoFlag exc_NoFlag sa_NoFlag ov_NoFlag hd_NoFlag (by
    intro f hf
    simp only [List.mem_cons, List.not_mem_nil, or_false] at hf
    rcases hf with rfl <;> assumption) exC_NoFlag tyC_NoFlag kC_NoFlag
  have Kd_Guard_init : KwdV K (.ref kD_Guard_init) [("act", .str "ring"), ("by", .str "same"), ("keep", .str "none"), ("keep_by", .str "same")] := .inr ⟨kD_Guard_init, rfl, fun q hq => by
    simp only [List.mem_cons, List.not_mem_nil, or_false] at hq
    rcases hq with rfl | rfl | rfl | rfl
    · exact ⟨_, kw0_Guard_init, kr0_Guard_init⟩
    · exact ⟨_, kw1_Guard_init, kr1_Guard_init⟩
    · exact ⟨_, kw2_Guard_init, kr2_Guard_init⟩
    · exact ⟨_, kw3_Guard_init, kr3_Guard_init⟩⟩
  have F_Guard_given := fun_mk (st := s_Guard_given) l_Guard_given c_Guard_given k_Guard_given
  have F_is_choice := fun_mk (st := s_is_choice) l_is_choice c_is_choice k_is_choice
  have F_Guard_treats := fun_mk (st := s_Guard_treats) l_Guard_treats c_Guard_treats k_Guard_treats
  have F_Guard_speaks := fun_mk (st := s_Guard_speaks) l_Guard_speaks c_Guard_speaks k_Guard_speaks
  have F_Guard_stops := fun_mk (st := s_Guard_stops) l_Guard_stops c_Guard_stops k_Guard_stops
  have F_l_pen := fun_mk (st := s_l_pen) l_l_pen c_l_pen k_l_pen
  have F_l_take := fun_mk (st := s_l_take) l_l_take c_l_take k_l_take
  have F_l_odd := fun_mk (st := s_l_odd) l_l_odd c_l_odd k_l_odd
  have F_l_result := fun_mk (st := s_l_result) l_l_result c_l_result k_l_result
  have F_l_given := fun_mk (st := s_l_given) l_l_given c_l_given k_l_given
  have F_l_treats := fun_mk (st := s_l_treats) l_l_treats c_l_treats k_l_treats
  have F_l_mingled := fun_mk (st := s_l_mingled) l_l_mingled c_l_mingled k_l_mingled
  have F_l_all_sets := fun_mk (st := s_l_all_sets) l_l_all_sets c_l_all_sets k_l_all_sets
  have F_l_stops_refused := fun_mk (st := s_l_stops_refused) l_l_stops_refused c_l_stops_refused k_l_stops_refused
  have F_law := fun_mk (st := s_law) l_law c_law k_law
  have T : Txt l.prog K mg { MARKS := A_MARKS, ACTS := A_ACTS, BY := A_BY, KEEPS := A_KEEPS, BadGuard := C_BadGuard, NoFlag := C_NoFlag, Guard := C_Guard, Guard_init := f_Guard_init, fd_Guard_init := PySem.W.fnOf "__init__" "Guard.__init__" (defArgs s_Guard_init) (defBody s_Guard_init) (defScope s_Guard_init) (.ref dT_Guard_init) (.ref kD_Guard_init) dc_Guard_init pm_Guard_init an_Guard_init cd_Guard_init ct_Guard_init, Guard_given := f_Guard_given, fd_Guard_given := PySem.W.fnOf "given" "Guard.given" (defArgs s_Guard_given) (defBody s_Guard_given) (defScope s_Guard_given) .none kV_Guard_given dc_Guard_given pm_Guard_given an_Guard_given cd_Guard_given ct_Guard_given, is_choice := f_is_choice, fd_is_choice := PySem.W.fnOf "is_choice" "is_choice" (defArgs s_is_choice) (defBody s_is_choice) (defScope s_is_choice) .none kV_is_choice dc_is_choice pm_is_choice an_is_choice cd_is_choice ct_is_choice, Guard_treats := f_Guard_treats, fd_Guard_treats := PySem.W.fnOf "treats" "Guard.treats" (defArgs s_Guard_treats) (defBody s_Guard_treats) (defScope s_Guard_treats) .none kV_Guard_treats dc_Guard_treats pm_Guard_treats an_Guard_treats cd_Guard_treats ct_Guard_treats, Guard_speaks := f_Guard_speaks, fd_Guard_speaks := PySem.W.fnOf "speaks" "Guard.speaks" (defArgs s_Guard_speaks) (defBody s_Guard_speaks) (defScope s_Guard_speaks) .none kV_Guard_speaks dc_Guard_speaks pm_Guard_speaks an_Guard_speaks cd_Guard_speaks ct_Guard_speaks, Guard_stops := f_Guard_stops, fd_Guard_stops := PySem.W.fnOf "stops" "Guard.stops" (defArgs s_Guard_stops) (defBody s_Guard_stops) (defScope s_Guard_stops) .none kV_Guard_stops dc_Guard_stops pm_Guard_stops an_Guard_stops cd_Guard_stops ct_Guard_stops, l_pen := f_l_pen, fd_l_pen := PySem.W.fnOf "_law_pen" "_law_pen" (defArgs s_l_pen) (defBody s_l_pen) (defScope s_l_pen) .none kV_l_pen dc_l_pen pm_l_pen an_l_pen cd_l_pen ct_l_pen, l_take := f_l_take, fd_l_take := PySem.W.fnOf "_law_take" "_law_take" (defArgs s_l_take) (defBody s_l_take) (defScope s_l_take) .none kV_l_take dc_l_take pm_l_take an_l_take cd_l_take ct_l_take, l_odd := f_l_odd, fd_l_odd := PySem.W.fnOf "_law_odd" "_law_odd" (defArgs s_l_odd) (defBody s_l_odd) (defScope s_l_odd) .none kV_l_odd dc_l_odd pm_l_odd an_l_odd cd_l_odd ct_l_odd, l_result := f_l_result, fd_l_result := PySem.W.fnOf "_law_result" "_law_result" (defArgs s_l_result) (defBody s_l_result) (defScope s_l_result) .none kV_l_result dc_l_result pm_l_result an_l_result cd_l_result ct_l_result, l_given := f_l_given, fd_l_given := PySem.W.fnOf "_law_given" "_law_given" (defArgs s_l_given) (defBody s_l_given) (defScope s_l_given) .none kV_l_given dc_l_given pm_l_given an_l_given cd_l_given ct_l_given, l_treats := f_l_treats, fd_l_treats := PySem.W.fnOf "_law_treats" "_law_treats" (defArgs s_l_treats) (defBody s_l_treats) (defScope s_l_treats) .none kV_l_treats dc_l_treats pm_l_treats an_l_treats cd_l_treats ct_l_treats, l_mingled := f_l_mingled, fd_l_mingled := PySem.W.fnOf "_law_mingled" "_law_mingled" (defArgs s_l_mingled) (defBody s_l_mingled) (defScope s_l_mingled) .none kV_l_mingled dc_l_mingled pm_l_mingled an_l_mingled cd_l_mingled ct_l_mingled, l_all_sets := f_l_all_sets, fd_l_all_sets := PySem.W.fnOf "_law_all_sets" "_law_all_sets" (defArgs s_l_all_sets) (defBody s_l_all_sets) (defScope s_l_all_sets) .none kV_l_all_sets dc_l_all_sets pm_l_all_sets an_l_all_sets cd_l_all_sets ct_l_all_sets, l_stops_refused := f_l_stops_refused, fd_l_stops_refused := PySem.W.fnOf "_law_stops_refused" "_law_stops_refused" (defArgs s_l_stops_refused) (defBody s_l_stops_refused) (defScope s_l_stops_refused) .none kV_l_stops_refused dc_l_stops_refused pm_l_stops_refused an_l_stops_refused cd_l_stops_refused ct_l_stops_refused, law := fa, fd_law := PySem.W.fnOf "law" "law" (defArgs s_law) (defBody s_law) (defScope s_law) .none kV_law dc_law pm_law an_law cd_law ct_law, FLAGS := A_FLAGS } := {
    n_len := PySem.W.mg_none_of X G z_len,
    n_int := PySem.W.mg_none_of X G z_int,
    n_list := PySem.W.mg_none_of X G z_list,
    n_range := PySem.W.mg_none_of X G z_range,
    n_isinstance := PySem.W.mg_none_of X G z_isinstance,
    n_str := PySem.W.mg_none_of X G z_str,
    n_tuple := PySem.W.mg_none_of X G z_tuple,
    n_any := PySem.W.mg_none_of X G z_any,
    n_bool := PySem.W.mg_none_of X G z_bool,
    c_MARKS := sqt_mk lt_MARKS ls_MARKS lv_MARKS,
    g_MARKS := PySem.W.mg_of X G aG_MARKS,
    c_ACTS := sqt_mk lt_ACTS ls_ACTS lv_ACTS,
    g_ACTS := PySem.W.mg_of X G aG_ACTS,
    c_BY := sqt_mk lt_BY ls_BY lv_BY,
    g_BY := PySem.W.mg_of X G aG_BY,
    c_KEEPS := sqt_mk lt_KEEPS ls_KEEPS lv_KEEPS,
    g_KEEPS := PySem.W.mg_of X G aG_KEEPS,
    g_BadGuard := PySem.W.mg_of X G aC_BadGuard,
    er_BadGuard := er_BadGuard,
    te_BadGuard := exm_self exC_BadGuard ic_BadGuard tyC_BadGuard su_BadGuard,
    xf_BadGuard := ⟨ga_BadGuard, gg_BadGuard, exC_BadGuard, hd_BadGuard⟩,
    no_BadGuard_part := no_BadGuard_part,
    g_NoFlag := PySem.W.mg_of X G aC_NoFlag,
    er_NoFlag := er_NoFlag,
    te_NoFlag := exm_self exC_NoFlag ic_NoFlag tyC_NoFlag su_NoFlag,
    xf_NoFlag := ⟨ga_NoFlag, gg_NoFlag, exC_NoFlag, hd_NoFlag⟩,
    no_NoFlag_flag := no_NoFlag_flag,
    g_Guard := PySem.W.mg_of X G aC_Guard,
    ow_Guard := own_mk pg_Guard hd_Guard po_Guard sa_Guard ha_Guard hn_Guard ht_Guard hm_Guard k1_Guard b1_Guard b2_Guard b3_Guard b4_Guard b5_Guard b6_Guard b7_Guard,
    no_Guard_mark := no_Guard_mark,
    no_Guard_act := no_Guard_act,
    no_Guard_by := no_Guard_by,
    no_Guard_keep := no_Guard_keep,
    no_Guard_keep_by := no_Guard_keep_by,
    F_Guard_init := ⟨⟨_, _, _, _, _, _, _, _, _, _, rfl, l_Guard_init, c_Guard_init, (dflt_mk dl_Guard_init dv_Guard_init (by simp)), Kd_Guard_init⟩, k_Guard_init⟩,
    F_Guard_given := F_Guard_given,
    me_Guard_given := ⟨a_Guard_given, i_Guard_given, k_Guard_given⟩,
    g_is_choice := PySem.W.mg_of X G a_is_choice,
    F_is_choice := F_is_choice,
    b_is_choice := F_is_choice.binds (ps := ["thing", "choices"]) fun _ _ _ _ _ _ us hl => match us, hl with | [_, _], _ => rfl,
    F_Guard_treats := F_Guard_treats,
    b_Guard_treats := F_Guard_treats.binds (ps := ["self", "flags"]) fun _ _ _ _ _ _ us hl => match us, hl with | [_, _], _ => rfl,
    me_Guard_treats := ⟨a_Guard_treats, i_Guard_treats, k_Guard_treats⟩,
    F_Guard_speaks := F_Guard_speaks,
    b_Guard_speaks := F_Guard_speaks.binds (ps := ["self", "flags"]) fun _ _ _ _ _ _ us hl => match us, hl with | [_, _], _ => rfl,
    me_Guard_speaks := ⟨a_Guard_speaks, i_Guard_speaks, k_Guard_speaks⟩,
    F_Guard_stops := F_Guard_stops,
    b_Guard_stops := F_Guard_stops.binds (ps := ["self", "flag"]) fun _ _ _ _ _ _ us hl => match us, hl with | [_, _], _ => rfl,
    me_Guard_stops := ⟨a_Guard_stops, i_Guard_stops, k_Guard_stops⟩,
    g_l_pen := PySem.W.mg_of X G a_l_pen,
    F_l_pen := F_l_pen,
    b_l_pen := F_l_pen.binds (ps := ["_law_script"]) fun _ _ _ _ _ _ us hl => match us, hl with | [_], _ => rfl,
    g_l_take := PySem.W.mg_of X G a_l_take,
    F_l_take := F_l_take,
    b_l_take := F_l_take.binds (ps := ["_law_pen_here", "_law_bound"]) fun _ _ _ _ _ _ us hl => match us, hl with | [_, _], _ => rfl,
    g_l_odd := PySem.W.mg_of X G a_l_odd,
    F_l_odd := F_l_odd,
    b_l_odd := F_l_odd.binds (ps := ["_law_pen_here"]) fun _ _ _ _ _ _ us hl => match us, hl with | [_], _ => rfl,
    g_l_result := PySem.W.mg_of X G a_l_result,
    F_l_result := F_l_result,
    b_l_result := F_l_result.binds (ps := ["_law_five", "_law_here", "_law_left", "_law_twin_here", "_law_twin_left"]) fun _ _ _ _ _ _ us hl => match us, hl with | [_, _, _, _, _], _ => rfl,
    g_l_given := PySem.W.mg_of X G a_l_given,
    F_l_given := F_l_given,
    b_l_given := F_l_given.binds (ps := ["_law_guard", "_law_flags"]) fun _ _ _ _ _ _ us hl => match us, hl with | [_, _], _ => rfl,
    g_l_treats := PySem.W.mg_of X G a_l_treats,
    F_l_treats := F_l_treats,
    b_l_treats := F_l_treats.binds (ps := ["_law_guard", "_law_flags"]) fun _ _ _ _ _ _ us hl => match us, hl with | [_, _], _ => rfl,
    g_l_mingled := PySem.W.mg_of X G a_l_mingled,
    F_l_mingled := F_l_mingled,
    b_l_mingled := F_l_mingled.binds (ps := ["_law_pen_here", "_law_flags"]) fun _ _ _ _ _ _ us hl => match us, hl with | [_, _], _ => rfl,
    g_l_all_sets := PySem.W.mg_of X G a_l_all_sets,
    F_l_all_sets := F_l_all_sets,
    b_l_all_sets := F_l_all_sets.binds (ps := ["_law_pen_here", "_law_guard", "_law_five"]) fun _ _ _ _ _ _ us hl => match us, hl with | [_, _, _], _ => rfl,
    g_l_stops_refused := PySem.W.mg_of X G a_l_stops_refused,
    F_l_stops_refused := F_l_stops_refused,
    b_l_stops_refused := F_l_stops_refused.binds (ps := ["_law_guard", "_law_flag"]) fun _ _ _ _ _ _ us hl => match us, hl with | [_, _], _ => rfl,
    F_law := F_law,
    cr_Guard_FLAGS := ⟨.type "type", .ref A_FLAGS, ⟨cr1_Guard, cr2_Guard⟩, ⟨cr3_Guard_FLAGS, rfl⟩⟩,
    c_FLAGS := sqt_mk lt_FLAGS ls_FLAGS lv_FLAGS,
    mk_Guard := ⟨mk_Guard, a_Guard_init, i_Guard_init, kc_Guard⟩ }
  exact ⟨PySem.W.fnOf "law" "law" (defArgs s_law) (defBody s_law) (defScope s_law) .none kV_law dc_law pm_law an_law cd_law ct_law, fun s v => .of_eq rfl, fun base _ _ => ok_law T⟩
theorem walk {l : PySem.W.OpenLaw} {q : Program} {loose : List Str} {XP : (Str → Option Value) → Heap → Prop} {YP : World → Heap → Prop} {d : DefRec} {K : Params → PySem.W.Frag} (hn : l.most = some 63) (hdf : d.params.defaults = [])
    (hY : ∀ (w : World) (h : Heap), YP w h → (K w.params).In h)
    (F : ∀ (w : World) (mg : Str → Option Value) (fa : Addr) (h : Heap), (K w.params).In h → h.Ns mainGlobals mg → mg d.name = some (.ref fa) →
      ∃ fd : FuncData, (∀ (s : Shared) (u : Value), BindsTo s fd ⟨[u], []⟩ [("_law_script", u)]) ∧ ∀ base : Heap, (K w.params).In base → base.Ns mainGlobals mg → FnOk l.prog w (K w.params) mg base (L2.CX l.prog w) 7 fa fd ["_law_script"] (spLaw (K w.params))) :
    PySem.W.WalkO q loose XP YP l.row.toRowW d [] (fun f vs => PySem.call f vs) :=
  L2.walk_of (n := 63) (k := 7) (x := "_law_script") (CX := fun w => L2.CX l.prog w) (sp := fun w => spLaw (K w.params)) hn (by decide) hdf ⟨rfl, by decide, by decide⟩ hY F (fun _ _ a ns hl _ hS => ⟨a, ns, rfl, hS, fun _ => rfl⟩) fun _ _ _ _ _ z => cx_none z
end Wm

open PySem PySem.W PyProof.Rows in
set_option maxRecDepth 100000 in
set_option maxHeartbeats 0 in
theorem PySem.Challenge.cw_walkmarks_k23_results_of_guards_holds : PySem.Challenge.rw_walkmarks_k23_results_of_guards.Holds := by
  w_on; o_law; k_head; (case hw => w_witness2)
  k_fill
  refine Wm.walk (l := PySem.Challenge.rw_walkmarks_k23_results_of_guards) rfl rfl (fun w h Y => PySem.W.kIn_of Y) ?F
  case F =>
    intro w mg fa h KX G hmg
    refine' Wm.all_mk KX G hmg ?z_len ?z_int ?z_list ?z_range ?z_isinstance ?z_str ?z_tuple ?z_any ?z_bool ?aG_MARKS ?lt_MARKS ?ls_MARKS ?lv_MARKS ?aG_ACTS ?lt_ACTS ?ls_ACTS ?lv_ACTS ?aG_BY ?lt_BY ?ls_BY ?lv_BY ?aG_KEEPS ?lt_KEEPS ?ls_KEEPS ?lv_KEEPS ?aC_BadGuard ?init_BadGuard ?ty_BadGuard ?lk_BadGuard ?hc_BadGuard ?code_BadGuard ?hv_BadGuard ?hf_BadGuard ?cell_BadGuard ?ic_BadGuard ?sub_BadGuard ?z_super ?z_tp ?z_top ?sup_BadGuard ?base_BadGuard ?exc_BadGuard ?sa_BadGuard ?ov_BadGuard ?hd_BadGuard ?no_BadGuard_part ?exC_BadGuard ?tyC_BadGuard ?kC_BadGuard ?su_BadGuard ?ga_BadGuard ?gg_BadGuard ?aC_NoFlag ?init_NoFlag ?ty_NoFlag ?lk_NoFlag ?hc_NoFlag ?code_NoFlag ?hv_NoFlag ?hf_NoFlag ?cell_NoFlag ?ic_NoFlag ?sub_NoFlag ?sup_NoFlag ?base_NoFlag ?exc_NoFlag ?sa_NoFlag ?ov_NoFlag ?hd_NoFlag ?no_NoFlag_flag ?exC_NoFlag ?tyC_NoFlag ?kC_NoFlag ?su_NoFlag ?ga_NoFlag ?gg_NoFlag ?aC_Guard ?pg_Guard ?hd_Guard ?po_Guard ?sa_Guard ?ha_Guard ?hn_Guard ?ht_Guard ?hm_Guard ?k1_Guard ?b1_Guard ?b2_Guard ?b3_Guard ?b4_Guard ?b5_Guard ?b6_Guard ?b7_Guard ?no_Guard_mark ?no_Guard_act ?no_Guard_by ?no_Guard_keep ?no_Guard_keep_by ?mk_Guard ?kc_Guard ?a_Guard_init ?i_Guard_init ?l_Guard_init ?c_Guard_init ?k_Guard_init ?dl_Guard_init ?dv_Guard_init ?kw0_Guard_init ?kr0_Guard_init ?kw1_Guard_init ?kr1_Guard_init ?kw2_Guard_init ?kr2_Guard_init ?kw3_Guard_init ?kr3_Guard_init ?a_Guard_given ?i_Guard_given ?l_Guard_given ?c_Guard_given ?k_Guard_given ?a_is_choice ?l_is_choice ?c_is_choice ?k_is_choice ?a_Guard_treats ?i_Guard_treats ?l_Guard_treats ?c_Guard_treats ?k_Guard_treats ?a_Guard_speaks ?i_Guard_speaks ?l_Guard_speaks ?c_Guard_speaks ?k_Guard_speaks ?a_Guard_stops ?i_Guard_stops ?l_Guard_stops ?c_Guard_stops ?k_Guard_stops ?a_l_pen ?l_l_pen ?c_l_pen ?k_l_pen ?a_l_take ?l_l_take ?c_l_take ?k_l_take ?a_l_odd ?l_l_odd ?c_l_odd ?k_l_odd ?a_l_result ?l_l_result ?c_l_result ?k_l_result ?a_l_given ?l_l_given ?c_l_given ?k_l_given ?a_l_treats ?l_l_treats ?c_l_treats ?k_l_treats ?a_l_mingled ?l_l_mingled ?c_l_mingled ?k_l_mingled ?a_l_all_sets ?l_l_all_sets ?c_l_all_sets ?k_l_all_sets ?a_l_stops_refused ?l_l_stops_refused ?c_l_stops_refused ?k_l_stops_refused ?a_law ?l_law ?c_law ?k_law ?cr1_Guard ?cr2_Guard ?cr3_Guard_FLAGS ?lt_FLAGS ?ls_FLAGS ?lv_FLAGS
    (case z_len => walk_at "w_leaf")
    (case z_int => walk_at "w_leaf")
    (case z_list => walk_at "w_leaf")
    (case z_range => walk_at "w_leaf")
    (case z_isinstance => walk_at "w_leaf")
    (case z_str => walk_at "w_leaf")
    (case z_tuple => walk_at "w_leaf")
    (case z_any => walk_at "w_leaf")
    (case z_bool => walk_at "w_leaf")
    (case aG_MARKS => walk_at "w_leaf")
    (case lt_MARKS => walk_at "w_leaf")
    (case ls_MARKS => walk_at "w_leaf")
    (case lv_MARKS => walk_at "w_vals")
    (case aG_ACTS => walk_at "w_leaf")
    (case lt_ACTS => walk_at "w_leaf")
    (case ls_ACTS => walk_at "w_leaf")
    (case lv_ACTS => walk_at "w_vals")
    (case aG_BY => walk_at "w_leaf")
    (case lt_BY => walk_at "w_leaf")
    (case ls_BY => walk_at "w_leaf")
    (case lv_BY => walk_at "w_vals")
    (case aG_KEEPS => walk_at "w_leaf")
    (case lt_KEEPS => walk_at "w_leaf")
    (case ls_KEEPS => walk_at "w_leaf")
    (case lv_KEEPS => walk_at "w_vals")
    (case aC_BadGuard => walk_at "w_leaf")
    (case init_BadGuard => walk_at "w_leaf")
    (case ty_BadGuard => walk_at "w_leaf")
    (case lk_BadGuard => walk_at "w_leaf")
    (case hc_BadGuard => walk_at "w_leaf")
    (case code_BadGuard => walk_at "w_leaf")
    (case hv_BadGuard => walk_at "w_leaf")
    (case hf_BadGuard => walk_at "w_leaf")
    (case cell_BadGuard => walk_at "w_leaf")
    (case ic_BadGuard => walk_at "w_leaf")
    (case sub_BadGuard => walk_at "w_leaf")
    (case z_super => walk_at "w_leaf")
    (case z_tp => walk_at "w_leaf")
    (case z_top => walk_at "w_leaf")
    (case sup_BadGuard => walk_at "w_leaf")
    (case base_BadGuard => walk_at "w_leaf")
    (case exc_BadGuard => walk_at "w_leaf")
    (case sa_BadGuard => walk_at "w_leaf")
    (case ov_BadGuard => walk_at "w_leaf")
    (case hd_BadGuard => walk_at "w_leaf")
    (case no_BadGuard_part => walk_at "w_leaf")
    (case exC_BadGuard => walk_at "w_leaf")
    (case tyC_BadGuard => walk_at "w_leaf")
    (case kC_BadGuard => walk_at "w_leaf")
    (case su_BadGuard => walk_at "w_leaf")
    (case ga_BadGuard => walk_at "w_leaf")
    (case gg_BadGuard => walk_at "w_leaf")
    (case aC_NoFlag => walk_at "w_leaf")
    (case init_NoFlag => walk_at "w_leaf")
    (case ty_NoFlag => walk_at "w_leaf")
    (case lk_NoFlag => walk_at "w_leaf")
    (case hc_NoFlag => walk_at "w_leaf")
    (case code_NoFlag => walk_at "w_leaf")
    (case hv_NoFlag => walk_at "w_leaf")
    (case hf_NoFlag => walk_at "w_leaf")
    (case cell_NoFlag => walk_at "w_leaf")
    (case ic_NoFlag => walk_at "w_leaf")
    (case sub_NoFlag => walk_at "w_leaf")
    (case sup_NoFlag => walk_at "w_leaf")
    (case base_NoFlag => walk_at "w_leaf")
    (case exc_NoFlag => walk_at "w_leaf")
    (case sa_NoFlag => walk_at "w_leaf")
    (case ov_NoFlag => walk_at "w_leaf")
    (case hd_NoFlag => walk_at "w_leaf")
    (case no_NoFlag_flag => walk_at "w_leaf")
    (case exC_NoFlag => walk_at "w_leaf")
    (case tyC_NoFlag => walk_at "w_leaf")
    (case kC_NoFlag => walk_at "w_leaf")
    (case su_NoFlag => walk_at "w_leaf")
    (case ga_NoFlag => walk_at "w_leaf")
    (case gg_NoFlag => walk_at "w_leaf")
    (case aC_Guard => walk_at "w_leaf")
    (case pg_Guard => walk_at "w_leaf")
    (case hd_Guard => walk_at "w_leaf")
    (case po_Guard => walk_at "w_leaf")
    (case sa_Guard => walk_at "w_leaf")
    (case ha_Guard => walk_at "w_leaf")
    (case hn_Guard => walk_at "w_leaf")
    (case ht_Guard => walk_at "w_leaf")
    (case hm_Guard => walk_at "w_leaf")
    (case k1_Guard => walk_at "w_leaf")
    (case b1_Guard => walk_at "w_leaf")
    (case b2_Guard => walk_at "w_leaf")
    (case b3_Guard => walk_at "w_leaf")
    (case b4_Guard => walk_at "w_leaf")
    (case b5_Guard => walk_at "w_leaf")
    (case b6_Guard => walk_at "w_leaf")
    (case b7_Guard => walk_at "w_leaf")
    (case no_Guard_mark => walk_at "w_leaf")
    (case no_Guard_act => walk_at "w_leaf")
    (case no_Guard_by => walk_at "w_leaf")
    (case no_Guard_keep => walk_at "w_leaf")
    (case no_Guard_keep_by => walk_at "w_leaf")
    (case mk_Guard => walk_at "w_leaf")
    (case kc_Guard => walk_at "w_leaf")
    (case a_Guard_init => walk_at "w_leaf")
    (case i_Guard_init => walk_at "w_leaf")
    (case l_Guard_init => walk_at "w_leaf")
    (case c_Guard_init => walk_at "w_leaf")
    (case k_Guard_init => walk_at "w_leaf")
    (case dl_Guard_init => walk_at "w_leaf")
    (case dv_Guard_init => walk_at "w_vals")
    (case kw0_Guard_init => walk_at "w_leaf")
    (case kr0_Guard_init => walk_at "w_rel")
    (case kw1_Guard_init => walk_at "w_leaf")
    (case kr1_Guard_init => walk_at "w_rel")
    (case kw2_Guard_init => walk_at "w_leaf")
    (case kr2_Guard_init => walk_at "w_rel")
    (case kw3_Guard_init => walk_at "w_leaf")
    (case kr3_Guard_init => walk_at "w_rel")
    (case a_Guard_given => walk_at "w_leaf")
    (case i_Guard_given => walk_at "w_leaf")
    (case l_Guard_given => walk_at "w_leaf")
    (case c_Guard_given => walk_at "w_leaf")
    (case k_Guard_given => walk_at "w_leaf")
    (case a_is_choice => walk_at "w_leaf")
    (case l_is_choice => walk_at "w_leaf")
    (case c_is_choice => walk_at "w_leaf")
    (case k_is_choice => walk_at "w_leaf")
    (case a_Guard_treats => walk_at "w_leaf")
    (case i_Guard_treats => walk_at "w_leaf")
    (case l_Guard_treats => walk_at "w_leaf")
    (case c_Guard_treats => walk_at "w_leaf")
    (case k_Guard_treats => walk_at "w_leaf")
    (case a_Guard_speaks => walk_at "w_leaf")
    (case i_Guard_speaks => walk_at "w_leaf")
    (case l_Guard_speaks => walk_at "w_leaf")
    (case c_Guard_speaks => walk_at "w_leaf")
    (case k_Guard_speaks => walk_at "w_leaf")
    (case a_Guard_stops => walk_at "w_leaf")
    (case i_Guard_stops => walk_at "w_leaf")
    (case l_Guard_stops => walk_at "w_leaf")
    (case c_Guard_stops => walk_at "w_leaf")
    (case k_Guard_stops => walk_at "w_leaf")
    (case a_l_pen => walk_at "w_leaf")
    (case l_l_pen => walk_at "w_leaf")
    (case c_l_pen => walk_at "w_leaf")
    (case k_l_pen => walk_at "w_leaf")
    (case a_l_take => walk_at "w_leaf")
    (case l_l_take => walk_at "w_leaf")
    (case c_l_take => walk_at "w_leaf")
    (case k_l_take => walk_at "w_leaf")
    (case a_l_odd => walk_at "w_leaf")
    (case l_l_odd => walk_at "w_leaf")
    (case c_l_odd => walk_at "w_leaf")
    (case k_l_odd => walk_at "w_leaf")
    (case a_l_result => walk_at "w_leaf")
    (case l_l_result => walk_at "w_leaf")
    (case c_l_result => walk_at "w_leaf")
    (case k_l_result => walk_at "w_leaf")
    (case a_l_given => walk_at "w_leaf")
    (case l_l_given => walk_at "w_leaf")
    (case c_l_given => walk_at "w_leaf")
    (case k_l_given => walk_at "w_leaf")
    (case a_l_treats => walk_at "w_leaf")
    (case l_l_treats => walk_at "w_leaf")
    (case c_l_treats => walk_at "w_leaf")
    (case k_l_treats => walk_at "w_leaf")
    (case a_l_mingled => walk_at "w_leaf")
    (case l_l_mingled => walk_at "w_leaf")
    (case c_l_mingled => walk_at "w_leaf")
    (case k_l_mingled => walk_at "w_leaf")
    (case a_l_all_sets => walk_at "w_leaf")
    (case l_l_all_sets => walk_at "w_leaf")
    (case c_l_all_sets => walk_at "w_leaf")
    (case k_l_all_sets => walk_at "w_leaf")
    (case a_l_stops_refused => walk_at "w_leaf")
    (case l_l_stops_refused => walk_at "w_leaf")
    (case c_l_stops_refused => walk_at "w_leaf")
    (case k_l_stops_refused => walk_at "w_leaf")
    (case a_law => walk_at "w_leaf")
    (case l_law => walk_at "w_leaf")
    (case c_law => walk_at "w_leaf")
    (case k_law => walk_at "w_leaf")
    (case cr1_Guard => walk_at "w_leaf")
    (case cr2_Guard => walk_at "w_leaf")
    (case cr3_Guard_FLAGS => walk_at "w_leaf")
    (case lt_FLAGS => walk_at "w_leaf")
    (case ls_FLAGS => walk_at "w_leaf")
    (case lv_FLAGS => walk_at "w_vals")
