import PyProof.Rows.All
import Wide.All
import OpenK.AllK
import Wide.FinOn
import KE.KExcSuper
import HandS.List
import HandS.Exc
import HandS.ExcOwn
import HandS.ExcInit
import HandS.ExcField
import HandS.WordsExc
import HandS.ForMost
import HandS.Wide
import HandS.IsInst
import HandS.MakeKwOnly
import HandS.ClsMeth
import KE.Datum
import KE.KExcLine
import HandS.TryOnly
import HandS.Evl
import HandS.Comp
import HandS.Star
import HandS.More
import HandS.DeepEq
import HandS.ExcIs
import HandS.ExcValue
import PySem.Challenge.RW_walkmarks_k01_errors
set_option Elab.async false
set_option linter.all false
set_option maxRecDepth 400000
set_option maxHeartbeats 4000000
/-! ErA: own error classes whose __init__ first asks super().__init__(a text) and then keeps its arguments as fields. -/
namespace PySem
namespace Er
open PySem.W PySem.Calls PyProof.Rows PySem.HandSPX
/-! the text -/
def supCall (a1 a2 a3 a4 a5 a6 : Pos) (t : Str) : Stmt :=
  .Expr (.Call (.Attribute (.Call (.Name "super" a1) [] [] a2) "__init__" a3) [.Constant (.str t) 0 a4] [] a5) a6
/-- what the written part K says of the super() of a def of the class at C -/
structure SupTxt (prog : Program) (K : Frag) (C cda cc : Addr) (B newId initId : String) (bmB : List Value) : Prop where
  code : ∃ ccl cdd ccs, ∃ (vs : Array Value) (file : Str) (tf : Tok), K.lookup cda = some ⟨ccl, cdd, .fields vs, ccs⟩ ∧ vs[2]? = some (.str file tf) ∧ ((prog.main.file : Str) == file) = true
  cell : ∃ cl cld csl, K.lookup cc = some ⟨cl, cld, .cell (some (.ref C)), csl⟩
  cls : ∃ cd, clsIn K C = some cd
  sub : mroIn K C (.ref C) = some true
  noS : nsIn K mainGlobals "super" = some none
  noT : nsIn K cStatics "thirdparty.any" = some none
  top : (prog.main.scope.names.lookup ("super" : Str)).isSome = false
  sup : ks_superIn K C C "__init__" = some (some (.builtin initId))
  base : subIn K (.ref C) (.type B) = some true
  exc : excInitIn K C bmB newId = true
section
variable {prog : Program} {w : World} {A : Around} {E : Value → Shared → Prop} {K : Frag} {mg mb : Str → Option Value} {C fI cda cc : Addr} {B newId initId : String} {bmB : List Value}
theorem er_loadG {s : Shared} {env : Env} {Q : Value → Shared → Prop} (hk : env.scope.kind = .function) (hx : env.kindOf "super" = some .globalImplicit) (hg : s.heap.Ns env.globals mg) (hb : s.heap.Ns env.builtins mb)
    (n : mg "super" = none) (b : mb "super" = some (.type "super")) (h : Q (.type "super") s) : wpAny (model prog w) A (loadName env "super") Q E s :=
  ks_loadName_global hk hx (loadGlobal_builtin (env := env) hg n hb b h)
/-- super().__init__(t), then the rest -/
theorem er_super {h₀ h : Heap} {g : Array GenState} {d : Drawn} {tk : Nat} {os : OsState} {x t0 L : Addr} {m : Str → Option Value} {q : Str} {scope : Scope} {full rest : List Stmt} {fd : FuncData} {oc : Value} {od : Option Addr} {osl : Array (Option Value)} {ar : Arg}
    {a1 a2 a3 a4 a5 a6 : Pos} {t : Str} {Q : Flow → Shared → Prop}
    (T : SupTxt prog K C cda cc B newId initId bmB) (KF : KxsFacts B initId) (FB : ExcBaseFacts B newId initId bmB) (F : Fr h₀ L h m) (X₀ : K.In h₀) (hx : News h₀ L h [(x, excObj C t0 none .none)])
    (hg : h₀.Ns mainGlobals mg) (hb : h₀.Ns builtinsNs mb) (hmb : mb "super" = bootBuiltins "super")
    (hf : K.lookup fI = some ⟨oc, od, .func fd, osl⟩) (hp : (fd.params.posonlyargs ++ fd.params.args).head? = some ar) (har : m ar.arg = some (.ref x)) (hks : scope.names.lookup ("super" : Str) = some .globalImplicit)
    {pl : Sem Bool} (he : eval (.Call (.Attribute (.Call (.Name "super" a1) [] [] a2) "__init__" a3) [.Constant (.str t) 0 a4] [] a5) (ksEnv q scope L fI (.ref cda) cc) = (do
      let ov ← attributeBase (.Call (.Name "super" a1) [] [] a2) "__init__" (ksEnv q scope L fI (.ref cda) cc) (eval (.Call (.Name "super" a1) [] [] a2) (ksEnv q scope L fI (.ref cda) cc))
      standAt a3.atName
      let (f, first) ← holding [ov] (getMethod ov "__init__" pl)
      callWith a5 f first (backTo a5 (starEach [.Constant (.str t) 0 a4] (ksEnv q scope L fI (.ref cda) cc))) []))
    (hkc : scope.names.lookup ("__class__" : Str) = some .free) (hka : scope.names.lookup ar.arg = some .local) (hk : scope.kind = .function)
    (hq : ∀ h' tk' t', Fr h₀ L h' m → h'.get? x = some (excObj C t' none .none) → wpAny (model prog w) A (execs rest (ksEnv q scope L fI (.ref cda) cc)) Q E ⟨h', g, d, tk', os⟩) :
    _root_.PySem.wpAt (model prog w) A (.func full (ksEnv q scope L fI (.ref cda) cc)) (execs (supCall a1 a2 a3 a4 a5 a6 t :: rest) (ksEnv q scope L fI (.ref cda) cc)) Q E ⟨h, g, d, tk, os⟩ := by
  obtain ⟨ccl, cdd, ccs, vs, file, tf, hcode, hvs, hfile⟩ := T.code
  obtain ⟨cl, cld, csl, hcell⟩ := T.cell
  obtain ⟨cd, hD⟩ := T.cls
  have X : K.In h := X₀.keeps F.keep
  have I : InstAt h x (excObj C t0 none .none) C none := .of_exc0 hx (by simp)
  obtain ⟨oD, hD1, hD2⟩ : ∃ oD, h.get? C = some oD ∧ oD.data = .cls cd := by
    unfold clsIn at hD
    split at hD
    · rename_i c d cd' sl ho
      cases hD
      exact ⟨_, X _ _ ho, rfl⟩
    · cases hD
  refine ks_wpAt_execs_cons (ks_wpAt_Expr_any (ks_wpAt_MethodCall ?_ he) ?_ (by rfl))
  · refine ks_wpAt_super_base (env := ksEnv q scope L fI (.ref cda) cc) hks hkc (by decide) rfl (X _ _ hf) rfl hp rfl (X _ _ hcode) rfl hvs hfile T.top ?_
    refine er_loadG (env := ksEnv q scope L fI (.ref cda) cc) hk hks (hg.keeps F.keep) (hb.keeps F.keep) (mg_none_of X₀ hg T.noS) (hmb.trans (by first | rfl | decide +kernel)) ⟨rfl, ?_⟩
    refine wpAny_loadName_free hk hkc rfl ⟨_, X _ _ hcell, rfl⟩ ?_
    refine wpAny_loadName_local hk hka F.ns har ?_
    refine ks_wpAny_isType_cls hD1 hD2 ⟨rfl, ?_⟩
    refine ks_wpAny_call_super hD1 hD2 I.at_ I.cls (fun c e => ?_) (looks_mroIn X T.sub) (fun h' e k => ?_)
    · cases e
    obtain ⟨F1, N1, l1⟩ := ks_newsPush (s := ⟨h, g, d, tk, os⟩) F hx rfl e k
    have I1 : InstAt h' x (excObj C t0 none .none) C none := .of_exc0 N1 (by simp)
    refine kxs_method (s := ⟨h', g, d, tk, os⟩) (D := C) (x := x) (C := C) KF F1 X₀ N1 (by simp) I1 T.noT T.sup T.base (by decide) (fun u h2 F2 N2 l2 => ?_)
    refine kxs_callWith1 (u := u) (x := x) (i := initId) N2 (by simp) ?_
    refine spliced_cons ?_
    refine Calls.Constant_str (pos := a4) (k := 0) ?_
    refine spliced_nil ?_
    refine ⟨kxs_at N2 (by simp), ?_⟩
    have ne1 : h.objs.size ≠ x := fun z => by
      have := l1 (x, excObj C t0 none .none) (by simp)
      exact absurd (show x < h.objs.size from this) (by rw [z]; exact Nat.lt_irrefl _)
    have ne2 : u ≠ x := fun z => by
      have := l2 (x, excObj C t0 none .none) (by simp)
      exact absurd (show x < u from this) (by rw [z]; exact Nat.lt_irrefl _)
    refine kxs_call (u := u) (x := x) (C := C) (t := t0) (dv := none) (c2 := .none) (B := B) (newId := newId) (i := initId) F2 X₀ N2 FB T.exc (by simp) (.tail ne2 (.tail ne1 (.head (by simp)))) (by rw [sizeLine_eq]; exact (by decide : 1 ≤ 16777216)) (fun t' h3 F3 N3 _ => ?_)
    refine wpAt_of_wpAny (hq h3 _ t' F3 (N3 (x, excObj C t' none .none) (by simp)).1)
  · simp [interactive, hk]
end
end Er
end PySem
namespace PySem
namespace Er
open PySem.W PySem.Calls PyProof.Rows PySem.HandSPX
section
variable {prog : Program} {w : World} {A : Around} {E : Value → Shared → Prop} {K : Frag} {C : Addr} {B : String} {bmB : List Value} {hp : Heap} {g : Array GenState} {d : Drawn} {t : Nat} {os : OsState}
theorem taker_none {f : Str} (ha : findIn K (.ref C) f = some none) : takerIn K C f = some none := by
  unfold takerIn
  rw [ha]
  rfl
/-- x.f = v, the first field of an error that is being made -/
theorem er_set_new {x t0 : Addr} {f : Str} {v : Value} {Q : Unit → Shared → Prop} (SF : StoreFacts B bmB "object.__setattr__" "object") (X : K.In hp) (hx : hp.get? x = some (excObj C t0 none .none))
    (hs : findIn K (.ref C) "__setattr__" = some (some (.builtin "object.__setattr__"))) (ho : excOver K C bmB = true) (hh : hasDictIn K C = true) (ha : findIn K (.ref C) f = some none)
    (hq : ∀ h' tk' dx, (∀ b o, b ≠ x → hp.get? b = some o → h'.get? b = some o) → hp.objs.size ≤ dx → dx ≠ x → h'.get? x = some (excObj C t0 (some dx) .none) →
      h'.Ns1 dx (fun y => if y = f then some v else none) → Q () ⟨h', g, d, tk', os⟩) : wpAny (model prog w) A (setAttr (.ref x) f v) Q E ⟨hp, g, d, t, os⟩ := by
  obtain ⟨cd, hc, hd'⟩ := any_some hh
  have hxs : x ≠ hp.objs.size := Nat.ne_of_lt (Heap.lt_size hx)
  refine set_plain (od := none) X ⟨hx, rfl, rfl, trivial⟩ hs (osa_openX (od := none) (r := none) SF X ⟨hx, rfl, rfl, trivial⟩ ho (taker_none ha) fun b => ?_)
  refine wpAny_bind (wpAny_pure (wpAny_bind (instanceDict_exc (s := ⟨hp, g, d, t + 1, os⟩) hx (looks_clsIn X hc) hd' ?_)))
  show wpAny _ _ (Builtin.ObjectAttr.storeInDict hp.objs.size (.str f _) f v) _ _ ⟨_, g, d, _, os⟩
  refine store_in_new ?_ fun h' tk' hn' hs' => ?_
  · exact ⟨dictOf [] 0, #[], 0, (Heap.get?_update_ne _ _ _ _ hxs.symm).trans (Heap.get?_push_at rfl rfl), rfl, fun e he => absurd he (by simp), fun _ => rfl⟩
  · have hx1 : (hp.push (dictOf [] 0)).get? x = some (excObj C t0 none .none) := Heap.get?_push_of_some _ hx
    refine hq h' tk' hp.objs.size (fun b o hb ho => ?_) (Nat.le_refl _) hxs.symm ?_ hn'
    · exact (hs'.2 b (Nat.ne_of_lt (Heap.lt_size ho))).trans ((Heap.get?_update_ne _ _ _ _ hb).trans (Heap.get?_push_of_some _ ho))
    · exact (hs'.2 x hxs).trans (Heap.get?_update_self _ hx1 rfl)
/-- x.f = v, a further one -/
theorem er_set_old {x t0 dx : Addr} {f : Str} {v : Value} {m0 : Str → Option Value} {nl : List Str} {Q : Unit → Shared → Prop} (SF : StoreFacts B bmB "object.__setattr__" "object") (X : K.In hp) (hx : hp.get? x = some (excObj C t0 (some dx) .none))
    (hns : hp.Ns1 dx m0) (hw : Within m0 nl) (hz : nl.length ≤ 1000)
    (hs : findIn K (.ref C) "__setattr__" = some (some (.builtin "object.__setattr__"))) (ho : excOver K C bmB = true) (hh : hasDictIn K C = true) (ha : findIn K (.ref C) f = some none)
    (hq : ∀ h' tk', (∀ b o, b ≠ dx → hp.get? b = some o → h'.get? b = some o) → h'.Ns1 dx (fun y => if y = f then some v else m0 y) → Q () ⟨h', g, d, tk', os⟩) :
    wpAny (model prog w) A (setAttr (.ref x) f v) Q E ⟨hp, g, d, t, os⟩ := by
  obtain ⟨cd, hc, hd'⟩ := any_some hh
  obtain ⟨oD, esD, epD, hoD, hdD, _⟩ := hns.count hw
  refine set_plain (od := some oD) X ⟨hx, rfl, rfl, hoD⟩ hs (osa_openX (od := some oD) (r := none) SF X ⟨hx, rfl, rfl, hoD⟩ ho (taker_none ha) fun b => ?_)
  refine wpAny_bind (wpAny_pure (wpAny_bind (wpAny_bind (wpAny_loadPart hx (wpAny_bind ((looks_clsIn X hc).here ?_))))))
  rw [hd']
  refine wpAny_pure (a := some dx) ?_
  show wpAny _ _ (Builtin.ObjectAttr.storeInDict dx (.str f _) f v) _ _ ⟨hp, g, d, _, os⟩
  exact OEX.store_in_old hns hw hz fun h' tk' hn hs' => hq h' tk' (fun b o hb ho => (hs'.2 b hb).trans ho) hn
end
end Er
end PySem
namespace PySem
namespace Er
open PySem.W PySem.Calls PyProof.Rows PySem.HandSPX
def iArgs (ps : List (Str × Pos)) : Arguments := { posonlyargs := [], args := ps.map fun p => { arg := p.1, annotation := none, pos := p.2 }, vararg := none, kwonlyargs := [], kw_defaults := [], kwarg := none, defaults := [] }
def iScope (fs : List Str) : Scope := { kind := .function, names := (("self" : Str), NameKind.local) :: fs.map (fun f => (f, NameKind.local)) ++ [(("__class__" : Str), NameKind.free), (("super" : Str), NameKind.globalImplicit)], isGenerator := false, isCoroutine := false, more := [] }
def iSet (f : Str) (q1 q2 q3 q4 : Pos) : Stmt := .Assign [.Attribute (.Name "self" q1) f q2] (.Name f q3) q4
/-- how super().__init__(t) is evaluated there -/
def SupEv (fs : List Str) (a1 a2 a3 a4 a5 : Pos) (t : Str) : Prop := ∀ (q : Str) (L a : Addr) (cd : Value) (cc : Addr), ∃ pl : Sem Bool, eval (.Call (.Attribute (.Call (.Name "super" a1) [] [] a2) "__init__" a3) [.Constant (.str t) 0 a4] [] a5) (ksEnv q (iScope fs) L a cd cc) = (do
      let ov ← attributeBase (.Call (.Name "super" a1) [] [] a2) "__init__" (ksEnv q (iScope fs) L a cd cc) (eval (.Call (.Name "super" a1) [] [] a2) (ksEnv q (iScope fs) L a cd cc))
      standAt a3.atName
      let (f, first) ← holding [ov] (getMethod ov "__init__" pl)
      callWith a5 f first (backTo a5 (starEach [.Constant (.str t) 0 a4] (ksEnv q (iScope fs) L a cd cc))) [])
def SetEv (fs : List Str) (f : Str) (q1 q2 q3 q4 : Pos) : Prop := ∀ (q : Str) (L a : Addr) (cd : Value) (cc : Addr), swapsWith (.Name f q3) (some (.Attribute (.Name "self" q1) f q2)) q4.line (ksEnv q (iScope fs) L a cd cc) = pure false
/-- how the arguments are bound, the names found -/
structure IBind (fs : List Str) (params : Arguments) : Prop where
  bnd : ∀ (qual : Str) (body : List Stmt) (doc pm : Value) (an : Option Addr) (cdv ct : Value) (cc x : Addr) (vs : List Value), vs.length = fs.length → bindArgs (ksFn "__init__" qual params body (iScope fs) .none .none doc pm an cdv ct cc) ⟨.ref x :: vs, []⟩ = pure ((("self" : Str), Value.ref x) :: fs.zip vs)
  hd : ∃ ar, (params.posonlyargs ++ params.args).head? = some ar ∧ ar.arg = "self"
  sup : (iScope fs).names.lookup ("super" : Str) = some .globalImplicit
  cls : (iScope fs).names.lookup ("__class__" : Str) = some .free
  self : (iScope fs).names.lookup ("self" : Str) = some .local
  loc : ∀ f ∈ fs, (iScope fs).names.lookup f = some .local ∧ (f == ("__debug__" : Str)) = false
  ms : ∀ (x : Addr) (vs : List Value), vs.length = fs.length → ((("self" : Str), Value.ref x) :: fs.zip vs).reverse.lookup ("self" : Str) = some (.ref x)
  mf : ∀ (x : Addr) (vs : List Value) (i : Nat) (f : Str) (v : Value), vs.length = fs.length → fs[i]? = some f → vs[i]? = some v → ((("self" : Str), Value.ref x) :: fs.zip vs).reverse.lookup f = some v
  ne : fs.Nodup
/-- the __init__ of such an error class: which fields -/
inductive IForm : List Str → Arguments → List Stmt → Scope → Prop
  | no (params : Arguments) (a1 a2 a3 a4 a5 a6 : Pos) (t : Str) (he : SupEv [] a1 a2 a3 a4 a5 t) (b : IBind [] params) : IForm [] params [supCall a1 a2 a3 a4 a5 a6 t] (iScope [])
  | one (params : Arguments) (a1 a2 a3 a4 a5 a6 q1 q2 q3 q4 : Pos) (t f : Str) (he : SupEv [f] a1 a2 a3 a4 a5 t) (s1 : SetEv [f] f q1 q2 q3 q4) (b : IBind [f] params) :
      IForm [f] params [supCall a1 a2 a3 a4 a5 a6 t, iSet f q1 q2 q3 q4] (iScope [f])
  | two (params : Arguments) (a1 a2 a3 a4 a5 a6 q1 q2 q3 q4 r1 r2 r3 r4 : Pos) (t f k : Str) (he : SupEv [f, k] a1 a2 a3 a4 a5 t) (s1 : SetEv [f, k] f q1 q2 q3 q4) (s2 : SetEv [f, k] k r1 r2 r3 r4) (b : IBind [f, k] params) :
      IForm [f, k] params [supCall a1 a2 a3 a4 a5 a6 t, iSet f q1 q2 q3 q4, iSet k r1 r2 r3 r4] (iScope [f, k])
/-- what the written part says of an error class C, its __init__ fI -/
structure ErTxt (prog : Program) (K : Frag) (qual : Str) (fs : List Str) (C fI : Addr) (B newId initId : String) (bmB : List Value) : Prop where
  fn : ∃ oc od, ∃ (params : Arguments) (body : List Stmt) (scope : Scope) (doc pm : Value) (an : Option Addr) (cda cc : Addr) (ct : Value) (osl : Array (Option Value)),
    K.lookup fI = some ⟨oc, od, .func (ksFn "__init__" qual params body scope .none .none doc pm an (.ref cda) ct cc), osl⟩ ∧ codeIn K (.ref cda) qual = true ∧ IForm fs params body scope ∧ SupTxt prog K C cda cc B newId initId bmB
  sa : findIn K (.ref C) "__setattr__" = some (some (.builtin "object.__setattr__"))
  ov : excOver K C bmB = true
  hd : hasDictIn K C = true
  no : ∀ f ∈ fs, findIn K (.ref C) f = some none
  init : findIn K (.ref C) "__init__" = some (some (.ref fI))
  ty : typeIn K (.ref fI) = some (.type "function")
/-- what such an __init__ leaves -/
structure IEnd (h h' : Heap) (x C t1 : Addr) (dd : Option Addr) (fvs : List (Str × Value)) : Prop where
  keep : ∀ b o, b ≠ x → h.get? b = some o → h'.get? b = some o
  obj : h'.get? x = some (excObj C t1 dd .none)
  dict : (dd = none ∧ fvs = []) ∨ fvs ≠ [] ∧ ∃ dx, dd = some dx ∧ h.objs.size ≤ dx ∧ dx ≠ x ∧ ∃ mA, h'.Ns1 dx mA ∧ ∀ y, mA y = fvs.lookup y
section
variable {prog : Program} {w : World} {A : Around} {E : Value → Shared → Prop} {R : Result → Shared → Prop} {K : Frag} {C fI : Addr} {qual : Str} {B newId initId : String} {bmB : List Value} {hp : Heap} {g : Array GenState} {d : Drawn} {t : Nat} {os : OsState}
theorem no_cell (fs : List Str) : ∀ x ∈ (iScope fs).names, x.2 ≠ NameKind.cell := by
  intro y hy
  have hy' : y ∈ (("self" : Str), NameKind.local) :: (fs.map (fun f => (f, NameKind.local)) ++ [(("__class__" : Str), NameKind.free), (("super" : Str), NameKind.globalImplicit)]) := hy
  simp only [List.mem_cons, List.mem_append, List.mem_map, List.not_mem_nil, or_false] at hy'
  rcases hy' with rfl | ⟨f, _, rfl⟩ | rfl | rfl <;> exact fun z => by cases z
theorem hide_keep {h h1 : Heap} {x : Addr} (k : ∀ b o, (hideAll h [x]).get? b = some o → h1.get? b = some o) : ∀ b o, b ≠ x → h.get? b = some o → h1.get? b = some o :=
  fun b o hb e => k b o (hideAll_get _ e (by simpa using hb))
theorem hide_in {h : Heap} {x : Addr} (X : K.In h) (hx : K.lookup x = none) : K.In (hideAll h [x]) := fun a o e => hideAll_get _ (X a o e) (by
  intro z
  have z' : a = x := by simpa using z
  rw [z', hx] at e
  cases e)
theorem hide_ns {h : Heap} {x L : Addr} {m : Str → Option Value} (n : h.Ns L m) (hx : L ≠ x) : (hideAll h [x]).Ns L m := by
  obtain ⟨o, es, ep, e, r⟩ := n
  exact ⟨o, es, ep, hideAll_get _ e (by simpa using hx), r⟩
/-- self.f = f in such an __init__ -/
theorem er_store1 {f : Str} {q1 q2 q3 q4 : Pos} {env : Env} {L x t0 : Addr} {v : Value} {m : Str → Option Value} {rest : List Stmt} {Q : Flow → Shared → Prop} (SF : StoreFacts B bmB "object.__setattr__" "object") (X : K.In hp) (hx : hp.get? x = some (excObj C t0 none .none))
    (hs : findIn K (.ref C) "__setattr__" = some (some (.builtin "object.__setattr__"))) (ho : excOver K C bmB = true) (hh : hasDictIn K C = true) (ha : findIn K (.ref C) f = some none)
    (hk : env.scope.kind = .function) (kf : env.kindOf f = some .local) (ks : env.kindOf "self" = some .local) (hn : hp.Ns env.locals m) (hf : m f = some v) (hself : m "self" = some (.ref x)) (h4 : (f == ("__debug__" : Str)) = false)
    (sw : swapsWith (.Name f q3) (some (.Attribute (.Name "self" q1) f q2)) q4.line env = pure false)
    (hq : ∀ h' tk' dx, (∀ b o, b ≠ x → hp.get? b = some o → h'.get? b = some o) → hp.objs.size ≤ dx → dx ≠ x → h'.get? x = some (excObj C t0 (some dx) .none) →
      h'.Ns1 dx (fun y => if y = f then some v else none) → wpAny (model prog w) A (execs rest env) Q E ⟨h', g, d, tk', os⟩) : wpAny (model prog w) A (execs (iSet f q1 q2 q3 q4 :: rest) env) Q E ⟨hp, g, d, t, os⟩ := by
  refine wpAny_execs_cons (plainObj_wpAny_Assign_Attribute ?_ sw)
  refine wpAny_Name (wpAny_loadName_local hk kf hn hf ?_) h4
  refine wpAny_Name (wpAny_loadName_local hk ks hn hself ?_) (by decide)
  exact er_set_new SF X hx hs ho hh ha hq
theorem er_store2 {f : Str} {q1 q2 q3 q4 : Pos} {env : Env} {L x t0 dx : Addr} {v : Value} {m m0 : Str → Option Value} {nl : List Str} {rest : List Stmt} {Q : Flow → Shared → Prop} (SF : StoreFacts B bmB "object.__setattr__" "object") (X : K.In hp) (hx : hp.get? x = some (excObj C t0 (some dx) .none))
    (hns : hp.Ns1 dx m0) (hw : Within m0 nl) (hz : nl.length ≤ 1000)
    (hs : findIn K (.ref C) "__setattr__" = some (some (.builtin "object.__setattr__"))) (ho : excOver K C bmB = true) (hh : hasDictIn K C = true) (ha : findIn K (.ref C) f = some none)
    (hk : env.scope.kind = .function) (kf : env.kindOf f = some .local) (ks : env.kindOf "self" = some .local) (hn : hp.Ns env.locals m) (hf : m f = some v) (hself : m "self" = some (.ref x)) (h4 : (f == ("__debug__" : Str)) = false)
    (sw : swapsWith (.Name f q3) (some (.Attribute (.Name "self" q1) f q2)) q4.line env = pure false)
    (hq : ∀ h' tk', (∀ b o, b ≠ dx → hp.get? b = some o → h'.get? b = some o) → h'.Ns1 dx (fun y => if y = f then some v else m0 y) → wpAny (model prog w) A (execs rest env) Q E ⟨h', g, d, tk', os⟩) :
    wpAny (model prog w) A (execs (iSet f q1 q2 q3 q4 :: rest) env) Q E ⟨hp, g, d, t, os⟩ := by
  refine wpAny_execs_cons (plainObj_wpAny_Assign_Attribute ?_ sw)
  refine wpAny_Name (wpAny_loadName_local hk kf hn hf ?_) h4
  refine wpAny_Name (wpAny_loadName_local hk ks hn hself ?_) (by decide)
  exact er_set_old SF X hx hns hw hz hs ho hh ha hq
/-- the whole __init__ -/
theorem er_init {fs : List Str} {x t0 : Addr} {vs : List Value} {mg mb : Str → Option Value} (T : ErTxt prog K qual fs C fI B newId initId bmB) (KF : KxsFacts B initId) (FB : ExcBaseFacts B newId initId bmB) (SF : StoreFacts B bmB "object.__setattr__" "object")
    (X : K.In hp) (hlim : hp.NoLimit) (hg : hp.Ns mainGlobals mg) (hb : hp.Ns builtinsNs mb) (hmb : mb "super" = bootBuiltins "super") (hx : hp.get? x = some (excObj C t0 none .none)) (hnx : K.lookup x = none) (hxg : mainGlobals ≠ x) (hxb : builtinsNs ≠ x) (hroom : A.depth < recursionLimit) (hl : vs.length = fs.length)
    (hq : ∀ h' tk' t1 dd, IEnd hp h' x C t1 dd (fs.zip vs) → R (.ok (.ret .none)) ⟨h', g, d, tk', os⟩) :
    codeAny (model prog w) A (.call (.ref fI) ⟨.ref x :: vs, []⟩) R ⟨hp, g, d, t, os⟩ := by
  obtain ⟨oc, od, params, body, scope, doc, pm, an, cda, cc, ct, osl, ho, hcd, form, S⟩ := T.fn
  have hNo := T.no
  have hsa := T.sa
  have hov := T.ov
  have hhd := T.hd
  have hGl : ∀ (h1 : Heap) (m : Str → Option Value), h1.Ns hp.objs.size m → (∀ b o, hp.get? b = some o → h1.get? b = some o) → Fr (hideAll hp [x]) hp.objs.size h1 m := fun h1 m hns k => ⟨hns, fun b o e => k b o (of_hideAll _ e), Nat.le_of_eq (hideAll_size _ _)⟩
  have hNw : ∀ (h1 : Heap), (∀ b o, hp.get? b = some o → h1.get? b = some o) → News (hideAll hp [x]) hp.objs.size h1 [(x, excObj C t0 none .none)] := fun h1 k p hp' => by
    rcases List.mem_singleton.mp hp' with rfl
    exact ⟨k _ _ hx, Nat.ne_of_lt (Heap.lt_size hx), hideAll_none _ (by simp)⟩
  have nsOf : ∀ {m : Str → Option Value} {h1 h2 : Heap} {y : Addr}, h1.Ns hp.objs.size m → (∀ b o, b ≠ y → h1.get? b = some o → h2.get? b = some o) → hp.objs.size ≠ y → h2.Ns hp.objs.size m := fun {m h1 h2 y} n k ny => by
    obtain ⟨o, es, ep, e, r⟩ := n
    exact ⟨o, es, ep, k _ _ ny e, r⟩
  have nx : hp.objs.size ≠ x := Nat.ne_of_gt (Heap.lt_size hx)
  have knx : ∀ {h1 h2 : Heap}, K.In h1 → (∀ b o, b ≠ x → h1.get? b = some o → h2.get? b = some o) → K.In h2 := fun {h1 h2} X1 k a o e => k a o (fun z => by rw [z, hnx] at e; cases e) (X1 a o e)
  have enter : ∀ (body : List Stmt) (b : IBind fs params) (ho' : K.lookup fI = some ⟨oc, od, .func (ksFn "__init__" qual params body (iScope fs) .none .none doc pm an (.ref cda) ct cc), osl⟩),
      (∀ h1 tk1, h1.Ns hp.objs.size (fun y => ((("self" : Str), Value.ref x) :: fs.zip vs).reverse.lookup y) → (∀ b o, hp.get? b = some o → h1.get? b = some o) →
        _root_.PySem.wpAt (model prog w) (A.deeper (ksEnv qual (iScope fs) hp.objs.size fI (.ref cda) cc)) (.func body (ksEnv qual (iScope fs) hp.objs.size fI (.ref cda) cc)) (execs body (ksEnv qual (iScope fs) hp.objs.size fI (.ref cda) cc))
          (fun fl s' => R (.ok (.ret (match fl with | .ret v => v | _ => .none))) s') (fun e s' => wpAny (model prog w) (A.deeper (ksEnv qual (iScope fs) hp.objs.size fI (.ref cda) cc)) (leaving (ksEnv qual (iScope fs) hp.objs.size fI (.ref cda) cc) e) (fun _ s'' => R (.error e) s'') (fun e' s'' => R (.error e') s'') s') ⟨h1, g, d, tk1, os⟩) →
      codeAny (model prog w) A (.call (.ref fI) ⟨.ref x :: vs, []⟩) R ⟨hp, g, d, t, os⟩ := fun body b ho' z => by
    refine ks_codeAny_call_defAt (fd := ksFn "__init__" qual params body (iScope fs) .none .none doc pm an (.ref cda) ct cc) (body := body) (binds := (("self" : Str), Value.ref x) :: fs.zip vs) hroom (X _ _ ho') rfl hlim (codeRec_of X hcd) rfl (BindsTo.of_eq (b.bnd _ _ _ _ _ _ _ _ _ _ hl)) (no_cell fs) (fun y hy => ?_) (fun h1 hns k => z h1 _ hns k) rfl rfl rfl
    rcases List.mem_cons.mp hy with rfl | hy
    · exact b.self
    · exact (b.loc y.1 (List.of_mem_zip hy).1).1
  cases form with
  | no params a1 a2 a3 a4 a5 a6 t he b =>
    obtain ⟨pl, he⟩ := he qual hp.objs.size fI (.ref cda) cc
    obtain ⟨ar, har, hae⟩ := b.hd
    refine enter _ b ho fun h1 tk1 hns k => ?_
    refine er_super (q := qual) (scope := iScope []) (rest := []) S KF FB (hGl _ _ hns k) (hide_in X hnx) (hNw _ k) (hide_ns hg hxg) (hide_ns hb hxb) hmb ho har (by rw [hae]; exact b.ms x vs hl) b.sup he b.cls (by rw [hae]; exact b.self) rfl (fun h' tk' t' F' hx' => ?_)
    refine wpAny_execs_nil (hq h' tk' t' none ⟨fun b o hb e => F'.keep b o (hideAll_get _ e (by simpa using hb)), hx', .inl ⟨rfl, by simp⟩⟩)
  | one params a1 a2 a3 a4 a5 a6 q1 q2 q3 q4 t f he s1 b =>
    obtain ⟨pl, he⟩ := he qual hp.objs.size fI (.ref cda) cc
    obtain ⟨ar, har, hae⟩ := b.hd
    obtain ⟨v, rfl⟩ : ∃ v, vs = [v] := by
      match vs, hl with
      | [v], _ => exact ⟨v, rfl⟩
    refine enter _ b ho fun h1 tk1 hns k => ?_
    refine er_super (q := qual) (scope := iScope [f]) (rest := [iSet f q1 q2 q3 q4]) S KF FB (hGl _ _ hns k) (hide_in X hnx) (hNw _ k) (hide_ns hg hxg) (hide_ns hb hxb) hmb ho har (by rw [hae]; exact b.ms x [v] hl) b.sup he b.cls (by rw [hae]; exact b.self) rfl (fun h' tk' t' F' hx' => ?_)
    have k' : ∀ b o, b ≠ x → hp.get? b = some o → h'.get? b = some o := fun b o hb e => F'.keep b o (hideAll_get _ e (by simpa using hb))
    refine er_store1 (L := hp.objs.size) (v := v) SF (knx X k') hx' hsa hov hhd (hNo f (by simp)) rfl (b.loc f (by simp)).1 b.self F'.ns (b.mf x [v] 0 f v hl rfl rfl) (b.ms x [v] hl) (b.loc f (by simp)).2 (s1 _ _ _ _ _) (fun h2 tk2 dx k2 big ne hx2 hn2 => ?_)
    refine wpAny_execs_nil (hq h2 tk2 t' (some dx) ⟨fun b o hb e => k2 b o hb (k' b o hb e), hx2, .inr ⟨by simp, dx, rfl, Nat.le_trans (Nat.le_of_lt F'.ns.lt) big, ne, _, hn2, fun y => ?_⟩⟩)
    show (if y = f then some v else none) = ([(f, v)] : List (Str × Value)).lookup y
    by_cases e : y = f
    · subst e
      simp [List.lookup]
    · rw [if_neg e]
      simp [List.lookup, (by simpa using e : (y == f) = false)]
  | two params a1 a2 a3 a4 a5 a6 q1 q2 q3 q4 r1 r2 r3 r4 t f kk he s1 s2 b =>
    obtain ⟨pl, he⟩ := he qual hp.objs.size fI (.ref cda) cc
    obtain ⟨ar, har, hae⟩ := b.hd
    obtain ⟨v, u, rfl⟩ : ∃ v u, vs = [v, u] := by
      match vs, hl with
      | [v, u], _ => exact ⟨v, u, rfl⟩
    refine enter _ b ho fun h1 tk1 hns k => ?_
    refine er_super (q := qual) (scope := iScope [f, kk]) (rest := [iSet f q1 q2 q3 q4, iSet kk r1 r2 r3 r4]) S KF FB (hGl _ _ hns k) (hide_in X hnx) (hNw _ k) (hide_ns hg hxg) (hide_ns hb hxb) hmb ho har (by rw [hae]; exact b.ms x [v, u] hl) b.sup he b.cls (by rw [hae]; exact b.self) rfl (fun h' tk' t' F' hx' => ?_)
    have k' : ∀ b o, b ≠ x → hp.get? b = some o → h'.get? b = some o := fun b o hb e => F'.keep b o (hideAll_get _ e (by simpa using hb))
    have hX' := knx X k'
    refine er_store1 (L := hp.objs.size) (v := v) SF hX' hx' hsa hov hhd (hNo f (by simp)) rfl (b.loc f (by simp)).1 b.self F'.ns (b.mf x [v, u] 0 f v hl rfl rfl) (b.ms x [v, u] hl) (b.loc f (by simp)).2 (s1 _ _ _ _ _) (fun h2 tk2 dx k2 big ne hx2 hn2 => ?_)
    have hX2 := knx hX' k2
    have hF2 := nsOf F'.ns k2 nx
    have dL : hp.objs.size ≠ dx := Nat.ne_of_lt (Nat.lt_of_lt_of_le F'.ns.lt big)
    refine er_store2 (L := hp.objs.size) (v := u) (nl := [f]) SF hX2 hx2 hn2 (fun y hy => ?_) (by simp) hsa hov hhd (hNo kk (by simp)) rfl (b.loc kk (by simp)).1 b.self hF2 (b.mf x [v, u] 1 kk u hl rfl rfl) (b.ms x [v, u] hl) (b.loc kk (by simp)).2 (s2 _ _ _ _ _) (fun h3 tk3 k3 hn3 => ?_)
    · by_cases e : y = f
      · simp [e]
      · exact absurd (if_neg e) hy
    refine wpAny_execs_nil (hq h3 tk3 t' (some dx) ⟨fun b o hb e => k3 b o (fun z => ?_) (k2 b o hb (k' b o hb e)), k3 _ _ ne.symm hx2, .inr ⟨by simp, dx, rfl, Nat.le_trans (Nat.le_of_lt F'.ns.lt) big, ne, _, hn3, fun y => ?_⟩⟩)
    · subst z
      exact absurd (Nat.lt_of_lt_of_le (Heap.lt_size (k' _ _ hb e)) big) (Nat.lt_irrefl _)
    show (if y = kk then some u else if y = f then some v else none) = ([(f, v), (kk, u)] : List (Str × Value)).lookup y
    have nfk : f ≠ kk := by
      have := b.ne
      simpa using this
    by_cases e : y = f
    · subst e
      simp [List.lookup, nfk]
    · have e' : (y == f) = false := by simpa using e
      by_cases e2 : y = kk
      · subst e2
        simp [List.lookup, e']
      · rw [if_neg e2, if_neg e]
        simp [List.lookup, e', (by simpa using e2 : (y == kk) = false)]
end
end Er
end PySem
namespace PySem
namespace Er
open PySem.W PySem.Calls PyProof.Rows PySem.HandSPX
/-- a made error -/
structure EMade (h h' : Heap) (e C t1 : Addr) (dd : Option Addr) (fvs : List (Str × Value)) : Prop where
  keep : ∀ b o, h.get? b = some o → h'.get? b = some o
  new : h.objs.size ≤ e
  obj : h'.get? e = some (excObj C t1 dd .none)
  dict : (dd = none ∧ fvs = []) ∨ fvs ≠ [] ∧ ∃ dx, dd = some dx ∧ h.objs.size ≤ dx ∧ dx ≠ e ∧ ∃ mA, h'.Ns1 dx mA ∧ ∀ y, mA y = fvs.lookup y
section
variable {prog : Program} {w : World} {A : Around} {E : Value → Shared → Prop} {R : Result → Shared → Prop} {K : Frag} {C fI : Addr} {qual : Str} {B newId initId : String} {bmB : List Value} {hp : Heap} {g : Array GenState} {d : Drawn} {t : Nat} {os : OsState}
theorem er_made {fs : List Str} {vs : List Value} {mg mb : Str → Option Value} (T : ErTxt prog K qual fs C fI B newId initId bmB) (KF : KxsFacts B initId) (FB : ExcBaseFacts B newId initId bmB) (SF : StoreFacts B bmB "object.__setattr__" "object") (hex : excInitIn K C bmB newId = true)
    (X : K.In hp) (hlim : hp.NoLimit) (hg : hp.Ns mainGlobals mg) (hb : hp.Ns builtinsNs mb) (hmb : mb "super" = bootBuiltins "super") (hroom : A.depth + 1 < recursionLimit) (hl : vs.length = fs.length) (hz : vs.length ≤ sizeLine)
    (hq : ∀ h' tk' e t1 dd, EMade hp h' e C t1 dd (fs.zip vs) → R (.ok (.ret (.ref e))) ⟨h', g, d, tk', os⟩) :
    codeAny (model prog w) A (.call (.ref C) ⟨vs, []⟩) R ⟨hp, g, d, t, os⟩ := by
  obtain ⟨nm, N', qn, bs, bm, hdct, sn, sub, ab, col, dd, k0, k1, k2, k3, k5, hC, hT⟩ := excInit_of X hex
  have k : ∀ b o, hp.get? b = some o → ((hp.push (kdv_tup vs)).push (excO C hp.objs.size)).get? b = some o := fun b o e => Heap.get?_push_of_some _ (Heap.get?_push_of_some _ e)
  have hget : ((hp.push (kdv_tup vs)).push (excO C hp.objs.size)).get? (hp.objs.size + 1) = some (excO C hp.objs.size) := by heap_get
  have big : ∀ {b : Addr} {o : Obj}, hp.get? b = some o → b ≠ hp.objs.size + 1 := fun {b o} e => Nat.ne_of_lt (Nat.lt_succ_of_lt (Heap.lt_size e))
  have hnx : K.lookup (hp.objs.size + 1) = none := by
    cases e : K.lookup (hp.objs.size + 1) with
    | none => rfl
    | some o => exact absurd rfl (big (X _ _ e))
  have gne : mainGlobals ≠ hp.objs.size + 1 := by
    obtain ⟨o, _, _, e, _⟩ := hg
    exact big e
  have bne : builtinsNs ≠ hp.objs.size + 1 := by
    obtain ⟨o, _, _, e, _⟩ := hb
    exact big e
  refine call_own FB hT hC (looks_findIn X T.init) (fun self => bind_fn X self T.ty) hz ?_
  refine er_init (hp := (hp.push (kdv_tup vs)).push (excO C hp.objs.size)) (x := hp.objs.size + 1) (t0 := hp.objs.size) T KF FB SF (X.keeps k) (hlim.keeps k) (hg.keeps k) (hb.keeps k) hmb hget hnx gne bne ?_ hl fun h' tk' t1 dd ⟨k', hx, hd⟩ => ?_
  · show A.depth + 1 < recursionLimit
    exact hroom
  · have old : ∀ b o, hp.get? b = some o → h'.get? b = some o := fun b o e => k' b o (big e) (k b o e)
    refine ⟨rfl, hq h' tk' (hp.objs.size + 1) t1 dd ⟨old, Nat.le_succ _, hx, ?_⟩⟩
    rcases hd with hd | ⟨e0, dx, e1, e2, e3⟩
    · exact .inl hd
    · refine .inr ⟨e0, dx, e1, ?_, e3⟩
      have z : hp.objs.size + 1 + 1 ≤ dx := by
        have q := e2
        rw [Heap.size_push, Heap.size_push] at q
        exact q
      exact Nat.le_trans (Nat.le_trans (Nat.le_succ _) (Nat.le_succ _)) z
end
end Er
end PySem
namespace L2
open PySem PySem.Spec PyProof.Rows
theorem relO_zip : ∀ {fs : List Str} {vs : List V} {us : List Value}, Vals vs us → ∀ f, RelO ((fs.zip vs).lookup f) ((fs.zip us).lookup f)
  | [], _, _, _, f => by simp [RelO]
  | _ :: _, _, _, .nil, f => by simp [RelO]
  | a :: fs, _, _, .cons r t, f => by
    simp only [List.zip_cons_cons, List.lookup_cons]
    cases e : f == a with
    | true => exact r
    | false => exact relO_zip t f
/-- an own error class: what is known of it, with its base's facts -/
structure ErC (prog : Program) (K : PySem.W.Frag) (qual : Str) (fs : List Str) (C : Addr) : Prop where
  ex : ∃ fI B newId initId bmB, PySem.Er.ErTxt prog K qual fs C fI B newId initId bmB ∧ PySem.W.KxsFacts B initId ∧ ExcBaseFacts B newId initId bmB ∧ StoreFacts B bmB "object.__setattr__" "object" ∧ PySem.W.excInitIn K C bmB newId = true
  exC : PySem.W.subIn K (.ref C) (.type "BaseException") = some true
  tyC : PySem.W.typeIn K (.ref C) = some (.type "type")
  kC : PySem.W.keepIn K (.ref C) = true
section
variable {X : Cx} {C : Addr} {qual : Str} {fs : List Str}
/-- C(e, ..) -/
def tMkEr (C : Addr) (fs : List Str) (ta : TA) : St → Hp → XK → Prop := fun σ H Q => ta σ H fun vs H1 => vs.length = fs.length ∧ vs.length ≤ 1000 ∧ (fs = [] → Q (.ref C) none H1) ∧ (fs ≠ [] → ∀ d, H1 d = none → Q (.ref C) (some d) (upd H1 d (.xd (fs.zip vs))))
theorem er_run {pins : List (Addr × Obj)} {σ : St} {H1 : Hp} {s1 : Shared} {vs : List V} {us : List Value} {Q : XK} {k : Nat} (T : ErC X.prog X.K qual fs C) (hr : Room k X.A) (I1 : Inv X pins σ H1 s1) (r1 : Vals vs us) (hl : vs.length = fs.length) (hz : vs.length ≤ 1000)
    (q0 : fs = [] → Q (.ref C) none H1) (q1 : fs ≠ [] → ∀ d, H1 d = none → Q (.ref C) (some d) (upd H1 d (.xd (fs.zip vs)))) : wpAny (model X.prog X.w) X.A (call (.ref C) us) (MkP X pins σ Q) X.xe s1 := by
  obtain ⟨fI, B, newId, initId, bmB, T1, KF, FB, SF, hex⟩ := T.ex
  have hlim := I1.nolimit
  have hK := I1.kIn
  have hm := I1.mod
  obtain ⟨mb, hb, hbt⟩ := hm.blt
  have hg := hm.glob.keeps I1.bk
  have hb' := hb.keeps I1.bk
  have lu : us.length = fs.length := r1.length.symm.trans hl
  have zu : us.length ≤ sizeLine := by
    rw [← r1.length, sizeLine_eq]
    omega
  obtain ⟨hp, g, dr, tk, os⟩ := s1
  refine wpAny_call (PySem.Er.er_made T1 KF FB SF hex hK hlim hg hb' (hbt "super" (by decide)) (by have := hr.dp; omega) lu zu fun h' tk' e t1 dd M => ?_)
  show MkP X pins σ Q (.ref e) ⟨h', g, dr, tk', os⟩
  obtain ⟨G', g1, g2⟩ := restrict h' fun b => decide (b ≠ e)
  have gk : ∀ b, b ≠ e → G'.get? b = h'.get? b := fun b hb => g1 b (decide_eq_true hb)
  have ge : G'.get? e = none := g2 e (by simp)
  have old : ∀ b o, hp.get? b = some o → G'.get? b = some o := fun b o q => (gk b (Nat.ne_of_lt (Nat.lt_of_lt_of_le (Heap.lt_size q) M.new))).trans (M.keep b o q)
  have back : ∀ b o, G'.get? b = some o → h'.get? b = some o := fun b o q => by
    by_cases hb : b = e
    · rw [hb, ge] at q
      cases q
    · exact (gk b hb).symm.trans q
  rcases M.dict with ⟨ed, ef⟩ | ⟨e0, dx, ed, big, ne, mA, hns, hmA⟩
  · subst ed
    have f0 : fs = [] := by
      cases fs with
      | nil => rfl
      | cons a l =>
        cases us with
        | nil => cases lu
        | cons u us => cases ef
    have J : Inv X pins σ H1 ⟨G', g, dr, tk', os⟩ := I1.kept (t' := tk') old
    exact ⟨e, _, _, ⟨G', g, dr, tk', os⟩, _, .ref C, none, rfl, J, back, ge, M.obj, ⟨rfl, rfl⟩, rfl, rfl, I1.hok.fresh M.new, rfl, I1.bare, raises_own T.exC T.tyC, q0 f0⟩
  · subst ed
    have f0 : fs ≠ [] := fun z => e0 (by rw [z]; rfl)
    have ob : ObjOk X.prog X.w (upd H1 dx (.xd (fs.zip vs))) G' dx (.xd (fs.zip vs)) := ⟨mA, hns.at (fun o q => (gk dx ne).trans q), fun f => by rw [hmA f]; exact relO_zip r1 f⟩
    have J : Inv X pins σ (upd H1 dx (.xd (fs.zip vs))) ⟨G', g, dr, tk', os⟩ := I1.laid (t' := tk') old big ob
    refine ⟨e, _, _, ⟨G', g, dr, tk', os⟩, _, .ref C, some dx, rfl, J, back, ge, M.obj, ⟨rfl, rfl⟩, rfl, rfl, ?_, rfl, I1.bare, raises_own T.exC T.tyC, q1 f0 dx (I1.hok.fresh big)⟩
    rw [upd_ne (Ne.symm ne)]
    exact I1.hok.fresh M.new
end
end L2
namespace L2
open PySem PySem.Spec PyProof.Rows
section
variable {X : Cx} {C : Addr} {qual : Str} {fs : List Str} {x : Str} {p pos pos2 : Pos} {e : Expr} {es : List Expr} {ta : TA} {k : Nat} {W : WX}
theorem pmk_er (T : ErC X.prog X.K qual fs C) (hr : Room k X.A) (hm : X.mg x = some (.ref C)) (ha : PA X (e :: es) ta) (hg : Gl X x := by rfl) (hdb : (x == ("__debug__" : Str)) = false := by decide)
    (he : starEach (e :: es) X.env = (false, eval e X.env) :: starEach es X.env := by rfl) (hpl : (backTo pos (starEach es X.env)).any (·.1) = false := by rfl) : PMk X (.Call (.Name x p) (e :: es) [] pos) (tMkEr C fs ta) := by
  intro pins s σ H Q I h
  refine wpAny_Call_Name_kw (ld_glob I hg hm ?_ hdb)
  refine PySem.W.callWith_K (h₀ := X.base) I.ok.mod.kin T.kC (thn (ha.run pos pins s σ H _ I h) fun us s1 hh => ?_) he hpl
  obtain ⟨vs, H1, I1, r1, hl, hz, q0, q1⟩ := hh
  exact ⟨I1.kIn, er_run T hr I1 r1 hl hz q0 q1⟩
theorem pmk_er0 (T : ErC X.prog X.K qual [] C) (hr : Room k X.A) (hm : X.mg x = some (.ref C)) (hg : Gl X x := by rfl) (hdb : (x == ("__debug__" : Str)) = false := by decide) : PMk X (.Call (.Name x p) [] [] pos) (tMkEr C [] tNil) := by
  intro pins s σ H Q I h
  refine wpAny_Call_Name_kw (ld_glob I hg hm ?_ hdb)
  refine PySem.W.callWith_K0 I.kIn T.kC ?_
  obtain ⟨hl, hz, q0, q1⟩ := h
  exact er_run T hr I .nil hl hz q0 q1
/-- raise C(e, ..) -/
def tRaiseEr (C : Addr) (fs : List Str) (W : WX) (ta : TA) : TS := fun _ σ H => tMkEr C fs ta σ H fun cls d H' => W cls d σ H'
theorem ps_raiseEr (hc : X.calm = true) (T : ErC X.prog X.K qual fs C) (hr : Room k X.A) (tk : Takes X W) (hm : X.mg x = some (.ref C)) (ha : PA X (e :: es) ta) (hg : Gl X x := by rfl) (hdb : (x == ("__debug__" : Str)) = false := by decide)
    (he : starEach (e :: es) X.env = (false, eval e X.env) :: starEach es X.env := by rfl) (hpl : (backTo pos (starEach es X.env)).any (·.1) = false := by rfl) :
    PS X (.Raise (some (.Call (.Name x p) (e :: es) [] pos)) none pos2) (tRaiseEr C fs W ta) := ps_raise hc tk (pmk_er T hr hm ha hg hdb he hpl)
theorem ps_raiseEr0 (hc : X.calm = true) (T : ErC X.prog X.K qual [] C) (hr : Room k X.A) (tk : Takes X W) (hm : X.mg x = some (.ref C)) (hg : Gl X x := by rfl) (hdb : (x == ("__debug__" : Str)) = false := by decide) :
    PS X (.Raise (some (.Call (.Name x p) [] [] pos)) none pos2) (tRaiseEr C [] W tNil) := ps_raise hc tk (pmk_er0 T hr hm hg hdb)
end
end L2
namespace Wm
open PySem L2
/-! ## the pen that a law draws with -/
def pk (c : Addr) (a r g m t : Int) : List (Key × V) := [(.inr "cells", .ref c), (.inr "at", .int a), (.inr "rest", .int r), (.inr "digits", .int g), (.inr "mix", .int m), (.inr "turn", .int t)]
theorem pk_get_cells (c : Addr) (a r g m t : Int) : valV (pk c a r g m t) (.inr "cells") = some (.ref c) := by rfl
theorem pk_get_at (c : Addr) (a r g m t : Int) : valV (pk c a r g m t) (.inr "at") = some (.int a) := by rfl
theorem pk_get_rest (c : Addr) (a r g m t : Int) : valV (pk c a r g m t) (.inr "rest") = some (.int r) := by rfl
theorem pk_get_digits (c : Addr) (a r g m t : Int) : valV (pk c a r g m t) (.inr "digits") = some (.int g) := by rfl
theorem pk_get_mix (c : Addr) (a r g m t : Int) : valV (pk c a r g m t) (.inr "mix") = some (.int m) := by rfl
theorem pk_get_turn (c : Addr) (a r g m t : Int) : valV (pk c a r g m t) (.inr "turn") = some (.int t) := by rfl
theorem pk_put_at (c : Addr) (a r g m t n : Int) : putK (pk c a r g m t) (.inr "at") (.int n) = pk c n r g m t := by rfl
theorem pk_put_rest (c : Addr) (a r g m t n : Int) : putK (pk c a r g m t) (.inr "rest") (.int n) = pk c a n g m t := by rfl
theorem pk_put_digits (c : Addr) (a r g m t n : Int) : putK (pk c a r g m t) (.inr "digits") (.int n) = pk c a r n m t := by rfl
theorem pk_put_mix (c : Addr) (a r g m t n : Int) : putK (pk c a r g m t) (.inr "mix") (.int n) = pk c a r g n t := by rfl
theorem pk_put_turn (c : Addr) (a r g m t n : Int) : putK (pk c a r g m t) (.inr "turn") (.int n) = pk c a r g m n := by rfl
/-- a pen stands at p, its cells at c -/
structure PenAt (H : Hp) (p c : Addr) : Prop where
  ex : ∃ (ns : List Int) (a r g m t : Int), H p = some (.dK (pk c a r g m t)) ∧ H c = some (.lst (ns.map V.int)) ∧ 0 ≤ a ∧ 0 ≤ m ∧ m < 2147483648
/-- a step with the pen at p: all else stands -/
structure PenStep (p c : Addr) (H H' : Hp) : Prop where
  pen : PenAt H' p c
  keep : ∀ b o, b ≠ p → H b = some o → H' b = some o
theorem PenStep.refl {p c : Addr} {H : Hp} (h : PenAt H p c) : PenStep p c H H := ⟨h, fun _ _ _ e => e⟩
theorem PenStep.trans {p c : Addr} {H H1 H2 : Hp} (a : PenStep p c H H1) (b : PenStep p c H1 H2) : PenStep p c H H2 := ⟨b.pen, fun c o n e => b.keep c o n (a.keep c o n e)⟩
theorem PenAt.same {p c : Addr} {H H' : Hp} (h : PenAt H p c) (s : Same H H') : PenAt H' p c := by
  obtain ⟨ns, a, r, g, m, t, h1, h2, h3⟩ := h.ex
  exact ⟨ns, a, r, g, m, t, s _ _ h1, s _ _ h2, h3⟩
theorem PenAt.step {p c : Addr} {H H' : Hp} (h : PenAt H p c) (s : Same H H') : PenStep p c H H' := ⟨h.same s, fun b o _ e => s b o e⟩
theorem PenStep.same {p c : Addr} {H H1 H2 : Hp} (a : PenStep p c H H1) (s : Same H1 H2) : PenStep p c H H2 := ⟨a.pen.same s, fun b o n e => s b o (a.keep b o n e)⟩
theorem PenAt.some_p {H : Hp} {p c : Addr} (h : PenAt H p c) : ∃ o, H p = some o := by
  obtain ⟨ns, a, r, g, m, t, h1, h2, h3⟩ := h.ex
  exact ⟨_, h1⟩
theorem PenAt.some_c {H : Hp} {p c : Addr} (h : PenAt H p c) : ∃ o, H c = some o := by
  obtain ⟨ns, a, r, g, m, t, h1, h2, h3⟩ := h.ex
  exact ⟨_, h2⟩
theorem PenAt.ne_new {H : Hp} {p c q : Addr} (h : PenAt H p c) (n : H q = none) : p ≠ q ∧ c ≠ q := by
  obtain ⟨o, e⟩ := h.some_p
  obtain ⟨u, e'⟩ := h.some_c
  exact ⟨ne_of_none e n, ne_of_none e' n⟩
theorem PenAt.put {H : Hp} {p c q : Addr} {o : HO} (h : PenAt H p c) (n : p ≠ q ∧ c ≠ q) : PenAt (upd H q o) p c := by
  obtain ⟨ns, a, r, g, m, t, h1, h2, h3⟩ := h.ex
  exact ⟨ns, a, r, g, m, t, by rw [upd_ne n.1]; exact h1, by rw [upd_ne n.2]; exact h2, h3⟩
/-- a write to an object that was not there at the start -/
theorem PenStep.put {p c q : Addr} {o : HO} {H H1 : Hp} (a : PenStep p c H H1) (h : PenAt H p c) (n : H q = none) : PenStep p c H (upd H1 q o) :=
  ⟨a.pen.put (h.ne_new n), fun b u nb e => by rw [upd_ne (ne_of_none e n)]; exact a.keep b u nb e⟩
theorem dg {H : Hp} {p : Addr} {kvs : List (Key × V)} {x : Str} {v : V} (h : H p = some (.dK kvs)) (e : valV kvs (.inr x) = some v) : DGet H p (.str x) (some v) := e ▸ DGet.k (k := .inr x) h
theorem dp {H : Hp} {p : Addr} {kvs kvs' : List (Key × V)} {x : Str} {v : V} (h : H p = some (.dK kvs)) (e : putK kvs (.inr x) v = kvs') (hl : kvs.length < sizeLine) : DPut H p (.str x) v (upd H p (.dK kvs')) := e ▸ DPut.k (k := .inr x) h hl
theorem dpu {H : Hp} {p : Addr} {kvs kvs' : List (Key × V)} {x : Str} {v : V} (e : putK kvs (.inr x) v = kvs') (hl : kvs.length < sizeLine) : DPut (upd H p (.dK kvs)) p (.str x) v (upd H p (.dK kvs')) := by
  have z := dp (H := upd H p (.dK kvs)) (x := x) (v := v) upd_same e hl
  rwa [upd_upd] at z
theorem same_new {H : Hp} {p : Addr} {o : HO} (h : H p = none) : Same H (upd H p o) := fun b u e => by rw [upd_ne (ne_of_none e h)]; exact e
/-- draws: r with 0 ≤ r < b -/
def spTake : Sp := fun vs H Q _ => ∃ (p c : Addr) (b : Int), vs = [.ref p, .int b] ∧ PenAt H p c ∧ 0 < b ∧ b < 2 ^ 100 ∧ ∀ r H', 0 ≤ r → r < b → PenStep p c H H' → Q (.int r) H'
def spPen (K : PySem.W.Frag) : Sp := fun vs H Q _ => ∃ (a : Addr) (ns : List Int), vs = [.ref a] ∧ SqL K H a (ns.map V.int) ∧ ∀ p c H', PenAt H' p c → Same H H' → H p = none → Q (.ref p) H'
theorem r_take {H : Hp} {Q : VK} {E : XK} {p c : Addr} {b : Int} (h : PenAt H p c) (hb : 0 < b) (hb2 : b < 2 ^ 100) (k : ∀ r H', 0 ≤ r → r < b → PenStep p c H H' → Q (.int r) H') : spTake ([.ref p, .int b] ++ []) H Q E := ⟨p, c, b, rfl, h, hb, hb2, k⟩
theorem p18 : (10 : Int) ^ (18 : Int).toNat = 1000000000000000000 := by decide
theorem sl6 (c : Addr) (a r g m t : Int) : (pk c a r g m t).length < sizeLine := by
  rw [sizeLine_eq]
  exact (by decide : 6 < 16777216)
theorem ite_and {c : Bool} {A B : Prop} (h1 : c = true → A) (h2 : c = false → B) : if c = true then A else B := by
  cases c
  · exact iteF (h2 rfl)
  · exact iteT (h1 rfl)
end Wm
namespace Wm
open PySem L2
/-! ## calls by named readings -/
def rLen (K : PySem.W.Frag) : List V → Hp → VK → Prop := fun xs H Q => ∃ p ys, xs = [.ref p] ∧ (SqL K H p ys ∨ SqT K H p ys) ∧ Q (.int ys.length) H
def rLenS : List V → Hp → VK → Prop := fun xs H Q => ∃ z, xs = [.str z] ∧ z.length ≤ sizeLine ∧ Q (.int z.length) H
def rInt1 : List V → Hp → VK → Prop := fun xs H Q => (∃ i, xs = [.int i] ∧ Q (.int i) H) ∨ ∃ k, xs = [.bl k] ∧ Q (.int (if k then 1 else 0)) H
def rListOf (K : PySem.W.Frag) : List V → Hp → VK → Prop := fun xs H Q => ∃ p ys, xs = [.ref p] ∧ (SqL K H p ys ∨ SqT K H p ys) ∧ ∀ l, H l = none → Q (.ref l) (upd H l (.lst ys))
def rTupOf (K : PySem.W.Frag) : List V → Hp → VK → Prop := fun xs H Q => ∃ p ys, xs = [.ref p] ∧ ((SqL K H p ys ∧ ∀ l, H l = none → Q (.ref l) (upd H l (.tup ys))) ∨ (SqT K H p ys ∧ Q (.ref p) H))
section
variable {X : Cx}
theorem c_len : CallR X (.builtin "len") (rLen X.K) := call_len_seq
theorem c_lenS : CallR X (.builtin "len") rLenS := call_len_str
theorem c_int1 : CallR X (.type "int") rInt1 := call_int1
theorem c_list : CallR X (.type "list") (rListOf X.K) := call_list_of
theorem c_tuple : CallR X (.type "tuple") (rTupOf X.K) := call_tuple_of
end
/-! ## steps through a reading -/
section
variable {D : Ends} {σ : St} {H : Hp} {Q : VK} {t u : TS} {te ta tb : TE} {g : TG} {x y v : V} {K : PySem.W.Frag}
theorem r_seq (h : t { D with nx := u D } σ H) : tSeq t u D σ H := h
theorem r_next (h : D.nx σ H) : tNext D σ H := h
theorem r_asg (h : te σ H fun x H1 => g x σ H1 D.nx) : tAsg te g D σ H := h
theorem r_gname {i : Nat} {σ' : St} {R : St → Hp → Prop} (e : σ.set i (some v) = σ') (h : R σ' H) : gName i v σ H R := by
  unfold gName
  rw [e]
  exact h
theorem r_ret (h : te σ H D.rt) : tRet te D σ H := h
theorem r_retN (h : D.rt .non H) : tRetN D σ H := h
theorem r_drop (h : te σ H fun _ H1 => D.nx σ H1) : tDrop te D σ H := h
theorem r_ifs {c : TT} (h : c σ H fun b H1 => if b = true then t D σ H1 else u D σ H1) : tIfS c t u D σ H := h
theorem r_var {i : Nat} (h : σ[i]? = some (some v)) (q : Q v H) : tVar i σ H Q := ⟨v, h, q⟩
theorem r_c (q : Q v H) : tC v σ H Q := q
theorem r_op {r : R2} (h : ta σ H fun x H1 => tb σ H1 fun y H2 => r x y H2 Q) : tOp r ta tb σ H Q := h
theorem r_i0 {f : Int → Int → V} {i j : Int} (h : Q (f i j) H) : rI0 f (.int i) (.int j) H Q := ⟨i, j, rfl, rfl, h⟩
theorem r_i {C : Int → Int → Prop} {f : Int → Int → V} {i j : Int} (c : C i j) (h : Q (f i j) H) : rI C f (.int i) (.int j) H Q := ⟨i, j, rfl, rfl, c, h⟩
theorem r_eqi {i j : Int} (h : Q (.bl (decide (i = j))) H) : rEq (.int i) (.int j) H Q := ⟨rfl, by rwa [show decide (V.int i = V.int j) = decide (i = j) from by simp]⟩
theorem r_eqs {i j : Str} (h : Q (.bl (decide (i = j))) H) : rEq (.str i) (.str j) H Q := ⟨rfl, by rwa [show decide (V.str i = V.str j) = decide (i = j) from by simp]⟩
theorem r_eqb {i j : Bool} (h : Q (.bl (decide (i = j))) H) : rEq (.bl i) (.bl j) H Q := ⟨rfl, by rwa [show decide (V.bl i = V.bl j) = decide (i = j) from by simp]⟩
theorem r_eq (s : scal x y = true) (h : Q (.bl (decide (x = y))) H) : rEq x y H Q := ⟨s, h⟩
theorem r_nei {i j : Int} (h : Q (.bl (!decide (i = j))) H) : rNe (.int i) (.int j) H Q := ⟨rfl, by rwa [show decide (V.int i = V.int j) = decide (i = j) from by simp]⟩
theorem r_nes {i j : Str} (h : Q (.bl (!decide (i = j))) H) : rNe (.str i) (.str j) H Q := ⟨rfl, by rwa [show decide (V.str i = V.str j) = decide (i = j) from by simp]⟩
theorem r_neb {i j : Bool} (h : Q (.bl (!decide (i = j))) H) : rNe (.bl i) (.bl j) H Q := ⟨rfl, by rwa [show decide (V.bl i = V.bl j) = decide (i = j) from by simp]⟩
theorem r_ne (s : scal x y = true) (h : Q (.bl (!decide (x = y))) H) : rNe x y H Q := ⟨s, h⟩
theorem r_test {R : Bool → Hp → Prop} (h : te σ H fun x H' => ∃ k, x = .bl k ∧ R k H') : tTest te σ H R := h
theorem r_tb {R : Bool → Hp → Prop} (h : te σ H fun x H' => ∃ k, x = .bl k ∧ R k H') : tB te σ H R := h
theorem r_bl {b : Bool} {R : Bool → Prop} (h : R b) : ∃ k, V.bl b = V.bl k ∧ R k := ⟨b, rfl, h⟩
theorem r_and {p q : TT} {R : Bool → Hp → Prop} (h : p σ H fun c H1 => if c = true then q σ H1 R else R false H1) : tAnd p q σ H R := h
theorem r_or {p q : TT} {R : Bool → Hp → Prop} (h : p σ H fun c H1 => if c = true then R true H1 else q σ H1 R) : tOr p q σ H R := h
theorem r_not {p : TT} {R : Bool → Hp → Prop} (h : p σ H fun c H1 => R (!c) H1) : tNot p σ H R := h
theorem r_andV (h : ta σ H fun x H1 => ∃ c, x = .bl c ∧ if c = true then tb σ H1 Q else Q (.bl false) H1) : tAndV ta tb σ H Q := h
theorem r_orV (h : ta σ H fun x H1 => ∃ c, x = .bl c ∧ if c = true then Q (.bl true) H1 else tb σ H1 Q) : tOrV ta tb σ H Q := h
theorem r_notV (h : ta σ H fun x H1 => ∃ c, x = .bl c ∧ Q (.bl (!c)) H1) : tNotV ta σ H Q := h
theorem r_if {c : TT} (h : c σ H fun b H1 => if b = true then ta σ H1 Q else tb σ H1 Q) : tIf c ta tb σ H Q := h
theorem r_nil {R : List V → Hp → Prop} (h : R [] H) : tNil σ H R := h
theorem r_cons {tr : TA} {R : List V → Hp → Prop} (h : te σ H fun x H1 => tr σ H1 fun xs H2 => R (x :: xs) H2) : tCons te tr σ H R := h
def lstEnd (Q : VK) : List V → Hp → Prop := fun xs H1 => xs.length ≤ sizeLine ∧ ∀ p, H1 p = none → Q (.ref p) (upd H1 p (.lst xs))
def tupEnd (Q : VK) : List V → Hp → Prop := fun xs H1 => xs.length ≤ sizeLine ∧ ∀ p, H1 p = none → Q (.ref p) (upd H1 p (.tup xs))
theorem r_lst {tr : TA} (h : tr σ H (lstEnd Q)) : tLst tr σ H Q := h
theorem r_tup {tr : TA} (h : tr σ H (tupEnd Q)) : tTup tr σ H Q := h
theorem r_lstE {xs : List V} (l : xs.length ≤ sizeLine) (k : ∀ p H', H p = none → Same H H' → H' p = some (.lst xs) → Q (.ref p) H') : lstEnd Q xs H := ⟨l, fun p n => k p _ n (same_new n) upd_same⟩
theorem r_tupE {xs : List V} (l : xs.length ≤ sizeLine) (k : ∀ p H', H p = none → Same H H' → H' p = some (.tup xs) → Q (.ref p) H') : tupEnd Q xs H := ⟨l, fun p n => k p _ n (same_new n) upd_same⟩
theorem r_cb {r : List V → Hp → VK → Prop} {tr : TA} (h : tr σ H fun vs H1 => r vs H1 Q) : tCB r tr σ H Q := h
theorem r_call {sp : Sp} {dvs : List V} {E : XK} {tr : TA} (h : tr σ H fun vs H1 => sp (vs ++ dvs) H1 Q E) : tCall sp dvs E tr σ H Q := h
theorem r_dget (h : ta σ H fun x H1 => tb σ H1 fun y H2 => ∃ a v, x = .ref a ∧ DGet H2 a y (some v) ∧ Q v H2) : tDGet ta tb σ H Q := h
theorem r_dgetK {p : Addr} {kvs : List (Key × V)} {k : Str} {R : V → Prop} (h : H p = some (.dK kvs)) (e : valV kvs (.inr k) = some v) (q : R v) : ∃ a v, V.ref p = .ref a ∧ DGet H a (.str k) (some v) ∧ R v := ⟨p, v, rfl, dg h e, q⟩
theorem r_dput {tv : TE} (h : tv σ H fun v H1 => ta σ H1 fun x H2 => tb σ H2 fun y H3 => ∃ a H4, x = .ref a ∧ DPut H3 a y v H4 ∧ D.nx σ H4) : sDPut ta tb tv D σ H := h
theorem r_dputU {p : Addr} {kvs kvs' : List (Key × V)} {k : Str} {R : Hp → Prop} (e : putK kvs (.inr k) v = kvs') (hl : kvs.length < sizeLine) (q : R (upd H p (.dK kvs'))) : ∃ a H4, V.ref p = .ref a ∧ DPut (upd H p (.dK kvs)) a (.str k) v H4 ∧ R H4 := ⟨p, _, rfl, dpu e hl, q⟩
theorem r_dputK {p : Addr} {kvs kvs' : List (Key × V)} {k : Str} {R : Hp → Prop} (h : H p = some (.dK kvs)) (e : putK kvs (.inr k) v = kvs') (hl : kvs.length < sizeLine) (q : R (upd H p (.dK kvs'))) : ∃ a H4, V.ref p = .ref a ∧ DPut H a (.str k) v H4 ∧ R H4 := ⟨p, _, rfl, dp h e hl, q⟩
theorem r_len {p : Addr} {ys : List V} (h : SqL K H p ys) (q : Q (.int ys.length) H) : rLen K [.ref p] H Q := ⟨p, ys, rfl, .inl h, q⟩
theorem r_lenT {p : Addr} {ys : List V} (h : SqT K H p ys) (q : Q (.int ys.length) H) : rLen K [.ref p] H Q := ⟨p, ys, rfl, .inr h, q⟩
theorem r_int1 {i : Int} (q : Q (.int i) H) : rInt1 [.int i] H Q := .inl ⟨i, rfl, q⟩
theorem r_listL {p : Addr} {ys : List V} (h : SqL K H p ys) (q : ∀ l, H l = none → Q (.ref l) (upd H l (.lst ys))) : rListOf K [.ref p] H Q := ⟨p, ys, rfl, .inl h, q⟩
theorem r_listT {p : Addr} {ys : List V} (h : SqT K H p ys) (q : ∀ l, H l = none → Q (.ref l) (upd H l (.lst ys))) : rListOf K [.ref p] H Q := ⟨p, ys, rfl, .inr h, q⟩
theorem r_tupL {p : Addr} {ys : List V} (h : SqL K H p ys) (q : ∀ l, H l = none → Q (.ref l) (upd H l (.tup ys))) : rTupOf K [.ref p] H Q := ⟨p, ys, rfl, .inl ⟨h, q⟩⟩
theorem r_tupT {p : Addr} {ys : List V} (h : SqT K H p ys) (q : Q (.ref p) H) : rTupOf K [.ref p] H Q := ⟨p, ys, rfl, .inr ⟨h, q⟩⟩
theorem r_ixL {p : Addr} {xs : List V} {i : Int} (h : SqL K H p xs) (a : atI xs i = some v) (q : Q v H) : rIxL K (.ref p) (.int i) H Q := ⟨p, xs, i, v, rfl, rfl, h, a, q⟩
theorem r_ixT {p : Addr} {xs : List V} {i : Int} (h : SqT K H p xs) (a : atI xs i = some v) (q : Q v H) : rIxT K (.ref p) (.int i) H Q := ⟨p, xs, i, v, rfl, rfl, h, a, q⟩
theorem r_never (h : False) : tNever D σ H := h
end
theorem at_any {α : Type} {xs : List α} {a : Int} (h0 : 0 ≤ a) (h : a < (xs.length : Nat)) : ∃ z, z ∈ xs ∧ xs[a.toNat]? = some z ∧ atI xs a = some z := by
  obtain ⟨n, rfl⟩ := Int.eq_ofNat_of_zero_le h0
  have hk : n < xs.length := by omega
  exact ⟨xs[n], List.getElem_mem hk, by rw [Int.toNat_natCast]; exact List.getElem?_eq_getElem hk, atI_nat (List.getElem?_eq_getElem hk)⟩
theorem at_int {ns : List Int} {a : Int} (h0 : 0 ≤ a) (h : a < ((ns.map V.int).length : Nat)) : ∃ z, z ∈ ns ∧ atI (ns.map V.int) a = some (V.int z) := by
  obtain ⟨v, hv, _, e⟩ := at_any h0 h
  obtain ⟨z, hz, rfl⟩ := List.mem_map.mp hv
  exact ⟨z, hz, e⟩
theorem pen_put {H : Hp} {p c : Addr} {ns : List Int} {a r g m t : Int} (h : H c = some (.lst (ns.map V.int))) (n : c ≠ p) (ha : 0 ≤ a) (hm : 0 ≤ m) (hm2 : m < 2147483648) : PenStep p c H (upd H p (.dK (pk c a r g m t))) :=
  ⟨⟨ns, a, r, g, m, t, upd_same, by rw [upd_ne n]; exact h, ha, hm, hm2⟩, fun b o nb e => by rw [upd_ne nb]; exact e⟩
theorem wide100 {i b : Int} (h : 0 < b) (hb : b < 2 ^ 100) : CDivW i b := wide_div h (b := 100) (by omega) (by decide) (by decide)
theorem pow18 : CPow 10 18 := ⟨by decide, by decide, by decide⟩
/-- what a heap holds, carried over a step with the pen -/
def isDi : HO → Bool
  | .dK _ => true
  | .dT _ => true
  | .own _ => false
  | _ => false
theorem PenAt.ne {H : Hp} {p c b : Addr} {o : HO} (h : PenAt H p c) (e : H b = some o) (d : isDi o = false) : b ≠ p := fun z => by
  obtain ⟨ns, a, r, g, m, t, h1, _⟩ := h.ex
  rw [z, h1] at e
  cases Option.some.inj e
  cases d
theorem PenStep.at {p c b : Addr} {H H' : Hp} {o : HO} (s : PenStep p c H H') (h : PenAt H p c) (e : H b = some o) (d : isDi o = false) : H' b = some o := s.keep b o (h.ne e d) e
theorem PenStep.atd {p c b : Addr} {H H' : Hp} {o : HO} (s : PenStep p c H H') (e : H b = some o) (d : b ≠ p) : H' b = some o := s.keep b o d e
theorem Same.at {b : Addr} {H H' : Hp} {o : HO} (s : Same H H') (e : H b = some o) : H' b = some o := s b o e
theorem PenStep.free {p c b : Addr} {H H' : Hp} (s : PenStep p c H H') (e : H' b = none) : H b = none := by
  cases q : H b with
  | none => rfl
  | some o =>
    by_cases z : b = p
    · obtain ⟨u, h1⟩ := s.pen.some_p
      rw [z, h1] at e
      cases e
    · rw [s.keep b o z q] at e
      cases e
theorem same_put {H H1 : Hp} {q : Addr} {o : HO} (a : Same H H1) (n : H q = none) : Same H (upd H1 q o) := fun b u e => by rw [upd_ne (ne_of_none e n)]; exact a b u e
theorem r_pick {K : PySem.W.Frag} {H : Hp} {q : Addr} {r : Int} {l : List V} {Q : VK} (ns : List Str) (h : H q = some (.lst l)) (e : l = ns.map V.str) (h0 : 0 ≤ r) (h1 : r < (ns.length : Nat)) (k : ∀ a, a ∈ ns → Q (.str a) H) : rIxL K (.ref q) (.int r) H Q := by
  subst e
  obtain ⟨v, hv, _, e⟩ := at_any (xs := ns.map V.str) h0 (by rw [List.length_map]; exact h1)
  obtain ⟨z, hz, rfl⟩ := List.mem_map.mp hv
  exact r_ixL (SqL.of h) e (k z hz)
end Wm
namespace Wm
open PySem L2 PySem.Spec
open PyProof.Rows hiding St
section
variable {X : Cx}
/-- x == y where x is an instance of a class with its own __eq__ -/
def rEqOwn (K : PySem.W.Frag) (C : Addr) (sp : Sp) (E : XK) : R2 := fun x y H Q => ∃ a dx fs tb, x = .ref a ∧ H a = some (.ins C dx fs) ∧ TyX K H y tb ∧ PySem.W.notFirst K C tb = true ∧ sp [x, y] H (fun v H' => (∃ b, v = .bl b) ∧ Q v H') E
theorem op_eqOwn {CX : CXT} {C f : Addr} {fd : FuncData} {ps : List Str} {k : Nat} {sp : Sp} {E : XK} (F : FnOk X.prog X.w X.K X.mg X.base CX k f fd ps sp) (hr : Room k X.A)
    (hm : Meth X.K C "__eq__" f) (hb : Binds X.K fd ps []) (hx : Passes CX X E) : OpR X (compareOp .Eq) (rEqOwn X.K C sp E) := by
  intro pins s σ H x y v u Q I rx ry hq
  obtain ⟨a, dx, fs, tb, rfl, ha, ty, hn, hsp⟩ := hq
  cases rx
  obtain ⟨mA, J, _⟩ := ins_get I.hok ha
  obtain ⟨od, J, _⟩ := J.look
  obtain ⟨m, hF⟩ := I.fr
  obtain ⟨PP, Z, hp, _⟩ := kit_of I ry ty
  show wpAny (model X.prog X.w) X.A (richCompare .Eq (.ref a) u) (EP X pins σ Q) X.xe s
  refine PySem.W.cmp_K (op := .Eq) (tb := tb) hr.units0 hF I.ok.mod.kin J (Z.ty _ _ I.kIn hp) hn hm.at_ hm.fn ?_
  refine wpAny_mono (run_fn F hr hb .nil hx I (vs := [.ref a, y]) (us := [.ref a, u]) (.cons rfl (.cons ry .nil)) hsp) (fun r s' z => ?_) fun _ _ e => e
  obtain ⟨v, H', I', rv, hvb, q⟩ := z
  obtain ⟨b', rfl⟩ := hvb
  cases rv
  exact ⟨.bl b', H', I', rfl, q⟩
/-- C(e, .., k = v, ..) in a try: what is wished of an error hangs on the slots -/
def tMakeKS (C : Addr) (n m : Nat) (sp : Sp) (gV : List V → List V → List V) (E : St → XK) (t tk : TA) : TE := fun σ H Q => t σ H fun vs H1 => tk σ H1 fun zs H2 => vs.length = n ∧ zs.length = m ∧ ∀ x dx, H2 x = none → H2 dx = none → dx ≠ x →
  sp (gV (.ref x :: vs) zs) (upd (upd H2 dx (.own x)) x (.ins C dx [])) (fun v H3 => v = .non ∧ Q (.ref x) H3) (E σ)
section
variable {CX : CXT} {k n : Nat} {f C : Addr} {fd : FuncData} {ps ks : List Str} {sp : Sp} {E : St → XK} {x : Str} {p pos : Pos} {e : Expr} {es : List Expr} {kws : List Keyword} {t tk : TA} {g : List Value → List Value → List Value} {gV : List V → List V → List V}
theorem run_makeKS {pins : List (Addr × Obj)} {σ : St} {H : Hp} {s : Shared} {Q : VK} {us ws : List Value} {vs zs : List V} (M : Mk X.K C f) (F : FnOk X.prog X.w X.K X.mg X.base CX k f fd ps sp) (hr : Room (k + 1) X.A) (hb : KBn X.K fd ps (n + 1) ks g gV) (hx : PassesAt CX X σ (E σ))
    (I : Inv X pins σ H s) (r : Vals vs us) (rz : Vals zs ws) (l1 : vs.length = n) (l2 : zs.length = ks.length)
    (h : ∀ x dx, H x = none → H dx = none → dx ≠ x → sp (gV (.ref x :: vs) zs) (upd (upd H dx (.own x)) x (.ins C dx [])) (fun v H2 => v = .non ∧ Q (.ref x) H2) (E σ)) :
    wpAny (model X.prog X.w) X.A (call (.ref C) us (ks.zip ws)) (EP X pins σ Q) X.xe s := by
  have hq := h (s.heap.objs.size + 1) s.heap.objs.size (I.hok.fresh (Nat.le_succ _)) (I.hok.fresh (Nat.le_refl _)) (Nat.ne_of_lt (Nat.lt_succ_self _))
  have I2 := Inv.made (C := C) I
  have r1 : Vals (V.ref (s.heap.objs.size + 1) :: vs) (Value.ref (s.heap.objs.size + 1) :: us) := .cons rfl r
  have r2 := hb.rel r1 rz
  have n1 : (Value.ref (s.heap.objs.size + 1) :: us).length = n + 1 := by rw [List.length_cons, ← r.length, l1]
  refine wpAny_call (make_map (f := f) I.kIn M.makes M.init (beq_iff_eq.mp M.fn) (codeAny_mono (F.run _ X.stack _ _ ⟨Value.ref (s.heap.objs.size + 1) :: us, ks.zip ws⟩ (g (Value.ref (s.heap.objs.size + 1) :: us) ws) _ _ (E σ) (hr.make C us (ks.zip ws))
    (I2.env0.make C us (ks.zip ws)) (hb.to _ (Value.ref (s.heap.objs.size + 1) :: us) ws I2.kIn n1 (rz.length.symm.trans l2)) r2 hq) fun r s' hq' => ?_))
  cases r with
  | error e => exact hx pins _ _ e s' I2 hq'
  | ok fl =>
    cases fl with
    | ret u =>
      obtain ⟨v, H', I3, rv, ev, q3⟩ := I2.after hq'
      subst ev
      exact ⟨rv, ⟨V.ref (s.heap.objs.size + 1), H', I3, rfl, q3⟩⟩
    | next => exact False.elim hq'
    | brk => exact False.elim hq'
    | cont => exact False.elim hq'
theorem pe_makeKS (M : Mk X.K C f) (F : FnOk X.prog X.w X.K X.mg X.base CX k f fd ps sp) (hr : Room (k + 1) X.A) (hg : Gl X x) (hm : X.mg x = some (.ref C)) (hb : KBn X.K fd ps (n + 1) ks g gV) (hx : ∀ σ, PassesAt CX X σ (E σ)) (ha : PA X (e :: es) t) (hkw : PK X kws tk)
    (hall : (backToKw pos (keywordEach kws X.env)).all (·.1.isSome) = true := by rfl) (hks : (backToKw pos (keywordEach kws X.env)).filterMap (·.1) = ks := by rfl) (hdb : (x == ("__debug__" : Str)) = false := by decide)
    (he : starEach (e :: es) X.env = (false, eval e X.env) :: starEach es X.env := by rfl) (hpl : ((backTo pos (starEach (e :: es) X.env)).any (·.1) || (backToKw pos (keywordEach kws X.env)).any (·.1.isNone)) = false := by rfl) :
    PE X (.Call (.Name x p) (e :: es) kws pos) (tMakeKS C n ks.length sp gV E t tk) := by
  refine ⟨fun pins s σ H Q I h => ?_⟩
  refine wpAny_Call_Name_kw (ld_glob I hg hm ?_ hdb)
  refine PySem.W.callWith_KW (h₀ := X.base) I.ok.mod.kin M.kp hall (thn (ha.run pos pins s σ H _ I h) fun us s1 ⟨vs, H1, I1, r, q⟩ => ?_) hpl he
  refine thn (hkw.run pos pins s1 σ H1 _ I1 q) fun ws s2 ⟨zs, H2, I2, rz, l1, l2, q2⟩ => ⟨I2.kIn, ?_⟩
  rw [hks]
  exact run_makeKS M F hr hb (hx σ) I2 r rz l1 l2 q2
end
end
section
variable {D : Ends} {σ : St} {H : Hp} {Q : VK} {K : PySem.W.Frag} {x y : V}
theorem r_isi {T a : String} {b : Bool} (h : TyX K H x (.type a)) (e : kitB a T = some b) (q : Q (.bl b) H) : rIsi K [x, .ty T] H Q := ⟨x, .ty T, .type a, .type T, b, rfl, .ty T, h, kit_ty e, q⟩
theorem r_fld {ta : TE} {f : Str} (h : ta σ H fun x H1 => ∃ a C dx fs v, x = .ref a ∧ H1 a = some (.ins C dx fs) ∧ Cls K C ∧ NoAttr K C f ∧ fs.lookup f = some v ∧ Q v H1) : tFld K ta f σ H Q := h
theorem r_fldK {p C dx : Addr} {fs : List (Str × V)} {f : Str} {v : V} {R : V → Prop} (h : H p = some (.ins C dx fs)) (c : Cls K C) (n : NoAttr K C f) (e : fs.lookup f = some v) (q : R v) :
    ∃ a C dx fs v, V.ref p = .ref a ∧ H a = some (.ins C dx fs) ∧ Cls K C ∧ NoAttr K C f ∧ fs.lookup f = some v ∧ R v := ⟨p, C, dx, fs, v, rfl, h, c, n, e, q⟩
theorem r_fldS {ta tv : TE} {f : Str} (h : tv σ H fun y H1 => ta σ H1 fun x H2 => ∃ a C dx fs, x = .ref a ∧ H2 a = some (.ins C dx fs) ∧ Cls K C ∧ NoAttr K C f ∧ fs.length < 1000 ∧ D.nx σ (upd H2 a (.ins C dx (putF f y fs)))) : sFld K ta tv f D σ H := h
theorem r_fldP {p C dx : Addr} {fs fs' : List (Str × V)} {f : Str} {y : V} (h : H p = some (.ins C dx fs)) (c : Cls K C) (n : NoAttr K C f) (l : fs.length < 1000) (e : putF f y fs = fs') (q : D.nx σ (upd H p (.ins C dx fs'))) :
    ∃ a C dx fs, V.ref p = .ref a ∧ H a = some (.ins C dx fs) ∧ Cls K C ∧ NoAttr K C f ∧ fs.length < 1000 ∧ D.nx σ (upd H a (.ins C dx (putF f y fs))) := ⟨p, C, dx, fs, rfl, h, c, n, l, by rw [e]; exact q⟩
theorem r_gsub {to ti : TE} {t : TSet} {v : V} {R : St → Hp → Prop} (h : to σ H fun o H1 => ti σ H1 fun i H2 => t o i v H2 fun H3 => R σ H3) : gSub to ti t v σ H R := h
theorem r_setL {p : Addr} {xs xs' : List V} {k : Int} {j : Nat} {v : V} {R : Hp → Prop} (h : H p = some (.lst xs)) (e : ixN xs.length k = some j) (e2 : xs.set j v = xs') (q : R (upd H p (.lst xs'))) : rSetL (.ref p) (.int k) v H R := ⟨p, xs, k, j, rfl, rfl, h, e, by rw [e2]; exact q⟩
theorem r_gtup {n : Nat} {t : TGs} {p : Addr} {xs : List V} {R : St → Hp → Prop} (h : SqT K H p xs) (l : xs.length = n) (q : t xs σ H R) : gTup K n t (.ref p) σ H R := ⟨p, xs, rfl, h, l, q⟩
theorem r_gcons {t : TG} {u : TGs} {v : V} {r : List V} {R : St → Hp → Prop} (q : t v σ H fun σ' H' => u r σ' H' R) : gCons t u (v :: r) σ H R := ⟨v, r, rfl, q⟩
theorem r_gnil {R : St → Hp → Prop} (q : R σ H) : gNil [] σ H R := ⟨rfl, q⟩
theorem r_bm {T : String} {r : V → List V → Hp → VK → Prop} {to : TE} {t : TA} (h : to σ H fun x H1 => tyV K T x H1 ∧ t σ H1 fun xs H2 => r x xs H2 Q) : tBM K T r to t σ H Q := h
theorem r_bm0 {T : String} {r : V → List V → Hp → VK → Prop} {to : TE} (h : to σ H fun x H1 => tyV K T x H1 ∧ r x [] H1 Q) : tBM0 K T r to σ H Q := h
theorem r_tyL {p : Addr} {xs : List V} {R : Prop} (h : SqL K H p xs) (q : R) : tyV K "list" (.ref p) H ∧ R := ⟨.inl ⟨rfl, xs, h⟩, q⟩
theorem r_append {p : Addr} {xs : List V} {y : V} (h : H p = some (.lst xs)) (l : xs.length < sizeLine) (q : Q .non (upd H p (.lst (xs ++ [y])))) : rAppend (.ref p) [y] H Q := ⟨p, xs, y, rfl, rfl, h, l, q⟩
theorem r_in {neg : Bool} {p : Addr} {xs : List V} {x : V} (h : SqL K H p xs ∨ SqT K H p xs) (f : flatV x = true) (g : xs.all flatV = true) (q : Q (.bl (if neg then !inV x xs else inV x xs)) H) : rIn K neg x (.ref p) H Q := ⟨p, xs, rfl, h, f, g, q⟩
theorem r_eqd {a b : PyData} (h : Dp K H x a) (h' : Dp K H y b) (s : SeqAt.shaped a = true) (s' : SeqAt.shaped b = true) (q : Q (.bl (PyData.eqv a b)) H) : rEqD K x y H Q := ⟨a, b, h, h', s, s', q⟩
theorem r_ned {a b : PyData} (h : Dp K H x a) (h' : Dp K H y b) (s : SeqAt.shaped a = true) (s' : SeqAt.shaped b = true) (q : Q (.bl (!PyData.eqv a b)) H) : rNeD K x y H Q := ⟨a, b, h, h', s, s', q⟩
theorem r_lenK {p : Addr} {ys : List V} (h : H p = some (.lst ys)) (q : Q (.int ys.length) H) : rLen K [.ref p] H Q := r_len (.of h) q
theorem r_lenTK {p : Addr} {ys : List V} (h : H p = some (.tup ys)) (q : Q (.int ys.length) H) : rLen K [.ref p] H Q := r_lenT (.of h) q
theorem r_listLK {p : Addr} {ys : List V} (h : H p = some (.lst ys)) (q : ∀ l H', H l = none → Same H H' → H' l = some (.lst ys) → Q (.ref l) H') : rListOf K [.ref p] H Q := r_listL (.of h) fun l n => q l _ n (same_new n) upd_same
theorem r_listTK {p : Addr} {ys : List V} (h : H p = some (.tup ys)) (q : ∀ l H', H l = none → Same H H' → H' l = some (.lst ys) → Q (.ref l) H') : rListOf K [.ref p] H Q := r_listT (.of h) fun l n => q l _ n (same_new n) upd_same
theorem r_ixLK {p : Addr} {xs : List V} {i : Int} {v : V} (h : H p = some (.lst xs)) (a : atI xs i = some v) (q : Q v H) : rIxL K (.ref p) (.int i) H Q := r_ixL (.of h) a q
theorem r_ixTK {p : Addr} {xs : List V} {i : Int} {v : V} (h : H p = some (.tup xs)) (a : atI xs i = some v) (q : Q v H) : rIxT K (.ref p) (.int i) H Q := r_ixT (.of h) a q
theorem r_gtupK {n : Nat} {t : TGs} {p : Addr} {xs : List V} {R : St → Hp → Prop} (h : H p = some (.tup xs)) (l : xs.length = n) (q : t xs σ H R) : gTup K n t (.ref p) σ H R := r_gtup (.of h) l q
theorem r_tyLK {p : Addr} {xs : List V} {R : Prop} (h : H p = some (.lst xs)) (q : R) : tyV K "list" (.ref p) H ∧ R := r_tyL (.of h) q
theorem r_for {wi : TI} {g : TG} {tb : TS} (h : wi σ H fun J H1 => ∃ W : Nat → Nat → St → Hp → Prop, (∃ m, W 0 m σ H1) ∧ ∀ i m σ H, W i m σ H →
  (J.stop i H ∧ D.nx σ H) ∨ (J.go i H ∧ ∃ N : St → Hp → Prop, (∀ σ' H', N σ' H' → ∃ m', m' < m ∧ W (i + 1) m' σ' H') ∧ ∀ x H', J.yld i H x H' → g x σ H' fun σ2 H2 => tb { D with nx := N, ct := N, bk := D.nx } σ2 H2)) : tFor wi g tb D σ H := h
theorem r_il {tl : TE} {R : It → Hp → Prop} (h : tl σ H fun x H1 => ∃ a, x = .ref a ∧ (∃ xs, SqL K H1 a xs) ∧ R (Itl K a) H1) : iList K tl σ H R := h
theorem r_it {tl : TE} {R : It → Hp → Prop} (h : tl σ H fun x H1 => ∃ a, x = .ref a ∧ (∃ xs, SqT K H1 a xs) ∧ R (Itt K a) H1) : iTup K tl σ H R := h
theorem r_rng1 {ta : TA} {R : It → Hp → Prop} (h : ta σ H fun vs H1 => ∃ j : Int, vs = [.int j] ∧ -(2 ^ 62) ≤ j ∧ j < 2 ^ 62 ∧ R (Itr 0 j.toNat) H1) : iRng1 ta σ H R := h
theorem r_rngK {j : Int} {R : Int → Prop} (h1 : -(2 ^ 62) ≤ j) (h2 : j < 2 ^ 62) (q : R j) : ∃ k : Int, [V.int j] = [.int k] ∧ -(2 ^ 62) ≤ k ∧ k < 2 ^ 62 ∧ R k := ⟨j, rfl, h1, h2, q⟩
theorem r_ilK {p : Addr} {xs : List V} {R : Addr → Prop} (h : SqL K H p xs) (q : R p) : ∃ a, V.ref p = .ref a ∧ (∃ xs, SqL K H a xs) ∧ R a := ⟨p, rfl, ⟨xs, h⟩, q⟩
theorem r_itK {p : Addr} {xs : List V} {R : Addr → Prop} (h : SqT K H p xs) (q : R p) : ∃ a, V.ref p = .ref a ∧ (∃ xs, SqT K H a xs) ∧ R a := ⟨p, rfl, ⟨xs, h⟩, q⟩
theorem r_dnew (q : ∀ p H', H p = none → Same H H' → H' p = some (.dK []) → Q (.ref p) H') : tDNewK σ H Q := fun p n => q p _ n (same_new n) upd_same
def dispEnd (p : Addr) (Q : VK) : List (V × V) → Hp → Prop := fun ps H2 => H2 p = some (.dK []) ∧ ∃ kvs : List (Key × V), ps = kvs.map (fun kv => (kV kv.1, kv.2)) ∧ kvs.length ≤ 15 ∧ Q (.ref p) (upd H2 p (.dK (mergeK [] kvs)))
theorem r_disp {trs : List (TE × TE)} (h : ∀ p H', H p = none → Same H H' → H' p = some (.dK []) → tPairs trs σ H' (dispEnd p Q)) : tDisp trs σ H Q := fun p n => h p _ n (same_new n) upd_same
theorem r_dispE {p : Addr} {ps : List (V × V)} (kvs kvs' : List (Key × V)) (h : H p = some (.dK [])) (e : ps = kvs.map (fun kv => (kV kv.1, kv.2))) (l : kvs.length ≤ 15) (e2 : mergeK [] kvs = kvs') (q : Q (.ref p) (upd H p (.dK kvs'))) :
    dispEnd p Q ps H := ⟨h, kvs, e, l, by rw [e2]; exact q⟩
theorem r_neg {i : Int} (q : Q (.int (-i)) H) : rU (fun i => .int (-i)) (.int i) H Q := ⟨i, rfl, q⟩
theorem r_un {r : V → Hp → VK → Prop} {ta : TE} (h : ta σ H fun x H1 => r x H1 Q) : tUn r ta σ H Q := h
theorem r_pn {R : List (V × V) → Hp → Prop} (q : R [] H) : tPairs [] σ H R := q
theorem r_pc {tk tv : TE} {r : List (TE × TE)} {R : List (V × V) → Hp → Prop} (q : tk σ H fun k H1 => tv σ H1 fun v H2 => tPairs r σ H2 fun ps H3 => R ((k, v) :: ps) H3) : tPairs ((tk, tv) :: r) σ H R := q
theorem r_anyIx {p : Addr} {r : Int} {l : List V} (h : H p = some (.lst l)) (h0 : 0 ≤ r) {n : Int} (h1 : r < n) (hn : n = (l.length : Nat)) (k : ∀ v, v ∈ l → Q v H) : rIxL K (.ref p) (.int r) H Q := by
  obtain ⟨v, hv, _, e⟩ := at_any h0 (hn ▸ h1)
  exact r_ixL (SqL.of h) e (k v hv)
def erEnd (C : Addr) (fs : List Str) (W : WX) (σ : St) : List V → Hp → Prop := fun vs H1 => vs.length = fs.length ∧ vs.length ≤ 1000 ∧ (fs = [] → W (.ref C) none σ H1) ∧ (fs ≠ [] → ∀ d, H1 d = none → W (.ref C) (some d) σ (upd H1 d (.xd (fs.zip vs))))
theorem r_raiseEr {C : Addr} {fs : List Str} {W : WX} {ta : TA} (h : ta σ H (erEnd C fs W σ)) : tRaiseEr C fs W ta D σ H := h
theorem r_erE {C : Addr} {fs : List Str} {W : WX} {vs : List V} (l : vs.length = fs.length) (l2 : vs.length ≤ 1000) (hn : fs ≠ []) (k : ∀ d H', H d = none → Same H H' → H' d = some (.xd (fs.zip vs)) → W (.ref C) (some d) σ H') : erEnd C fs W σ vs H :=
  ⟨l, l2, fun z => absurd z hn, fun _ d n => k d _ n (same_new n) upd_same⟩
theorem r_erE0 {C : Addr} {W : WX} (k : W (.ref C) none σ H) : erEnd C [] W σ [] H := ⟨rfl, Nat.zero_le _, fun _ => k, fun z => absurd rfl z⟩
theorem r_isiO {C : Addr} {t : Value} {b : Bool} (h : TyX K H x t) (e : PySem.W.kitOne K t (.ref C) = some b) (q : Q (.bl b) H) : rIsi K [x, .ref C] H Q := ⟨x, .ref C, t, .ref C, b, rfl, .own C, h, e, q⟩
/-- what isinstance and == ask of an own class -/
structure OwnC (K : PySem.W.Frag) (C : Addr) : Prop where
  cl : Cls K C
  ha : PySem.W.findIn K (.ref C) "__class__" = some (some (.builtin "object.__class__"))
  hn : PySem.W.specialIn K (.builtin "object.__class__") "__get__" = some (some (.builtin "getset_descriptor.__get__"))
  ht : PySem.W.takesIn K (.builtin "object.__class__") = some true
  hm : PySem.W.mroIn K C (.type "object") = some true
  self : PySem.W.kitOne K (.ref C) (.ref C) = some true
  base : ∀ t, t ∈ ["NoneType", "bool", "int", "str", "list", "tuple", "dict"] → PySem.W.kitOne K (.type t) (.ref C) = some false
theorem OwnC.ty {C p dx : Addr} {fs : List (Str × V)} (o : OwnC K C) (h : H p = some (.ins C dx fs)) : TyX K H (.ref p) (.ref C) := .base (.ins h o.cl o.ha o.hn o.ht o.hm)
def mkQ (Q : VK) (x : Addr) : VK := fun v H3 => v = .non ∧ Q (.ref x) H3
theorem r_mkQ {p : Addr} (q : Q (.ref p) H) : mkQ Q p .non H := ⟨rfl, q⟩
theorem mkQ_eq {p : Addr} : mkQ Q p .non H = (V.non = V.non ∧ Q (.ref p) H) := rfl
def mkEnd (C : Addr) (n m : Nat) (sp : Sp) (gV : List V → List V → List V) (E : XK) (Q : VK) (vs : List V) : List V → Hp → Prop := fun zs H2 => vs.length = n ∧ zs.length = m ∧ ∀ x dx, H2 x = none → H2 dx = none → dx ≠ x →
  sp (gV (.ref x :: vs) zs) (upd (upd H2 dx (.own x)) x (.ins C dx [])) (mkQ Q x) E
def mk1End (C : Addr) (sp : Sp) (dvs : List V) (E : XK) (Q : VK) : List V → Hp → Prop := fun vs H2 => ∀ x dx, H2 x = none → H2 dx = none → dx ≠ x →
  sp (.ref x :: (vs ++ dvs)) (upd (upd H2 dx (.own x)) x (.ins C dx [])) (mkQ Q x) E
theorem same_mk {C x dx : Addr} {fs : List (Str × V)} (n1 : H x = none) (n2 : H dx = none) (n3 : dx ≠ x) : Same H (upd (upd H dx (.own x)) x (.ins C dx fs)) := same_put (same_new n2) n1
theorem r_makeKS {C : Addr} {n m : Nat} {sp : Sp} {gV : List V → List V → List V} {E : St → XK} {tx tk : TA} (h : tx σ H fun vs H1 => tk σ H1 (mkEnd C n m sp gV (E σ) Q vs)) : tMakeKS C n m sp gV E tx tk σ H Q := h
theorem r_makeK {C : Addr} {n m : Nat} {sp : Sp} {gV : List V → List V → List V} {E : XK} {tx tk : TA} (h : tx σ H fun vs H1 => tk σ H1 (mkEnd C n m sp gV E Q vs)) : tMakeK C n m sp gV E tx tk σ H Q := h
theorem r_make {C : Addr} {sp : Sp} {dvs : List V} {E : XK} {tx : TA} (h : tx σ H (mk1End C sp dvs E Q)) : tMake C sp dvs E tx σ H Q := h
theorem r_mkE {C : Addr} {n m : Nat} {sp : Sp} {gV : List V → List V → List V} {E : XK} {vs zs : List V} (l1 : vs.length = n) (l2 : zs.length = m)
    (k : ∀ x dx H', H x = none → Same H H' → H' x = some (.ins C dx []) → sp (gV (.ref x :: vs) zs) H' (mkQ Q x) E) : mkEnd C n m sp gV E Q vs zs H := ⟨l1, l2, fun x dx n1 n2 n3 => k x dx _ n1 (same_mk n1 n2 n3) upd_same⟩
theorem r_mk1E {C : Addr} {sp : Sp} {dvs vs : List V} {E : XK} (k : ∀ x dx H', H x = none → Same H H' → H' x = some (.ins C dx []) → sp (.ref x :: (vs ++ dvs)) H' (mkQ Q x) E) : mk1End C sp dvs E Q vs H := fun x dx n1 n2 n3 => k x dx _ n1 (same_mk n1 n2 n3) upd_same
theorem same_but {p : Addr} {H1 H2 : Hp} (n : H p = none) (s : Same H H1) (k : ∀ b o, b ≠ p → H1 b = some o → H2 b = some o) : Same H H2 := fun b o e => k b o (ne_of_none e n) (s b o e)
theorem r_xf {a : Addr} {cls : Value} {d : Option Addr} {C : Addr} {f : Str} {te : TE} (h : te σ H fun x H1 => x = .ref a ∧ cls = .ref C ∧ ∃ (dd : Addr) (fs : List (Str × V)) (v : V), d = some dd ∧ H1 dd = some (.xd fs) ∧ fs.lookup f = some v ∧ Q v H1) : tXf a cls d C f te σ H Q := h
theorem r_xfK {a C dd : Addr} {fs : List (Str × V)} {f : Str} {v : V} {R : V → Prop} (h : H dd = some (.xd fs)) (e : fs.lookup f = some v) (q : R v) : V.ref a = .ref a ∧ Value.ref C = .ref C ∧ ∃ (d2 : Addr) (fs : List (Str × V)) (v : V), some dd = some d2 ∧ H d2 = some (.xd fs) ∧ fs.lookup f = some v ∧ R v :=
  ⟨rfl, rfl, dd, fs, v, rfl, h, e, q⟩
theorem iteNF {A B : Prop} (h : A) : if (!false) = true then A else B := h
theorem iteNT {A B : Prop} (h : B) : if (!true) = true then A else B := h
theorem inV_strs {x : Str} {ss : List Str} : inV (.str x) (ss.map V.str) = decide (x ∈ ss) := by
  unfold inV
  rw [List.any_map]
  induction ss with
  | nil => rfl
  | cons a l ih =>
    rw [List.any_cons, ih]
    show ((a == x) || _) = _
    by_cases e : a = x
    · subst e
      simp
    · have e' : ¬ x = a := fun z => e z.symm
      simp [e, e']
theorem flat_strs (ss : List Str) : (ss.map V.str).all flatV = true := by
  induction ss with
  | nil => rfl
  | cons a l ih => exact ih
theorem r_inSN {p : Addr} {ss : List Str} {x : Str} (h : SqL K H p (ss.map V.str) ∨ SqT K H p (ss.map V.str)) (q : Q (.bl (!decide (x ∈ ss))) H) : rIn K true (.str x) (.ref p) H Q := r_in h rfl (flat_strs ss) (by rw [inV_strs]; exact q)
theorem r_inSP {p : Addr} {ss : List Str} {x : Str} (h : SqL K H p (ss.map V.str) ∨ SqT K H p (ss.map V.str)) (q : Q (.bl (decide (x ∈ ss))) H) : rIn K false (.str x) (.ref p) H Q := r_in h rfl (flat_strs ss) (by rw [inV_strs]; exact q)
end
end Wm
namespace Wm
open PySem L2 PySem.Spec PySem.W PySem.SeqAt ClX
open PyProof.Rows hiding St
def rEqP (K : PySem.W.Frag) : R2 := fun x y H Q => ∃ d e, Dp K H x d ∧ Dp K H y e ∧ d.plain = true ∧ e.plain = true ∧ d.depth ≤ 64 ∧ Q (.bl (PyData.eqv d e)) H
def rNeP (K : PySem.W.Frag) : R2 := fun x y H Q => ∃ d e, Dp K H x d ∧ Dp K H y e ∧ d.plain = true ∧ e.plain = true ∧ d.depth ≤ 64 ∧ Q (.bl (!PyData.eqv d e)) H
section
variable {X : Cx}
theorem op_eqP (hu : X.A.units + 64 < cLine) : OpR X (compareOp .Eq) (rEqP X.K) := by
  intro pins s σ H x y v u Q I rx ry h
  obtain ⟨d, e, hd, he, sd, se, hdp, q⟩ := h
  obtain ⟨as, r1⟩ := Dp.reads I d x v hd rx
  obtain ⟨bs, r2⟩ := Dp.reads I e y u he ry
  exact eq_plain r1 r2 sd se (by omega) ⟨.bl _, H, I, rfl, q⟩
theorem op_neP (hu : X.A.units + 64 < cLine) : OpR X (compareOp .NotEq) (rNeP X.K) := by
  intro pins s σ H x y v u Q I rx ry h
  obtain ⟨d, e, hd, he, sd, se, hdp, q⟩ := h
  obtain ⟨as, r1⟩ := Dp.reads I d x v hd rx
  obtain ⟨bs, r2⟩ := Dp.reads I e y u he ry
  exact ne_plain r1 r2 sd se (by omega) ⟨.bl _, H, I, rfl, q⟩
end
section
variable {H : Hp} {Q : VK} {K : PySem.W.Frag} {x y : V}
theorem r_eqT {α : Type} [DecidableEq α] [Datum α] (a b : α) (h : Dp K H x (Datum.toD a)) (h' : Dp K H y (Datum.toD b)) (q : Q (.bl (decide (a = b))) H) (hd : Datum.depth α ≤ 64 := by decide) : rEqP K x y H Q :=
  ⟨_, _, h, h', Datum.plain a, Datum.plain b, Nat.le_trans (Datum.depth_le a) hd, by rw [Datum.eqv]; exact q⟩
theorem r_neT {α : Type} [DecidableEq α] [Datum α] (a b : α) (h : Dp K H x (Datum.toD a)) (h' : Dp K H y (Datum.toD b)) (q : Q (.bl (!decide (a = b))) H) (hd : Datum.depth α ≤ 64 := by decide) : rNeP K x y H Q :=
  ⟨_, _, h, h', Datum.plain a, Datum.plain b, Nat.le_trans (Datum.depth_le a) hd, by rw [Datum.eqv]; exact q⟩
theorem dps_str : ∀ (ss : List Str), DpAll K H (ss.map V.str) (ss.map Datum.toD)
  | [] => .nil
  | s :: ss => .cons (.str s) (dps_str ss)
theorem dp_strs {p : Addr} {ss : List Str} (h : H p = some (.lst (ss.map V.str))) : Dp K H (.ref p) (Datum.toD ss) := .lst (.of h) (dps_str ss)
theorem dp_strsT {p : Addr} {ss : List Str} (h : H p = some (.tup (ss.map V.str))) : Dp K H (.ref p) (Datum.toD (Tup.mk ss)) := .tup (.of h) (dps_str ss)
theorem dp_strsTK {p : Addr} {ss : List Str} (h : SqT K H p (ss.map V.str)) : Dp K H (.ref p) (Datum.toD (Tup.mk ss)) := .tup h (dps_str ss)
/-- two lists of texts -/
theorem r_eqSS {p q : Addr} {xs ys : List V} (ss tt : List Str) (h : H p = some (.lst xs)) (h' : H q = some (.lst ys)) (e : xs = ss.map V.str) (e' : ys = tt.map V.str) (k : Q (.bl (decide (ss = tt))) H) : rEqP K (.ref p) (.ref q) H Q :=
  r_eqT ss tt (dp_strs (e ▸ h)) (dp_strs (e' ▸ h')) k
theorem r_neSS {p q : Addr} {xs ys : List V} (ss tt : List Str) (h : H p = some (.lst xs)) (h' : H q = some (.lst ys)) (e : xs = ss.map V.str) (e' : ys = tt.map V.str) (k : Q (.bl (!decide (ss = tt))) H) : rNeP K (.ref p) (.ref q) H Q :=
  r_neT ss tt (dp_strs (e ▸ h)) (dp_strs (e' ▸ h')) k
theorem r_glst {σ : St} {n : Nat} {t : TGs} {p : Addr} {xs : List V} {R : St → Hp → Prop} (h : H p = some (.lst xs)) (l : xs.length = n) (q : t xs σ H R) : gLst K n t (.ref p) σ H R := ⟨p, xs, rfl, .of h, l, q⟩
theorem r_cval {σ : St} {ta : TE} {f : Str} (h : ta σ H fun x H1 => ∃ C mc v u, x = .ref C ∧ CRead K C mc ∧ CVal K C mc f v u ∧ Q v H1) : tCVal K ta f σ H Q := h
theorem r_cvalK {C : Addr} {mc u : Value} {f : Str} {v : V} {R : V → Prop} (a : CRead K C mc) (b : CVal K C mc f v u) (q : R v) : ∃ C' mc v u, V.ref C = .ref C' ∧ CRead K C' mc ∧ CVal K C' mc f v u ∧ R v := ⟨C, mc, v, u, rfl, a, b, q⟩
theorem r_rEqOwn {a C dx : Addr} {fs : List (Str × V)} {tb : Value} {sp : Sp} {E : XK} (h : H a = some (.ins C dx fs)) (ty : TyX K H y tb) (n : PySem.W.notFirst K C tb = true) (k : sp [.ref a, y] H (fun v H' => (∃ b, v = .bl b) ∧ Q v H') E) : rEqOwn K C sp E (.ref a) y H Q := ⟨a, dx, fs, tb, rfl, h, ty, n, k⟩
theorem r_ifJ {t u : TS} {D : Ends} {σ : St} {b : Bool} (P : St → Hp → Prop) (rest : ∀ σ H, P σ H → D.nx σ H) (k : ∀ N : St → Hp → Prop, (∀ σ H, P σ H → N σ H) → if b = true then t { D with nx := N } σ H else u { D with nx := N } σ H) : if b = true then t D σ H else u D σ H := k D.nx rest
theorem r_nebE {i j : Bool} (e : i = j) (q : Q (.bl false) H) : rNe (.bl i) (.bl j) H Q := ⟨rfl, by rwa [show decide (V.bl i = V.bl j) = true from by simp [e]]⟩
theorem r_neSE {p q : Addr} {xs ys : List V} (ss : List Str) (h : H p = some (.lst xs)) (h' : H q = some (.lst ys)) (e : xs = ss.map V.str) (e' : ys = ss.map V.str) (k : Q (.bl false) H) : rNeP K (.ref p) (.ref q) H Q :=
  r_neSS ss ss h h' e e' (by rwa [show (!decide (ss = ss)) = false from by simp])
theorem r_eqT1 {α : Type} [DecidableEq α] [Datum α] (a : α) (h : Dp K H x (Datum.toD a)) (h' : Dp K H y (Datum.toD a)) (q : Q (.bl true) H) (hd : Datum.depth α ≤ 64 := by decide) : rEqP K x y H Q :=
  r_eqT a a h h' (by rwa [show decide (a = a) = true from by simp]) hd
theorem r_setLN {p : Addr} {xs : List V} {j : Nat} {v : V} {R : Hp → Prop} (h : H p = some (.lst xs)) (e : j < xs.length) (q : R (upd H p (.lst (xs.set j v)))) : rSetL (.ref p) (.int (j : Int)) v H R := r_setL h (Evl.ixN_nat e) rfl q
theorem ite_nd {p q : Bool} {A B : Prop} (e : p = q) (h : B) : if (!decide (p = q)) = true then A else B := by
  rw [e]
  simpa using h
end
end Wm
namespace Wm
open PySem L2 PySem.Er PySem.W
theorem er_mk {prog : Program} {K : Frag} {qual : Str} {fs : List Str} {C fI cda cc : Addr} {oc ct ccl cl doc pm : Value} {od an cdd cld : Option Addr} {params : Arguments} {body : List Stmt} {scope : Scope} {osl ccs csl : Array (Option Value)} {vs : Array Value} {file : Str} {tf : Tok}
    {B newId initId : String} {bmB : List Value} (KF : KxsFacts B initId) (FB : ExcBaseFacts B newId initId bmB) (SF : StoreFacts B bmB "object.__setattr__" "object") (fm : IForm fs params body scope)
    (init : findIn K (.ref C) "__init__" = some (some (.ref fI))) (ty : typeIn K (.ref fI) = some (.type "function"))
    (lk : K.lookup fI = some ⟨oc, od, .func (ksFn "__init__" qual params body scope .none .none doc pm an (.ref cda) ct cc), osl⟩) (hc : codeIn K (.ref cda) qual = true)
    (code : K.lookup cda = some ⟨ccl, cdd, .fields vs, ccs⟩) (hv : vs[2]? = some (.str file tf)) (hf : ((prog.main.file : Str) == file) = true) (cell : K.lookup cc = some ⟨cl, cld, .cell (some (.ref C)), csl⟩)
    (ic : isClsIn K C = true) (sub : mroIn K C (.ref C) = some true) (noS : nsIn K mainGlobals "super" = some none) (noT : nsIn K cStatics "thirdparty.any" = some none) (top : (prog.main.scope.names.lookup ("super" : Str)).isSome = false)
    (sup : ks_superIn K C C "__init__" = some (some (.builtin initId))) (base : subIn K (.ref C) (.type B) = some true) (exc : excInitIn K C bmB newId = true)
    (sa : findIn K (.ref C) "__setattr__" = some (some (.builtin "object.__setattr__"))) (ov : excOver K C bmB = true) (hd : hasDictIn K C = true) (no : ∀ f ∈ fs, findIn K (.ref C) f = some none)
    (exC : subIn K (.ref C) (.type "BaseException") = some true) (tyC : typeIn K (.ref C) = some (.type "type")) (kC : keepIn K (.ref C) = true) : ErC prog K qual fs C :=
  { ex := ⟨fI, B, newId, initId, bmB, { fn := ⟨oc, od, params, body, scope, doc, pm, an, cda, cc, ct, osl, lk, hc, fm, { code := ⟨ccl, cdd, ccs, vs, file, tf, code, hv, hf⟩, cell := ⟨cl, cld, csl, cell⟩, cls := Option.isSome_iff_exists.mp ic, sub := sub, noS := noS, noT := noT, top := top, sup := sup, base := base, exc := exc }⟩, sa := sa, ov := ov, hd := hd, no := no, init := init, ty := ty }, KF, FB, SF, exc⟩
    exC := exC, tyC := tyC, kC := kC }
theorem exm_self {K : Frag} {S : Addr} (h1 : subIn K (.ref S) (.type "BaseException") = some true) (h2 : isClsIn K S = true) (h3 : typeIn K (.ref S) = some (.type "type")) (h4 : subIn K (.ref S) (.ref S) = some true) : exmOne K (.ref S) (.ref S) = some true := by
  have e1 : (subIn K (.ref S) (.type "BaseException") == some true) = true := by rw [h1] <;> rfl
  have e2 : ((clsIn K S).isSome && typeIn K (.ref S) == some (.type "type")) = true := by
    have h2' : (clsIn K S).isSome = true := h2
    rw [h2', h3] <;> rfl
  show (if (subIn K (.ref S) (.type "BaseException") == some true) = true then (if ((clsIn K S).isSome && typeIn K (.ref S) == some (.type "type")) = true then subIn K (.ref S) (.ref S) else none) else none) = some true
  rw [if_pos e1, if_pos e2]
  exact h4
/-- a constant tuple of texts -/
theorem sqt_mk {K : Frag} {a : Addr} {od : Option Addr} {its : Array Value} {n : Nat} {sl : Array (Option Value)} {xs : List V} (h : K.lookup a = some ⟨.type "tuple", od, .seq its n, sl⟩) (l : decide (its.size ≤ 16777216) = true) (r : Vals xs its.toList) : ∀ H, SqT K H a xs :=
  fun H => .inr ⟨_, its, n, h, rfl, rfl, by rw [sizeLine_eq]; exact of_decide_eq_true l, r⟩
theorem own_mk {K : Frag} {C : Addr} (pg : plainGet K C Str.empty = true) (hd : hasDictIn K C = true) (po : plainOver K C = true) (sa : findIn K (.ref C) "__setattr__" = some (some (.builtin "object.__setattr__")))
    (ha : findIn K (.ref C) "__class__" = some (some (.builtin "object.__class__"))) (hn : specialIn K (.builtin "object.__class__") "__get__" = some (some (.builtin "getset_descriptor.__get__"))) (ht : takesIn K (.builtin "object.__class__") = some true) (hm : mroIn K C (.type "object") = some true)
    (k1 : kitOne K (.ref C) (.ref C) = some true) (b1 : kitOne K (.type "NoneType") (.ref C) = some false) (b2 : kitOne K (.type "bool") (.ref C) = some false) (b3 : kitOne K (.type "int") (.ref C) = some false) (b4 : kitOne K (.type "str") (.ref C) = some false)
    (b5 : kitOne K (.type "list") (.ref C) = some false) (b6 : kitOne K (.type "tuple") (.ref C) = some false) (b7 : kitOne K (.type "dict") (.ref C) = some false) : OwnC K C :=
  { cl := ⟨pg, hd, po, sa⟩, ha := ha, hn := hn, ht := ht, hm := hm, self := k1, base := fun t ht => by
      simp only [List.mem_cons, List.not_mem_nil, or_false] at ht
      rcases ht with rfl | rfl | rfl | rfl | rfl | rfl | rfl <;> assumption }
theorem nf_mk {K : Frag} {C : Addr} (b1 : notFirst K C (.type "NoneType") = true) (b2 : notFirst K C (.type "bool") = true) (b3 : notFirst K C (.type "int") = true) (b4 : notFirst K C (.type "str") = true) (b5 : notFirst K C (.type "list") = true) (b6 : notFirst K C (.type "tuple") = true) (b7 : notFirst K C (.type "dict") = true) :
    ∀ t, t ∈ ["NoneType", "bool", "int", "str", "list", "tuple", "dict"] → notFirst K C (.type t) = true := fun t ht => by
  simp only [List.mem_cons, List.not_mem_nil, or_false] at ht
  rcases ht with rfl | rfl | rfl | rfl | rfl | rfl | rfl <;> assumption
theorem dflt_mk {K : Frag} {T : Addr} {tc : Value} {td : Option Addr} {its : Array Value} {n : Nat} {tsl : Array (Option Value)} {dvs : List V} (h : K.lookup T = some ⟨tc, td, .seq its n, tsl⟩) (r : Vals dvs its.toList) (hn : dvs ≠ []) : DflV K (.ref T) dvs :=
  .inr ⟨hn, T, _, its.toList, n, rfl, h, by simp, r⟩
theorem cx_none {P : Program} {w : World} {H : Hp} {s s' : Shared} {e : Value} (z : L2.CX P w [] H s (fun _ _ _ => False) e s') : False := by
  obtain ⟨_, _, _, _, _, _, _, _, _, _, _, _, h⟩ := z
  exact h
end Wm
namespace Wm
open PySem L2 PySem.Spec
open PyProof.Rows hiding St
/-! ## one or the other reading -/
def rOr (r1 r2 : R2) : R2 := fun x y H Q => r1 x y H Q ∨ r2 x y H Q
theorem op_or {X : Cx} {op : Value → Value → Sem Value} {r1 r2 : R2} (h1 : OpR X op r1) (h2 : OpR X op r2) : OpR X op (rOr r1 r2) := by
  intro pins s σ H x y v u Q I rx ry h
  rcases h with h | h
  · exact h1 pins s σ H x y v u Q I rx ry h
  · exact h2 pins s σ H x y v u Q I rx ry h
def iOr (w1 w2 : TI) : TI := fun σ H R => w1 σ H R ∨ w2 σ H R
section
variable {X : Cx} {D : Ends} {σ : St} {H : Hp} {Q : VK} {K : PySem.W.Frag}
/-! ## list comprehensions whose parts leave the heap -/
def lcEnd (g : TG) (tt : TT) (te : TE) (vs : List Nat) (σ : St) (Q : VK) : It → Hp → Prop := fun J H1 => ∀ D, H1 D = none → ∃ W : Nat → Nat → Hp → Prop, (∃ m, W 0 m (upd H1 D (.lst []))) ∧ ∀ i m H, W i m H →
  (J.stop i H ∧ Q (.ref D) H) ∨ (J.go i H ∧ ∃ Nx : Hp → Prop, (∀ H', Nx H' → ∃ m', m' < m ∧ W (i + 1) m' H') ∧ ∀ x H', J.yld i H x H' → g x (wipe σ vs) H' fun σ2 H2 => wipe σ2 vs = wipe σ vs ∧ tt σ2 H2 fun b H3 =>
    if b = true then te σ2 H3 fun y H4 => ∃ acc, H4 D = some (.lst acc) ∧ acc.length < sizeLine ∧ Nx (upd H4 D (.lst (acc ++ [y]))) else Nx H3)
theorem r_lc {wi : TI} {g : TG} {tt : TT} {te : TE} {vs : List Nat} (h : wi σ H (lcEnd g tt te vs σ Q)) : tLc wi g tt te vs σ H Q := h
theorem same_seqT {H H' : Hp} {a : Addr} {xs : List V} (e : Same H H') (h : SqT K H a xs) : SqT K H' a xs := by
  rcases h with (h | ⟨o, h⟩) | h
  · exact .inl (.inl (e _ _ h))
  · exact .inl (.inr ⟨o, e _ _ h⟩)
  · exact .inr h
theorem wipe_set1 {i : Nat} {x : Option V} : wipe ((wipe σ [i]).set i x) [i] = wipe σ [i] := by
  show ((σ.set i none).set i x).set i none = σ.set i none
  rw [List.set_set, List.set_set]
theorem take_more {α : Type} : ∀ {l : List α} {i : Nat} {x : α}, l[i]? = some x → l.take (i + 1) = l.take i ++ [x]
  | [], i, x, h => by simp at h
  | a :: l, 0, x, h => by
    cases Option.some.inj h
    rfl
  | a :: l, i + 1, x, h => by
    have ih := take_more (l := l) (i := i) (x := x) h
    show a :: l.take (i + 1) = a :: l.take i ++ [x]
    rw [ih]
    rfl
theorem len_filt {α : Type} {l : List α} {p : α → Bool} {i : Nat} {x : α} (h : l[i]? = some x) : ((l.take i).filter p).length < l.length := by
  have h1 := List.length_filter_le p (l.take i)
  have h2 : i < l.length := by
    rcases Nat.lt_or_ge i l.length with z | z
    · exact z
    · rw [List.getElem?_eq_none z] at h
      cases h
  rw [List.length_take] at h1
  omega
/-- what a turn of such a block gives -/
def LcTurn (tt : TT) (te : TE) (i : Nat) (σ : St) (H1 : Hp) (p : V → Bool) (f : V → V) (x : V) : Prop :=
  (∀ (H' : Hp) (R : Bool → Hp → Prop), Same H1 H' → R (p x) H' → tt ((wipe σ [i]).set i (some x)) H' R) ∧ ∀ (H' : Hp) (R : VK), p x = true → Same H1 H' → R (f x) H' → te ((wipe σ [i]).set i (some x)) H' R
theorem lc_turn {tt : TT} {te : TE} {i : Nat} {H1 H' : Hp} {p : V → Bool} {f : V → V} {xs : List V} {x : V} {j : Nat} {D : Addr} (hz : xs.length ≤ sizeLine) (hD : H1 D = none) (hj : xs[j]? = some x) (t : LcTurn tt te i σ H1 p f x) (s : Same H1 H') (e : H' D = some (.lst (((xs.take j).filter p).map f))) :
    gName i x (wipe σ [i]) H' fun σ2 H2 => wipe σ2 [i] = wipe σ [i] ∧ tt σ2 H2 fun b H3 => if b = true then te σ2 H3 fun y H4 => ∃ acc, H4 D = some (.lst acc) ∧ acc.length < sizeLine ∧ (Same H1 (upd H4 D (.lst (acc ++ [y]))) ∧ upd H4 D (.lst (acc ++ [y])) D = some (.lst (((xs.take (j + 1)).filter p).map f))) else Same H1 H3 ∧ H3 D = some (.lst (((xs.take (j + 1)).filter p).map f)) := by
  refine ⟨wipe_set1, t.1 H' _ s ?_⟩
  cases hp : p x with
  | true =>
    refine iteT (t.2 H' _ hp s ⟨_, e, ?_, same_put s hD, ?_⟩)
    · rw [List.length_map]
      exact Nat.lt_of_lt_of_le (len_filt hj) hz
    · rw [upd_same, take_more hj, List.filter_append, List.map_append]
      simp [hp]
  | false =>
    refine iteF ⟨s, ?_⟩
    rw [e, take_more hj, List.filter_append, List.map_append]
    simp [hp]
theorem r_lcL {tt : TT} {te : TE} {i : Nat} {a : Addr} {xs : List V} (p : V → Bool) (f : V → V) (hS : SqL K H a xs) (hz : xs.length ≤ sizeLine) (ht : ∀ (j : Nat) (x : V), xs[j]? = some x → LcTurn tt te i σ H p f x)
    (k : ∀ q H', H q = none → Same H H' → H' q = some (.lst ((xs.filter p).map f)) → Q (.ref q) H') : lcEnd (gName i) tt te [i] σ Q (Itl K a) H := fun D hD =>
  lc_list (K := K) (a := a) (xs := xs) (fun j H' => Same H H' ∧ H' D = some (.lst (((xs.take j).filter p).map f))) ⟨same_new hD, upd_same⟩ (fun j H' _ h => h.1.seq hS) (fun j x H' hj h => lc_turn hz hD hj (ht j x hj) h.1 h.2)
    fun H' h => k D H' hD h.1 (by rw [h.2, List.take_length])
theorem r_lcT {tt : TT} {te : TE} {i : Nat} {a : Addr} {xs : List V} (p : V → Bool) (f : V → V) (hS : SqT K H a xs) (hz : xs.length ≤ sizeLine) (ht : ∀ (j : Nat) (x : V), xs[j]? = some x → LcTurn tt te i σ H p f x)
    (k : ∀ q H', H q = none → Same H H' → H' q = some (.lst ((xs.filter p).map f)) → Q (.ref q) H') : lcEnd (gName i) tt te [i] σ Q (Itt K a) H := fun D hD =>
  lc_tup (K := K) (a := a) (xs := xs) (fun j H' => Same H H' ∧ H' D = some (.lst (((xs.take j).filter p).map f))) ⟨same_new hD, upd_same⟩ (fun j H' _ h => same_seqT h.1 hS) (fun j x H' hj h => lc_turn hz hD hj (ht j x hj) h.1 h.2)
    fun H' h => k D H' hD h.1 (by rw [h.2, List.take_length])
def vInts (lo : Int) (n : Nat) : List V := (List.range n).map fun (k : Nat) => V.int (lo + (k : Int))
theorem ints_at {lo : Int} {n j : Nat} (h : j < n) : (vInts lo n)[j]? = some (.int (lo + (j : Int))) := by
  unfold vInts
  rw [List.getElem?_map, List.getElem?_range h]
  rfl
theorem ints_len {lo : Int} {n : Nat} : (vInts lo n).length = n := by simp [vInts]
theorem r_lcR {tt : TT} {te : TE} {i : Nat} {lo : Int} {n : Nat} (p : V → Bool) (f : V → V) (hz : n ≤ sizeLine) (ht : ∀ j : Nat, j < n → LcTurn tt te i σ H p f (.int (lo + (j : Int))))
    (k : ∀ q H', H q = none → Same H H' → H' q = some (.lst (((vInts lo n).filter p).map f)) → Q (.ref q) H') : lcEnd (gName i) tt te [i] σ Q (Itr lo n) H := fun D hD =>
  lc_range (lo := lo) (n := n) (fun j H' => Same H H' ∧ H' D = some (.lst ((((vInts lo n).take j).filter p).map f))) ⟨same_new hD, upd_same⟩ (fun j H' hj h => lc_turn (xs := vInts lo n) (by rw [ints_len]; exact hz) hD (ints_at hj) (ht j hj) h.1 h.2)
    fun H' h => k D H' hD h.1 (by
      have e : (vInts lo n).take n = vInts lo n := List.take_of_length_le (by rw [ints_len]; exact Nat.le_refl n)
      rw [h.2, e])
theorem pi_or {tg iter : Expr} {w1 w2 : TI} (h1 : PI X tg iter w1) (h2 : PI X tg iter w2) : PI X tg iter (iOr w1 w2) := ⟨fun pins s σ H R I h => h.elim (h1.run pins s σ H R I) (h2.run pins s σ H R I)⟩
def rAddS : R2 := fun x y H Q => ∃ i j, x = .str i ∧ y = .str j ∧ i.length + j.length ≤ sizeLine ∧ Q (.str (i ++ j)) H
theorem op_addS : OpR X (binaryOp .Add) rAddS := op_add_str
theorem r_addS {a b : Str} (hz : a.length + b.length ≤ sizeLine) (q : Q (.str (a ++ b)) H) : rAddS (.str a) (.str b) H Q := ⟨a, b, rfl, rfl, hz, q⟩
theorem r_extend {p q : Addr} {xs ys : List V} (h : H p = some (.lst xs)) (h' : H q = some (.lst ys)) (hz : xs.length + ys.length ≤ sizeLine) (k : Q .non (upd H p (.lst (xs ++ ys)))) : rExtend (.ref p) [.ref q] H Q := ⟨p, q, xs, ys, rfl, rfl, h, h', hz, k⟩
theorem r_any {p : Addr} {xs : List V} (bs : List Bool) (h : H p = some (.lst xs)) (e : xs = bs.map V.bl) (q : Q (.bl (bs.any id)) H) : rAny K [.ref p] H Q := ⟨p, bs, rfl, e ▸ SqL.of h, q⟩
/-! ## method calls whose wish of an error hangs on the slots -/
theorem run_fnRT {CX : CXT} {k : Nat} {f : Addr} {sp : Sp} {E : XK} {us : List Value} {vs : List V} {pins : List (Addr × Obj)} {s : Shared} (F : FnR X.prog X.w X.K X.mg X.base CX k f sp) (hr : Room k X.A) (hx : PassesAt CX X σ E) (I : Inv X pins σ H s) (r : Vals vs us) (h : sp vs H Q E) :
    codeAny (model X.prog X.w) X.A (.call (.ref f) ⟨us, []⟩) (fun r s' => match r with | .ok (.ret v) => EP X pins σ Q v s' | .ok _ => False | .error e => X.xe e s') s := by
  refine codeAny_mono (F X.A X.stack s H us vs Q E hr I.env0 r h) fun r s' hq => ?_
  cases r with
  | error e => exact hx pins H s e s' I hq
  | ok fl =>
    cases fl with
    | ret u => exact I.after hq
    | next => exact False.elim hq
    | brk => exact False.elim hq
    | cont => exact False.elim hq
/-- o.m(e, ..), in a try too -/
def tMethT (C : Addr) (m : Str) (sp : Sp) (E : St → XK) (ta : TE) (t : TA) : TE := fun σ H Q => ta σ H fun x H1 => ∃ a dx fs, x = .ref a ∧ H1 a = some (.ins C dx fs) ∧ fs.lookup m = none ∧ t σ H1 fun vs H2 => sp (x :: vs) H2 Q (E σ)
theorem pe_methT {CX : CXT} {k : Nat} {C f : Addr} {m : Str} {sp : Sp} {E : St → XK} {o e : Expr} {es : List Expr} {ta : TE} {t : TA} {apos pos : Pos} {pl : Sem Bool} (he : PE X o ta) (c : Cls X.K C) (hm : Meth X.K C m f)
    (F : FnR X.prog X.w X.K X.mg X.base CX k f sp) (hr : Room k X.A) (hx : ∀ σ, PassesAt CX X σ (E σ)) (ha : PA X (e :: es) t)
    (hst : starEach (e :: es) X.env = (false, eval e X.env) :: starEach es X.env := by rfl) (hpl : (backTo pos (starEach es X.env)).any (·.1) = false := by rfl)
    (ht : eval (.Call (.Attribute o m apos) (e :: es) [] pos) X.env = (do
      let ov ← eval o X.env
      standAt apos.atName
      let (f, first) ← holding [ov] (getMethod ov m pl)
      callWith pos f first (backTo pos (starEach (e :: es) X.env)) (backToKw pos (keywordEach [] X.env))) := by rfl) :
    PE X (.Call (.Attribute o m apos) (e :: es) [] pos) (tMethT C m sp E ta t) := by
  refine ⟨fun pins s σ H Q I h => ?_⟩
  refine PySem.W.methodCall_KW (pl := pl) (thn (he.run pins s σ H _ I h) fun u s1 ⟨x, H1, I1, rx, a, dx, fs, ex, ea, l, q⟩ => ?_) ht
  subst ex
  obtain rfl : u = Value.ref a := rx
  refine getmeth_ok I1 ea c hm l ?_
  refine PySem.W.callWith_K (first := [.ref a]) (h₀ := X.base) I.ok.mod.kin hm.kp (thn (ha.run pos pins s1 σ H1 _ I1 q) fun us s2 ⟨vs, H2, I2, r, q2⟩ => ⟨I2.kIn, ?_⟩) hst hpl
  exact wpAny_call (run_fnRT (us := .ref a :: us) (vs := .ref a :: vs) F hr (hx σ) I2 (.cons rfl r) q2)
theorem pe_methT0 {CX : CXT} {k : Nat} {C f : Addr} {m : Str} {sp : Sp} {E : St → XK} {o : Expr} {ta : TE} {apos pos : Pos} {pl : Sem Bool} (he : PE X o ta) (c : Cls X.K C) (hm : Meth X.K C m f)
    (F : FnR X.prog X.w X.K X.mg X.base CX k f sp) (hr : Room k X.A) (hx : ∀ σ, PassesAt CX X σ (E σ))
    (ht : eval (.Call (.Attribute o m apos) [] [] pos) X.env = (do
      let ov ← eval o X.env
      standAt apos.atName
      let (f, first) ← holding [ov] (getMethod ov m pl)
      callWith pos f first (backTo pos (starEach [] X.env)) (backToKw pos (keywordEach [] X.env))) := by rfl) :
    PE X (.Call (.Attribute o m apos) [] [] pos) (tMethT C m sp E ta tNil) := by
  refine ⟨fun pins s σ H Q I h => ?_⟩
  refine PySem.W.methodCall_KW (pl := pl) (thn (he.run pins s σ H _ I h) fun u s1 ⟨x, H1, I1, rx, a, dx, fs, ex, ea, l, q⟩ => ?_) ht
  subst ex
  obtain rfl : u = Value.ref a := rx
  refine getmeth_ok I1 ea c hm l ?_
  exact PySem.W.callWith_K0 (first := [.ref a]) I1.kIn hm.kp (wpAny_call (run_fnRT (us := [.ref a]) (vs := [.ref a]) F hr (hx σ) I1 (.cons rfl .nil) q))
def methE (C : Addr) (m : Str) (R : V → Hp → Prop) : V → Hp → Prop := fun x H1 => ∃ a dx fs, x = .ref a ∧ H1 a = some (.ins C dx fs) ∧ fs.lookup m = none ∧ R x H1
theorem r_meth {C : Addr} {m : Str} {sp : Sp} {dvs : List V} {E : XK} {ta : TE} {t : TA} (h : ta σ H (methE C m fun x H1 => t σ H1 fun vs H2 => sp (x :: (vs ++ dvs)) H2 Q E)) : tMeth C m sp dvs E ta t σ H Q := h
theorem r_methT {C : Addr} {m : Str} {sp : Sp} {E : St → XK} {ta : TE} {t : TA} (h : ta σ H (methE C m fun x H1 => t σ H1 fun vs H2 => sp (x :: vs) H2 Q (E σ))) : tMethT C m sp E ta t σ H Q := h
theorem r_methK {p C dx : Addr} {m : Str} {fs : List (Str × V)} {R : V → Hp → Prop} (h : H p = some (.ins C dx fs)) (e : fs.lookup m = none) (q : R (.ref p) H) : methE C m R (.ref p) H := ⟨p, dx, fs, rfl, h, e, q⟩
end
end Wm
namespace Wm
open PySem L2
def MARKSl : List Str := ["none", "way", "lasting"]
def ACTSl : List Str := ["ring", "skip", "refuse"]
def BYl : List Str := ["same", "equal"]
def KEEPSl : List Str := ["none", "ahead", "behind"]
def FLAGSl : List Str := ["here", "left", "twin here", "twin left"]
/-! ### plain functions -/
def plain5 (m a b k e : Str) : List Str := [m, if m = "none" then "ring" else a, if m = "none" then "same" else b, k, if k = "none" then "same" else e]
def okv (v : V) (cs : List Str) : Bool := match v with
  | .str x => decide (x ∈ cs)
  | _ => false
def badPart (v0 v1 v2 v3 v4 : V) : Option Str :=
  if okv v0 MARKSl = false then some "mark" else if okv v1 ACTSl = false then some "act" else if okv v2 BYl = false then some "by"
  else if okv v3 KEEPSl = false then some "keep" else if okv v4 BYl = false then some "keep_by" else none
def strOf : V → Str
  | .str x => x
  | _ => ""
def madeL (v0 v1 v2 v3 v4 : V) : List Str := match badPart v0 v1 v2 v3 v4 with
  | some p => ["bad", p]
  | none => plain5 (strOf v0) (strOf v1) (strOf v2) (strOf v3) (strOf v4)
/-- a value whose type is known -/
def AnyV (H : Hp) : V → Prop
  | .non => True
  | .bl _ => True
  | .int _ => True
  | .str _ => True
  | .ref a => (∃ xs, H a = some (.lst xs)) ∨ (∃ xs, H a = some (.tup xs)) ∨ ∃ kvs, H a = some (.dK kvs)
  | _ => False
theorem AnyV.ty {K : PySem.W.Frag} {H : Hp} {v : V} (h : AnyV H v) : ∃ t, TyX K H v (.type t) ∧ t ∈ ["NoneType", "bool", "int", "str", "list", "tuple", "dict"] ∧ (t = "str" ↔ ∃ x, v = .str x) := by
  cases v with
  | non => exact ⟨_, .base .non, by simp, by simp⟩
  | bl b => exact ⟨_, .base (.bl b), by simp, by simp⟩
  | int i => exact ⟨_, .base (.int i), by simp, by simp⟩
  | str x => exact ⟨_, .base (.str x), by simp, by simp⟩
  | ref a =>
    rcases h with ⟨xs, h⟩ | ⟨xs, h⟩ | ⟨kvs, h⟩
    · exact ⟨_, .base (.lst h), by simp, by simp⟩
    · exact ⟨_, .base (.tup h), by simp, by simp⟩
    · exact ⟨_, .base (.dK h), by simp, by simp⟩
  | _ => exact h.elim
theorem AnyV.isStr {K : PySem.W.Frag} {H : Hp} {v : V} (h : AnyV H v) : ∃ t b, TyX K H v (.type t) ∧ kitB t "str" = some b ∧ (b = true ↔ ∃ x, v = .str x) := by
  obtain ⟨t, h1, h2, h3⟩ := h.ty (K := K)
  simp only [List.mem_cons, List.not_mem_nil, or_false] at h2
  rcases h2 with rfl | rfl | rfl | rfl | rfl | rfl | rfl
  all_goals first
    | exact ⟨_, true, h1, by decide +kernel, by simpa using h3⟩
    | exact ⟨_, false, h1, by decide +kernel, by simpa using h3⟩
/-! ### promises -/
def spBit : Sp := fun vs H Q _ => ∃ (p c : Addr) (b : Int), vs = [.ref p, .int b] ∧ PenAt H p c ∧ 0 < b ∧ b < 2 ^ 100 ∧ ∀ r H', PenStep p c H H' → Q (.bl r) H'
theorem r_bit {H : Hp} {Q : VK} {E : XK} {p c : Addr} {b : Int} (h : PenAt H p c) (hb : 0 < b) (hb2 : b < 2 ^ 100) (k : ∀ r H', PenStep p c H H' → Q (.bl r) H') : spBit ([.ref p, .int b] ++ []) H Q E := ⟨p, c, b, rfl, h, hb, hb2, k⟩
/-- a drawn odd value: it stands apart from the pen -/
def OddV (p : Addr) (H : Hp) (v : V) : Prop := AnyV H v ∧ v ≠ .ref p
theorem oddT {p c q : Addr} {H : Hp} {xs : List V} (h : PenAt H p c) (e : H q = some (.tup xs)) : OddV p H (.ref q) := ⟨.inr (.inl ⟨xs, e⟩), fun z => h.ne e rfl (V.ref.inj z)⟩
theorem oddL {p c q : Addr} {H : Hp} {xs : List V} (h : PenAt H p c) (e : H q = some (.lst xs)) : OddV p H (.ref q) := ⟨.inl ⟨xs, e⟩, fun z => h.ne e rfl (V.ref.inj z)⟩
theorem oddD {p q : Addr} {H : Hp} {kvs : List (Key × V)} (n : q ≠ p) (e : H q = some (.dK kvs)) : OddV p H (.ref q) := ⟨.inr (.inr ⟨kvs, e⟩), fun z => n (V.ref.inj z)⟩
def spOdd : Sp := fun vs H Q _ => ∃ (p c : Addr), vs = [.ref p] ∧ PenAt H p c ∧ ∀ v H', PenStep p c H H' → OddV p H' v → Q v H'
def spFive : Sp := fun vs H Q _ => ∃ (p c : Addr), vs = [.ref p] ∧ PenAt H p c ∧ ∀ q H' m a b k e, m ∈ MARKSl → a ∈ ACTSl → b ∈ BYl → k ∈ KEEPSl → e ∈ BYl → PenStep p c H H' → H q = none → H' q = some (.lst [.str m, .str a, .str b, .str k, .str e]) → Q (.ref q) H'
def spPlain : Sp := fun vs H Q _ => ∃ (q : Addr) (m a b k e : Str), vs = [.ref q] ∧ H q = some (.lst [.str m, .str a, .str b, .str k, .str e]) ∧ ∀ r H', Same H H' → H r = none → H' r = some (.lst ((plain5 m a b k e).map V.str)) → Q (.ref r) H'
def gfs (l : List Str) : List (Str × V) := [("mark", .str (l.getD 0 "")), ("act", .str (l.getD 1 "")), ("by", .str (l.getD 2 "")), ("keep", .str (l.getD 3 "")), ("keep_by", .str (l.getD 4 ""))]
theorem AnyV.same {v : V} {H H' : Hp} (h : AnyV H v) (s : Same H H') : AnyV H' v := by
  cases v with
  | ref a =>
    rcases h with ⟨xs, h⟩ | ⟨xs, h⟩ | ⟨xs, h⟩
    · exact .inl ⟨xs, s _ _ h⟩
    · exact .inr (.inl ⟨xs, s _ _ h⟩)
    · exact .inr (.inr ⟨xs, s _ _ h⟩)
  | _ => exact h
def Any5 (H : Hp) (v0 v1 v2 v3 v4 : V) : Prop := AnyV H v0 ∧ AnyV H v1 ∧ AnyV H v2 ∧ AnyV H v3 ∧ AnyV H v4
theorem Any5.same {v0 v1 v2 v3 v4 : V} {H H' : Hp} (h : Any5 H v0 v1 v2 v3 v4) (s : Same H H') : Any5 H' v0 v1 v2 v3 v4 := ⟨h.1.same s, h.2.1.same s, h.2.2.1.same s, h.2.2.2.1.same s, h.2.2.2.2.same s⟩
def spInitG (CG CB : Addr) : Sp := fun vs H Q E => ∃ (a dx : Addr) (v0 v1 v2 v3 v4 : V), vs = [.ref a, v0, v1, v2, v3, v4] ∧ H a = some (.ins CG dx []) ∧ Any5 H v0 v1 v2 v3 v4 ∧
  (∀ part, badPart v0 v1 v2 v3 v4 = some part → ∀ d H', Same H H' → H d = none → H' d = some (.xd [("part", .str part)]) → E (.ref CB) (some d) H') ∧
  (∀ m t b k e, v0 = .str m → v1 = .str t → v2 = .str b → v3 = .str k → v4 = .str e → m ∈ MARKSl → t ∈ ACTSl → b ∈ BYl → k ∈ KEEPSl → e ∈ BYl → ∀ H', (∀ b o, b ≠ a → H b = some o → H' b = some o) → H' a = some (.ins CG dx (gfs (plain5 m t b k e))) → Q .non H')
theorem okv_str {v : V} {l : List Str} (h : okv v l = true) : ∃ x, v = .str x ∧ x ∈ l := by
  cases v with
  | str x => exact ⟨x, rfl, by simpa [okv] using h⟩
  | _ => cases h
def spEqG (CG : Addr) : Sp := fun vs H Q _ => ∃ (a dx : Addr) (m t b k e : Str) (v : V), vs = [.ref a, v] ∧ H a = some (.ins CG dx (gfs [m, t, b, k, e])) ∧
  ((∃ (a' dx' : Addr) (m' t' b' k' e' : Str), v = .ref a' ∧ H a' = some (.ins CG dx' (gfs [m', t', b', k', e'])) ∧ Q (.bl (decide ([m, t, b, k, e] = [m', t', b', k', e']))) H) ∨ (AnyV H v ∧ Q (.bl false) H))
def spMade : Sp := fun vs H Q _ => ∃ (q : Addr) (v0 v1 v2 v3 v4 : V), vs = [.ref q] ∧ H q = some (.lst [v0, v1, v2, v3, v4]) ∧ Any5 H v0 v1 v2 v3 v4 ∧ ∀ r H', Same H H' → H r = none → H' r = some (.lst ((madeL v0 v1 v2 v3 v4).map V.str)) → Q (.ref r) H'
def spFewG (CG : Addr) : Sp := fun vs H Q _ => ∃ (w : Int) (q : Addr) (m t b k e : Str), vs = [.int w, .ref q] ∧ H q = some (.lst [.str m, .str t, .str b, .str k, .str e]) ∧ (m ∈ MARKSl ∧ t ∈ ACTSl ∧ b ∈ BYl ∧ k ∈ KEEPSl ∧ e ∈ BYl) ∧
  ∀ r g d dx m' t' b' k' e' H', Same H H' → H r = none → H' r = some (.lst [.ref g, .ref d]) → H' g = some (.ins CG dx (gfs [m', t', b', k', e'])) → H' d = some (.lst [.str m', .str t', .str b', .str k', .str e']) → Q (.ref r) H'
theorem bad_none {v0 v1 v2 v3 v4 : V} (h0 : okv v0 MARKSl = true) (h1 : okv v1 ACTSl = true) (h2 : okv v2 BYl = true) (h3 : okv v3 KEEPSl = true) (h4 : okv v4 BYl = true) : badPart v0 v1 v2 v3 v4 = none := by
  unfold badPart
  rw [if_neg (by simp [h0]), if_neg (by simp [h1]), if_neg (by simp [h2]), if_neg (by simp [h3]), if_neg (by simp [h4])]
theorem okv_mem {x : Str} {l : List Str} (h : x ∈ l) : okv (.str x) l = true := by simpa [okv] using h
def spChoice (K : PySem.W.Frag) : Sp := fun vs H Q _ => ∃ (v : V) (a : Addr) (ss : List Str), vs = [v, .ref a] ∧ SqT K H a (ss.map V.str) ∧ AnyV H v ∧ Q (.bl (okv v ss)) H
def Ok5 (m t b k e : Str) : Prop := m ∈ MARKSl ∧ t ∈ ACTSl ∧ b ∈ BYl ∧ k ∈ KEEPSl ∧ e ∈ BYl
theorem made_ok {m t b k e : Str} (h : Ok5 m t b k e) : madeL (.str m) (.str t) (.str b) (.str k) (.str e) = plain5 m t b k e := by
  unfold madeL
  rw [bad_none (okv_mem h.1) (okv_mem h.2.1) (okv_mem h.2.2.1) (okv_mem h.2.2.2.1) (okv_mem h.2.2.2.2)]
  rfl
theorem AnyV.step {p c : Addr} {H H' : Hp} {v : V} (h : AnyV H v) (n : v ≠ .ref p) (s : PenStep p c H H') : AnyV H' v := by
  cases v with
  | ref a =>
    have n' : a ≠ p := fun z => n (by rw [z])
    rcases h with ⟨xs, h⟩ | ⟨xs, h⟩ | ⟨xs, h⟩
    · exact .inl ⟨xs, s.keep _ _ n' h⟩
    · exact .inr (.inl ⟨xs, s.keep _ _ n' h⟩)
    · exact .inr (.inr ⟨xs, s.keep _ _ n' h⟩)
  | _ => exact h
theorem OddV.step {p c : Addr} {H H' : Hp} {v : V} (h : OddV p H v) (s : PenStep p c H H') : OddV p H' v := ⟨h.1.step h.2 s, h.2⟩
theorem OddV.same {p : Addr} {H H' : Hp} {v : V} (h : OddV p H v) (s : Same H H') : OddV p H' v := ⟨h.1.same s, h.2⟩
theorem OddV.put {p q : Addr} {H : Hp} {v : V} {xs : List V} (h : OddV p H v) : OddV p (upd H q (.lst xs)) v := by
  refine ⟨?_, h.2⟩
  obtain ⟨h, _⟩ := h
  cases v with
  | ref a =>
    by_cases e : a = q
    · subst e
      exact .inl ⟨xs, upd_same⟩
    · rcases h with ⟨ys, h⟩ | ⟨ys, h⟩ | ⟨ys, h⟩
      · exact .inl ⟨ys, by rw [upd_ne e]; exact h⟩
      · exact .inr (.inl ⟨ys, by rw [upd_ne e]; exact h⟩)
      · exact .inr (.inr ⟨ys, by rw [upd_ne e]; exact h⟩)
  | _ => exact h
theorem oddS {p : Addr} {H : Hp} {x : Str} : OddV p H (.str x) := ⟨trivial, fun z => by cases z⟩
theorem sp_initG {CG CB : Addr} {H : Hp} {Q : VK} {E : XK} {a dx : Addr} {m t b k e : Str} (h : H a = some (.ins CG dx [])) (m0 : m ∈ MARKSl) (m1 : t ∈ ACTSl) (m2 : b ∈ BYl) (m3 : k ∈ KEEPSl) (m4 : e ∈ BYl)
    (q : ∀ H', (∀ b o, b ≠ a → H b = some o → H' b = some o) → H' a = some (.ins CG dx (gfs (plain5 m t b k e))) → Q .non H') : spInitG CG CB [.ref a, .str m, .str t, .str b, .str k, .str e] H Q E := by
  refine ⟨a, dx, _, _, _, _, _, rfl, h, ⟨trivial, trivial, trivial, trivial, trivial⟩, fun part hb => ?_, fun m' t' b' k' e' z0 z1 z2 z3 z4 _ _ _ _ _ => ?_⟩
  · rw [bad_none (okv_mem m0) (okv_mem m1) (okv_mem m2) (okv_mem m3) (okv_mem m4)] at hb
    cases hb
  · cases z0
    cases z1
    cases z2
    cases z3
    cases z4
    exact q
def spLaw (K : PySem.W.Frag) : Sp := fun vs H Q _ => ∃ (a : Addr) (ns : List Int), vs = [.ref a] ∧ SqL K H a (ns.map V.int) ∧ ∀ H', Q (.bl true) H'
theorem at_n {xs : List V} {i : Nat} {v : V} (h : xs[i]? = some v) : atI xs (0 + (i : Int)) = some v := by
  rw [Int.zero_add]
  exact atI_nat h
theorem str_in {ss : List Str} {j : Nat} {x : V} (h : (ss.map V.str)[j]? = some x) : ∃ y, x = .str y ∧ y ∈ ss := by
  rw [List.getElem?_map] at h
  cases e : ss[j]? with
  | none =>
    rw [e] at h
    cases h
  | some u =>
    rw [e] at h
    exact ⟨u, (Option.some.inj h).symm, List.mem_of_getElem? e⟩
theorem str_at {ss : List Str} {j : Nat} {x : V} (h : (ss.map V.str)[j]? = some x) : ∃ y, x = .str y := by
  obtain ⟨y, h, _⟩ := str_in h
  exact ⟨y, h⟩
theorem filt_true {α : Type} {l : List α} : l.filter (fun _ => true) = l := List.filter_eq_self.mpr fun _ _ => rfl
def SqA (K : PySem.W.Frag) (H : Hp) (t : Addr) (xs : List V) : Prop := SqL K H t xs ∨ SqT K H t xs
theorem SqA.same {K : PySem.W.Frag} {H H' : Hp} {t : Addr} {xs : List V} (h : SqA K H t xs) (s : Same H H') : SqA K H' t xs := h.imp (fun h => s.seq h) (fun h => same_seqT s h)
theorem r_forA {K : PySem.W.Frag} {p : Addr} {xs : List V} {g : TG} {tb : TS} {D : Ends} {σ : St} {H : Hp} {sl : Nat} (hv : σ[sl]? = some (some (.ref p))) (hS : SqA K H p xs) (Pv : Nat → St → Hp → Prop) (h0 : Pv 0 σ H) (hsm : ∀ i σ' H', Pv i σ' H' → Same H H')
    (hs : ∀ i x σ H, xs[i]? = some x → Pv i σ H → g x σ H fun σ2 H2 => tb { D with nx := Pv (i + 1), ct := Pv (i + 1), bk := D.nx } σ2 H2) (hd : ∀ σ H, Pv xs.length σ H → D.nx σ H) :
    iOr (iList K (tVar sl)) (iTup K (tVar sl)) σ H (fun J H1 => ∃ W : Nat → Nat → St → Hp → Prop, (∃ m, W 0 m σ H1) ∧ ∀ i m σ H, W i m σ H →
      (J.stop i H ∧ D.nx σ H) ∨ (J.go i H ∧ ∃ N : St → Hp → Prop, (∀ σ' H', N σ' H' → ∃ m', m' < m ∧ W (i + 1) m' σ' H') ∧ ∀ x H', J.yld i H x H' → g x σ H' fun σ2 H2 => tb { D with nx := N, ct := N, bk := D.nx } σ2 H2)) := by
  rcases hS with hS | hS
  · exact .inl ⟨_, hv, p, rfl, ⟨xs, hS⟩, for_list (K := K) (a := p) (xs := xs) Pv h0 (fun i σ' H' _ z => (hsm i σ' H' z).seq hS) hs hd⟩
  · exact .inr ⟨_, hv, p, rfl, ⟨xs, hS⟩, for_tup (K := K) (a := p) (xs := xs) Pv h0 (fun i σ' H' _ z => same_seqT (hsm i σ' H' z) hS) hs hd⟩
theorem r_orV2 {ta tb : TE} {σ : St} {H : Hp} {Q : VK} {c d : Bool} (ha : ∀ R : VK, R (.bl c) H → ta σ H R) (hb : ∀ R : VK, R (.bl d) H → tb σ H R) (q : Q (.bl (c || d)) H) : tOrV ta tb σ H Q :=
  ha _ ⟨c, rfl, by
    cases c
    · exact iteF (hb _ q)
    · exact iteT q⟩
theorem r_andV2 {ta tb : TE} {σ : St} {H : Hp} {Q : VK} {c d : Bool} (ha : ∀ R : VK, R (.bl c) H → ta σ H R) (hb : ∀ R : VK, R (.bl d) H → tb σ H R) (q : Q (.bl (c && d)) H) : tAndV ta tb σ H Q :=
  ha _ ⟨c, rfl, by
    cases c
    · exact iteF q
    · exact iteT (hb _ q)⟩
theorem r_and2 {p q : TT} {σ : St} {H : Hp} {R : Bool → Hp → Prop} {c d : Bool} (ha : ∀ R : Bool → Hp → Prop, R c H → p σ H R) (hb : ∀ R : Bool → Hp → Prop, R d H → q σ H R) (k : R (c && d) H) : tAnd p q σ H R := ha _ (by
    cases c
    · exact iteF k
    · exact iteT (hb _ k))
theorem r_or2 {p q : TT} {σ : St} {H : Hp} {R : Bool → Hp → Prop} {c d : Bool} (ha : ∀ R : Bool → Hp → Prop, R c H → p σ H R) (hb : ∀ R : Bool → Hp → Prop, R d H → q σ H R) (k : R (c || d) H) : tOr p q σ H R := ha _ (by
    cases c
    · exact iteF (hb _ k)
    · exact iteT k)
theorem all_strs : ∀ {fl : List V}, (∀ v, v ∈ fl → ∃ x, v = .str x) → ∃ ss : List Str, fl = ss.map V.str
  | [], _ => ⟨[], rfl⟩
  | v :: r, h => by
    obtain ⟨x, rfl⟩ := h v (by simp)
    obtain ⟨ss, rfl⟩ := all_strs (fl := r) fun v hv => h v (by simp [hv])
    exact ⟨x :: ss, rfl⟩
def firstBad (fl : List V) : Option V := fl.find? fun v => !okv v FLAGSl
theorem first_none {fl : List V} (h : ∀ (j : Nat) v, fl[j]? = some v → okv v FLAGSl = true) : firstBad fl = none := by
  refine List.find?_eq_none.mpr fun v hv => ?_
  obtain ⟨j, hj⟩ := List.mem_iff_getElem?.mp hv
  simp [h j v hj]
theorem first_bad : ∀ {fl : List V} {i : Nat} {x : V}, fl[i]? = some x → (∀ (j : Nat) v, j < i → fl[j]? = some v → okv v FLAGSl = true) → okv x FLAGSl = false → firstBad fl = some x
  | [], i, x, h, _, _ => by simp at h
  | a :: r, 0, x, h, _, hb => by
    cases Option.some.inj h
    unfold firstBad
    rw [List.find?_cons_of_pos (by simp [hb])]
  | a :: r, i + 1, x, h, hj, hb => by
    have ih := first_bad (fl := r) (i := i) (x := x) h (fun j v hl e => hj (j + 1) v (by omega) e) hb
    unfold firstBad at ih ⊢
    rw [List.find?_cons_of_neg (by simp [hj 0 a (by omega) rfl])]
    exact ih
theorem ite_eqT {i j : Int} {A B : Prop} (e : i = j) (h : A) : if decide (i = j) = true then A else B := by simpa [e] using h
theorem ite_eqF {i j : Int} {A B : Prop} (e : i ≠ j) (h : B) : if decide (i = j) = true then A else B := by simpa [e] using h
def rInsert : V → List V → Hp → VK → Prop := fun x vs H Q => ∃ (l : Addr) (xs : List V) (i : Int) (y : V), x = .ref l ∧ vs = [.int i, y] ∧ H l = some (.lst xs) ∧ xs.length < sizeLine ∧ 0 ≤ i ∧ i < 2 ^ 63 ∧ Q .non (upd H l (.lst (xs.take i.toNat ++ [y] ++ xs.drop i.toNat)))
theorem mtInsert {X : Cx} : MtR X "list.insert" rInsert := mt_insert
theorem r_insert {H : Hp} {Q : VK} {p : Addr} {xs : List V} {i : Int} {y : V} (h : H p = some (.lst xs)) (l : xs.length < sizeLine) (h0 : 0 ≤ i) (h1 : i < 2 ^ 63) (q : Q .non (upd H p (.lst (xs.take i.toNat ++ [y] ++ xs.drop i.toNat)))) : rInsert (.ref p) [.int i, y] H Q := ⟨p, xs, i, y, rfl, rfl, h, l, h0, h1, q⟩
theorem mem_ins {xs : List V} {n : Nat} {x y : V} : x ∈ xs.take n ++ [y] ++ xs.drop n ↔ x ∈ xs ∨ x = y := by
  have h : x ∈ xs ↔ x ∈ xs.take n ∨ x ∈ xs.drop n := by
    rw [← List.mem_append, List.take_append_drop]
  rw [h]
  simp only [List.mem_append, List.mem_cons, List.not_mem_nil, or_false]
  constructor
  · rintro ((h | h) | h)
    · exact .inl (.inl h)
    · exact .inr h
    · exact .inl (.inr h)
  · rintro ((h | h) | h)
    · exact .inl (.inl h)
    · exact .inr h
    · exact .inl (.inr h)
theorem len_ins {xs : List V} {n : Nat} {y : V} : (xs.take n ++ [y] ++ xs.drop n).length = xs.length + 1 := by
  simp only [List.length_append, List.length_take, List.length_drop, List.length_cons, List.length_nil]
  omega
def spMing : Sp := fun vs H Q _ => ∃ (p c q : Addr) (fl : List V), vs = [.ref p, .ref q] ∧ PenAt H p c ∧ H q = some (.lst fl) ∧ fl.length ≤ 1000 ∧ ∀ r H' gl, PenStep p c H H' → H r = none → H' r = some (.lst gl) → gl.length ≤ fl.length + 2 → (∀ x, x ∈ gl ↔ x ∈ fl) → Q (.ref r) H'
/-- a value that is found equal to itself -/
def SelfEq (K : PySem.W.Frag) (H : Hp) (v : V) : Prop := (∃ d, Dp K H v d ∧ d.plain = true ∧ d.depth ≤ 64) ∨ ∃ a ks, v = .ref a ∧ H a = some (.dK ks) ∧ ∀ p ∈ ks, valV ks p.1 = some p.2 ∧ flatB p.2 = true
mutual
theorem dp_same {K : PySem.W.Frag} {H H' : Hp} (s : Same H H') : ∀ {v : V} {d : PyData}, Dp K H v d → Dp K H' v d
  | _, _, .non => .non
  | _, _, .bl b => .bl b
  | _, _, .int i => .int i
  | _, _, .str x => .str x
  | _, _, .lst h k => .lst (s.seq h) (dps_same s k)
  | _, _, .tup h k => .tup (same_seqT s h) (dps_same s k)
theorem dps_same {K : PySem.W.Frag} {H H' : Hp} (s : Same H H') : ∀ {vs : List V} {ds : List PyData}, DpAll K H vs ds → DpAll K H' vs ds
  | _, _, .nil => .nil
  | _, _, .cons h k => .cons (dp_same s h) (dps_same s k)
end
theorem SelfEq.same {K : PySem.W.Frag} {H H' : Hp} {v : V} (h : SelfEq K H v) (s : Same H H') : SelfEq K H' v := by
  rcases h with ⟨d, h, a, b⟩ | ⟨a, ks, e, h, k⟩
  · exact .inl ⟨d, dp_same s h, a, b⟩
  · exact .inr ⟨a, ks, e, s _ _ h, k⟩
theorem SelfEq.eq {K : PySem.W.Frag} {H H' : Hp} {v : V} {Q : VK} (h : SelfEq K H v) (s : Same H H') (q : Q (.bl true) H') : rOr (rEqP K) (rEqV K) v v H' Q := by
  rcases h.same s with ⟨d, h, a, b⟩ | ⟨a, ks, rfl, h, k⟩
  · refine .inl ⟨d, d, h, h, a, a, b, ?_⟩
    rw [SeqAt.eqv_refl_plain d a]
    exact q
  · exact .inr ⟨1, by decide, .inr ⟨a, a, ks, ks, rfl, rfl, h, h, rfl, fun p hp => ⟨p.2, (k p hp).1, .inl ⟨rfl, (k p hp).2⟩⟩⟩, q⟩
theorem r_neStr {K : PySem.W.Frag} {H : Hp} {Q : VK} {x y : Str} (e : x = y) (q : Q (.bl false) H) : rNeP K (.str x) (.str y) H Q := r_neT x y (.str x) (.str y) (by
  subst e
  simpa using q)
theorem mem_strs {ss : List Str} {x : Str} : V.str x ∈ ss.map V.str ↔ x ∈ ss := by
  rw [List.mem_map]
  exact ⟨fun ⟨y, h, e⟩ => (V.str.inj e) ▸ h, fun h => ⟨x, h, rfl⟩⟩
theorem strs_inj : ∀ {ss tt : List Str}, ss.map V.str = tt.map V.str → ss = tt
  | [], [], _ => rfl
  | [], _ :: _, h => by cases h
  | _ :: _, [], h => by cases h
  | a :: ss, b :: tt, h => by
    have h' := List.cons.inj h
    rw [V.str.inj h'.1, strs_inj h'.2]
/-- the part of H' that was not there in H0 -/
def newOf (H0 H' : Hp) : Hp := fun b => if (H0 b).isNone = true then H' b else none
theorem newOf_at {H0 H' : Hp} {b : Addr} {o : HO} (n : H0 b = none) (e : H' b = some o) : newOf H0 H' b = some o := by
  unfold newOf
  rw [n]
  exact e
theorem newOf_get {H0 H' : Hp} {b : Addr} {o : HO} (e : newOf H0 H' b = some o) : H0 b = none ∧ H' b = some o := by
  unfold newOf at e
  by_cases h : (H0 b).isNone = true
  · rw [if_pos h] at e
    exact ⟨Option.isNone_iff_eq_none.mp h, e⟩
  · rw [if_neg h] at e
    cases e
def spOddN (K : PySem.W.Frag) : Sp := fun vs H Q _ => ∃ (p c : Addr), vs = [.ref p] ∧ PenAt H p c ∧ ∀ v H', PenStep p c H H' → OddV p H' v → okv v FLAGSl = false → SelfEq K (newOf H H') v → Q v H'
end Wm
namespace Wm
open PySem PySem.SeqAt PyProof.Rows PySem.Spec PySem.Calls
theorem str_eq_declines_dict (b : Str) (u : Tok) (l : Addr) (c : Value) (es : Array DictEntry) (n : Nat) (dd : Option Addr) (sl : Array (Option Value)) :
    Meets (Builtin.«str.__eq__» ⟨[.str b u, .ref l], []⟩) (fun _ R s => s.heap.get? l = some { cls := c, dict := dd, data := .dict es n, slots := sl } ∧ R (.ok (.ret .notImplemented)) s) :=
  .of_wp fun prog w A R s h => by obtain ⟨hp, g, d, tk, os⟩ := s; obtain ⟨hl, h⟩ := h; wp_walk using wpAny_loadPart' hl; exact ⟨_, rfl, h⟩
theorem dict_eq_declines_str (l : Addr) (es : Array DictEntry) (n : Nat) (dd : Option Addr) (sl : Array (Option Value)) (b : Str) (u : Tok) :
    Meets (Builtin.«dict.__eq__» ⟨[.ref l, .str b u], []⟩) (fun _ R s => s.heap.get? l = some { cls := .type "dict", dict := dd, data := .dict es n, slots := sl } ∧ R (.ok (.ret .notImplemented)) s) :=
  .of_wp fun prog w A R s h => by obtain ⟨hp, g, d, tk, os⟩ := s; obtain ⟨hl, h⟩ := h; have f1 := F.sub_str_dict; wp_walk using wpAny_loadPart' hl; exact ⟨_, rfl, h⟩
section
variable {A : Around} {s : Shared}
theorem rc_str_dict {l : Addr} {es : Array DictEntry} {n : Nat} {dd : Option Addr} {sl : Array (Option Value)} (b : Str) (u : Tok) (ho : s.heap.get? l = some { cls := .type "dict", dict := dd, data := .dict es n, slots := sl }) (hu : A.units < cLine) : RcAt A s (.str b u) (.ref l) false := fun prog w E Q h =>
  rc_eq_decline_or (k := false) (typeIs_str s b u) ⟨_, ho, rfl⟩ (by decide) F.sub_dict_str F.slot_str_eq F.slot_dict_eq_refl
    (fun _ hq => call_meets F.slot_str_eq (typeIs_str s b u) F.entry_str_eq (F.args_str_eq_2 _ _) (str_eq_declines_dict b u l (.type "dict") es n dd sl) ⟨ho, hq⟩)
    (fun _ hq => call_meets F.slot_dict_eq_refl ⟨_, ho, rfl⟩ F.entry_dict_eq (F.args_dict_eq_2 _ _) (dict_eq_declines_str l es n dd sl b u) ⟨ho, hq⟩)
    (fun _ hq => wpAny_of_eq (rfl : isSame (.str b u) (.ref l) = pure false) hq) (.inr hu) h
theorem eq_str_dict {l : Addr} {es : Array DictEntry} {n : Nat} {dd : Option Addr} {sl : Array (Option Value)} (b : Str) (u : Tok) (ho : s.heap.get? l = some { cls := .type "dict", dict := dd, data := .dict es n, slots := sl }) (hu : A.units < cLine) : EqAt A s (.str b u) (.ref l) false := fun prog w E Q h => by
  unfold eqBool
  refine wpAny_holding ?_
  refine wpAny_ite_split (fun hab => absurd (eq_of_beq hab) nofun) (fun _ => ?_)
  exact wpAny_bind (rc_str_dict b u ho hu prog w E _ (wpAny_truthy_bool h))
end
section
open L2
variable {X : Cx} {pins : List (Addr × Obj)} {σ : L2.St} {H : Hp} {s : Shared}
theorem eq_str_any (I : Inv X pins σ H s) {a : Addr} (h : AnyV H (.ref a)) {A : Around} (hu : A.units < cLine) (b : Str) (u : Tok) : EqAt A s (.str b u) (.ref a) false := by
  rcases h with ⟨xs, h⟩ | ⟨xs, h⟩ | ⟨kvs, h⟩
  · obtain ⟨its, r, pl, hz⟩ := I.list (SqL.of (K := X.K) h)
    exact EqAt.str_list b u pl.isList hu
  · obtain ⟨its, r, pl, hz⟩ := I.tuple (SqT.of (K := X.K) h)
    exact EqAt.str_tuple b u pl hu
  · obtain ⟨_, ya, va, ra, da⟩ := (show ObjOk X.prog X.w H s.heap a (.dK kvs) from I.hok a _ h)
    obtain ⟨o, es, ep, ho, hx, hd, _⟩ := da
    obtain ⟨oc, od, dt, sl⟩ := o
    obtain ⟨h1, h2, h3⟩ := hx
    simp only at h1 hd
    subst h1 hd
    exact eq_str_dict b u ho hu
def rNotStr (K : PySem.W.Frag) : R2 := fun x y H Q => ∃ (a p : Addr) (ss : List Str), x = .ref a ∧ y = .ref p ∧ AnyV H (.ref a) ∧ SqA K H p (ss.map V.str) ∧ Q (.bl true) H
theorem op_notStr (hu : X.A.units + 64 < cLine) : OpR X (compareOp .NotIn) (rNotStr X.K) := by
  intro pins s σ H x y v u Q I rx ry h
  obtain ⟨a, p, ss, rfl, rfl, ha, hq, q⟩ := h
  cases (show v = Value.ref a from rx)
  cases (show u = Value.ref p from ry)
  have key : ∀ {its : List Value}, Vals (ss.map V.str) its → ∀ w, w ∈ its → EqAt X.A.in1 s w (.ref a) ((fun _ : Value => false) w) := fun {its} r w hw => by
    obtain ⟨i, hi⟩ := List.mem_iff_getElem?.mp hw
    have hl : i < (ss.map V.str).length := by
      rw [r.length]
      rcases Nat.lt_or_ge i its.length with z | z
      · exact z
      · rw [List.getElem?_eq_none z] at hi
        cases hi
    obtain ⟨w', h1, h2⟩ := r.get (List.getElem?_eq_getElem hl)
    rw [hi] at h1
    cases h1
    rw [List.getElem_map] at h2
    obtain ⟨t, rfl⟩ := h2
    exact eq_str_any I ha (by show X.A.units + 1 < cLine; omega) _ t
  rcases hq with hq | hq
  · obtain ⟨its, r, pl, hz⟩ := I.list hq
    refine SeqAt.notIn_listAt (fun _ => false) pl.isList (fun w hw => key r w (by simpa using hw)) ⟨.bl true, H, I, ?_, q⟩
    show Value.bool (!its.toArray.any fun _ => false) = Value.bool true
    simp
  · obtain ⟨its, r, pl, hz⟩ := I.tuple hq
    refine SeqAt.notIn_tupleAt (fun _ => false) pl (fun w hw => key r w (by simpa using hw)) ⟨.bl true, H, I, ?_, q⟩
    show Value.bool (!its.toArray.any fun _ => false) = Value.bool true
    simp
end
section
open L2
variable {D : Ends} {σ : L2.St} {H : Hp} {Q : VK} {K : PySem.W.Frag}
def slEnd (r : V → Option Int → Option Int → Hp → VK → Prop) (Q : VK) (x : V) (lo : Option Int) : Option Int → Hp → Prop := fun hi H3 => r x lo hi H3 Q
theorem r_slice {r : V → Option Int → Option Int → Hp → VK → Prop} {te : TE} {tl th : TO} (h : te σ H fun x H1 => tl σ H1 fun lo H2 => th σ H2 (slEnd r Q x lo)) : tSl r te tl th σ H Q := h
theorem r_nopart {R : Option Int → Hp → Prop} (h : R none H) : tNoPart σ H R := h
theorem r_part {te : TE} {R : Option Int → Hp → Prop} (h : te σ H fun x H1 => ∃ i, x = .int i ∧ R (some i) H1) : tPart te σ H R := h
theorem r_partI {i : Int} {R : Int → Prop} (q : R i) : ∃ j, V.int i = .int j ∧ R j := ⟨i, rfl, q⟩
theorem r_slL {p : Addr} {xs : List V} {lo hi : Option Int} (h : H p = some (.lst xs)) (k : ∀ q H', H q = none → Same H H' → H' q = some (.lst (cutV xs lo hi)) → Q (.ref q) H') : slEnd (rSlL K) Q (.ref p) lo hi H := ⟨p, xs, rfl, SqL.of h, fun q n => k q _ n (same_new n) upd_same⟩
theorem eqv_self {v : V} (h : AnyV H v) : EqV K H 1 v v := by
  cases v with
  | ref a => exact .inr (.inl ⟨a, rfl, rfl⟩)
  | non => exact .inl ⟨rfl, rfl⟩
  | bl b => exact .inl ⟨rfl, rfl⟩
  | int i => exact .inl ⟨rfl, rfl⟩
  | str x => exact .inl ⟨rfl, rfl⟩
  | _ => exact h.elim
/-- a drawn flag: p the pen, fr the list that it stands in -/
structure GoodV (K : PySem.W.Frag) (p fr : Addr) (H : Hp) (v : V) : Prop where
  odd : OddV p H v
  sf : ∃ G : Hp, SelfEq K G v ∧ ∀ b o, G b = some o → b ≠ p ∧ b ≠ fr ∧ H b = some o
  kind : okv v FLAGSl = false ∨ ∃ x, v = .str x ∧ x ∈ (["here", "left", "twin left"] : List Str)
theorem GoodV.self {p fr : Addr} {v : V} (h : GoodV K p fr H v) : SelfEq K H v := by
  obtain ⟨G, a, b⟩ := h.sf
  exact a.same fun c o e => (b c o e).2.2
theorem GoodV.step {p c fr : Addr} {H' : Hp} {v : V} (h : GoodV K p fr H v) (s : PenStep p c H H') : GoodV K p fr H' v := by
  obtain ⟨G, a, b⟩ := h.sf
  exact ⟨h.odd.step s, ⟨G, a, fun c o e => ⟨(b c o e).1, (b c o e).2.1, s.keep c o (b c o e).1 (b c o e).2.2⟩⟩, h.kind⟩
theorem GoodV.same {p fr : Addr} {H' : Hp} {v : V} (h : GoodV K p fr H v) (s : Same H H') : GoodV K p fr H' v := by
  obtain ⟨G, a, b⟩ := h.sf
  exact ⟨h.odd.same s, ⟨G, a, fun c o e => ⟨(b c o e).1, (b c o e).2.1, s c o (b c o e).2.2⟩⟩, h.kind⟩
theorem GoodV.put {p fr : Addr} {v : V} {xs : List V} (h : GoodV K p fr H v) : GoodV K p fr (upd H fr (.lst xs)) v := by
  obtain ⟨G, a, b⟩ := h.sf
  exact ⟨h.odd.put, ⟨G, a, fun c o e => ⟨(b c o e).1, (b c o e).2.1, by rw [upd_ne (b c o e).2.1]; exact (b c o e).2.2⟩⟩, h.kind⟩
theorem good_str {p fr : Addr} {x : Str} (h : okv (.str x) FLAGSl = false ∨ x ∈ (["here", "left", "twin left"] : List Str)) : GoodV K p fr H (.str x) :=
  ⟨oddS, ⟨fun _ => none, .inl ⟨_, .str x, rfl, by simp [PyData.depth]⟩, fun b o e => by cases e⟩, h.imp id fun h => ⟨x, rfl, h⟩⟩
theorem good_odd {p c fr : Addr} {H0 : Hp} {v : V} {of : HO} (hp : PenAt H0 p c) (hf : H0 fr = some of) (o : OddV p H v) (b : okv v FLAGSl = false) (s : SelfEq K (newOf H0 H) v) : GoodV K p fr H v :=
  ⟨o, ⟨newOf H0 H, s, fun c u e => by
    refine ⟨fun z => ?_, fun z => ?_, (newOf_get e).2⟩
    · obtain ⟨w, hw⟩ := hp.some_p
      rw [z] at e
      rw [(newOf_get e).1] at hw
      cases hw
    · rw [z] at e
      rw [(newOf_get e).1] at hf
      cases hf⟩, .inl b⟩
theorem three_flags {x : Str} (h : x ∈ (["here", "left", "twin left"] : List Str)) : okv (.str x) FLAGSl = true := by
  simp only [List.mem_cons, List.not_mem_nil, or_false] at h
  rcases h with rfl | rfl | rfl <;> decide
theorem bad_head {fl : List V} : firstBad fl = (fl.filter fun v => !okv v FLAGSl).head? := by
  unfold firstBad
  rw [← List.head?_filter]
end
section
open L2
variable {H : Hp} {Q : VK} {K : PySem.W.Frag}
theorem notin_three {v : V} {q : Addr} (ha : AnyV H v) (kd : okv v FLAGSl = false ∨ ∃ x, v = .str x ∧ x ∈ (["here", "left", "twin left"] : List Str)) (h : H q = some (.lst [.str "here", .str "left", .str "twin left"])) (k : Q (.bl (!okv v FLAGSl)) H) : rOr (rIn K true) (rNotStr K) v (.ref q) H Q := by
  have hq : SqL K H q ((["here", "left", "twin left"] : List Str).map V.str) := SqL.of h
  cases v with
  | non => exact .inl (r_in (.inl hq) rfl rfl k)
  | bl b => exact .inl (r_in (.inl hq) rfl rfl k)
  | int i => exact .inl (r_in (.inl hq) rfl rfl k)
  | str x =>
    refine .inl (r_inSN (.inl hq) ?_)
    have e : decide (x ∈ (["here", "left", "twin left"] : List Str)) = okv (.str x) FLAGSl := by
      rcases kd with h | ⟨y, e, h⟩
      · rw [h]
        refine decide_eq_false fun z => ?_
        rw [three_flags z] at h
        cases h
      · cases e
        rw [three_flags h]
        exact decide_eq_true h
    rw [e]
    exact k
  | ref a => exact .inr ⟨a, q, _, rfl, rfl, ha, .inl hq, k⟩
  | _ => exact ha.elim
theorem cut_mem {xs : List V} {lo hi : Option Int} {x : V} (h : x ∈ cutV xs lo hi) : x ∈ xs := List.mem_of_mem_drop (List.mem_of_mem_take h)
theorem eq_pair {p q : Addr} {v : V} (h : H p = some (.lst [.str "none", v])) (h' : H q = some (.lst [.str "none", v])) (ha : AnyV H v) (k : Q (.bl true) H) : rEqV K (.ref p) (.ref q) H Q :=
  ⟨1, by decide, .inl ⟨p, q, _, _, rfl, rfl, SqL.of h, SqL.of h', .cons (.inl ⟨rfl, rfl⟩) (.cons (eqv_self ha) .nil)⟩, k⟩
end
end Wm
/-! errors as values -/
namespace PySem.W
open PySem PySem.Spec PySem.Calls PyProof.Rows
section
variable {prog : Program} {w : World} {A : Around} {E : Value → Shared → Prop} {s : Shared} {K : Frag} {x D : Addr} {ox : Obj} {od : Option Obj}
theorem erv_find (hc : (clsIn K D).isSome = true) {g a : Value} {n : Str} (ha : findIn K (.ref D) n = some (some a)) (hg : specialIn K a "__get__" = some (some g)) (ht : takesIn K a = some true) : findObj K D od n = some (.bind g a) := by
  obtain ⟨cd, e⟩ := Option.isSome_iff_exists.mp hc
  unfold findObj
  rw [e, Option.bind_some, ha, Option.bind_some]
  simp [hg, ht]
theorem erv_class {R : Option Value → Shared → Prop} (C : L2.ExcC K D) (X : K.In s.heap) (I : InstAt s.heap x ox D od) (h : R (some (.ref D)) { s with toks := s.toks + 1 }) : wpAny (model prog w) A (getAttr? (.ref x) "__class__") R E s := by
  obtain ⟨hga, hgt, hsub, hdct, ha, hn, htk, hm⟩ := C
  have hf : findObj K D od "__class__" = some (.bind (.builtin "getset_descriptor.__get__") (.builtin "object.__class__")) := erv_find (by obtain ⟨cd, hc, _⟩ := any_some hdct; rw [hc]; rfl) ha hn htk
  obtain ⟨hp, gg, dr, tk, os⟩ := s
  have M0 := I.type (M := model prog w)
  have M1 := looks_findIn (M := model prog w) X hga
  have M2 := looks_findIn (M := model prog w) X hgt
  have M3 := looks_find (M := model prog w) X I hf
  have sb : Looks (model prog w) hp (isInstance (.ref x) (.type "BaseException")) true := M0.andThen (looks_subIn X hsub)
  have z0 : (false && onTheHeap (Value.builtin "BaseException.__getattribute__")) = false := rfl
  have z2 : (Value.builtin "BaseException.__getattribute__" == Value.builtin "object.__getattribute__") = false := by decide +kernel
  have z1 : (onTheHeap (Value.ref D) && Value.builtin "BaseException.__getattribute__" == Value.builtin "object.__getattribute__") = false := by rw [z2]; rfl
  unfold getAttr? getAttrBy? getAttrBy
  refine wpAny_bind (wpAny_mkText (wpAny_bind (wpAny_attempt (wpAny_holding (wpAny_bind (M0.at (wpAny_bind (M1.at ?_))))))))
  show wpAny _ _ (if (onTheHeap (Value.ref D) && Value.builtin "BaseException.__getattribute__" == Value.builtin "object.__getattribute__") = true then _ else _) _ _ _
  rw [z1, if_neg Bool.false_ne_true]
  unfold getAttrByItsOwn hookBefore
  refine wpAny_bind ?_
  rw [if_pos (show onTheHeap (Value.ref D) = true from rfl)]
  refine M2.at ?_
  refine wpAny_bind (wpAny_attempt (wpAny_holding ?_))
  unfold callGetattribute
  rw [z0, if_neg Bool.false_ne_true]
  unfold boundAndCalled
  rw [PySem.F.excAttr_ValueError.ga.bind (.ref x)]
  refine wpAny_bind (wpAny_pure ?_)
  show wpAny _ _ (call (.builtin "BaseException.__getattribute__") [.ref x, .str "__class__" tk]) _ _ _
  refine wpAny_call (codeAny_call_builtin PySem.F.excAttr_ValueError.ga.plain PySem.F.entry_bexc_ga ?_)
  refine @check_slot (model prog w) _ _ ⟨hp, gg, dr, tk + 1, os⟩ "BaseException.__getattribute__" "BaseException" "__getattribute__" (.ref x) [.str "__class__" tk] [] _ (by decide +kernel) (by decide +kernel) sb (PySem.F.args_bexc_ga (.ref x) (.str "__class__" tk)) ?_
  unfold Builtin.«object.__getattribute__»
  refine wpAny_bind (wpAny_of_eq (a := ((Value.ref x : Value), [Value.str "__class__" tk])) (by first | rfl | (simp only [slotArgs]; rfl)) ?_)
  refine wpAny_bind (wpAny_pure (wpAny_bind (M0.at (wpAny_bind (M3.at ?_)))))
  show wpAny _ _ (holding [Value.builtin "object.__class__"] (call (.builtin "getset_descriptor.__get__") [.builtin "object.__class__", .ref x, .ref D]) >>= ret) _ _ _
  refine wpAny_bind (wpAny_holding (wpAny_call (class_get (s := ⟨hp, gg, dr, tk + 1, os⟩) (ox := ox) (od := od) X I hm ?_)))
  refine wpAny_pure ?_
  show wpAny _ _ (handedOut (.ref D)) _ _ _
  rw [handedOut_of (v := .ref D) rfl]
  first
    | exact wpAny_pure (wpAny_pure h)
    | exact wpAny_pure h
    | exact wpAny_pure (wpAny_bind (wpAny_pure (wpAny_pure h)))
theorem erv_kit (C : L2.ExcC K D) : KitX K (.ref x) (.ref D) (fun h => InstAt h x ox D od) where
  ty := fun _ _ _ I => I.type
  it := fun _ _ X _ => by
    obtain ⟨cdD, hcD, _⟩ := any_some C.hd
    unfold clsIn at hcD
    split at hcD
    · rename_i c' d' cd' sl' ho
      intro A' Q' E' s' k q
      unfold isType loadHead
      exact wpAny_bind (wpAny_loadPart (k _ _ (X _ _ ho)) (wpAny_pure q))
    · cases hcD
  ne := fun h tp dd its n sl X htp => by
    obtain ⟨cdD, hcD, _⟩ := any_some C.hd
    refine Bool.eq_false_iff.mpr fun q => ?_
    have e : D = tp := Value.ref.inj (beq_iff_eq.mp q)
    subst e
    unfold clsIn at hcD
    split at hcD
    · rename_i c' d' cd' sl' ho
      cases (X _ _ ho).symm.trans htp
    · cases hcD
  ca := fun X I k => erv_class C X I k
end
end PySem.W
namespace L2
open PySem PySem.Spec PyProof.Rows
/-- an error value of the class at C, its own dict d, at a -/
def ErO (C : Addr) (d : Option Addr) (a : Addr) : HO := .ext fun h => ∃ (oe : Obj) (vs : Array Value), h.get? a = some oe ∧ Zc (.ref C) d oe ∧ oe.data = .fields vs
theorem erO_ok {P : Program} {w : World} {H : Hp} {h : Heap} {a C : Addr} {d : Option Addr} {oe : Obj} {vs : Array Value} (e : h.get? a = some oe) (z : Zc (.ref C) d oe) (f : oe.data = .fields vs) : ObjOk P w H h a (ErO C d a) :=
  ⟨⟨oe, vs, e, z, f⟩, ⟨oe, e⟩, fun _ _ ⟨o, v, q, r⟩ k => ⟨o, v, k o q, r⟩⟩
section
variable {X : Cx} {C : Addr} {qual : Str} {fs : List Str}
theorem er_val {pins : List (Addr × Obj)} {σ : St} {H1 : Hp} {s1 : Shared} {vs : List V} {us : List Value} {Q : VK} {k : Nat} (T : ErC X.prog X.K qual fs C) (hr : Room k X.A) (I1 : Inv X pins σ H1 s1) (r1 : Vals vs us) (hl : vs.length = fs.length) (hz : vs.length ≤ 1000)
    (q0 : fs = [] → ∀ a, H1 a = none → Q (.ref a) (upd H1 a (ErO C none a))) (q1 : fs ≠ [] → ∀ a d, H1 a = none → H1 d = none → d ≠ a → Q (.ref a) (upd (upd H1 d (.xd (fs.zip vs))) a (ErO C (some d) a))) :
    wpAny (model X.prog X.w) X.A (call (.ref C) us) (EP X pins σ Q) X.xe s1 := by
  obtain ⟨fI, B, newId, initId, bmB, T1, KF, FB, SF, hex⟩ := T.ex
  have hlim := I1.nolimit
  have hK := I1.kIn
  have hm := I1.mod
  obtain ⟨mb, hb, hbt⟩ := hm.blt
  have hg := hm.glob.keeps I1.bk
  have hb' := hb.keeps I1.bk
  have lu : us.length = fs.length := r1.length.symm.trans hl
  have zu : us.length ≤ sizeLine := by
    rw [← r1.length, sizeLine_eq]
    omega
  obtain ⟨hp, g, dr, tk, os⟩ := s1
  refine wpAny_call (PySem.Er.er_made T1 KF FB SF hex hK hlim hg hb' (hbt "super" (by decide)) (by have := hr.dp; omega) lu zu fun h' tk' e t1 dd M => ?_)
  show EP X pins σ Q (.ref e) ⟨h', g, dr, tk', os⟩
  obtain ⟨G', g1, g2⟩ := restrict h' fun b => decide (b ≠ e)
  have gk : ∀ b, b ≠ e → G'.get? b = h'.get? b := fun b hb => g1 b (decide_eq_true hb)
  have ge : G'.get? e = none := g2 e (by simp)
  have old : ∀ b o, hp.get? b = some o → G'.get? b = some o := fun b o q => (gk b (Nat.ne_of_lt (Nat.lt_of_lt_of_le (Heap.lt_size q) M.new))).trans (M.keep b o q)
  have back : ∀ b o, G'.get? b = some o → h'.get? b = some o := fun b o q => by
    by_cases hb : b = e
    · rw [hb, ge] at q
      cases q
    · exact (gk b hb).symm.trans q
  have fe : H1 e = none := I1.hok.fresh M.new
  rcases M.dict with ⟨ed, ef⟩ | ⟨e0, dx, ed, big, ne, mA, hns, hmA⟩
  · subst ed
    have f0 : fs = [] := by
      cases fs with
      | nil => rfl
      | cons a l =>
        cases us with
        | nil => cases lu
        | cons u us => cases ef
    have J : Inv X pins σ H1 ⟨G', g, dr, tk', os⟩ := I1.kept (t' := tk') old
    have J2 : Inv X pins σ (upd H1 e (ErO C none e)) ⟨h', g, dr, tk', os⟩ := J.laidN (t' := tk') back ge fe (erO_ok M.obj ⟨rfl, rfl⟩ rfl)
    exact ⟨.ref e, _, J2, rfl, q0 f0 e fe⟩
  · subst ed
    have f0 : fs ≠ [] := fun z => e0 (by rw [z]; rfl)
    have ob : ObjOk X.prog X.w (upd H1 dx (.xd (fs.zip vs))) G' dx (.xd (fs.zip vs)) := ⟨mA, hns.at (fun o q => (gk dx ne).trans q), fun f => by rw [hmA f]; exact relO_zip r1 f⟩
    have J : Inv X pins σ (upd H1 dx (.xd (fs.zip vs))) ⟨G', g, dr, tk', os⟩ := I1.laid (t' := tk') old big ob
    have fe2 : upd H1 dx (.xd (fs.zip vs)) e = none := by rw [upd_ne (Ne.symm ne)]; exact fe
    have J2 : Inv X pins σ (upd (upd H1 dx (.xd (fs.zip vs))) e (ErO C (some dx) e)) ⟨h', g, dr, tk', os⟩ := J.laidN (t' := tk') back ge fe2 (erO_ok M.obj ⟨rfl, rfl⟩ rfl)
    exact ⟨.ref e, _, J2, rfl, q1 f0 e dx fe (I1.hok.fresh big) ne⟩
/-- C(e, ..) as a value -/
def tErV (C : Addr) (fs : List Str) (ta : TA) : TE := fun σ H Q => ta σ H fun vs H1 => vs.length = fs.length ∧ vs.length ≤ 1000 ∧ (fs = [] → ∀ a, H1 a = none → Q (.ref a) (upd H1 a (ErO C none a))) ∧
  (fs ≠ [] → ∀ a d, H1 a = none → H1 d = none → d ≠ a → Q (.ref a) (upd (upd H1 d (.xd (fs.zip vs))) a (ErO C (some d) a)))
section
variable {x : Str} {p pos : Pos} {e : Expr} {es : List Expr} {ta : TA} {k : Nat}
theorem pe_erV (T : ErC X.prog X.K qual fs C) (hr : Room k X.A) (hm : X.mg x = some (.ref C)) (ha : PA X (e :: es) ta) (hg : Gl X x := by rfl) (hdb : (x == ("__debug__" : Str)) = false := by decide)
    (he : starEach (e :: es) X.env = (false, eval e X.env) :: starEach es X.env := by rfl) (hpl : (backTo pos (starEach es X.env)).any (·.1) = false := by rfl) : PE X (.Call (.Name x p) (e :: es) [] pos) (tErV C fs ta) := by
  refine ⟨fun pins s σ H Q I h => ?_⟩
  refine wpAny_Call_Name_kw (ld_glob I hg hm ?_ hdb)
  refine PySem.W.callWith_K (h₀ := X.base) I.ok.mod.kin T.kC (thn (ha.run pos pins s σ H _ I h) fun us s1 hh => ?_) he hpl
  obtain ⟨vs, H1, I1, r1, hl, hz, q0, q1⟩ := hh
  exact ⟨I1.kIn, er_val T hr I1 r1 hl hz q0 q1⟩
theorem pe_erV0 (T : ErC X.prog X.K qual [] C) (hr : Room k X.A) (hm : X.mg x = some (.ref C)) (hg : Gl X x := by rfl) (hdb : (x == ("__debug__" : Str)) = false := by decide) : PE X (.Call (.Name x p) [] [] pos) (tErV C [] tNil) := by
  refine ⟨fun pins s σ H Q I h => ?_⟩
  refine wpAny_Call_Name_kw (ld_glob I hg hm ?_ hdb)
  refine PySem.W.callWith_K0 I.kIn T.kC ?_
  obtain ⟨hl, hz, q0, q1⟩ := h
  exact er_val T hr I .nil hl hz q0 q1
end
/-- isinstance(e, c), e an error value -/
def rIsV (K : PySem.W.Frag) : List V → Hp → VK → Prop := fun xs H Q => ∃ (a D : Addr) (d : Option Addr) (c : V) (cv : Value) (b : Bool), xs = [.ref a, c] ∧ H a = some (ErO D d a) ∧ (∀ dd, d = some dd → ∃ fs, H dd = some (.xd fs)) ∧ ExcC K D ∧ ClsV c cv ∧ PySem.W.kitOne K (.ref D) cv = some b ∧ Q (.bl b) H
theorem call_isV : CallR X (.builtin "isinstance") (rIsV X.K) := by
  intro pins s σ H xs us Q I r h
  obtain ⟨a, D, d, c, cv, b, rfl, ha, hd, E, hcv, e, q⟩ := h
  obtain ⟨u1, u2, rfl, r1, r2⟩ := vals2 r
  cases (show u1 = Value.ref a from r1)
  have ec := hcv.eq r2
  subst ec
  obtain ⟨⟨oe, vs, hget, hz, hv⟩, _, _⟩ := (show ObjOk X.prog X.w H s.heap a (ErO D d a) from I.hok a _ ha)
  obtain ⟨od, J⟩ : ∃ od, PySem.W.InstAt s.heap a oe D od := by
    obtain ⟨oc, odd, oda, osl⟩ := oe
    obtain ⟨h1, h2⟩ := hz
    dsimp only at h1 h2 hv
    subst h1 h2 hv
    cases odd with
    | none => exact ⟨none, hget, rfl, rfl, trivial⟩
    | some dd =>
      obtain ⟨fs, hdd⟩ := hd dd rfl
      obtain ⟨mA, hns, _⟩ := (show ObjOk X.prog X.w H s.heap dd (.xd fs) from I.hok dd _ hdd)
      obtain ⟨od, ho, _⟩ := lookIn_ns hns
      exact ⟨some od, hget, rfl, rfl, ho⟩
  exact PySem.W.kia_one (PySem.W.erv_kit E) I.kIn J e (fun z => nomatch z) fun tk => ⟨.bl b, H, I.kept (t' := tk) fun _ _ z => z, rfl, q⟩
/-- e.f, e an error value -/
def tErF (K : PySem.W.Frag) (f : Str) (te : TE) : TE := fun σ H Q => te σ H fun x H1 => ∃ (a C dd : Addr) (fs : List (Str × V)) (v : V), x = .ref a ∧ H1 a = some (ErO C (some dd) a) ∧ XfC K C ∧ PySem.W.findIn K (.ref C) f = some none ∧ H1 dd = some (.xd fs) ∧ fs.lookup f = some v ∧ Q v H1
theorem pe_erF {e : Expr} {te : TE} {pos : Pos} {n : Str} (he : PE X e te) (hb : attributeBase e n X.env (eval e X.env) = eval e X.env := by rfl) : PE X (.Attribute e n pos) (tErF X.K n te) := by
  refine ⟨fun pins s σ H Q I h => ?_⟩
  refine attr_of hb (thn (he.run pins s σ H _ I h) fun u s1 hh => ?_)
  obtain ⟨x, H1, I1, rx, a, D, dd, fs, v, ex, hA, T, hno, ea, l, q⟩ := hh
  subst ex
  obtain rfl : u = Value.ref a := rx
  obtain ⟨⟨oe, vs, hget, hz, hv⟩, _, _⟩ := (show ObjOk X.prog X.w H1 s1.heap a (ErO D (some dd) a) from I1.hok a _ hA)
  obtain ⟨mA, hns, hr⟩ := (show ObjOk X.prog X.w H1 s1.heap dd (.xd fs) from I1.hok dd _ ea)
  obtain ⟨od, ho, hl⟩ := lookIn_ns hns
  obtain ⟨u, hu, ru⟩ := RelO.some_of (v := v) (o := mA n) (by rw [← l]; exact hr n)
  have J : PySem.W.InstAt s1.heap a oe D (some od) := ⟨hget, hz.1, by unfold PySem.W.notCls; rw [hv] <;> rfl, by rw [hz.2]; exact ho⟩
  exact HandSPX.exc_get I1.kIn J T.ga T.gg T.exC (PySem.W.findObj_own T.hdC hno rfl (by rw [hl, hu])) (handed_of ru) ⟨v, H1, I1.tok _, ru, q⟩
end
end L2
namespace Wm
open PySem L2
section
variable {D : Ends} {σ : L2.St} {H : Hp} {Q : VK} {K : PySem.W.Frag}
def ervEnd (C : Addr) (fs : List Str) (Q : VK) : List V → Hp → Prop := fun vs H1 => vs.length = fs.length ∧ vs.length ≤ 1000 ∧ (fs = [] → ∀ a, H1 a = none → Q (.ref a) (upd H1 a (ErO C none a))) ∧
  (fs ≠ [] → ∀ a d, H1 a = none → H1 d = none → d ≠ a → Q (.ref a) (upd (upd H1 d (.xd (fs.zip vs))) a (ErO C (some d) a)))
theorem r_erV {C : Addr} {fs : List Str} {ta : TA} (h : ta σ H (ervEnd C fs Q)) : tErV C fs ta σ H Q := h
theorem r_erVE {C : Addr} {fs : List Str} {vs : List V} (l : vs.length = fs.length) (l2 : vs.length ≤ 1000) (hn : fs ≠ []) (k : ∀ a d H', H a = none → Same H H' → H' a = some (ErO C (some d) a) → H' d = some (.xd (fs.zip vs)) → Q (.ref a) H') : ervEnd C fs Q vs H :=
  ⟨l, l2, fun z => absurd z hn, fun _ a d na nd ne => k a d _ na (same_put (same_new nd) na) upd_same (by rw [upd_ne ne]; exact upd_same)⟩
theorem r_erVE0 {C : Addr} (k : ∀ a H', H a = none → Same H H' → H' a = some (ErO C none a) → Q (.ref a) H') : ervEnd C [] Q [] H := ⟨rfl, Nat.zero_le _, fun _ a na => k a _ na (same_new na) upd_same, fun z => absurd rfl z⟩
def erfE (K : PySem.W.Frag) (f : Str) (Q : VK) : VK := fun x H1 => ∃ (a C dd : Addr) (fs : List (Str × V)) (v : V), x = .ref a ∧ H1 a = some (ErO C (some dd) a) ∧ XfC K C ∧ PySem.W.findIn K (.ref C) f = some none ∧ H1 dd = some (.xd fs) ∧ fs.lookup f = some v ∧ Q v H1
theorem r_erF {f : Str} {te : TE} (h : te σ H (erfE K f Q)) : tErF K f te σ H Q := h
theorem r_erFK {a C dd : Addr} {fs : List (Str × V)} {f : Str} {v : V} (h : H a = some (ErO C (some dd) a)) (T : XfC K C) (n : PySem.W.findIn K (.ref C) f = some none) (h' : H dd = some (.xd fs)) (e : fs.lookup f = some v) (q : Q v H) : erfE K f Q (.ref a) H := ⟨a, C, dd, fs, v, rfl, h, T, n, h', e, q⟩
theorem r_isV {a C : Addr} {d : Option Addr} {c : V} {cv : Value} {b : Bool} (h : H a = some (ErO C d a)) (hd : ∀ dd, d = some dd → ∃ fs, H dd = some (.xd fs)) (E : ExcC K C) (k : ClsV c cv) (e : PySem.W.kitOne K (.ref C) cv = some b) (q : Q (.bl b) H) : rIsV K [.ref a, c] H Q := ⟨a, C, d, c, cv, b, rfl, h, hd, E, k, e, q⟩
/-- no dict -/
def AnyL (H : Hp) : V → Prop
  | .non => True
  | .bl _ => True
  | .int _ => True
  | .str _ => True
  | .ref a => (∃ xs, H a = some (.lst xs)) ∨ ∃ xs, H a = some (.tup xs)
  | _ => False
/-- a drawn plain value -/
structure PlainV (K : PySem.W.Frag) (H : Hp) (v : V) : Prop where
  dat : ∃ d, Dp K H v d ∧ d.plain = true ∧ d.depth ≤ 64
  any : AnyL H v
theorem AnyL.ty {v : V} (h : AnyL H v) : ∃ t, TyX K H v (.type t) ∧ t ∈ ["NoneType", "bool", "int", "str", "list", "tuple"] := by
  cases v with
  | non => exact ⟨_, .base .non, by simp⟩
  | bl b => exact ⟨_, .base (.bl b), by simp⟩
  | int i => exact ⟨_, .base (.int i), by simp⟩
  | str x => exact ⟨_, .base (.str x), by simp⟩
  | ref a =>
    rcases h with ⟨xs, h⟩ | ⟨xs, h⟩
    · exact ⟨_, .base (.lst h), by simp⟩
    · exact ⟨_, .base (.tup h), by simp⟩
  | _ => exact h.elim
theorem PlainV.isb {v : V} (h : PlainV K H v) : ∃ t b, TyX K H v (.type t) ∧ kitB t "bool" = some b := by
  obtain ⟨t, ty, ht⟩ := h.any.ty (K := K)
  simp only [List.mem_cons, List.not_mem_nil, or_false] at ht
  rcases ht with rfl | rfl | rfl | rfl | rfl | rfl
  all_goals first | exact ⟨_, true, ty, by decide +kernel⟩ | exact ⟨_, false, ty, by decide +kernel⟩
theorem PlainV.ist {v : V} (h : PlainV K H v) : ∃ t b, TyX K H v (.type t) ∧ kitB t "tuple" = some b := by
  obtain ⟨t, ty, ht⟩ := h.any.ty (K := K)
  simp only [List.mem_cons, List.not_mem_nil, or_false] at ht
  rcases ht with rfl | rfl | rfl | rfl | rfl | rfl
  all_goals first | exact ⟨_, true, ty, by decide +kernel⟩ | exact ⟨_, false, ty, by decide +kernel⟩
theorem tyx_same {H' : Hp} {v : V} {t : Value} (s : Same H H') (h : TyX K H v t) : TyX K H' v t := by
  cases h with
  | base b =>
    cases b with
    | non => exact .base .non
    | bl b => exact .base (.bl b)
    | int i => exact .base (.int i)
    | str x => exact .base (.str x)
    | flt x => exact .base (.flt x)
    | lst e => exact .base (.lst (s _ _ e))
    | frz e => exact .base (.frz (s _ _ e))
    | tup e => exact .base (.tup (s _ _ e))
    | dK e => exact .base (.dK (s _ _ e))
    | dT e => exact .base (.dT (s _ _ e))
    | ins e cl ha hn htk hm => exact .base (.ins (s _ _ e) cl ha hn htk hm)
  | byt b => exact .byt b
  | set e => exact .set (s _ _ e)
  | kList e c => exact .kList e c
  | kTuple e c => exact .kTuple e c
  | kDict e c => exact .kDict e c
  | fTuple e => exact .fTuple (s _ _ e)
  | fDict e => exact .fDict (s _ _ e)
theorem PlainV.same {H' : Hp} {v : V} (h : PlainV K H v) (s : Same H H') : PlainV K H' v := by
  obtain ⟨⟨d, a, b⟩, c⟩ := h
  refine ⟨⟨d, dp_same s a, b⟩, ?_⟩
  cases v with
  | ref a =>
    rcases c with ⟨xs, c⟩ | ⟨xs, c⟩
    · exact .inl ⟨xs, s _ _ c⟩
    · exact .inr ⟨xs, s _ _ c⟩
  | _ => exact c
theorem seqL_step {p c a : Addr} {H' : Hp} {xs : List V} (hp : PenAt H p c) (s : PenStep p c H H') (h : SqL K H a xs) : SqL K H' a xs := by
  rcases h with (h | ⟨o, h⟩) | h
  · exact .inl (.inl (s.at hp h rfl))
  · exact .inl (.inr ⟨o, s.at hp h rfl⟩)
  · exact .inr h
theorem seqT_step {p c a : Addr} {H' : Hp} {xs : List V} (hp : PenAt H p c) (s : PenStep p c H H') (h : SqT K H a xs) : SqT K H' a xs := by
  rcases h with (h | ⟨o, h⟩) | h
  · exact .inl (.inl (s.at hp h rfl))
  · exact .inl (.inr ⟨o, s.at hp h rfl⟩)
  · exact .inr h
mutual
theorem dp_step {p c : Addr} {H' : Hp} (hp : PenAt H p c) (s : PenStep p c H H') : ∀ {v : V} {d : PyData}, Dp K H v d → Dp K H' v d
  | _, _, .non => .non
  | _, _, .bl b => .bl b
  | _, _, .int i => .int i
  | _, _, .str x => .str x
  | _, _, .lst h k => .lst (seqL_step hp s h) (dps_step hp s k)
  | _, _, .tup h k => .tup (seqT_step hp s h) (dps_step hp s k)
theorem dps_step {p c : Addr} {H' : Hp} (hp : PenAt H p c) (s : PenStep p c H H') : ∀ {vs : List V} {ds : List PyData}, DpAll K H vs ds → DpAll K H' vs ds
  | _, _, .nil => .nil
  | _, _, .cons h k => .cons (dp_step hp s h) (dps_step hp s k)
end
theorem PlainV.step {p c : Addr} {H' : Hp} {v : V} (h : PlainV K H v) (hp : PenAt H p c) (s : PenStep p c H H') : PlainV K H' v := by
  obtain ⟨⟨d, a, b⟩, e⟩ := h
  refine ⟨⟨d, dp_step hp s a, b⟩, ?_⟩
  cases v with
  | ref a =>
    rcases e with ⟨xs, e⟩ | ⟨xs, e⟩
    · exact .inl ⟨xs, s.at hp e rfl⟩
    · exact .inr ⟨xs, s.at hp e rfl⟩
  | _ => exact e
end
def rStrI : List V → Hp → VK → Prop := fun xs H Q => ∃ i, xs = [.int i] ∧ i.natAbs.log2 < 1920 ∧ Q (.str (toString i)) H
theorem c_strI {X : Cx} : CallR X (.type "str") rStrI := call_str_int
theorem r_strI {H : Hp} {Q : VK} {i : Int} (h : i.natAbs.log2 < 1920) (q : Q (.str (toString i)) H) : rStrI [.int i] H Q := ⟨i, rfl, h, q⟩
theorem plain_lit {K : PySem.W.Frag} {H : Hp} {v : V} {d : PyData} (h : Dp K H v d) (p : d.plain = true) (z : d.depth ≤ 64) (a : AnyL H v) : PlainV K H v := ⟨⟨d, h, p, z⟩, a⟩
theorem r_cat {H : Hp} {Q : VK} {p q : Addr} {xs ys : List V} (h : H p = some (.lst xs)) (h' : H q = some (.lst ys)) (hz : xs.length + ys.length ≤ sizeLine) (k : ∀ r H', H r = none → Same H H' → H' r = some (.lst (xs ++ ys)) → Q (.ref r) H') : rCat (.ref p) (.ref q) H Q := ⟨p, q, xs, ys, rfl, rfl, h, h', hz, fun r n => k r _ n (same_new n) upd_same⟩
theorem dps_bl {K : PySem.W.Frag} {H : Hp} : ∀ (bs : List Bool), DpAll K H (bs.map V.bl) (bs.map PySem.W.Datum.toD)
  | [] => .nil
  | b :: bs => .cons (.bl b) (dps_bl bs)
theorem r_neBE {K : PySem.W.Frag} {H : Hp} {Q : VK} {p q : Addr} {xs ys : List V} (bs : List Bool) (h : H p = some (.lst xs)) (h' : H q = some (.lst ys)) (e : xs = bs.map V.bl) (e' : ys = bs.map V.bl) (k : Q (.bl false) H) : rNeP K (.ref p) (.ref q) H Q := by
  subst e e'
  refine r_neT (α := List Bool) bs bs (.lst (SqL.of h) (dps_bl bs)) (.lst (SqL.of h') (dps_bl bs)) ?_
  simpa using k
end Wm
namespace Wm
open PySem L2
def top (i : Nat) : Stmt := PySem.Challenge.pw_walkmarks_k01_errors.main.body.getD i (.Pass ⟨0, 0, 0, 0⟩)
abbrev s_l_pen : Stmt := top 27
abbrev s_l_take : Stmt := top 28
abbrev s_l_plain : Stmt := top 29
abbrev s_l_same : Stmt := top 30
abbrev s_l_matches : Stmt := top 31
abbrev s_l_first_errors : Stmt := top 32
abbrev s_l_second_errors : Stmt := top 33
abbrev s_l_stops : Stmt := top 34
abbrev s_l_caught : Stmt := top 35
abbrev s_law : Stmt := top 36
theorem sc_l_pen : FnScope ["_law_script", "_law_total", "_law_cell"] ["_law_script"] (defScope s_l_pen) := ⟨rfl, rfl, rfl, by decide +kernel, rfl, by decide +kernel, by decide +kernel⟩
theorem sc_l_take : FnScope ["_law_pen_here", "_law_bound", "_law_cell", "_law_mixed", "_law_digit"] ["_law_pen_here", "_law_bound"] (defScope s_l_take) := ⟨rfl, rfl, rfl, by decide +kernel, rfl, by decide +kernel, by decide +kernel⟩
theorem sc_l_plain : FnScope ["_law_pen_here", "_law_number", "_law_menu"] ["_law_pen_here"] (defScope s_l_plain) := ⟨rfl, rfl, rfl, by decide +kernel, rfl, by decide +kernel, by decide +kernel⟩
theorem sc_l_same : FnScope ["_law_one", "_law_other"] ["_law_one", "_law_other"] (defScope s_l_same) := ⟨rfl, rfl, rfl, by decide +kernel, rfl, by decide +kernel, by decide +kernel⟩
theorem sc_l_matches : FnScope ["_law_error", "_law_first"] ["_law_error"] (defScope s_l_matches) := ⟨rfl, rfl, rfl, by decide +kernel, rfl, by decide +kernel, by decide +kernel⟩
theorem sc_l_first_errors : FnScope ["_law_value", "_law_other", "_law_a", "_law_b", "_law_c", "_law_d", "_law_e", "_law_f", "_law_g", "_law_h", "_law_i", "_law_found"] ["_law_value", "_law_other"] (defScope s_l_first_errors) := ⟨rfl, rfl, rfl, by decide +kernel, rfl, by decide +kernel, by decide +kernel⟩
theorem sc_l_second_errors : FnScope ["_law_value", "_law_other", "_law_a", "_law_b", "_law_c", "_law_d", "_law_e", "_law_f", "_law_g", "_law_h", "_law_i", "_law_j", "_law_found"] ["_law_value", "_law_other"] (defScope s_l_second_errors) := ⟨rfl, rfl, rfl, by decide +kernel, rfl, by decide +kernel, by decide +kernel⟩
theorem sc_l_stops : FnScope ["_law_value", "_law_a", "_law_b"] ["_law_value"] (defScope s_l_stops) := ⟨rfl, rfl, rfl, by decide +kernel, rfl, by decide +kernel, by decide +kernel⟩
theorem sc_l_caught : FnScope ["_law_value", "_law_other", "_law_found", "_law_e", "_law_caught_here"] ["_law_value", "_law_other"] (defScope s_l_caught) := ⟨rfl, rfl, rfl, by decide +kernel, rfl, by decide +kernel, by decide +kernel⟩
theorem sc_law : FnScope ["_law_script", "_law_pen_here", "_law_value", "_law_other", "_law_made", "_law_k", "_law_error", "_law_told", "_law_due", "_law_j"] ["_law_script"] (defScope s_law) := ⟨rfl, rfl, rfl, by decide +kernel, rfl, by decide +kernel, by decide +kernel⟩
abbrev s_BadSchema_init : Stmt := inClass (top 2) 0
abbrev s_BadText_init : Stmt := inClass (top 3) 0
abbrev s_NoKind_init : Stmt := inClass (top 4) 0
abbrev s_NoField_init : Stmt := inClass (top 5) 0
abbrev s_BadTag_init : Stmt := inClass (top 6) 0
abbrev s_BadValue_init : Stmt := inClass (top 7) 0
abbrev s_NoThing_init : Stmt := inClass (top 8) 0
abbrev s_BadGraph_init : Stmt := inClass (top 9) 0
abbrev s_TooMany_init : Stmt := inClass (top 10) 0
abbrev s_BadGuard_init : Stmt := inClass (top 11) 0
abbrev s_NoFlag_init : Stmt := inClass (top 12) 0
abbrev s_BadWalker_init : Stmt := inClass (top 13) 0
abbrev s_BadChange_init : Stmt := inClass (top 14) 0
abbrev s_WrongSchema_init : Stmt := inClass (top 15) 0
abbrev s_WrongStart_init : Stmt := inClass (top 16) 0
abbrev s_BadStart_init : Stmt := inClass (top 17) 0
abbrev s_TooLong_init : Stmt := inClass (top 18) 0
abbrev s_NotPossible_init : Stmt := inClass (top 19) 0
abbrev s_NoQuestion_init : Stmt := inClass (top 20) 0
abbrev s_BadWish_init : Stmt := inClass (top 21) 0
abbrev s_NoFamily_init : Stmt := inClass (top 22) 0
abbrev s_Refused_init : Stmt := inClass (top 24) 0
abbrev s_Endless_init : Stmt := inClass (top 25) 0
structure Ad where
  (BadSchema BadText NoKind NoField BadTag BadValue NoThing BadGraph TooMany BadGuard NoFlag BadWalker BadChange WrongSchema WrongStart BadStart TooLong NotPossible NoQuestion BadWish NoFamily Refused Endless l_pen l_take l_plain l_same l_matches l_first_errors l_second_errors l_stops l_caught law WalkmarksError Stopped : Addr)
  (fd_l_pen fd_l_take fd_l_plain fd_l_same fd_l_matches fd_l_first_errors fd_l_second_errors fd_l_stops fd_l_caught fd_law : FuncData)
structure Txt (P : Program) (K : PySem.W.Frag) (mg : Str → Option Value) (ad : Ad) : Prop where
  n_len : mg "len" = none
  n_int : mg "int" = none
  n_list : mg "list" = none
  n_range : mg "range" = none
  n_isinstance : mg "isinstance" = none
  n_str : mg "str" = none
  n_tuple : mg "tuple" = none
  n_bool : mg "bool" = none
  n_ValueError : mg "ValueError" = none
  n_RuntimeError : mg "RuntimeError" = none
  g_BadSchema : mg "BadSchema" = some (.ref ad.BadSchema)
  er_BadSchema : ErC P K "BadSchema.__init__" ["at"] ad.BadSchema
  te_BadSchema : PySem.W.exmOne K (.ref ad.BadSchema) (.ref ad.BadSchema) = some true
  xf_BadSchema : XfC K ad.BadSchema
  no_BadSchema_at : PySem.W.findIn K (.ref ad.BadSchema) "at" = some none
  g_BadText : mg "BadText" = some (.ref ad.BadText)
  er_BadText : ErC P K "BadText.__init__" ["line"] ad.BadText
  te_BadText : PySem.W.exmOne K (.ref ad.BadText) (.ref ad.BadText) = some true
  xf_BadText : XfC K ad.BadText
  no_BadText_line : PySem.W.findIn K (.ref ad.BadText) "line" = some none
  g_NoKind : mg "NoKind" = some (.ref ad.NoKind)
  er_NoKind : ErC P K "NoKind.__init__" ["kind"] ad.NoKind
  te_NoKind : PySem.W.exmOne K (.ref ad.NoKind) (.ref ad.NoKind) = some true
  xf_NoKind : XfC K ad.NoKind
  no_NoKind_kind : PySem.W.findIn K (.ref ad.NoKind) "kind" = some none
  g_NoField : mg "NoField" = some (.ref ad.NoField)
  er_NoField : ErC P K "NoField.__init__" ["kind", "field"] ad.NoField
  te_NoField : PySem.W.exmOne K (.ref ad.NoField) (.ref ad.NoField) = some true
  xf_NoField : XfC K ad.NoField
  no_NoField_kind : PySem.W.findIn K (.ref ad.NoField) "kind" = some none
  no_NoField_field : PySem.W.findIn K (.ref ad.NoField) "field" = some none
  g_BadTag : mg "BadTag" = some (.ref ad.BadTag)
  er_BadTag : ErC P K "BadTag.__init__" ["tag"] ad.BadTag
  te_BadTag : PySem.W.exmOne K (.ref ad.BadTag) (.ref ad.BadTag) = some true
  xf_BadTag : XfC K ad.BadTag
  no_BadTag_tag : PySem.W.findIn K (.ref ad.BadTag) "tag" = some none
  g_BadValue : mg "BadValue" = some (.ref ad.BadValue)
  er_BadValue : ErC P K "BadValue.__init__" ["field"] ad.BadValue
  te_BadValue : PySem.W.exmOne K (.ref ad.BadValue) (.ref ad.BadValue) = some true
  xf_BadValue : XfC K ad.BadValue
  no_BadValue_field : PySem.W.findIn K (.ref ad.BadValue) "field" = some none
  g_NoThing : mg "NoThing" = some (.ref ad.NoThing)
  er_NoThing : ErC P K "NoThing.__init__" ["thing"] ad.NoThing
  te_NoThing : PySem.W.exmOne K (.ref ad.NoThing) (.ref ad.NoThing) = some true
  xf_NoThing : XfC K ad.NoThing
  no_NoThing_thing : PySem.W.findIn K (.ref ad.NoThing) "thing" = some none
  g_BadGraph : mg "BadGraph" = some (.ref ad.BadGraph)
  er_BadGraph : ErC P K "BadGraph.__init__" ["at"] ad.BadGraph
  te_BadGraph : PySem.W.exmOne K (.ref ad.BadGraph) (.ref ad.BadGraph) = some true
  xf_BadGraph : XfC K ad.BadGraph
  no_BadGraph_at : PySem.W.findIn K (.ref ad.BadGraph) "at" = some none
  g_TooMany : mg "TooMany" = some (.ref ad.TooMany)
  er_TooMany : ErC P K "TooMany.__init__" ["what"] ad.TooMany
  te_TooMany : PySem.W.exmOne K (.ref ad.TooMany) (.ref ad.TooMany) = some true
  xf_TooMany : XfC K ad.TooMany
  no_TooMany_what : PySem.W.findIn K (.ref ad.TooMany) "what" = some none
  g_BadGuard : mg "BadGuard" = some (.ref ad.BadGuard)
  er_BadGuard : ErC P K "BadGuard.__init__" ["part"] ad.BadGuard
  te_BadGuard : PySem.W.exmOne K (.ref ad.BadGuard) (.ref ad.BadGuard) = some true
  xf_BadGuard : XfC K ad.BadGuard
  no_BadGuard_part : PySem.W.findIn K (.ref ad.BadGuard) "part" = some none
  g_NoFlag : mg "NoFlag" = some (.ref ad.NoFlag)
  er_NoFlag : ErC P K "NoFlag.__init__" ["flag"] ad.NoFlag
  te_NoFlag : PySem.W.exmOne K (.ref ad.NoFlag) (.ref ad.NoFlag) = some true
  xf_NoFlag : XfC K ad.NoFlag
  no_NoFlag_flag : PySem.W.findIn K (.ref ad.NoFlag) "flag" = some none
  g_BadWalker : mg "BadWalker" = some (.ref ad.BadWalker)
  er_BadWalker : ErC P K "BadWalker.__init__" ["part"] ad.BadWalker
  te_BadWalker : PySem.W.exmOne K (.ref ad.BadWalker) (.ref ad.BadWalker) = some true
  xf_BadWalker : XfC K ad.BadWalker
  no_BadWalker_part : PySem.W.findIn K (.ref ad.BadWalker) "part" = some none
  g_BadChange : mg "BadChange" = some (.ref ad.BadChange)
  er_BadChange : ErC P K "BadChange.__init__" ["at"] ad.BadChange
  te_BadChange : PySem.W.exmOne K (.ref ad.BadChange) (.ref ad.BadChange) = some true
  xf_BadChange : XfC K ad.BadChange
  no_BadChange_at : PySem.W.findIn K (.ref ad.BadChange) "at" = some none
  g_WrongSchema : mg "WrongSchema" = some (.ref ad.WrongSchema)
  er_WrongSchema : ErC P K "WrongSchema.__init__" [] ad.WrongSchema
  te_WrongSchema : PySem.W.exmOne K (.ref ad.WrongSchema) (.ref ad.WrongSchema) = some true
  xf_WrongSchema : XfC K ad.WrongSchema
  g_WrongStart : mg "WrongStart" = some (.ref ad.WrongStart)
  er_WrongStart : ErC P K "WrongStart.__init__" [] ad.WrongStart
  te_WrongStart : PySem.W.exmOne K (.ref ad.WrongStart) (.ref ad.WrongStart) = some true
  xf_WrongStart : XfC K ad.WrongStart
  g_BadStart : mg "BadStart" = some (.ref ad.BadStart)
  er_BadStart : ErC P K "BadStart.__init__" ["thing"] ad.BadStart
  te_BadStart : PySem.W.exmOne K (.ref ad.BadStart) (.ref ad.BadStart) = some true
  xf_BadStart : XfC K ad.BadStart
  no_BadStart_thing : PySem.W.findIn K (.ref ad.BadStart) "thing" = some none
  g_TooLong : mg "TooLong" = some (.ref ad.TooLong)
  er_TooLong : ErC P K "TooLong.__init__" ["most"] ad.TooLong
  te_TooLong : PySem.W.exmOne K (.ref ad.TooLong) (.ref ad.TooLong) = some true
  xf_TooLong : XfC K ad.TooLong
  no_TooLong_most : PySem.W.findIn K (.ref ad.TooLong) "most" = some none
  g_NotPossible : mg "NotPossible" = some (.ref ad.NotPossible)
  er_NotPossible : ErC P K "NotPossible.__init__" ["kind", "word"] ad.NotPossible
  te_NotPossible : PySem.W.exmOne K (.ref ad.NotPossible) (.ref ad.NotPossible) = some true
  xf_NotPossible : XfC K ad.NotPossible
  no_NotPossible_kind : PySem.W.findIn K (.ref ad.NotPossible) "kind" = some none
  no_NotPossible_word : PySem.W.findIn K (.ref ad.NotPossible) "word" = some none
  g_NoQuestion : mg "NoQuestion" = some (.ref ad.NoQuestion)
  er_NoQuestion : ErC P K "NoQuestion.__init__" ["question"] ad.NoQuestion
  te_NoQuestion : PySem.W.exmOne K (.ref ad.NoQuestion) (.ref ad.NoQuestion) = some true
  xf_NoQuestion : XfC K ad.NoQuestion
  no_NoQuestion_question : PySem.W.findIn K (.ref ad.NoQuestion) "question" = some none
  g_BadWish : mg "BadWish" = some (.ref ad.BadWish)
  er_BadWish : ErC P K "BadWish.__init__" ["at"] ad.BadWish
  te_BadWish : PySem.W.exmOne K (.ref ad.BadWish) (.ref ad.BadWish) = some true
  xf_BadWish : XfC K ad.BadWish
  no_BadWish_at : PySem.W.findIn K (.ref ad.BadWish) "at" = some none
  g_NoFamily : mg "NoFamily" = some (.ref ad.NoFamily)
  er_NoFamily : ErC P K "NoFamily.__init__" ["word"] ad.NoFamily
  te_NoFamily : PySem.W.exmOne K (.ref ad.NoFamily) (.ref ad.NoFamily) = some true
  xf_NoFamily : XfC K ad.NoFamily
  no_NoFamily_word : PySem.W.findIn K (.ref ad.NoFamily) "word" = some none
  g_Refused : mg "Refused" = some (.ref ad.Refused)
  er_Refused : ErC P K "Refused.__init__" ["ring"] ad.Refused
  te_Refused : PySem.W.exmOne K (.ref ad.Refused) (.ref ad.Refused) = some true
  xf_Refused : XfC K ad.Refused
  no_Refused_ring : PySem.W.findIn K (.ref ad.Refused) "ring" = some none
  g_Endless : mg "Endless" = some (.ref ad.Endless)
  er_Endless : ErC P K "Endless.__init__" ["ring"] ad.Endless
  te_Endless : PySem.W.exmOne K (.ref ad.Endless) (.ref ad.Endless) = some true
  xf_Endless : XfC K ad.Endless
  no_Endless_ring : PySem.W.findIn K (.ref ad.Endless) "ring" = some none
  g_l_pen : mg "_law_pen" = some (.ref ad.l_pen)
  F_l_pen : Fun K "_law_pen" "_law_pen" s_l_pen ad.l_pen ad.fd_l_pen
  b_l_pen : Binds K ad.fd_l_pen ["_law_script"] []
  g_l_take : mg "_law_take" = some (.ref ad.l_take)
  F_l_take : Fun K "_law_take" "_law_take" s_l_take ad.l_take ad.fd_l_take
  b_l_take : Binds K ad.fd_l_take ["_law_pen_here", "_law_bound"] []
  g_l_plain : mg "_law_plain" = some (.ref ad.l_plain)
  F_l_plain : Fun K "_law_plain" "_law_plain" s_l_plain ad.l_plain ad.fd_l_plain
  b_l_plain : Binds K ad.fd_l_plain ["_law_pen_here"] []
  g_l_same : mg "_law_same" = some (.ref ad.l_same)
  F_l_same : Fun K "_law_same" "_law_same" s_l_same ad.l_same ad.fd_l_same
  b_l_same : Binds K ad.fd_l_same ["_law_one", "_law_other"] []
  g_l_matches : mg "_law_matches" = some (.ref ad.l_matches)
  F_l_matches : Fun K "_law_matches" "_law_matches" s_l_matches ad.l_matches ad.fd_l_matches
  b_l_matches : Binds K ad.fd_l_matches ["_law_error"] []
  g_l_first_errors : mg "_law_first_errors" = some (.ref ad.l_first_errors)
  F_l_first_errors : Fun K "_law_first_errors" "_law_first_errors" s_l_first_errors ad.l_first_errors ad.fd_l_first_errors
  b_l_first_errors : Binds K ad.fd_l_first_errors ["_law_value", "_law_other"] []
  g_l_second_errors : mg "_law_second_errors" = some (.ref ad.l_second_errors)
  F_l_second_errors : Fun K "_law_second_errors" "_law_second_errors" s_l_second_errors ad.l_second_errors ad.fd_l_second_errors
  b_l_second_errors : Binds K ad.fd_l_second_errors ["_law_value", "_law_other"] []
  g_l_stops : mg "_law_stops" = some (.ref ad.l_stops)
  F_l_stops : Fun K "_law_stops" "_law_stops" s_l_stops ad.l_stops ad.fd_l_stops
  b_l_stops : Binds K ad.fd_l_stops ["_law_value"] []
  g_l_caught : mg "_law_caught" = some (.ref ad.l_caught)
  F_l_caught : Fun K "_law_caught" "_law_caught" s_l_caught ad.l_caught ad.fd_l_caught
  b_l_caught : Binds K ad.fd_l_caught ["_law_value", "_law_other"] []
  F_law : Fun K "law" "law" s_law ad.law ad.fd_law
  ec_BadSchema : ExcC K ad.BadSchema
  ec_BadText : ExcC K ad.BadText
  ec_NoKind : ExcC K ad.NoKind
  ec_NoField : ExcC K ad.NoField
  ec_BadTag : ExcC K ad.BadTag
  ec_BadValue : ExcC K ad.BadValue
  ec_NoThing : ExcC K ad.NoThing
  ec_BadGraph : ExcC K ad.BadGraph
  ec_TooMany : ExcC K ad.TooMany
  ec_BadGuard : ExcC K ad.BadGuard
  ec_NoFlag : ExcC K ad.NoFlag
  ec_BadWalker : ExcC K ad.BadWalker
  ec_BadChange : ExcC K ad.BadChange
  ec_WrongSchema : ExcC K ad.WrongSchema
  ec_WrongStart : ExcC K ad.WrongStart
  ec_BadStart : ExcC K ad.BadStart
  ec_TooLong : ExcC K ad.TooLong
  ec_NotPossible : ExcC K ad.NotPossible
  ec_NoQuestion : ExcC K ad.NoQuestion
  ec_BadWish : ExcC K ad.BadWish
  ec_NoFamily : ExcC K ad.NoFamily
  ec_Refused : ExcC K ad.Refused
  ec_Endless : ExcC K ad.Endless
  g_WalkmarksError : mg "WalkmarksError" = some (.ref ad.WalkmarksError)
  g_Stopped : mg "Stopped" = some (.ref ad.Stopped)
  te_wish : PySem.W.exmOne K (.ref ad.BadWish) (.ref ad.WalkmarksError) = some true
  te_stop : PySem.W.exmOne K (.ref ad.Endless) (.ref ad.Stopped) = some true
  kM : (([ad.BadSchema, ad.BadText, ad.NoKind, ad.NoField, ad.BadTag, ad.BadValue, ad.NoThing, ad.BadGraph, ad.TooMany, ad.BadGuard, ad.NoFlag, ad.BadWalker, ad.BadChange, ad.WrongSchema, ad.WrongStart, ad.BadStart, ad.TooLong, ad.NotPossible, ad.NoQuestion, ad.BadWish, ad.NoFamily, ad.Refused, ad.Endless] : List Addr).map fun C => ([ad.BadSchema, ad.BadText, ad.NoKind, ad.NoField, ad.BadTag, ad.BadValue, ad.NoThing, ad.BadGraph, ad.TooMany, ad.BadGuard, ad.NoFlag, ad.BadWalker, ad.BadChange, ad.WrongSchema, ad.WrongStart, ad.BadStart, ad.TooLong, ad.NotPossible, ad.NoQuestion, ad.BadWish, ad.NoFamily, ad.Refused, ad.Endless] : List Addr).map fun D => PySem.W.kitOne K (.ref C) (.ref D)) = (List.range 23).map fun k => (List.range 23).map fun j => some (decide (j = k))
  kB : (([ad.BadSchema, ad.BadText, ad.NoKind, ad.NoField, ad.BadTag, ad.BadValue, ad.NoThing, ad.BadGraph, ad.TooMany, ad.BadGuard, ad.NoFlag, ad.BadWalker, ad.BadChange, ad.WrongSchema, ad.WrongStart, ad.BadStart, ad.TooLong, ad.NotPossible, ad.NoQuestion, ad.BadWish, ad.NoFamily, ad.Refused, ad.Endless] : List Addr).map fun C => [PySem.W.kitOne K (.ref C) (.ref ad.WalkmarksError), PySem.W.kitOne K (.ref C) (.type "ValueError"), PySem.W.kitOne K (.ref C) (.ref ad.Stopped), PySem.W.kitOne K (.ref C) (.type "RuntimeError")]) = (List.range 23).map fun k => [some (decide (k < 21)), some (decide (k < 21)), some (decide (21 ≤ k)), some (decide (21 ≤ k))]
def errs (ad : Ad) : List Addr := [ad.BadSchema, ad.BadText, ad.NoKind, ad.NoField, ad.BadTag, ad.BadValue, ad.NoThing, ad.BadGraph, ad.TooMany, ad.BadGuard, ad.NoFlag, ad.BadWalker, ad.BadChange, ad.WrongSchema, ad.WrongStart, ad.BadStart, ad.TooLong, ad.NotPossible, ad.NoQuestion, ad.BadWish, ad.NoFamily, ad.Refused, ad.Endless]
def spPl (K : PySem.W.Frag) : Sp := fun vs H Q _ => ∃ (p c : Addr), vs = [.ref p] ∧ PenAt H p c ∧ ∀ v H', PenStep p c H H' → PlainV K H' v → Q v H'
def spSame (K : PySem.W.Frag) : Sp := fun vs H Q _ => ∃ v, vs = [v, v] ∧ PlainV K H v ∧ Q (.bl true) H
/-- an error value of class C -/
def ErVal (H : Hp) (C a : Addr) : Prop := ∃ d, H a = some (ErO C d a) ∧ ∀ dd, d = some dd → ∃ fs, H dd = some (.xd fs)
theorem ErVal.same {H H' : Hp} {C a : Addr} (h : ErVal H C a) (s : Same H H') : ErVal H' C a := by
  obtain ⟨d, e, k⟩ := h
  exact ⟨d, s _ _ e, fun dd z => let ⟨fs, h⟩ := k dd z; ⟨fs, s _ _ h⟩⟩
def spMat (ad : Ad) : Sp := fun vs H Q _ => ∃ (a C : Addr) (k : Nat), vs = [.ref a] ∧ (errs ad)[k]? = some C ∧ ErVal H C a ∧ ∀ r H', Same H H' → H r = none → H' r = some (.lst ((List.range 23).map fun j => V.bl (decide (j = k)))) → Q (.ref r) H'
/-- an entry of the law's lists -/
def Item (K : PySem.W.Frag) (H : Hp) (C : Addr) (x : V) : Prop := ∃ (t e o u : Addr) (vals : List V), x = .ref t ∧ H t = some (.tup [.ref e, .ref o, .ref u]) ∧ ErVal H C e ∧ H o = some (.lst vals) ∧ H u = some (.lst vals) ∧ vals.length ≤ 2 ∧ ∀ v, v ∈ vals → PlainV K H v
theorem Item.same {K : PySem.W.Frag} {H H' : Hp} {C : Addr} {x : V} (h : Item K H C x) (s : Same H H') : Item K H' C x := by
  obtain ⟨t, e, o, u, vals, a, b, c, d, f, g, i⟩ := h
  exact ⟨t, e, o, u, vals, a, s _ _ b, c.same s, s _ _ d, s _ _ f, g, fun v hv => (i v hv).same s⟩
def spErrs (K : PySem.W.Frag) (ad : Ad) (lo n : Nat) : Sp := fun vs H Q _ => ∃ v w, vs = [v, w] ∧ PlainV K H v ∧ PlainV K H w ∧ ∀ r H' l, Same H H' → H r = none → H' r = some (.lst l) → l.length = n → (∀ (i : Nat) x C, l[i]? = some x → (errs ad)[lo + i]? = some C → Item K H' C x) → Q (.ref r) H'
def spStopsV (K : PySem.W.Frag) (ad : Ad) : Sp := fun vs H Q _ => ∃ v, vs = [v] ∧ PlainV K H v ∧ ∀ r H' l, Same H H' → H r = none → H' r = some (.lst l) → l.length = 2 → (∀ (i : Nat) x C, l[i]? = some x → (errs ad)[21 + i]? = some C → Item K H' C x) → Q (.ref r) H'
def spCaught (K : PySem.W.Frag) : Sp := fun vs H Q _ => ∃ v w, vs = [v, w] ∧ PlainV K H v ∧ PlainV K H w ∧ ∀ H', Same H H' → Q (.bl true) H'
theorem item_mk {K : PySem.W.Frag} {H : Hp} {C t e d o u : Addr} {fs : List (Str × V)} {vals : List V} (h : H t = some (.tup [.ref e, .ref o, .ref u])) (he : H e = some (ErO C (some d) e)) (hd : H d = some (.xd fs)) (ho : H o = some (.lst vals)) (hu : H u = some (.lst vals)) (hl : vals.length ≤ 2) (hv : ∀ v, v ∈ vals → PlainV K H v) : Item K H C (.ref t) :=
  ⟨t, e, o, u, vals, rfl, h, ⟨some d, he, fun dd z => ⟨fs, by cases z; exact hd⟩⟩, ho, hu, hl, hv⟩
theorem item_mk0 {K : PySem.W.Frag} {H : Hp} {C t e o u : Addr} (h : H t = some (.tup [.ref e, .ref o, .ref u])) (he : H e = some (ErO C none e)) (ho : H o = some (.lst [])) (hu : H u = some (.lst [])) : Item K H C (.ref t) :=
  ⟨t, e, o, u, [], rfl, h, ⟨none, he, fun dd z => by cases z⟩, ho, hu, by decide, fun v hv => by cases hv⟩
theorem one_plain {K : PySem.W.Frag} {H : Hp} {v : V} (h : PlainV K H v) : ∀ x, x ∈ [v] → PlainV K H x := fun x hx => by
  cases List.mem_singleton.mp hx
  exact h
theorem two_plain {K : PySem.W.Frag} {H : Hp} {v w : V} (h : PlainV K H v) (h' : PlainV K H w) : ∀ x, x ∈ [v, w] → PlainV K H x := fun x hx => by
  simp only [List.mem_cons, List.not_mem_nil, or_false] at hx
  rcases hx with rfl | rfl
  · exact h
  · exact h'
end Wm
local macro_rules | `(tactic| walk_at "w_ne") => `(tactic| first
  | with_reducible assumption
  | ((with_reducible refine' Ne.symm ?h1); (case h1 => with_reducible assumption))
  | ((with_reducible refine' L2.ne_of_none ?h1 ?h2); (case h2 => with_reducible assumption); (case h1 => walk_at "w_hp"))
  | ((with_reducible refine' Ne.symm (L2.ne_of_none ?h1 ?h2)); (case h2 => with_reducible assumption); (case h1 => walk_at "w_hp"))
  | exact L2.ne_of (by with_reducible assumption) (by with_reducible assumption) (by intro z; cases z)
  | fail "no way")
local macro_rules | `(tactic| walk_at "w_pen") => `(tactic| first
  | with_reducible assumption
  | ((with_reducible refine' Wm.PenStep.pen ?h1); (case h1 => with_reducible assumption))
  | ((with_reducible refine' Wm.PenAt.same ?h1 ?h2); (case h2 => ((with_reducible refine' Wm.same_new ?h9); (case h9 => with_reducible assumption))); (case h1 => walk_at "w_pen"))
  | ((with_reducible refine' Wm.PenAt.same ?h1 ?h2); (case h2 => with_reducible assumption); (case h1 => walk_at "w_pen"))
  | ((with_reducible refine' Wm.PenAt.put ?h1 ?h2); (case h2 => walk_at "w_pne"); (case h1 => walk_at "w_pen"))
  | fail "no way")
local macro_rules | `(tactic| walk_at "w_pne") => `(tactic| first
  | with_reducible assumption
  | ((with_reducible refine' Wm.PenAt.ne_new ?h1 ?h2); (case h2 => with_reducible assumption); (case h1 => walk_at "w_pen"))
  | ((with_reducible refine' Wm.PenAt.ne_new ?h1 ?h2); (case h1 => with_reducible assumption); (case h2 => walk_at "w_fr"))
  | fail "no way")
local macro_rules | `(tactic| walk_at "w_fr") => `(tactic| first
  | with_reducible assumption
  | ((with_reducible refine' Wm.PenStep.free ?h1 ?h2); (case h2 => with_reducible assumption); (case h1 => walk_at "w_step"))
  | fail "no way")
local macro_rules | `(tactic| walk_at "w_step") => `(tactic| first
  | with_reducible assumption
  | ((with_reducible refine' Wm.PenStep.refl ?h1); (case h1 => walk_at "w_pen"))
  | ((with_reducible refine' Wm.PenStep.same ?h1 ?h2); (case h2 => ((with_reducible refine' Wm.same_new ?h9); (case h9 => with_reducible assumption))); (case h1 => walk_at "w_step"))
  | ((with_reducible refine' Wm.PenStep.trans ?h1 ?h2); (case h2 => with_reducible assumption); (case h1 => walk_at "w_step"))
  | ((with_reducible refine' Wm.PenStep.same ?h1 ?h2); (case h2 => with_reducible assumption); (case h1 => walk_at "w_step"))
  | ((with_reducible refine' Wm.PenStep.put ?h1 ?h2 ?h3); (case h2 => walk_at "w_pen"); (case h3 => walk_at "w_fr"); (case h1 => walk_at "w_step"))
  | fail "no way")
local macro_rules | `(tactic| walk_at "w_frs") => `(tactic| first
  | with_reducible assumption
  | ((with_reducible refine' L2.Same.free ?h1 ?h2); (case h2 => with_reducible assumption); (case h1 => walk_at "w_same"))
  | fail "no way")
local macro_rules | `(tactic| walk_at "w_same") => `(tactic| first
  | with_reducible assumption
  | with_reducible exact L2.Same.refl _
  | ((with_reducible refine' Wm.same_put ?h1 ?h2); (case h2 => walk_at "w_frs"); (case h1 => walk_at "w_same"))
  | ((with_reducible refine' L2.Same.trans ?h1 ?h2); (case h2 => with_reducible assumption); (case h1 => walk_at "w_same"))
  | fail "no way")
local macro_rules | `(tactic| walk_at "w_hp") => `(tactic| first
  | with_reducible assumption
  | with_reducible exact L2.upd_same
  | ((with_reducible refine Eq.trans (L2.upd_ne ?_) ?_); (walk_at "w_ne"); (walk_at "w_hp"))
  | ((with_reducible refine' Wm.Same.at ?h1 ?h2); (case h1 => with_reducible assumption); (case h2 => walk_at "w_hp"))
  | ((with_reducible refine' Wm.PenStep.at ?h1 ?h2 ?h4 ?h3); (case h1 => with_reducible assumption); (case h2 => walk_at "w_pen"); (case h4 => walk_at "w_hp"); (case h3 => rfl))
  | ((with_reducible refine' Wm.PenStep.atd ?h1 ?h4 ?h3); (case h1 => with_reducible assumption); (case h4 => walk_at "w_hp"); (case h3 => walk_at "w_ne"))
  | fail "no way")
local macro_rules | `(tactic| walk_at "w_sz") => `(tactic| first
  | (rw [PySem.sizeLine_eq]; exact (by decide))
  | (rw [PySem.sizeLine_eq]; simp only [List.length_map, List.length_cons, List.length_nil, List.length_append, List.length_set] at *; omega)
  | exact Wm.sl6 _ _ _ _ _ _
  | fail "no way")
local macro_rules | `(tactic| walk_at "w_side") => `(tactic| first
  | rfl
  | assumption
  | omega
  | (refine ⟨?_, ?_⟩ <;> (walk_at "w_side"))
  | decide
  | fail "no way")
local macro_rules | `(tactic| walk_at "w_val") => `(tactic| first
  | exact Wm.pk_get_cells _ _ _ _ _ _ | exact Wm.pk_get_at _ _ _ _ _ _ | exact Wm.pk_get_rest _ _ _ _ _ _ | exact Wm.pk_get_digits _ _ _ _ _ _ | exact Wm.pk_get_mix _ _ _ _ _ _ | exact Wm.pk_get_turn _ _ _ _ _ _
  | rfl
  | fail "no way")
local macro_rules | `(tactic| walk_at "w_put") => `(tactic| first
  | exact Wm.pk_put_at _ _ _ _ _ _ _ | exact Wm.pk_put_rest _ _ _ _ _ _ _ | exact Wm.pk_put_digits _ _ _ _ _ _ _ | exact Wm.pk_put_mix _ _ _ _ _ _ _ | exact Wm.pk_put_turn _ _ _ _ _ _ _
  | rfl
  | fail "no way")
local macro_rules | `(tactic| walk_at "w_putf") => `(tactic| rfl)
local macro_rules | `(tactic| walk_at "w_d") => `(tactic| (refine Wm.r_dispE _ _ (by walk_at "w_hp") (by rfl) (by first | decide | simp) (by rfl) ?_))
local macro_rules | `(tactic| walk_at "w_s") => `(tactic| first
  | with_reducible refine L2.iteT ?_
  | with_reducible refine L2.iteF ?_
  | with_reducible refine Wm.iteNF ?_
  | with_reducible refine Wm.iteNT ?_
  | with_reducible refine Wm.r_seq ?_
  | with_reducible refine Wm.r_next ?_
  | with_reducible refine Wm.r_asg ?_
  | ((with_reducible refine' Wm.r_gname ?h1 ?_); (case h1 => (simp only [List.set_cons_succ, List.set_cons_zero]; rfl)))
  | with_reducible refine Wm.r_ret ?_
  | with_reducible refine Wm.r_drop ?_
  | with_reducible refine Wm.r_ifs ?_
  | ((with_reducible refine' Wm.r_var ?h1 ?_); (case h1 => rfl))
  | with_reducible refine Wm.r_c ?_
  | with_reducible refine Wm.r_op ?_
  | with_reducible refine Wm.r_i0 ?_
  | ((with_reducible refine' Wm.r_i ?h1 ?_); (case h1 => walk_at "w_arith"))
  | with_reducible refine Wm.r_eqi ?_
  | with_reducible refine Wm.r_eqs ?_
  | with_reducible refine Wm.r_eqb ?_
  | with_reducible refine Wm.r_nei ?_
  | with_reducible refine Wm.r_nes ?_
  | with_reducible refine Wm.r_neb ?_
  | with_reducible refine Wm.r_test ?_
  | with_reducible refine Wm.r_tb ?_
  | with_reducible refine Wm.r_bl ?_
  | with_reducible refine Wm.r_and ?_
  | with_reducible refine Wm.r_or ?_
  | with_reducible refine Wm.r_not ?_
  | with_reducible refine Wm.r_andV ?_
  | with_reducible refine Wm.r_orV ?_
  | with_reducible refine Wm.r_notV ?_
  | with_reducible refine Wm.r_if ?_
  | with_reducible refine Wm.r_nil ?_
  | with_reducible refine Wm.r_cons ?_
  | with_reducible refine Wm.r_cb ?_
  | with_reducible refine Wm.r_call ?_
  | with_reducible refine Wm.r_dget ?_
  | with_reducible refine Wm.r_dput ?_
  | with_reducible refine Wm.r_int1 ?_
  | with_reducible refine Wm.r_lst ?_
  | ((with_reducible refine' Wm.r_lstE ?h1 ?_); (case h1 => walk_at "w_sz"); (intro q H' nq sq eq))
  | ((with_reducible refine' Wm.r_tupE ?h1 ?_); (case h1 => walk_at "w_sz"); (intro q H' nq sq eq))
  | with_reducible refine Wm.r_tup ?_
  | with_reducible refine Wm.r_for ?_
  | with_reducible refine Wm.r_il ?_
  | with_reducible refine Wm.r_it ?_
  | with_reducible refine Wm.r_rng1 ?_
  | ((with_reducible refine Wm.r_disp ?_); (intro q H' nq sq eq))
  | with_reducible refine Wm.r_pc ?_
  | with_reducible refine Wm.r_pn ?_
  | with_reducible refine Wm.r_un ?_
  | ((with_reducible refine' Wm.r_cat ?h1 ?h2 ?h3 ?_); (case h1 => walk_at "w_hp"); (case h2 => walk_at "w_hp"); (case h3 => walk_at "w_sz"); (intro q H' nq sq eq))
  | with_reducible refine Wm.r_erV ?_
  | ((with_reducible refine' Wm.r_erVE ?h1 ?h2 ?h3 ?_); (case h1 => rfl); (case h2 => exact Nat.le_of_ble_eq_true rfl); (case h3 => (intro z; cases z)); (intro a d H' na sa ea ed))
  | ((with_reducible refine Wm.r_erVE0 ?_); (intro a H' na sa ea))
  | with_reducible refine Wm.r_erF ?_
  | ((with_reducible refine' Wm.r_erFK ?h1 ?h2 ?h3 ?h4 ?h5 ?_); (case h1 => walk_at "w_hp"); (case h4 => walk_at "w_hp"); (case h2 => assumption); (case h3 => assumption); (case h5 => rfl))
  | with_reducible refine Wm.r_slice ?_
  | with_reducible refine Wm.r_nopart ?_
  | with_reducible refine Wm.r_part ?_
  | with_reducible refine Wm.r_partI ?_
  | ((with_reducible refine' Wm.r_slL ?h1 ?_); (case h1 => walk_at "w_hp"); (intro q H' nq sq eq))
  | with_reducible refine Wm.r_meth ?_
  | with_reducible refine Wm.r_methT ?_
  | ((with_reducible refine' Wm.r_methK ?h1 ?h2 ?_); (case h1 => walk_at "w_hp"); (case h2 => rfl))
  | with_reducible refine Wm.r_lc ?_
  | ((with_reducible refine' Wm.r_addS ?h1 ?_); (case h1 => walk_at "w_sz"))
  | with_reducible refine Wm.r_cval ?_
  | ((with_reducible refine' Wm.r_cvalK ?h1 ?h2 ?_); (case h1 => assumption); (case h2 => assumption))
  | ((with_reducible refine' Wm.r_glst ?h1 ?h2 ?_); (case h1 => walk_at "w_hp"); (case h2 => rfl))
  | with_reducible refine Wm.r_makeKS ?_
  | with_reducible refine Wm.r_makeK ?_
  | with_reducible refine Wm.r_make ?_
  | with_reducible refine Wm.r_mkQ ?_
  | ((with_reducible refine' Wm.r_mkE ?h1 ?h2 ?_); (case h1 => rfl); (case h2 => rfl); (intro x dx H' nx sx ex))
  | ((with_reducible refine Wm.r_mk1E ?_); (intro x dx H' nx sx ex))
  | with_reducible refine Wm.r_xf ?_
  | ((with_reducible refine' Wm.r_xfK ?h1 ?h2 ?_); (case h1 => walk_at "w_hp"); (case h2 => rfl))
  | with_reducible refine Wm.r_raiseEr ?_
  | with_reducible refine Wm.r_erE0 ?_
  | ((with_reducible refine' Wm.r_erE ?h1 ?h2 ?h3 ?_); (case h1 => rfl); (case h2 => exact Nat.le_of_ble_eq_true rfl); (case h3 => (intro z; cases z)); (intro q H' nq sq eq))
  | with_reducible refine Wm.r_neg ?_
  | ((with_reducible refine Wm.r_dnew ?_); (intro q H' nq sq eq))
  | with_reducible refine Wm.r_fld ?_
  | with_reducible refine Wm.r_fldS ?_
  | with_reducible refine Wm.r_gsub ?_
  | with_reducible refine Wm.r_gcons ?_
  | with_reducible refine Wm.r_gnil ?_
  | with_reducible refine Wm.r_bm ?_
  | with_reducible refine Wm.r_bm0 ?_
  | ((with_reducible refine' Wm.r_fldK ?h1 ?h2 ?h3 ?h4 ?_); (case h1 => walk_at "w_hp"); (case h2 => assumption); (case h3 => assumption); (case h4 => rfl))
  | ((with_reducible refine' Wm.r_fldP ?h1 ?h2 ?h3 ?h4 ?h5 ?_); (case h1 => walk_at "w_hp"); (case h2 => assumption); (case h3 => assumption); (case h4 => exact Nat.le_of_ble_eq_true rfl); (case h5 => walk_at "w_putf"))
  | ((with_reducible refine' Wm.r_setL ?h1 ?h2 ?h3 ?_); (case h1 => walk_at "w_hp"); (case h2 => rfl); (case h3 => (simp only [Int.reduceToNat, Int.toNat_one, Int.toNat_zero, List.set_cons_succ, List.set_cons_zero]; rfl)))
  | ((with_reducible refine' Wm.r_gtupK ?h1 ?h2 ?_); (case h1 => walk_at "w_hp"); (case h2 => rfl))
  | ((with_reducible refine' Wm.r_tyLK ?h1 ?_); (case h1 => walk_at "w_hp"))
  | ((with_reducible refine' Wm.r_append ?h1 ?h2 ?_); (case h1 => walk_at "w_hp"); (case h2 => walk_at "w_sz"))
  | ((with_reducible refine' Wm.r_listLK ?h1 ?_); (case h1 => walk_at "w_hp"); (intro q H' nq sq eq))
  | ((with_reducible refine' Wm.r_ixLK ?h1 ?h2 ?_); (case h1 => walk_at "w_hp"); (case h2 => rfl))
  | ((with_reducible refine' Wm.r_dgetK ?h1 ?h2 ?_); (case h1 => walk_at "w_hp"); (case h2 => walk_at "w_val"))
  | ((with_reducible refine' Wm.r_dputU ?h1 ?h2 ?_); (case h1 => walk_at "w_put"); (case h2 => walk_at "w_sz"))
  | ((with_reducible refine' Wm.r_dputK ?h1 ?h2 ?h3 ?_); (case h1 => walk_at "w_hp"); (case h2 => walk_at "w_put"); (case h3 => walk_at "w_sz"))
  | ((with_reducible refine' Wm.r_lenK ?h1 ?_); (case h1 => walk_at "w_hp"))
  | fail "no way")
local macro_rules | `(tactic| walk_at "w_arith") => `(tactic| first
  | assumption
  | exact Wm.pow18
  | exact Wm.wide100 (by assumption) (by assumption)
  | omega
  | exact Or.inr ⟨by decide, by decide⟩
  | exact Or.inl ⟨by omega, by omega⟩
  | exact ⟨by decide, by decide⟩
  | exact ⟨by decide, by decide, by decide⟩
  | fail "no way")
local macro_rules | `(tactic| walk_at "w_go") => `(tactic| repeat walk_at "w_s")
local macro_rules | `(tactic| walk_at "w_br") => `(tactic| ((with_reducible refine Wm.ite_and (fun hbr => ?_) (fun hbr => ?_)) <;> (try simp only [decide_eq_true_eq, decide_eq_false_iff_not, Bool.not_eq_true', Bool.not_eq_false', bne_iff_ne, Bool.not_eq_true, Bool.not_eq_false] at hbr)))
local macro_rules | `(tactic| walk_at "w_leaf") => `(tactic| first
  | k_is
  | kit_is
  | ks_is
  | kx_is
  | rfl
  | decide +kernel
  | fail "no leaf")
local macro_rules | `(tactic| walk_at "w_rel") => `(tactic| first
  | exact ⟨_, rfl⟩
  | exact rfl
  | fail "no way")
local macro_rules | `(tactic| walk_at "w_vals") => `(tactic| (repeat (first | exact PySem.Paired.nil | refine PySem.Paired.cons ⟨_, rfl⟩ ?_ | refine PySem.Paired.cons rfl ?_)))
local macro_rules | `(tactic| walk_at "w_sp") => `(tactic| first
  | with_reducible refine L2.iteT ?_
  | with_reducible refine L2.iteF ?_
  | with_reducible refine Wm.iteNF ?_
  | with_reducible refine Wm.iteNT ?_
  | with_reducible refine Wm.r_seq ?_
  | with_reducible refine Wm.r_next ?_
  | with_reducible refine Wm.r_asg ?_
  | ((with_reducible refine' Wm.r_gname ?h1 ?_); (case h1 => (simp only [List.set_cons_succ, List.set_cons_zero]; rfl)))
  | with_reducible refine Wm.r_ret ?_
  | with_reducible refine Wm.r_drop ?_
  | with_reducible refine Wm.r_ifs ?_
  | ((with_reducible refine' Wm.r_var ?h1 ?_); (case h1 => rfl))
  | with_reducible refine Wm.r_c ?_
  | with_reducible refine Wm.r_op ?_
  | with_reducible refine Wm.r_i0 ?_
  | ((with_reducible refine' Wm.r_i ?h1 ?_); (case h1 => walk_at "w_arith"))
  | with_reducible refine Wm.r_eqi ?_
  | with_reducible refine Wm.r_eqs ?_
  | with_reducible refine Wm.r_eqb ?_
  | with_reducible refine Wm.r_nei ?_
  | with_reducible refine Wm.r_nes ?_
  | with_reducible refine Wm.r_neb ?_
  | with_reducible refine Wm.r_test ?_
  | with_reducible refine Wm.r_tb ?_
  | with_reducible refine Wm.r_bl ?_
  | with_reducible refine Wm.r_not ?_
  | with_reducible refine Wm.r_notV ?_
  | with_reducible refine Wm.r_if ?_
  | with_reducible refine Wm.r_nil ?_
  | with_reducible refine Wm.r_cons ?_
  | with_reducible refine Wm.r_cb ?_
  | with_reducible refine Wm.r_call ?_
  | with_reducible refine Wm.r_dget ?_
  | with_reducible refine Wm.r_dput ?_
  | with_reducible refine Wm.r_int1 ?_
  | with_reducible refine Wm.r_lst ?_
  | ((with_reducible refine' Wm.r_lstE ?h1 ?_); (case h1 => walk_at "w_sz"); (intro q H' nq sq eq))
  | ((with_reducible refine' Wm.r_tupE ?h1 ?_); (case h1 => walk_at "w_sz"); (intro q H' nq sq eq))
  | with_reducible refine Wm.r_tup ?_
  | with_reducible refine Wm.r_for ?_
  | with_reducible refine Wm.r_il ?_
  | with_reducible refine Wm.r_it ?_
  | with_reducible refine Wm.r_rng1 ?_
  | ((with_reducible refine Wm.r_disp ?_); (intro q H' nq sq eq))
  | with_reducible refine Wm.r_pc ?_
  | with_reducible refine Wm.r_pn ?_
  | with_reducible refine Wm.r_un ?_
  | ((with_reducible refine' Wm.r_cat ?h1 ?h2 ?h3 ?_); (case h1 => walk_at "w_hp"); (case h2 => walk_at "w_hp"); (case h3 => walk_at "w_sz"); (intro q H' nq sq eq))
  | with_reducible refine Wm.r_erV ?_
  | ((with_reducible refine' Wm.r_erVE ?h1 ?h2 ?h3 ?_); (case h1 => rfl); (case h2 => exact Nat.le_of_ble_eq_true rfl); (case h3 => (intro z; cases z)); (intro a d H' na sa ea ed))
  | ((with_reducible refine Wm.r_erVE0 ?_); (intro a H' na sa ea))
  | with_reducible refine Wm.r_erF ?_
  | ((with_reducible refine' Wm.r_erFK ?h1 ?h2 ?h3 ?h4 ?h5 ?_); (case h1 => walk_at "w_hp"); (case h4 => walk_at "w_hp"); (case h2 => assumption); (case h3 => assumption); (case h5 => rfl))
  | with_reducible refine Wm.r_slice ?_
  | with_reducible refine Wm.r_nopart ?_
  | with_reducible refine Wm.r_part ?_
  | with_reducible refine Wm.r_partI ?_
  | ((with_reducible refine' Wm.r_slL ?h1 ?_); (case h1 => walk_at "w_hp"); (intro q H' nq sq eq))
  | with_reducible refine Wm.r_meth ?_
  | with_reducible refine Wm.r_methT ?_
  | ((with_reducible refine' Wm.r_methK ?h1 ?h2 ?_); (case h1 => walk_at "w_hp"); (case h2 => rfl))
  | with_reducible refine Wm.r_lc ?_
  | ((with_reducible refine' Wm.r_addS ?h1 ?_); (case h1 => walk_at "w_sz"))
  | with_reducible refine Wm.r_cval ?_
  | ((with_reducible refine' Wm.r_cvalK ?h1 ?h2 ?_); (case h1 => assumption); (case h2 => assumption))
  | ((with_reducible refine' Wm.r_glst ?h1 ?h2 ?_); (case h1 => walk_at "w_hp"); (case h2 => rfl))
  | with_reducible refine Wm.r_makeKS ?_
  | with_reducible refine Wm.r_makeK ?_
  | with_reducible refine Wm.r_make ?_
  | with_reducible refine Wm.r_mkQ ?_
  | ((with_reducible refine' Wm.r_mkE ?h1 ?h2 ?_); (case h1 => rfl); (case h2 => rfl); (intro x dx H' nx sx ex))
  | ((with_reducible refine Wm.r_mk1E ?_); (intro x dx H' nx sx ex))
  | with_reducible refine Wm.r_xf ?_
  | ((with_reducible refine' Wm.r_xfK ?h1 ?h2 ?_); (case h1 => walk_at "w_hp"); (case h2 => rfl))
  | with_reducible refine Wm.r_raiseEr ?_
  | with_reducible refine Wm.r_erE0 ?_
  | ((with_reducible refine' Wm.r_erE ?h1 ?h2 ?h3 ?_); (case h1 => rfl); (case h2 => exact Nat.le_of_ble_eq_true rfl); (case h3 => (intro z; cases z)); (intro q H' nq sq eq))
  | with_reducible refine Wm.r_neg ?_
  | ((with_reducible refine Wm.r_dnew ?_); (intro q H' nq sq eq))
  | with_reducible refine Wm.r_fld ?_
  | with_reducible refine Wm.r_fldS ?_
  | with_reducible refine Wm.r_gsub ?_
  | with_reducible refine Wm.r_gcons ?_
  | with_reducible refine Wm.r_gnil ?_
  | with_reducible refine Wm.r_bm ?_
  | with_reducible refine Wm.r_bm0 ?_
  | ((with_reducible refine' Wm.r_fldK ?h1 ?h2 ?h3 ?h4 ?_); (case h1 => walk_at "w_hp"); (case h2 => assumption); (case h3 => assumption); (case h4 => rfl))
  | ((with_reducible refine' Wm.r_fldP ?h1 ?h2 ?h3 ?h4 ?h5 ?_); (case h1 => walk_at "w_hp"); (case h2 => assumption); (case h3 => assumption); (case h4 => exact Nat.le_of_ble_eq_true rfl); (case h5 => walk_at "w_putf"))
  | ((with_reducible refine' Wm.r_setL ?h1 ?h2 ?h3 ?_); (case h1 => walk_at "w_hp"); (case h2 => rfl); (case h3 => (simp only [Int.reduceToNat, Int.toNat_one, Int.toNat_zero, List.set_cons_succ, List.set_cons_zero]; rfl)))
  | ((with_reducible refine' Wm.r_gtupK ?h1 ?h2 ?_); (case h1 => walk_at "w_hp"); (case h2 => rfl))
  | ((with_reducible refine' Wm.r_tyLK ?h1 ?_); (case h1 => walk_at "w_hp"))
  | ((with_reducible refine' Wm.r_append ?h1 ?h2 ?_); (case h1 => walk_at "w_hp"); (case h2 => walk_at "w_sz"))
  | ((with_reducible refine' Wm.r_listLK ?h1 ?_); (case h1 => walk_at "w_hp"); (intro q H' nq sq eq))
  | ((with_reducible refine' Wm.r_ixLK ?h1 ?h2 ?_); (case h1 => walk_at "w_hp"); (case h2 => rfl))
  | ((with_reducible refine' Wm.r_dgetK ?h1 ?h2 ?_); (case h1 => walk_at "w_hp"); (case h2 => walk_at "w_val"))
  | ((with_reducible refine' Wm.r_dputU ?h1 ?h2 ?_); (case h1 => walk_at "w_put"); (case h2 => walk_at "w_sz"))
  | ((with_reducible refine' Wm.r_dputK ?h1 ?h2 ?h3 ?_); (case h1 => walk_at "w_hp"); (case h2 => walk_at "w_put"); (case h3 => walk_at "w_sz"))
  | ((with_reducible refine' Wm.r_lenK ?h1 ?_); (case h1 => walk_at "w_hp"))
  | fail "no way")
local macro_rules | `(tactic| walk_at "w_gp") => `(tactic| repeat walk_at "w_sp")
local macro_rules | `(tactic| walk_at "w_big") => `(tactic| first
  | kernel_rfl
  | rfl
  | fail "no leaf")
namespace Wm
open PySem L2

section
variable {P : Program} {w : World} {K : PySem.W.Frag} {mg : Str → Option Value} {base : Heap} {ad : Ad}
theorem ok_l_take (T : Txt P K mg ad) : FnOk P w K mg base (L2.CX P w) 2 ad.l_take ad.fd_l_take ["_law_pen_here", "_law_bound"] spTake := by
  refine T.F_l_take.okX sc_l_take (fun vs H Q E h => ?_) (fun cdv A outer s H vs Q E hr h => ?_)
  · obtain ⟨p, c, b, rfl, _⟩ := h
    rfl
  obtain ⟨p, c, b, rfl, ⟨ns, a, r, g, m, t, hp, hc, ha, hm, hm2⟩, hb, hb2, k⟩ := h
  have hcp : c ≠ p := ne_of hc hp (by intro z; cases z)
  refine ⟨_, (pss_cons (ps_dput (hu_of hr) (pv 0) pe_str (pe_op op_add (pe_dget (hu_of hr) (pv 0) pe_str (fun _ _ => rfl)) pe_int) rfl)
    (pss_cons (ps_if (PW.pt (pw_and (pt_cmpR op_eq (pe_dget (hu_of hr) (pv 0) pe_str (fun _ _ => rfl)) pe_int (nomark _)) (pw_and1 (pt_cmpR op_lt (pe_dget (hu_of hr) (pv 0) pe_str (fun _ _ => rfl)) (pe_callB c_len (by rfl) T.n_len PySem.boot_len (pa_cons (pe_dget (hu_of hr) (pv 0) pe_str (fun _ _ => rfl)) pa_nil)) (nomark _))))) (pss_cons (ps_set (i := 2) sc_l_take.nd rfl (Or.inl rfl) (pe_ix ix_list (pe_dget (hu_of hr) (pv 0) pe_str (fun _ _ => rfl)) (pe_dget (hu_of hr) (pv 0) pe_str (fun _ _ => rfl)) (fun _ _ => rfl)))
    (pss_cons (ps_dput (hu_of hr) (pv 0) pe_str (pe_op op_add (pe_dget (hu_of hr) (pv 0) pe_str (fun _ _ => rfl)) pe_int) rfl)
    (pss_cons (ps_if (pt_cmpR op_lt (pv 2) (pe_op op_pow pe_int pe_int) (nomark _)) (pss_cons (ps_set (i := 3) sc_l_take.nd rfl (Or.inl rfl) (pe_op op_mod (pe_callTy c_int1 (by rfl) T.n_int (by decide +kernel) (pa_cons (pv 2) pa_nil)) pe_int))
    (pss_cons (ps_set (i := 3) sc_l_take.nd rfl (Or.inl rfl) (pe_op op_mod (pe_callTy c_int1 (by rfl) T.n_int (by decide +kernel) (pa_cons (pe_op op_add (pe_op op_add (pe_op op_mul (pv 3) pe_int) (pe_dget (hu_of hr) (pv 0) pe_str (fun _ _ => rfl))) (pe_op op_mul (pe_dget (hu_of hr) (pv 0) pe_str (fun _ _ => rfl)) pe_int)) pa_nil)) pe_int))
    (pss_cons (ps_dput (hu_of hr) (pv 0) pe_str (pe_op op_mod (pe_callTy c_int1 (by rfl) T.n_int (by decide +kernel) (pa_cons (pe_op op_add (pe_op op_add (pe_op op_mul (pe_dget (hu_of hr) (pv 0) pe_str (fun _ _ => rfl)) pe_int) (pv 3)) pe_int) pa_nil)) pe_int) rfl)
    (pss_one (ps_ret (pe_op op_mod (pe_op op_fdiv (pe_op op_mod (pe_callTy c_int1 (by rfl) T.n_int (by decide +kernel) (pa_cons (pe_op op_add (pe_op op_mul (pv 3) (pv 3)) (pe_dget (hu_of hr) (pv 0) pe_str (fun _ _ => rfl))) pa_nil)) pe_int) pe_int) (pv 1))))))) pss_nil)
    (pss_cons (ps_dput (hu_of hr) (pv 0) pe_str (pe_op op_sub (pv 2) (pe_op op_pow pe_int pe_int)) rfl)
    (pss_one (ps_dput (hu_of hr) (pv 0) pe_str pe_int rfl)))))) pss_nil)
    (pss_cons (ps_if (pt_cmpR op_gt (pe_dget (hu_of hr) (pv 0) pe_str (fun _ _ => rfl)) pe_int (nomark _)) (pss_cons (ps_dput (hu_of hr) (pv 0) pe_str (pe_op op_sub (pe_dget (hu_of hr) (pv 0) pe_str (fun _ _ => rfl)) pe_int) rfl)
    (pss_cons (ps_set (i := 4) sc_l_take.nd rfl (Or.inl rfl) (pe_op op_mod (pe_callTy c_int1 (by rfl) T.n_int (by decide +kernel) (pa_cons (pe_dget (hu_of hr) (pv 0) pe_str (fun _ _ => rfl)) pa_nil)) (pv 1)))
    (pss_cons (ps_dput (hu_of hr) (pv 0) pe_str (pe_op op_fdivW (pe_dget (hu_of hr) (pv 0) pe_str (fun _ _ => rfl)) (pv 1)) rfl)
    (pss_one (ps_ret (pv 4)))))) pss_nil)
    (pss_cons (ps_dput (hu_of hr) (pv 0) pe_str (pe_op op_mod (pe_callTy c_int1 (by rfl) T.n_int (by decide +kernel) (pa_cons (pe_op op_add (pe_op op_add (pe_op op_mul (pe_dget (hu_of hr) (pv 0) pe_str (fun _ _ => rfl)) pe_int) (pe_op op_mul (pe_dget (hu_of hr) (pv 0) pe_str (fun _ _ => rfl)) pe_int)) pe_int) pa_nil)) pe_int) rfl)
    (pss_one (ps_ret (pe_op op_mod (pe_op op_fdiv (pe_op op_mod (pe_callTy c_int1 (by rfl) T.n_int (by decide +kernel) (pa_cons (pe_op op_add (pe_op op_mul (pe_dget (hu_of hr) (pv 0) pe_str (fun _ _ => rfl)) (pe_dget (hu_of hr) (pv 0) pe_str (fun _ _ => rfl))) (pe_dget (hu_of hr) (pv 0) pe_str (fun _ _ => rfl))) pa_nil)) pe_int) pe_int) (pv 1)))))))), ?_⟩
  rw [show L2.start ["_law_pen_here", "_law_bound", "_law_cell", "_law_mixed", "_law_digit"] [V.ref p, V.int b] = [some (V.ref p), some (V.int b), none, none, none] from rfl]
  have fin : ∀ (x a r g m t : Int), 0 ≤ a → 0 ≤ m → m < 2147483648 → Q (.int (x % b)) (upd H p (.dK (pk c a r g m t))) := fun x a r g m t h1 h2 h3 => k _ _ (Int.emod_nonneg _ (by omega)) (Int.emod_lt_of_pos _ hb) (pen_put hc hcp h1 h2 h3)
  have h1 : ∀ x : Int, 0 ≤ x % 2147483629 ∧ x % 2147483629 < 2147483629 := fun x => by omega
  have h2 : ∀ x : Int, 0 ≤ x % 2147483647 ∧ x % 2147483647 < 2147483647 := fun x => by omega
  walk_at "w_go"
  walk_at "w_br"
  · walk_at "w_go"
    walk_at "w_br"
    · walk_at "w_go"
      obtain ⟨z, _, hz⟩ := at_int ha (by assumption)
      refine r_ixL (SqL.of (by walk_at "w_hp")) hz ?_
      walk_at "w_go"
      walk_at "w_br"
      · walk_at "w_go"
        exact fin _ _ _ _ _ _ (by omega) (by omega) (by omega)
      · walk_at "w_go"
        walk_at "w_br"
        · walk_at "w_go"
          exact fin _ _ _ _ _ _ (by omega) (by omega) (by omega)
        · omega
    · walk_at "w_go"
      walk_at "w_br"
      · omega
      · walk_at "w_go"
        exact fin _ _ _ _ _ _ (by omega) (by omega) (by omega)
  · walk_at "w_go"
    walk_at "w_br"
    · walk_at "w_go"
      exact fin _ _ _ _ _ _ (by omega) (by omega) (by omega)
    · walk_at "w_go"
      exact fin _ _ _ _ _ _ (by omega) (by omega) (by omega)
theorem ok_l_pen (T : Txt P K mg ad) : FnOk P w K mg base (L2.CX P w) 2 ad.l_pen ad.fd_l_pen ["_law_script"] (spPen K) := by
  refine T.F_l_pen.okX sc_l_pen (fun vs H Q E h => ?_) (fun cdv A outer s H vs Q E hr h => ?_)
  · obtain ⟨a, ns, rfl, _⟩ := h
    rfl
  obtain ⟨a, ns, rfl, hS, k⟩ := h
  refine ⟨_, (pss_cons (ps_set (i := 1) sc_l_pen.nd rfl (Or.inl rfl) pe_int)
    (pss_cons (ps_for (passes_of rfl) rfl (pi_list (pv 0)) (pg_name (i := 2) sc_l_pen.nd rfl (Or.inl rfl)) (pss_one (ps_set (i := 1) sc_l_pen.nd rfl (Or.inl rfl) (pe_op op_mod (pe_callTy c_int1 (by rfl) T.n_int (by decide +kernel) (pa_cons (pe_op op_add (pe_op op_mul (pv 1) pe_int) (pv 2)) pa_nil)) pe_int))))
    (pss_one (ps_ret (pe_disp (pps_cons pe_str (pe_callTy c_list (by rfl) T.n_list (by decide +kernel) (pa_cons (pv 0) pa_nil)) (pps_cons pe_str pe_int (pps_cons pe_str pe_int (pps_cons pe_str pe_int (pps_cons pe_str (pv 1) (pps_cons pe_str pe_int pps_nil)))))) (by rfl) (by rfl) (fun z => by cases z) (by decide)))))), ?_⟩
  rw [show L2.start ["_law_script", "_law_total", "_law_cell"] [V.ref a] = [some (V.ref a), none, none] from rfl]
  walk_at "w_go"
  refine r_ilK hS (for_list (K := K) (a := a) (xs := ns.map V.int) (fun i σ H' => H' = H ∧ ∃ (t : Int) (v : Option V), σ = [some (.ref a), some (.int t), v] ∧ 0 ≤ t ∧ t < 2147483629) ⟨rfl, 17, none, rfl, by decide, by decide⟩ ?_ ?_ ?_)
  · rintro i σ H' _ ⟨rfl, _⟩
    exact hS
  · rintro i x σ H' hi ⟨rfl, t, v, rfl, h0, h1⟩
    obtain ⟨z, rfl⟩ : ∃ z, x = V.int z := by
      rw [List.getElem?_map] at hi
      cases e : ns[i]? with
      | none => rw [e] at hi; cases hi
      | some u => rw [e] at hi; exact ⟨u, (Option.some.inj hi).symm⟩
    walk_at "w_go"
    exact ⟨rfl, _, _, rfl, by omega, by omega⟩
  · rintro σ H' ⟨rfl, t, v, rfl, h0, h1⟩
    walk_at "w_go"
    rename_i q H1 nq sq eq
    refine r_listL (Same.seq sq hS) (fun c nc => ?_)
    walk_at "w_go"
    refine r_dispE [(.inr "cells", .ref c), (.inr "at", .int 0), (.inr "rest", .int 0), (.inr "digits", .int 0), (.inr "mix", .int t), (.inr "turn", .int 0)] (pk c 0 0 0 t 0) (by walk_at "w_hp") rfl (by simp) rfl ?_
    have ncq : c ≠ q := (ne_of_none eq nc).symm
    refine k q c _ ⟨ns, 0, 0, 0, t, 0, upd_same, by rw [upd_ne ncq]; exact upd_same, by decide, h0, by omega⟩ ?_ nq
    exact same_put (Same.trans sq (same_new nc)) nq
end
end Wm
namespace Wm
open PySem L2

section
variable {P : Program} {w : World} {K : PySem.W.Frag} {mg : Str → Option Value} {base : Heap} {ad : Ad}
theorem ok_l_same (T : Txt P K mg ad) : FnOk P w K mg base (L2.CX P w) 2 ad.l_same ad.fd_l_same ["_law_one", "_law_other"] (spSame K) := by
  refine T.F_l_same.okX sc_l_same (fun vs H Q E h => ?_) (fun cdv A outer s H vs Q E hr h => ?_)
  · obtain ⟨v, rfl, _⟩ := h
    rfl
  obtain ⟨v, rfl, hv, k⟩ := h
  obtain ⟨d, hd, hp, hz⟩ := hv.dat
  obtain ⟨t, b, i1, i2⟩ := hv.isb
  obtain ⟨t', b', i1', i2'⟩ := hv.ist
  refine ⟨_, (pss_cons (ps_if (PW.pt (pw_or (pt_cmpR op_ne (pe_callB call_isi (by rfl) T.n_isinstance (by decide +kernel) (pa_cons (pv 0) (pa_cons (pe_bltn (v := .ty "bool") (by rfl) T.n_bool (by decide +kernel) rfl) pa_nil))) (pe_callB call_isi (by rfl) T.n_isinstance (by decide +kernel) (pa_cons (pv 1) (pa_cons (pe_bltn (v := .ty "bool") (by rfl) T.n_bool (by decide +kernel) rfl) pa_nil))) (nomark _)) (pw_or1 (pt_cmpR op_ne (pe_callB call_isi (by rfl) T.n_isinstance (by decide +kernel) (pa_cons (pv 0) (pa_cons (pe_bltn (v := .ty "tuple") (by rfl) T.n_tuple (by decide +kernel) rfl) pa_nil))) (pe_callB call_isi (by rfl) T.n_isinstance (by decide +kernel) (pa_cons (pv 1) (pa_cons (pe_bltn (v := .ty "tuple") (by rfl) T.n_tuple (by decide +kernel) rfl) pa_nil))) (nomark _))))) (pss_one (ps_ret pe_bl)) pss_nil)
    (pss_one (ps_ret (pe_cmpR (op_eqP hr.units) (pv 0) (pv 1) (nomark _))))), ?_⟩
  rw [show L2.start ["_law_one", "_law_other"] [v, v] = [some (v), some (v)] from rfl]
  walk_at "w_gp"
  refine r_or2 (c := false) (d := false) (fun R h => ?_) (fun R h => ?_) ?_
  · walk_at "w_go"
    refine r_isi i1 i2 ?_
    walk_at "w_go"
    refine r_isi i1 i2 ?_
    refine r_nebE rfl ?_
    exact ⟨_, rfl, h⟩
  · walk_at "w_go"
    refine r_isi i1' i2' ?_
    walk_at "w_go"
    refine r_isi i1' i2' ?_
    refine r_nebE rfl ?_
    exact ⟨_, rfl, h⟩
  refine L2.iteF ?_
  walk_at "w_go"
  refine ⟨d, d, hd, hd, hp, hp, hz, ?_⟩
  rw [SeqAt.eqv_refl_plain d hp]
  walk_at "w_go"
  exact k
theorem ok_l_plain (T : Txt P K mg ad) : FnOk P w K mg base (L2.CX P w) 3 ad.l_plain ad.fd_l_plain ["_law_pen_here"] (spPl K) := by
  refine T.F_l_plain.okX sc_l_plain (fun vs H Q E h => ?_) (fun cdv A outer s H vs Q E hr h => ?_)
  · obtain ⟨p, c, rfl, _⟩ := h
    rfl
  obtain ⟨p, c, rfl, hp, k⟩ := h
  refine ⟨_, (pss_cons (ps_set (i := 1) sc_l_plain.nd rfl (Or.inl rfl) (pe_op op_add (pe_op op_mul (pe_call (ok_l_take T) hr rfl T.g_l_take T.F_l_take.kp T.b_l_take .nil passL (pa_cons (pv 0) (pa_cons (pe_op op_pow pe_int pe_int) pa_nil))) (pe_op op_pow pe_int pe_int)) (pe_call (ok_l_take T) hr rfl T.g_l_take T.F_l_take.kp T.b_l_take .nil passL (pa_cons (pv 0) (pa_cons (pe_op op_pow pe_int pe_int) pa_nil)))))
    (pss_cons (ps_set (i := 2) sc_l_plain.nd rfl (Or.inl rfl) (pe_lst (pa_cons (pv 1) (pa_cons (pe_un un_neg (pv 1)) (pa_cons (pe_callTy c_strI (by rfl) T.n_str (by decide +kernel) (pa_cons (pv 1) pa_nil)) (pa_cons (pe_tup (pa_cons (pv 1) (pa_cons pe_str pa_nil))) (pa_cons (pe_lst (pa_cons (pv 1) pa_nil)) (pa_cons pe_non (pa_cons pe_bl (pa_cons (pe_tup pa_nil) pa_nil))))))))))
    (pss_one (ps_ret (pe_ix ix_list (pv 2) (pe_call (ok_l_take T) hr rfl T.g_l_take T.F_l_take.kp T.b_l_take .nil passL (pa_cons (pv 0) (pa_cons pe_int pa_nil))) (fun _ _ => rfl)))))), ?_⟩
  rw [show L2.start ["_law_pen_here", "_law_number", "_law_menu"] [V.ref p] = [some (V.ref p), none, none] from rfl]
  walk_at "w_go"
  refine r_take (by walk_at "w_pen") (by decide) (by decide) (fun r H1 h0 h1 s1 => ?_)
  walk_at "w_go"
  refine r_take (by walk_at "w_pen") (by decide) (by decide) (fun r' H2 h0' h1' s2 => ?_)
  have hB : (10 : Int) ^ Int.toNat 15 = 1000000000000000 := by decide
  rw [hB] at h1 h1'
  walk_at "w_go"
  have hn : 0 ≤ r * 10 ^ Int.toNat 15 + r' ∧ r * 10 ^ Int.toNat 15 + r' < 1000000000000000000000000000000 := by
    rw [hB]
    omega
  generalize r * 10 ^ Int.toNat 15 + r' = n at hn ⊢
  walk_at "w_go"
  have hlog : n.natAbs.log2 < 1920 := by
    rcases Nat.eq_zero_or_pos n.natAbs with z | z
    · rw [z]
      decide
    · refine (Nat.log2_lt (by omega)).mpr ?_
      refine Nat.lt_of_lt_of_le (show n.natAbs < 2 ^ 100 by omega) (Nat.pow_le_pow_right (by decide) (by decide))
  refine r_strI hlog ?_
  walk_at "w_go"
  rename_i t1 G1 n1 u1 e1 t2 G2 n2 u2 e2 t3 G3 n3 u3 e3 t4 G4 n4 u4 e4
  refine r_take (by walk_at "w_pen") (by decide) (by decide) (fun z H3 z0 z1 s3 => ?_)
  walk_at "w_go"
  have f1 : H3 t1 = some (.tup [.int n, .str "x"]) := by walk_at "w_hp"
  have f2 : H3 t2 = some (.lst [.int n]) := by walk_at "w_hp"
  have f3 : H3 t3 = some (.tup []) := by walk_at "w_hp"
  refine r_anyIx (by walk_at "w_hp") z0 z1 (by rfl) (fun v hv => k _ _ (by walk_at "w_step") ?_)
  simp only [List.mem_cons, List.not_mem_nil, or_false] at hv
  rcases hv with rfl | rfl | rfl | rfl | rfl | rfl | rfl | rfl
  · exact plain_lit (.int _) rfl (by simp [PyData.depth]) trivial
  · exact plain_lit (.int _) rfl (by simp [PyData.depth]) trivial
  · exact plain_lit (.str _) rfl (by simp [PyData.depth]) trivial
  · exact plain_lit (.tup (SqT.of f1) (.cons (.int _) (.cons (.str _) .nil))) rfl (by simp [PyData.depth, PyData.depthAll]) (.inr ⟨_, f1⟩)
  · exact plain_lit (.lst (SqL.of f2) (.cons (.int _) .nil)) rfl (by simp [PyData.depth, PyData.depthAll]) (.inl ⟨_, f2⟩)
  · exact plain_lit .non rfl (by simp [PyData.depth]) trivial
  · exact plain_lit (.bl _) rfl (by simp [PyData.depth]) trivial
  · exact plain_lit (.tup (SqT.of f3) .nil) rfl (by simp [PyData.depth, PyData.depthAll]) (.inr ⟨_, f3⟩)
end
end Wm
namespace Wm
open PySem L2

section
variable {P : Program} {w : World} {K : PySem.W.Frag} {mg : Str → Option Value} {base : Heap} {ad : Ad}
theorem kit_at (T : Txt P K mg ad) {k j : Nat} {C D : Addr} (hk : (errs ad)[k]? = some C) (hj : (errs ad)[j]? = some D) : PySem.W.kitOne K (.ref C) (.ref D) = some (decide (j = k)) := by
  have h : ((errs ad).map fun C => (errs ad).map fun D => PySem.W.kitOne K (.ref C) (.ref D)) = (List.range 23).map fun k => (List.range 23).map fun j => some (decide (j = k)) := T.kM
  have hk' : k < 23 := by
    rcases Nat.lt_or_ge k 23 with z | z
    · exact z
    · rw [List.getElem?_eq_none (by exact z)] at hk
      cases hk
  have hj' : j < 23 := by
    rcases Nat.lt_or_ge j 23 with z | z
    · exact z
    · rw [List.getElem?_eq_none (by exact z)] at hj
      cases hj
  have h1 := congrArg (fun l => l[k]?) h
  simp only [List.getElem?_map, hk, List.getElem?_range hk', Option.map_some] at h1
  have h2 := congrArg (fun l => l[j]?) (Option.some.inj h1)
  simp only [List.getElem?_map, hj, List.getElem?_range hj', Option.map_some] at h2
  exact Option.some.inj h2
theorem exc_at (T : Txt P K mg ad) {k : Nat} {C : Addr} (hk : (errs ad)[k]? = some C) : ExcC K C := by
  have h : ∀ C, C ∈ errs ad → ExcC K C := by
    intro C hC
    unfold errs at hC
    simp only [List.mem_cons, List.not_mem_nil, or_false] at hC
    rcases hC with rfl | rfl | rfl | rfl | rfl | rfl | rfl | rfl | rfl | rfl | rfl | rfl | rfl | rfl | rfl | rfl | rfl | rfl | rfl | rfl | rfl | rfl | rfl
    · exact T.ec_BadSchema
    · exact T.ec_BadText
    · exact T.ec_NoKind
    · exact T.ec_NoField
    · exact T.ec_BadTag
    · exact T.ec_BadValue
    · exact T.ec_NoThing
    · exact T.ec_BadGraph
    · exact T.ec_TooMany
    · exact T.ec_BadGuard
    · exact T.ec_NoFlag
    · exact T.ec_BadWalker
    · exact T.ec_BadChange
    · exact T.ec_WrongSchema
    · exact T.ec_WrongStart
    · exact T.ec_BadStart
    · exact T.ec_TooLong
    · exact T.ec_NotPossible
    · exact T.ec_NoQuestion
    · exact T.ec_BadWish
    · exact T.ec_NoFamily
    · exact T.ec_Refused
    · exact T.ec_Endless
  exact h C (List.mem_of_getElem? hk)
theorem ok_l_matches (T : Txt P K mg ad) : FnOk P w K mg base (L2.CX P w) 2 ad.l_matches ad.fd_l_matches ["_law_error"] (spMat ad) := by
  refine T.F_l_matches.okX sc_l_matches (fun vs H Q E h => ?_) (fun cdv A outer s H vs Q E hr h => ?_)
  · obtain ⟨a, C, k, rfl, _⟩ := h
    rfl
  obtain ⟨a, C, kk, rfl, hC, ⟨d, hd, hx⟩, k⟩ := h
  refine ⟨_, (pss_cons (ps_set (i := 1) sc_l_matches.nd rfl (Or.inl rfl) (pe_lst (pa_cons (pe_callB call_isV (by rfl) T.n_isinstance (by decide +kernel) (pa_cons (pv 0) (pa_cons (pe_glob (v := .ref ad.BadSchema) rfl T.g_BadSchema rfl) pa_nil))) (pa_cons (pe_callB call_isV (by rfl) T.n_isinstance (by decide +kernel) (pa_cons (pv 0) (pa_cons (pe_glob (v := .ref ad.BadText) rfl T.g_BadText rfl) pa_nil))) (pa_cons (pe_callB call_isV (by rfl) T.n_isinstance (by decide +kernel) (pa_cons (pv 0) (pa_cons (pe_glob (v := .ref ad.NoKind) rfl T.g_NoKind rfl) pa_nil))) pa_nil)))))
    (pss_cons (ps_set (i := 1) sc_l_matches.nd rfl (Or.inl rfl) (pe_op op_cat (pv 1) (pe_lst (pa_cons (pe_callB call_isV (by rfl) T.n_isinstance (by decide +kernel) (pa_cons (pv 0) (pa_cons (pe_glob (v := .ref ad.NoField) rfl T.g_NoField rfl) pa_nil))) (pa_cons (pe_callB call_isV (by rfl) T.n_isinstance (by decide +kernel) (pa_cons (pv 0) (pa_cons (pe_glob (v := .ref ad.BadTag) rfl T.g_BadTag rfl) pa_nil))) (pa_cons (pe_callB call_isV (by rfl) T.n_isinstance (by decide +kernel) (pa_cons (pv 0) (pa_cons (pe_glob (v := .ref ad.BadValue) rfl T.g_BadValue rfl) pa_nil))) pa_nil))))))
    (pss_cons (ps_set (i := 1) sc_l_matches.nd rfl (Or.inl rfl) (pe_op op_cat (pv 1) (pe_lst (pa_cons (pe_callB call_isV (by rfl) T.n_isinstance (by decide +kernel) (pa_cons (pv 0) (pa_cons (pe_glob (v := .ref ad.NoThing) rfl T.g_NoThing rfl) pa_nil))) (pa_cons (pe_callB call_isV (by rfl) T.n_isinstance (by decide +kernel) (pa_cons (pv 0) (pa_cons (pe_glob (v := .ref ad.BadGraph) rfl T.g_BadGraph rfl) pa_nil))) (pa_cons (pe_callB call_isV (by rfl) T.n_isinstance (by decide +kernel) (pa_cons (pv 0) (pa_cons (pe_glob (v := .ref ad.TooMany) rfl T.g_TooMany rfl) pa_nil))) pa_nil))))))
    (pss_cons (ps_set (i := 1) sc_l_matches.nd rfl (Or.inl rfl) (pe_op op_cat (pv 1) (pe_lst (pa_cons (pe_callB call_isV (by rfl) T.n_isinstance (by decide +kernel) (pa_cons (pv 0) (pa_cons (pe_glob (v := .ref ad.BadGuard) rfl T.g_BadGuard rfl) pa_nil))) (pa_cons (pe_callB call_isV (by rfl) T.n_isinstance (by decide +kernel) (pa_cons (pv 0) (pa_cons (pe_glob (v := .ref ad.NoFlag) rfl T.g_NoFlag rfl) pa_nil))) (pa_cons (pe_callB call_isV (by rfl) T.n_isinstance (by decide +kernel) (pa_cons (pv 0) (pa_cons (pe_glob (v := .ref ad.BadWalker) rfl T.g_BadWalker rfl) pa_nil))) pa_nil))))))
    (pss_cons (ps_set (i := 1) sc_l_matches.nd rfl (Or.inl rfl) (pe_op op_cat (pv 1) (pe_lst (pa_cons (pe_callB call_isV (by rfl) T.n_isinstance (by decide +kernel) (pa_cons (pv 0) (pa_cons (pe_glob (v := .ref ad.BadChange) rfl T.g_BadChange rfl) pa_nil))) (pa_cons (pe_callB call_isV (by rfl) T.n_isinstance (by decide +kernel) (pa_cons (pv 0) (pa_cons (pe_glob (v := .ref ad.WrongSchema) rfl T.g_WrongSchema rfl) pa_nil))) (pa_cons (pe_callB call_isV (by rfl) T.n_isinstance (by decide +kernel) (pa_cons (pv 0) (pa_cons (pe_glob (v := .ref ad.WrongStart) rfl T.g_WrongStart rfl) pa_nil))) pa_nil))))))
    (pss_cons (ps_set (i := 1) sc_l_matches.nd rfl (Or.inl rfl) (pe_op op_cat (pv 1) (pe_lst (pa_cons (pe_callB call_isV (by rfl) T.n_isinstance (by decide +kernel) (pa_cons (pv 0) (pa_cons (pe_glob (v := .ref ad.BadStart) rfl T.g_BadStart rfl) pa_nil))) (pa_cons (pe_callB call_isV (by rfl) T.n_isinstance (by decide +kernel) (pa_cons (pv 0) (pa_cons (pe_glob (v := .ref ad.TooLong) rfl T.g_TooLong rfl) pa_nil))) (pa_cons (pe_callB call_isV (by rfl) T.n_isinstance (by decide +kernel) (pa_cons (pv 0) (pa_cons (pe_glob (v := .ref ad.NotPossible) rfl T.g_NotPossible rfl) pa_nil))) pa_nil))))))
    (pss_cons (ps_set (i := 1) sc_l_matches.nd rfl (Or.inl rfl) (pe_op op_cat (pv 1) (pe_lst (pa_cons (pe_callB call_isV (by rfl) T.n_isinstance (by decide +kernel) (pa_cons (pv 0) (pa_cons (pe_glob (v := .ref ad.NoQuestion) rfl T.g_NoQuestion rfl) pa_nil))) (pa_cons (pe_callB call_isV (by rfl) T.n_isinstance (by decide +kernel) (pa_cons (pv 0) (pa_cons (pe_glob (v := .ref ad.BadWish) rfl T.g_BadWish rfl) pa_nil))) (pa_cons (pe_callB call_isV (by rfl) T.n_isinstance (by decide +kernel) (pa_cons (pv 0) (pa_cons (pe_glob (v := .ref ad.NoFamily) rfl T.g_NoFamily rfl) pa_nil))) pa_nil))))))
    (pss_one (ps_ret (pe_op op_cat (pv 1) (pe_lst (pa_cons (pe_callB call_isV (by rfl) T.n_isinstance (by decide +kernel) (pa_cons (pv 0) (pa_cons (pe_glob (v := .ref ad.Refused) rfl T.g_Refused rfl) pa_nil))) (pa_cons (pe_callB call_isV (by rfl) T.n_isinstance (by decide +kernel) (pa_cons (pv 0) (pa_cons (pe_glob (v := .ref ad.Endless) rfl T.g_Endless rfl) pa_nil))) pa_nil))))))))))))), ?_⟩
  rw [show L2.start ["_law_error", "_law_first"] [V.ref a] = [some (V.ref a), none] from rfl]
  have ex := exc_at T hC
  have st : ∀ (H' : Hp) (j : Nat) (D : Addr) (R : VK), Same H H' → (errs ad)[j]? = some D → R (.bl (decide (j = kk))) H' → rIsV K [.ref a, .ref D] H' R := fun H' j D R s hj h =>
    r_isV (s _ _ hd) (fun dd z => let ⟨fs, e⟩ := hx dd z; ⟨fs, s _ _ e⟩) ex (.own D) (kit_at T hC hj) h
  walk_at "w_go"
  refine st _ 0 _ _ (by walk_at "w_same") rfl ?_
  walk_at "w_go"
  refine st _ 1 _ _ (by walk_at "w_same") rfl ?_
  walk_at "w_go"
  refine st _ 2 _ _ (by walk_at "w_same") rfl ?_
  walk_at "w_go"
  refine st _ 3 _ _ (by walk_at "w_same") rfl ?_
  walk_at "w_go"
  refine st _ 4 _ _ (by walk_at "w_same") rfl ?_
  walk_at "w_go"
  refine st _ 5 _ _ (by walk_at "w_same") rfl ?_
  walk_at "w_go"
  refine st _ 6 _ _ (by walk_at "w_same") rfl ?_
  walk_at "w_go"
  refine st _ 7 _ _ (by walk_at "w_same") rfl ?_
  walk_at "w_go"
  refine st _ 8 _ _ (by walk_at "w_same") rfl ?_
  walk_at "w_go"
  refine st _ 9 _ _ (by walk_at "w_same") rfl ?_
  walk_at "w_go"
  refine st _ 10 _ _ (by walk_at "w_same") rfl ?_
  walk_at "w_go"
  refine st _ 11 _ _ (by walk_at "w_same") rfl ?_
  walk_at "w_go"
  refine st _ 12 _ _ (by walk_at "w_same") rfl ?_
  walk_at "w_go"
  refine st _ 13 _ _ (by walk_at "w_same") rfl ?_
  walk_at "w_go"
  refine st _ 14 _ _ (by walk_at "w_same") rfl ?_
  walk_at "w_go"
  refine st _ 15 _ _ (by walk_at "w_same") rfl ?_
  walk_at "w_go"
  refine st _ 16 _ _ (by walk_at "w_same") rfl ?_
  walk_at "w_go"
  refine st _ 17 _ _ (by walk_at "w_same") rfl ?_
  walk_at "w_go"
  refine st _ 18 _ _ (by walk_at "w_same") rfl ?_
  walk_at "w_go"
  refine st _ 19 _ _ (by walk_at "w_same") rfl ?_
  walk_at "w_go"
  refine st _ 20 _ _ (by walk_at "w_same") rfl ?_
  walk_at "w_go"
  refine st _ 21 _ _ (by walk_at "w_same") rfl ?_
  walk_at "w_go"
  refine st _ 22 _ _ (by walk_at "w_same") rfl ?_
  walk_at "w_go"
  rename_i r H3 nr sr er
  exact k r H3 (by walk_at "w_same") (by walk_at "w_frs") er
end
end Wm
namespace Wm
open PySem L2

section
variable {P : Program} {w0 : World} {K : PySem.W.Frag} {mg : Str → Option Value} {base : Heap} {ad : Ad}
theorem ok_l_stops (T : Txt P K mg ad) : FnOk P w0 K mg base (L2.CX P w0) 4 ad.l_stops ad.fd_l_stops ["_law_value"] (spStopsV K ad) := by
  refine T.F_l_stops.okX sc_l_stops (fun vs H Q E h => ?_) (fun cdv A outer s H vs Q E hr h => ?_)
  · obtain ⟨v, rfl, _⟩ := h
    rfl
  obtain ⟨v, rfl, hv, k⟩ := h
  refine ⟨_, (pss_cons (ps_set (i := 1) sc_l_stops.nd rfl (Or.inl rfl) (pe_erV T.er_Refused hr T.g_Refused (pa_cons (pv 0) pa_nil)))
    (pss_cons (ps_set (i := 2) sc_l_stops.nd rfl (Or.inl rfl) (pe_erV T.er_Endless hr T.g_Endless (pa_cons (pv 0) pa_nil)))
    (pss_one (ps_ret (pe_lst (pa_cons (pe_tup (pa_cons (pv 1) (pa_cons (pe_lst (pa_cons (pe_erF (pv 1) rfl) pa_nil)) (pa_cons (pe_lst (pa_cons (pv 0) pa_nil)) pa_nil)))) (pa_cons (pe_tup (pa_cons (pv 2) (pa_cons (pe_lst (pa_cons (pe_erF (pv 2) rfl) pa_nil)) (pa_cons (pe_lst (pa_cons (pv 0) pa_nil)) pa_nil)))) pa_nil))))))), ?_⟩
  rw [show L2.start ["_law_value", "_law_a", "_law_b"] [v] = [some (v), none, none] from rfl]
  have x_Refused := T.xf_Refused
  have y_Refused_ring := T.no_Refused_ring
  have x_Endless := T.xf_Endless
  have y_Endless_ring := T.no_Endless_ring
  walk_at "w_go"
  rename_i rr F nr sr er
  have sF : Same H F := by walk_at "w_same"
  have hvr := hv.same sF
  clear sF
  refine k rr F _ (by walk_at "w_same") (by walk_at "w_frs") er (by rfl) ?_
  · intro i x C hi hC
    match i, hi, hC with
    | 0, hi, hC =>
      cases hi
      cases hC
      exact item_mk (by walk_at "w_hp") (by walk_at "w_hp") (by walk_at "w_hp") (by walk_at "w_hp") (by walk_at "w_hp") (by exact Nat.le_of_ble_eq_true rfl) (one_plain hvr)
    | 1, hi, hC =>
      cases hi
      cases hC
      exact item_mk (by walk_at "w_hp") (by walk_at "w_hp") (by walk_at "w_hp") (by walk_at "w_hp") (by walk_at "w_hp") (by exact Nat.le_of_ble_eq_true rfl) (one_plain hvr)
    | n + 2, hi, hC => cases hi
theorem ok_l_first_errors (T : Txt P K mg ad) : FnOk P w0 K mg base (L2.CX P w0) 4 ad.l_first_errors ad.fd_l_first_errors ["_law_value", "_law_other"] (spErrs K ad 0 9) := by
  refine T.F_l_first_errors.okX sc_l_first_errors (fun vs H Q E h => ?_) (fun cdv A outer s H vs Q E hr h => ?_)
  · obtain ⟨v, w, rfl, _⟩ := h
    rfl
  obtain ⟨v, w, rfl, hv, hw, k⟩ := h
  refine ⟨_, (pss_cons (ps_set (i := 2) sc_l_first_errors.nd rfl (Or.inl rfl) (pe_erV T.er_BadSchema hr T.g_BadSchema (pa_cons (pv 0) pa_nil)))
    (pss_cons (ps_set (i := 3) sc_l_first_errors.nd rfl (Or.inl rfl) (pe_erV T.er_BadText hr T.g_BadText (pa_cons (pv 0) pa_nil)))
    (pss_cons (ps_set (i := 4) sc_l_first_errors.nd rfl (Or.inl rfl) (pe_erV T.er_NoKind hr T.g_NoKind (pa_cons (pv 0) pa_nil)))
    (pss_cons (ps_set (i := 5) sc_l_first_errors.nd rfl (Or.inl rfl) (pe_erV T.er_NoField hr T.g_NoField (pa_cons (pv 0) (pa_cons (pv 1) pa_nil))))
    (pss_cons (ps_set (i := 6) sc_l_first_errors.nd rfl (Or.inl rfl) (pe_erV T.er_BadTag hr T.g_BadTag (pa_cons (pv 0) pa_nil)))
    (pss_cons (ps_set (i := 7) sc_l_first_errors.nd rfl (Or.inl rfl) (pe_erV T.er_BadValue hr T.g_BadValue (pa_cons (pv 0) pa_nil)))
    (pss_cons (ps_set (i := 8) sc_l_first_errors.nd rfl (Or.inl rfl) (pe_erV T.er_NoThing hr T.g_NoThing (pa_cons (pv 0) pa_nil)))
    (pss_cons (ps_set (i := 9) sc_l_first_errors.nd rfl (Or.inl rfl) (pe_erV T.er_BadGraph hr T.g_BadGraph (pa_cons (pv 0) pa_nil)))
    (pss_cons (ps_set (i := 10) sc_l_first_errors.nd rfl (Or.inl rfl) (pe_erV T.er_TooMany hr T.g_TooMany (pa_cons (pv 0) pa_nil)))
    (pss_cons (ps_set (i := 11) sc_l_first_errors.nd rfl (Or.inl rfl) (pe_lst (pa_cons (pe_tup (pa_cons (pv 2) (pa_cons (pe_lst (pa_cons (pe_erF (pv 2) rfl) pa_nil)) (pa_cons (pe_lst (pa_cons (pv 0) pa_nil)) pa_nil)))) (pa_cons (pe_tup (pa_cons (pv 3) (pa_cons (pe_lst (pa_cons (pe_erF (pv 3) rfl) pa_nil)) (pa_cons (pe_lst (pa_cons (pv 0) pa_nil)) pa_nil)))) (pa_cons (pe_tup (pa_cons (pv 4) (pa_cons (pe_lst (pa_cons (pe_erF (pv 4) rfl) pa_nil)) (pa_cons (pe_lst (pa_cons (pv 0) pa_nil)) pa_nil)))) pa_nil)))))
    (pss_cons (ps_set (i := 11) sc_l_first_errors.nd rfl (Or.inl rfl) (pe_op op_cat (pv 11) (pe_lst (pa_cons (pe_tup (pa_cons (pv 5) (pa_cons (pe_lst (pa_cons (pe_erF (pv 5) rfl) (pa_cons (pe_erF (pv 5) rfl) pa_nil))) (pa_cons (pe_lst (pa_cons (pv 0) (pa_cons (pv 1) pa_nil))) pa_nil)))) (pa_cons (pe_tup (pa_cons (pv 6) (pa_cons (pe_lst (pa_cons (pe_erF (pv 6) rfl) pa_nil)) (pa_cons (pe_lst (pa_cons (pv 0) pa_nil)) pa_nil)))) (pa_cons (pe_tup (pa_cons (pv 7) (pa_cons (pe_lst (pa_cons (pe_erF (pv 7) rfl) pa_nil)) (pa_cons (pe_lst (pa_cons (pv 0) pa_nil)) pa_nil)))) pa_nil))))))
    (pss_one (ps_ret (pe_op op_cat (pv 11) (pe_lst (pa_cons (pe_tup (pa_cons (pv 8) (pa_cons (pe_lst (pa_cons (pe_erF (pv 8) rfl) pa_nil)) (pa_cons (pe_lst (pa_cons (pv 0) pa_nil)) pa_nil)))) (pa_cons (pe_tup (pa_cons (pv 9) (pa_cons (pe_lst (pa_cons (pe_erF (pv 9) rfl) pa_nil)) (pa_cons (pe_lst (pa_cons (pv 0) pa_nil)) pa_nil)))) (pa_cons (pe_tup (pa_cons (pv 10) (pa_cons (pe_lst (pa_cons (pe_erF (pv 10) rfl) pa_nil)) (pa_cons (pe_lst (pa_cons (pv 0) pa_nil)) pa_nil)))) pa_nil)))))))))))))))))), ?_⟩
  rw [show L2.start ["_law_value", "_law_other", "_law_a", "_law_b", "_law_c", "_law_d", "_law_e", "_law_f", "_law_g", "_law_h", "_law_i", "_law_found"] [v, w] = [some (v), some (w), none, none, none, none, none, none, none, none, none, none] from rfl]
  have x_BadSchema := T.xf_BadSchema
  have y_BadSchema_at := T.no_BadSchema_at
  have x_BadText := T.xf_BadText
  have y_BadText_line := T.no_BadText_line
  have x_NoKind := T.xf_NoKind
  have y_NoKind_kind := T.no_NoKind_kind
  have x_NoField := T.xf_NoField
  have y_NoField_kind := T.no_NoField_kind
  have y_NoField_field := T.no_NoField_field
  have x_BadTag := T.xf_BadTag
  have y_BadTag_tag := T.no_BadTag_tag
  have x_BadValue := T.xf_BadValue
  have y_BadValue_field := T.no_BadValue_field
  have x_NoThing := T.xf_NoThing
  have y_NoThing_thing := T.no_NoThing_thing
  have x_BadGraph := T.xf_BadGraph
  have y_BadGraph_at := T.no_BadGraph_at
  have x_TooMany := T.xf_TooMany
  have y_TooMany_what := T.no_TooMany_what
  walk_at "w_go"
  rename_i rr F nr sr er
  have sF : Same H F := by walk_at "w_same"
  have hvr := hv.same sF
  have hwr := hw.same sF
  clear sF
  refine k rr F _ (by walk_at "w_same") (by walk_at "w_frs") er (by rfl) ?_
  · intro i x C hi hC
    match i, hi, hC with
    | 0, hi, hC =>
      cases hi
      cases hC
      exact item_mk (by walk_at "w_hp") (by walk_at "w_hp") (by walk_at "w_hp") (by walk_at "w_hp") (by walk_at "w_hp") (by exact Nat.le_of_ble_eq_true rfl) (one_plain hvr)
    | 1, hi, hC =>
      cases hi
      cases hC
      exact item_mk (by walk_at "w_hp") (by walk_at "w_hp") (by walk_at "w_hp") (by walk_at "w_hp") (by walk_at "w_hp") (by exact Nat.le_of_ble_eq_true rfl) (one_plain hvr)
    | 2, hi, hC =>
      cases hi
      cases hC
      exact item_mk (by walk_at "w_hp") (by walk_at "w_hp") (by walk_at "w_hp") (by walk_at "w_hp") (by walk_at "w_hp") (by exact Nat.le_of_ble_eq_true rfl) (one_plain hvr)
    | 3, hi, hC =>
      cases hi
      cases hC
      exact item_mk (by walk_at "w_hp") (by walk_at "w_hp") (by walk_at "w_hp") (by walk_at "w_hp") (by walk_at "w_hp") (by exact Nat.le_of_ble_eq_true rfl) (two_plain hvr hwr)
    | 4, hi, hC =>
      cases hi
      cases hC
      exact item_mk (by walk_at "w_hp") (by walk_at "w_hp") (by walk_at "w_hp") (by walk_at "w_hp") (by walk_at "w_hp") (by exact Nat.le_of_ble_eq_true rfl) (one_plain hvr)
    | 5, hi, hC =>
      cases hi
      cases hC
      exact item_mk (by walk_at "w_hp") (by walk_at "w_hp") (by walk_at "w_hp") (by walk_at "w_hp") (by walk_at "w_hp") (by exact Nat.le_of_ble_eq_true rfl) (one_plain hvr)
    | 6, hi, hC =>
      cases hi
      cases hC
      exact item_mk (by walk_at "w_hp") (by walk_at "w_hp") (by walk_at "w_hp") (by walk_at "w_hp") (by walk_at "w_hp") (by exact Nat.le_of_ble_eq_true rfl) (one_plain hvr)
    | 7, hi, hC =>
      cases hi
      cases hC
      exact item_mk (by walk_at "w_hp") (by walk_at "w_hp") (by walk_at "w_hp") (by walk_at "w_hp") (by walk_at "w_hp") (by exact Nat.le_of_ble_eq_true rfl) (one_plain hvr)
    | 8, hi, hC =>
      cases hi
      cases hC
      exact item_mk (by walk_at "w_hp") (by walk_at "w_hp") (by walk_at "w_hp") (by walk_at "w_hp") (by walk_at "w_hp") (by exact Nat.le_of_ble_eq_true rfl) (one_plain hvr)
    | n + 9, hi, hC => cases hi
theorem ok_l_second_errors (T : Txt P K mg ad) : FnOk P w0 K mg base (L2.CX P w0) 4 ad.l_second_errors ad.fd_l_second_errors ["_law_value", "_law_other"] (spErrs K ad 9 12) := by
  refine T.F_l_second_errors.okX sc_l_second_errors (fun vs H Q E h => ?_) (fun cdv A outer s H vs Q E hr h => ?_)
  · obtain ⟨v, w, rfl, _⟩ := h
    rfl
  obtain ⟨v, w, rfl, hv, hw, k⟩ := h
  refine ⟨_, (pss_cons (ps_set (i := 2) sc_l_second_errors.nd rfl (Or.inl rfl) (pe_erV T.er_BadGuard hr T.g_BadGuard (pa_cons (pv 0) pa_nil)))
    (pss_cons (ps_set (i := 3) sc_l_second_errors.nd rfl (Or.inl rfl) (pe_erV T.er_NoFlag hr T.g_NoFlag (pa_cons (pv 0) pa_nil)))
    (pss_cons (ps_set (i := 4) sc_l_second_errors.nd rfl (Or.inl rfl) (pe_erV T.er_BadWalker hr T.g_BadWalker (pa_cons (pv 0) pa_nil)))
    (pss_cons (ps_set (i := 5) sc_l_second_errors.nd rfl (Or.inl rfl) (pe_erV T.er_BadChange hr T.g_BadChange (pa_cons (pv 0) pa_nil)))
    (pss_cons (ps_set (i := 6) sc_l_second_errors.nd rfl (Or.inl rfl) (pe_erV T.er_BadStart hr T.g_BadStart (pa_cons (pv 0) pa_nil)))
    (pss_cons (ps_set (i := 7) sc_l_second_errors.nd rfl (Or.inl rfl) (pe_erV T.er_TooLong hr T.g_TooLong (pa_cons (pv 0) pa_nil)))
    (pss_cons (ps_set (i := 8) sc_l_second_errors.nd rfl (Or.inl rfl) (pe_erV T.er_NotPossible hr T.g_NotPossible (pa_cons (pv 0) (pa_cons (pv 1) pa_nil))))
    (pss_cons (ps_set (i := 9) sc_l_second_errors.nd rfl (Or.inl rfl) (pe_erV T.er_NoQuestion hr T.g_NoQuestion (pa_cons (pv 0) pa_nil)))
    (pss_cons (ps_set (i := 10) sc_l_second_errors.nd rfl (Or.inl rfl) (pe_erV T.er_BadWish hr T.g_BadWish (pa_cons (pv 0) pa_nil)))
    (pss_cons (ps_set (i := 11) sc_l_second_errors.nd rfl (Or.inl rfl) (pe_erV T.er_NoFamily hr T.g_NoFamily (pa_cons (pv 0) pa_nil)))
    (pss_cons (ps_set (i := 12) sc_l_second_errors.nd rfl (Or.inl rfl) (pe_lst (pa_cons (pe_tup (pa_cons (pv 2) (pa_cons (pe_lst (pa_cons (pe_erF (pv 2) rfl) pa_nil)) (pa_cons (pe_lst (pa_cons (pv 0) pa_nil)) pa_nil)))) (pa_cons (pe_tup (pa_cons (pv 3) (pa_cons (pe_lst (pa_cons (pe_erF (pv 3) rfl) pa_nil)) (pa_cons (pe_lst (pa_cons (pv 0) pa_nil)) pa_nil)))) (pa_cons (pe_tup (pa_cons (pv 4) (pa_cons (pe_lst (pa_cons (pe_erF (pv 4) rfl) pa_nil)) (pa_cons (pe_lst (pa_cons (pv 0) pa_nil)) pa_nil)))) (pa_cons (pe_tup (pa_cons (pv 5) (pa_cons (pe_lst (pa_cons (pe_erF (pv 5) rfl) pa_nil)) (pa_cons (pe_lst (pa_cons (pv 0) pa_nil)) pa_nil)))) pa_nil))))))
    (pss_cons (ps_set (i := 12) sc_l_second_errors.nd rfl (Or.inl rfl) (pe_op op_cat (pv 12) (pe_lst (pa_cons (pe_tup (pa_cons (pe_erV0 T.er_WrongSchema hr T.g_WrongSchema) (pa_cons (pe_lst pa_nil) (pa_cons (pe_lst pa_nil) pa_nil)))) (pa_cons (pe_tup (pa_cons (pe_erV0 T.er_WrongStart hr T.g_WrongStart) (pa_cons (pe_lst pa_nil) (pa_cons (pe_lst pa_nil) pa_nil)))) (pa_cons (pe_tup (pa_cons (pv 6) (pa_cons (pe_lst (pa_cons (pe_erF (pv 6) rfl) pa_nil)) (pa_cons (pe_lst (pa_cons (pv 0) pa_nil)) pa_nil)))) pa_nil))))))
    (pss_cons (ps_set (i := 12) sc_l_second_errors.nd rfl (Or.inl rfl) (pe_op op_cat (pv 12) (pe_lst (pa_cons (pe_tup (pa_cons (pv 7) (pa_cons (pe_lst (pa_cons (pe_erF (pv 7) rfl) pa_nil)) (pa_cons (pe_lst (pa_cons (pv 0) pa_nil)) pa_nil)))) (pa_cons (pe_tup (pa_cons (pv 8) (pa_cons (pe_lst (pa_cons (pe_erF (pv 8) rfl) (pa_cons (pe_erF (pv 8) rfl) pa_nil))) (pa_cons (pe_lst (pa_cons (pv 0) (pa_cons (pv 1) pa_nil))) pa_nil)))) pa_nil)))))
    (pss_one (ps_ret (pe_op op_cat (pv 12) (pe_lst (pa_cons (pe_tup (pa_cons (pv 9) (pa_cons (pe_lst (pa_cons (pe_erF (pv 9) rfl) pa_nil)) (pa_cons (pe_lst (pa_cons (pv 0) pa_nil)) pa_nil)))) (pa_cons (pe_tup (pa_cons (pv 10) (pa_cons (pe_lst (pa_cons (pe_erF (pv 10) rfl) pa_nil)) (pa_cons (pe_lst (pa_cons (pv 0) pa_nil)) pa_nil)))) (pa_cons (pe_tup (pa_cons (pv 11) (pa_cons (pe_lst (pa_cons (pe_erF (pv 11) rfl) pa_nil)) (pa_cons (pe_lst (pa_cons (pv 0) pa_nil)) pa_nil)))) pa_nil)))))))))))))))))))), ?_⟩
  rw [show L2.start ["_law_value", "_law_other", "_law_a", "_law_b", "_law_c", "_law_d", "_law_e", "_law_f", "_law_g", "_law_h", "_law_i", "_law_j", "_law_found"] [v, w] = [some (v), some (w), none, none, none, none, none, none, none, none, none, none, none] from rfl]
  have x_BadGuard := T.xf_BadGuard
  have y_BadGuard_part := T.no_BadGuard_part
  have x_NoFlag := T.xf_NoFlag
  have y_NoFlag_flag := T.no_NoFlag_flag
  have x_BadWalker := T.xf_BadWalker
  have y_BadWalker_part := T.no_BadWalker_part
  have x_BadChange := T.xf_BadChange
  have y_BadChange_at := T.no_BadChange_at
  have x_BadStart := T.xf_BadStart
  have y_BadStart_thing := T.no_BadStart_thing
  have x_TooLong := T.xf_TooLong
  have y_TooLong_most := T.no_TooLong_most
  have x_NotPossible := T.xf_NotPossible
  have y_NotPossible_kind := T.no_NotPossible_kind
  have y_NotPossible_word := T.no_NotPossible_word
  have x_NoQuestion := T.xf_NoQuestion
  have y_NoQuestion_question := T.no_NoQuestion_question
  have x_BadWish := T.xf_BadWish
  have y_BadWish_at := T.no_BadWish_at
  have x_NoFamily := T.xf_NoFamily
  have y_NoFamily_word := T.no_NoFamily_word
  walk_at "w_go"
  rename_i rr F nr sr er
  have sF : Same H F := by walk_at "w_same"
  have hvr := hv.same sF
  have hwr := hw.same sF
  clear sF
  refine k rr F _ (by walk_at "w_same") (by walk_at "w_frs") er (by rfl) ?_
  · intro i x C hi hC
    match i, hi, hC with
    | 0, hi, hC =>
      cases hi
      cases hC
      exact item_mk (by walk_at "w_hp") (by walk_at "w_hp") (by walk_at "w_hp") (by walk_at "w_hp") (by walk_at "w_hp") (by exact Nat.le_of_ble_eq_true rfl) (one_plain hvr)
    | 1, hi, hC =>
      cases hi
      cases hC
      exact item_mk (by walk_at "w_hp") (by walk_at "w_hp") (by walk_at "w_hp") (by walk_at "w_hp") (by walk_at "w_hp") (by exact Nat.le_of_ble_eq_true rfl) (one_plain hvr)
    | 2, hi, hC =>
      cases hi
      cases hC
      exact item_mk (by walk_at "w_hp") (by walk_at "w_hp") (by walk_at "w_hp") (by walk_at "w_hp") (by walk_at "w_hp") (by exact Nat.le_of_ble_eq_true rfl) (one_plain hvr)
    | 3, hi, hC =>
      cases hi
      cases hC
      exact item_mk (by walk_at "w_hp") (by walk_at "w_hp") (by walk_at "w_hp") (by walk_at "w_hp") (by walk_at "w_hp") (by exact Nat.le_of_ble_eq_true rfl) (one_plain hvr)
    | 4, hi, hC =>
      cases hi
      cases hC
      exact item_mk0 (by walk_at "w_hp") (by walk_at "w_hp") (by walk_at "w_hp") (by walk_at "w_hp")
    | 5, hi, hC =>
      cases hi
      cases hC
      exact item_mk0 (by walk_at "w_hp") (by walk_at "w_hp") (by walk_at "w_hp") (by walk_at "w_hp")
    | 6, hi, hC =>
      cases hi
      cases hC
      exact item_mk (by walk_at "w_hp") (by walk_at "w_hp") (by walk_at "w_hp") (by walk_at "w_hp") (by walk_at "w_hp") (by exact Nat.le_of_ble_eq_true rfl) (one_plain hvr)
    | 7, hi, hC =>
      cases hi
      cases hC
      exact item_mk (by walk_at "w_hp") (by walk_at "w_hp") (by walk_at "w_hp") (by walk_at "w_hp") (by walk_at "w_hp") (by exact Nat.le_of_ble_eq_true rfl) (one_plain hvr)
    | 8, hi, hC =>
      cases hi
      cases hC
      exact item_mk (by walk_at "w_hp") (by walk_at "w_hp") (by walk_at "w_hp") (by walk_at "w_hp") (by walk_at "w_hp") (by exact Nat.le_of_ble_eq_true rfl) (two_plain hvr hwr)
    | 9, hi, hC =>
      cases hi
      cases hC
      exact item_mk (by walk_at "w_hp") (by walk_at "w_hp") (by walk_at "w_hp") (by walk_at "w_hp") (by walk_at "w_hp") (by exact Nat.le_of_ble_eq_true rfl) (one_plain hvr)
    | 10, hi, hC =>
      cases hi
      cases hC
      exact item_mk (by walk_at "w_hp") (by walk_at "w_hp") (by walk_at "w_hp") (by walk_at "w_hp") (by walk_at "w_hp") (by exact Nat.le_of_ble_eq_true rfl) (one_plain hvr)
    | 11, hi, hC =>
      cases hi
      cases hC
      exact item_mk (by walk_at "w_hp") (by walk_at "w_hp") (by walk_at "w_hp") (by walk_at "w_hp") (by walk_at "w_hp") (by exact Nat.le_of_ble_eq_true rfl) (one_plain hvr)
    | n + 12, hi, hC => cases hi
end
end Wm
namespace Wm
open PySem L2

section
variable {P : Program} {w : World} {K : PySem.W.Frag} {mg : Str → Option Value} {base : Heap} {ad : Ad}
theorem ok_l_caught (T : Txt P K mg ad) : FnOk P w K mg base (L2.CX P w) 4 ad.l_caught ad.fd_l_caught ["_law_value", "_law_other"] (spCaught K) := by
  refine T.F_l_caught.okX sc_l_caught (fun vs H Q E h => ?_) (fun cdv A outer s H vs Q E hr h => ?_)
  · obtain ⟨v, u, rfl, _⟩ := h
    rfl
  obtain ⟨v, u, rfl, hv, hu, k⟩ := h
  refine ⟨_, (pss_cons (ps_set (i := 2) sc_l_caught.nd rfl (Or.inl rfl) (pe_lst pa_nil))
    (pss_cons (ps_try_as (i := 3) rfl rfl sc_l_caught.nd rfl rfl ⟨rfl, by decide, .inl T.g_NoField⟩ takes0 (fun W pn xe tk pown => (pss_one (ps_raiseEr rfl T.er_NoField hr tk T.g_NoField (pa_cons (pv 0) (pa_cons (pv 1) pa_nil))))) (fun a oe cls d pn hz hf => (pss_one (ps_set (i := 2) sc_l_caught.nd rfl (Or.inl rfl) (pe_lst (pa_cons (pe_xf T.xf_NoField T.no_NoField_kind hz hf (pv 3)) (pa_cons (pe_xf T.xf_NoField T.no_NoField_field hz hf (pv 3)) pa_nil)))))))
    (pss_cons (ps_set (i := 4) sc_l_caught.nd rfl (Or.inl rfl) pe_int)
    (pss_cons (ps_try_only rfl rfl ⟨rfl, by decide, .inl T.g_WalkmarksError⟩ takes0 (fun W pn xe tk pown => (pss_one (ps_raiseEr rfl T.er_BadWish hr tk T.g_BadWish (pa_cons (pv 0) pa_nil)))) (fun a oe cls d pn _ _ => (pss_one (ps_set (i := 4) sc_l_caught.nd rfl (Or.inl rfl) (pe_op op_add (pv 4) pe_int)))))
    (pss_cons (ps_try_only rfl rfl ⟨rfl, by decide, .inl T.g_Stopped⟩ takes0 (fun W pn xe tk pown => (pss_one (ps_raiseEr rfl T.er_Endless hr tk T.g_Endless (pa_cons (pv 0) pa_nil)))) (fun a oe cls d pn _ _ => (pss_one (ps_set (i := 4) sc_l_caught.nd rfl (Or.inl rfl) (pe_op op_add (pv 4) pe_int)))))
    (pss_one (ps_ret (pe_and (pe_cmpR op_eq (pv 4) pe_int (nomark _)) (pe_and (pe_cmpR op_eq (pe_callB c_len (by rfl) T.n_len PySem.boot_len (pa_cons (pv 2) pa_nil)) pe_int (nomark _)) (pe_and (pe_call (ok_l_same T) (hr.mono (by decide)) rfl T.g_l_same T.F_l_same.kp T.b_l_same .nil passL (pa_cons (pe_ix ix_list (pv 2) pe_int (fun _ _ => rfl)) (pa_cons (pv 0) pa_nil))) (pe_one (pe_call (ok_l_same T) (hr.mono (by decide)) rfl T.g_l_same T.F_l_same.kp T.b_l_same .nil passL (pa_cons (pe_ix ix_list (pv 2) pe_int (fun _ _ => rfl)) (pa_cons (pv 1) pa_nil)))))))))))))), ?_⟩
  rw [show L2.start ["_law_value", "_law_other", "_law_found", "_law_e", "_law_caught_here"] [v, u] = [some (v), some (u), none, none, none] from rfl]
  walk_at "w_go"
  rename_i q0 G0 n0 s0 e0 d1 G1 n1 s1 e1
  refine ⟨true, T.te_NoField, fun _ a1 na1 => ?_, fun z => by cases z⟩
  walk_at "w_go"
  rename_i q2 G2 n2 s2 e2 d3 G3 n3 s3 e3
  refine ⟨true, T.te_wish, fun _ a3 na3 => ?_, fun z => by cases z⟩
  walk_at "w_go"
  rename_i d4 G4 n4 s4 e4
  refine ⟨true, T.te_stop, fun _ a4 na4 => ?_, fun z => by cases z⟩
  walk_at "w_go"
  refine ite_eqT rfl ?_
  walk_at "w_go"
  refine ite_eqT rfl ?_
  walk_at "w_go"
  have sF : Same H G4 := by walk_at "w_same"
  refine ⟨v, rfl, hv.same sF, ?_⟩
  walk_at "w_go"
  refine r_ixLK (s4 _ _ (s3 _ _ e2)) (show atI [v, u] ((1 : Nat) : Int) = some u from atI_nat rfl) ?_
  walk_at "w_go"
  refine ⟨u, rfl, hu.same sF, ?_⟩
  walk_at "w_go"
  exact k G4 sF
end
end Wm
namespace Wm
open PySem L2

def fJ (k : Nat) : V → V
  | .int i => .bl (decide (i = 0 + (k : Int)))
  | _ => .non
theorem ones_are {k : Nat} : ((vInts 0 23).filter fun _ => true).map (fJ k) = ((List.range 23).map fun j => decide (j = k)).map V.bl := by
  rw [filt_true]
  unfold vInts
  rw [List.map_map, List.map_map]
  refine List.map_congr_left fun j _ => ?_
  show V.bl (decide ((0 + (j : Int)) = 0 + (k : Int))) = V.bl (decide (j = k))
  have : ((0 + (j : Int)) = 0 + (k : Int)) ↔ j = k := by omega
  rw [decide_eq_decide.mpr this]
section
variable {P : Program} {w : World} {K : PySem.W.Frag} {mg : Str → Option Value} {base : Heap} {ad : Ad}
theorem base_at (T : Txt P K mg ad) {k : Nat} {C : Addr} (hk : (errs ad)[k]? = some C) : (PySem.W.kitOne K (.ref C) (.ref ad.WalkmarksError) = some (decide (k < 21)) ∧ PySem.W.kitOne K (.ref C) (.type "ValueError") = some (decide (k < 21))) ∧ PySem.W.kitOne K (.ref C) (.ref ad.Stopped) = some (decide (21 ≤ k)) ∧ PySem.W.kitOne K (.ref C) (.type "RuntimeError") = some (decide (21 ≤ k)) := by
  have h : ((errs ad).map fun C => [PySem.W.kitOne K (.ref C) (.ref ad.WalkmarksError), PySem.W.kitOne K (.ref C) (.type "ValueError"), PySem.W.kitOne K (.ref C) (.ref ad.Stopped), PySem.W.kitOne K (.ref C) (.type "RuntimeError")]) = (List.range 23).map fun k => [some (decide (k < 21)), some (decide (k < 21)), some (decide (21 ≤ k)), some (decide (21 ≤ k))] := T.kB
  have hk' : k < 23 := by
    rcases Nat.lt_or_ge k 23 with z | z
    · exact z
    · rw [List.getElem?_eq_none (by exact z)] at hk
      cases hk
  have h1 := congrArg (fun l => l[k]?) h
  simp only [List.getElem?_map, hk, List.getElem?_range hk', Option.map_some] at h1
  have h2 := Option.some.inj h1
  injection h2 with a h2
  injection h2 with b h2
  injection h2 with c h2
  injection h2 with d h2
  exact ⟨⟨a, b⟩, c, d⟩
theorem ok_law (T : Txt P K mg ad) : FnOk P w K mg base (L2.CX P w) 5 ad.law ad.fd_law ["_law_script"] (spLaw K) := by
  refine T.F_law.okX sc_law (fun vs H Q E h => ?_) (fun cdv A outer s H vs Q E hr h => ?_)
  · obtain ⟨a, ns, rfl, _⟩ := h
    rfl
  obtain ⟨a, ns, rfl, hS, k⟩ := h
  refine ⟨_, (pss_cons (ps_set (i := 1) sc_law.nd rfl (Or.inl rfl) (pe_call (ok_l_pen T) (hr.mono (by decide)) rfl T.g_l_pen T.F_l_pen.kp T.b_l_pen .nil passL (pa_cons (pv 0) pa_nil)))
    (pss_cons (ps_set (i := 2) sc_law.nd rfl (Or.inl rfl) (pe_call (ok_l_plain T) (hr.mono (by decide)) rfl T.g_l_plain T.F_l_plain.kp T.b_l_plain .nil passL (pa_cons (pv 1) pa_nil)))
    (pss_cons (ps_set (i := 3) sc_law.nd rfl (Or.inl rfl) (pe_call (ok_l_plain T) (hr.mono (by decide)) rfl T.g_l_plain T.F_l_plain.kp T.b_l_plain .nil passL (pa_cons (pv 1) pa_nil)))
    (pss_cons (ps_set (i := 4) sc_law.nd rfl (Or.inl rfl) (pe_op op_cat (pe_op op_cat (pe_call (ok_l_first_errors T) hr rfl T.g_l_first_errors T.F_l_first_errors.kp T.b_l_first_errors .nil passL (pa_cons (pv 2) (pa_cons (pv 3) pa_nil))) (pe_call (ok_l_second_errors T) hr rfl T.g_l_second_errors T.F_l_second_errors.kp T.b_l_second_errors .nil passL (pa_cons (pv 2) (pa_cons (pv 3) pa_nil)))) (pe_call (ok_l_stops T) hr rfl T.g_l_stops T.F_l_stops.kp T.b_l_stops .nil passL (pa_cons (pv 3) pa_nil))))
    (pss_cons (ps_for (passes_of rfl) rfl (pi_range1 rfl T.n_range (pa_cons (pe_callB c_len (by rfl) T.n_len PySem.boot_len (pa_cons (pv 4) pa_nil)) pa_nil)) (pg_name (i := 5) sc_law.nd rfl (Or.inr rfl)) (pss_cons (ps_asg (pe_ix ix_list (pv 4) (pv 5) (fun _ _ => rfl)) (pg_tup rfl (pgs_cons (pg_name (i := 6) sc_law.nd rfl (Or.inl rfl)) (pgs_cons (pg_name (i := 7) sc_law.nd rfl (Or.inr rfl)) (pgs_cons (pg_name (i := 8) sc_law.nd rfl (Or.inr rfl)) pgs_nil)))))
    (pss_cons (ps_if (pt_cmpR (op_neP hr.units) (pe_call (ok_l_matches T) (hr.mono (by decide)) rfl T.g_l_matches T.F_l_matches.kp T.b_l_matches .nil passL (pa_cons (pv 6) pa_nil)) (pe_lc (own := [("_law_j", 9)]) (g := gName 9) (tt := tYes) rfl sc_law.nd (pi_range1 rfl T.n_range (pa_cons pe_int pa_nil)) (blkOk_by (own := [("_law_j", 9)]) (N := ["_law_script", "_law_pen_here", "_law_value", "_law_other", "_law_made", "_law_k", "_law_error", "_law_told", "_law_due", "_law_j"]) (sc := defScope s_law) (by decide +kernel)) (fun _ _ _ _ _ => pg_name (i := 9) sc_law.nd rfl (Or.inl rfl)) (fun _ _ _ _ _ => pts_nil) (fun _ _ _ _ _ => (pe_cmpR op_eq (pv 9) (pv 5) (nomark _)))) (nomark _)) (pss_one (ps_ret pe_bl)) pss_nil)
    (pss_cons (ps_if (PW.pt (pw_or (pt_cmpR op_ne (pe_callB call_isV (by rfl) T.n_isinstance (by decide +kernel) (pa_cons (pv 6) (pa_cons (pe_glob (v := .ref ad.WalkmarksError) rfl T.g_WalkmarksError rfl) pa_nil))) (pe_cmpR op_lt (pv 5) pe_int (nomark _)) (nomark _)) (pw_or1 (pt_cmpR op_ne (pe_callB call_isV (by rfl) T.n_isinstance (by decide +kernel) (pa_cons (pv 6) (pa_cons (pe_bltn (v := .ty "ValueError") (by rfl) T.n_ValueError (by decide +kernel) rfl) pa_nil))) (pe_cmpR op_lt (pv 5) pe_int (nomark _)) (nomark _))))) (pss_one (ps_ret pe_bl)) pss_nil)
    (pss_cons (ps_if (PW.pt (pw_or (pt_cmpR op_ne (pe_callB call_isV (by rfl) T.n_isinstance (by decide +kernel) (pa_cons (pv 6) (pa_cons (pe_glob (v := .ref ad.Stopped) rfl T.g_Stopped rfl) pa_nil))) (pe_cmpR op_ge (pv 5) pe_int (nomark _)) (nomark _)) (pw_or1 (pt_cmpR op_ne (pe_callB call_isV (by rfl) T.n_isinstance (by decide +kernel) (pa_cons (pv 6) (pa_cons (pe_bltn (v := .ty "RuntimeError") (by rfl) T.n_RuntimeError (by decide +kernel) rfl) pa_nil))) (pe_cmpR op_ge (pv 5) pe_int (nomark _)) (nomark _))))) (pss_one (ps_ret pe_bl)) pss_nil)
    (pss_one (ps_if (pt_cmpR op_gt (pe_callB c_len (by rfl) T.n_len PySem.boot_len (pa_cons (pe_lc (own := [("_law_j", 9)]) (g := gName 9) rfl sc_law.nd (pi_range1 rfl T.n_range (pa_cons (pe_callB c_len (by rfl) T.n_len PySem.boot_len (pa_cons (pv 8) pa_nil)) pa_nil)) (blkOk_by (own := [("_law_j", 9)]) (N := ["_law_script", "_law_pen_here", "_law_value", "_law_other", "_law_made", "_law_k", "_law_error", "_law_told", "_law_due", "_law_j"]) (sc := defScope s_law) (by decide +kernel)) (fun _ _ _ _ _ => pg_name (i := 9) sc_law.nd rfl (Or.inl rfl)) (fun _ _ _ _ _ => (pts_one (pt_not (pt_val (pe_call (ok_l_same T) (hr.mono (by decide)) rfl T.g_l_same T.F_l_same.kp T.b_l_same .nil passL (pa_cons (pe_ix (ix_list : IxR _ (rIxL K)) (pv 7) (pv 9) (fun _ _ => rfl)) (pa_cons (pe_ix (ix_list : IxR _ (rIxL K)) (pv 8) (pv 9) (fun _ _ => rfl)) pa_nil))))))) (fun _ _ _ _ _ => (pv 9))) pa_nil)) pe_int (nomark _)) (pss_one (ps_ret pe_bl)) pss_nil)))))))
    (pss_one (ps_ret (pe_call (ok_l_caught T) hr rfl T.g_l_caught T.F_l_caught.kp T.b_l_caught .nil passL (pa_cons (pv 2) (pa_cons (pv 3) pa_nil)))))))))), ?_⟩
  rw [show L2.start ["_law_script", "_law_pen_here", "_law_value", "_law_other", "_law_made", "_law_k", "_law_error", "_law_told", "_law_due", "_law_j"] [V.ref a] = [some (V.ref a), none, none, none, none, none, none, none, none, none] from rfl]
  walk_at "w_go"
  refine ⟨a, ns, rfl, hS, fun p c H1 hp _ _ => ?_⟩
  walk_at "w_go"
  refine ⟨p, c, rfl, hp, fun v H2 s2 hv => ?_⟩
  walk_at "w_go"
  refine ⟨p, c, rfl, s2.pen, fun u H3 s3 hu => ?_⟩
  have hv3 : PlainV K H3 v := hv.step s2.pen s3
  clear s2 s3 hp hv
  walk_at "w_go"
  refine ⟨v, u, rfl, hv3, hu, fun r1 G1 l1 t1 n1 e1 z1 i1 => ?_⟩
  walk_at "w_go"
  refine ⟨v, u, rfl, hv3.same t1, hu.same t1, fun r2 G2 l2 t2 n2 e2 z2 i2 => ?_⟩
  walk_at "w_go"
  refine r_cat (t2 _ _ e1) e2 (by rw [z1, z2, PySem.sizeLine_eq]; decide) (fun r3 G3 n3 t3 e3 => ?_)
  walk_at "w_go"
  refine ⟨u, rfl, hu.same (t1.trans (t2.trans t3)), fun r4 G4 l4 t4 n4 e4 z4 i4 => ?_⟩
  walk_at "w_go"
  rename_i r5 F n5 t5 e5
  have hlen : (l1 ++ l2 ++ l4).length = 23 := by rw [List.length_append, List.length_append, z1, z2, z4]
  have it : ∀ (i : Nat) x C, (l1 ++ l2 ++ l4)[i]? = some x → (errs ad)[i]? = some C → Item K F C x := by
    intro i x C hi hC
    rcases Nat.lt_or_ge i 9 with q | q
    · rw [List.append_assoc, List.getElem?_append_left (by rw [z1]; exact q)] at hi
      exact (((((i1 i x C hi (by rw [Nat.zero_add]; exact hC)).same t2).same t3).same t4).same t5)
    · rcases Nat.lt_or_ge i 21 with q2 | q2
      · rw [List.append_assoc, List.getElem?_append_right (by rw [z1]; exact q), z1, List.getElem?_append_left (by rw [z2]; omega)] at hi
        exact ((((i2 (i - 9) x C hi (by rw [show 9 + (i - 9) = i by omega]; exact hC)).same t3).same t4).same t5)
      · rw [List.getElem?_append_right (by rw [List.length_append, z1, z2]; exact q2), List.length_append, z1, z2] at hi
        exact ((i4 (i - 21) x C hi (by rw [show 21 + (i - 21) = i by omega]; exact hC)).same t5)
  have hvF : PlainV K F v := hv3.same (t1.trans (t2.trans (t3.trans (t4.trans t5))))
  have huF : PlainV K F u := hu.same (t1.trans (t2.trans (t3.trans (t4.trans t5))))
  clear t1 t2 t3 t4 t5 n1 n2 n3 n4 n5 e1 e2 e3 e4 i1 i2 i4 hv3 hu
  walk_at "w_go"
  rw [hlen]
  refine r_rngK (by decide) (by decide) (for_range (lo := 0) (n := 23) (fun i σ H' => (∃ (u5 u6 u7 u8 u9 : Option V), σ = [some (.ref a), some (.ref p), some v, some u, some (.ref r5), u5, u6, u7, u8, u9]) ∧ Same F H') ⟨⟨_, _, _, _, _, rfl⟩, Same.refl F⟩ ?_ ?_)
  · rintro i σ H' hi ⟨⟨u5, u6, u7, u8, u9, rfl⟩, sF⟩
    have hC : ∃ C, (errs ad)[i]? = some C := ⟨(errs ad)[i]'(by exact hi), List.getElem?_eq_getElem _⟩
    obtain ⟨C, hC⟩ := hC
    obtain ⟨x, hx⟩ : ∃ x, (l1 ++ l2 ++ l4)[i]? = some x := ⟨(l1 ++ l2 ++ l4)[i]'(by rw [hlen]; exact hi), List.getElem?_eq_getElem _⟩
    obtain ⟨t, e, o, q, vals, rfl, ht, ⟨d, hd, hdx⟩, ho, hq, hvl, hvs⟩ := (it i x C hx hC).same sF
    obtain ⟨⟨ba, bb⟩, bc, bd⟩ := base_at T hC
    have ex := exc_at T hC
    walk_at "w_go"
    refine r_ixLK (sF _ _ e5) (at_n hx) ?_
    walk_at "w_go"
    refine ⟨e, C, i, rfl, hC, ⟨d, hd, hdx⟩, fun r H2 s2 n2 e2 => ?_⟩
    walk_at "w_go"
    refine r_rngK (by decide) (by decide) ?_
    refine r_lcR (lo := 0) (n := 23) (fun _ => true) (fJ i) (by rw [PySem.sizeLine_eq]; decide) (fun j hj => ⟨fun H' R _ h => h, fun H' R _ s4 h => ?_⟩) (fun w1 H3 n3 s3 e3 => ?_)
    · walk_at "w_go"
      exact h
    rw [ones_are] at e3
    refine r_neBE ((List.range 23).map fun j => decide (j = i)) (s3 _ _ e2) e3 (by rw [List.map_map]; rfl) rfl ?_
    have sH : Same H' H3 := s2.trans s3
    have hd3 := sH _ _ hd
    have hdx3 : ∀ dd, d = some dd → ∃ fs, H3 dd = some (.xd fs) := fun dd z => let ⟨fs, h⟩ := hdx dd z; ⟨fs, sH _ _ h⟩
    have ho3 := sH _ _ ho
    have hq3 := sH _ _ hq
    have hlt : decide (0 + (i : Int) < 21) = decide (i < 21) := decide_eq_decide.mpr (by omega)
    have hge : decide ((21 : Int) ≤ 0 + (i : Int)) = decide (21 ≤ i) := decide_eq_decide.mpr (by omega)
    walk_at "w_go"
    refine r_isV hd3 hdx3 ex (.own _) ba ?_
    walk_at "w_go"
    refine ite_nd hlt.symm ?_
    walk_at "w_go"
    refine r_isV hd3 hdx3 ex (.ty _) bb ?_
    walk_at "w_go"
    refine ite_nd hlt.symm ?_
    walk_at "w_go"
    refine r_isV hd3 hdx3 ex (.own _) bc ?_
    walk_at "w_go"
    refine ite_nd hge.symm ?_
    walk_at "w_go"
    refine r_isV hd3 hdx3 ex (.ty _) bd ?_
    walk_at "w_go"
    refine ite_nd hge.symm ?_
    walk_at "w_go"
    refine r_rngK (by omega) (by omega) ?_
    refine r_lcR (lo := 0) (n := (vals.length : Int).toNat) (fun _ => false) (fun v => v) (by rw [PySem.sizeLine_eq]; omega) (fun j hj => ⟨fun H4 R s4 h => ?_, fun H4 R z _ _ => by cases z⟩) (fun w2 H4 n4 s4 e4 => ?_)
    · obtain ⟨y, hy⟩ : ∃ y, vals[j]? = some y := ⟨vals[j]'(by omega), List.getElem?_eq_getElem _⟩
      walk_at "w_go"
      refine r_ixLK (s4 _ _ ho3) (at_n hy) ?_
      walk_at "w_go"
      refine r_ixLK (s4 _ _ hq3) (at_n hy) ?_
      walk_at "w_go"
      refine ⟨y, rfl, ((hvs y (List.mem_of_getElem? hy)).same sH).same s4, ?_⟩
      walk_at "w_go"
      exact h
    have e4' : H4 w2 = some (.lst []) := by
      rw [e4, List.filter_eq_nil_iff.mpr (fun a _ => by simp)]
      rfl
    walk_at "w_go"
    exact ⟨⟨_, _, _, _, _, rfl⟩, sF.trans (sH.trans s4)⟩
  · rintro σ H' ⟨⟨u5, u6, u7, u8, u9, rfl⟩, sF⟩
    walk_at "w_go"
    refine ⟨v, u, rfl, hvF.same sF, huF.same sF, fun H2 s2 => ?_⟩
    exact k _
end
end Wm
namespace Wm
open PySem L2

theorem fm_BadSchema : PySem.Er.IForm ["at"] (defArgs s_BadSchema_init) (defBody s_BadSchema_init) (defScope s_BadSchema_init) :=
  PySem.Er.IForm.one _ _ _ _ _ _ _ _ _ _ _ _ _ (fun _ _ _ _ _ => ⟨_, rfl⟩) (fun _ _ _ _ _ => rfl) ⟨fun _ _ _ _ _ _ _ _ _ vs hl => match vs, hl with | [_], _ => rfl, ⟨_, rfl, rfl⟩, rfl, rfl, rfl, (by
      intro f hf
      simp only [List.mem_cons, List.not_mem_nil, or_false] at hf
      rcases hf with rfl <;> exact ⟨rfl, by decide⟩), fun x vs hl => match vs, hl with | [_], _ => rfl, (fun x vs i f v hl h1 h2 => match vs, hl, i, h1, h2 with | [_], _, 0, h1, h2 => by cases h1; cases h2; rfl), by decide⟩
theorem fm_BadText : PySem.Er.IForm ["line"] (defArgs s_BadText_init) (defBody s_BadText_init) (defScope s_BadText_init) :=
  PySem.Er.IForm.one _ _ _ _ _ _ _ _ _ _ _ _ _ (fun _ _ _ _ _ => ⟨_, rfl⟩) (fun _ _ _ _ _ => rfl) ⟨fun _ _ _ _ _ _ _ _ _ vs hl => match vs, hl with | [_], _ => rfl, ⟨_, rfl, rfl⟩, rfl, rfl, rfl, (by
      intro f hf
      simp only [List.mem_cons, List.not_mem_nil, or_false] at hf
      rcases hf with rfl <;> exact ⟨rfl, by decide⟩), fun x vs hl => match vs, hl with | [_], _ => rfl, (fun x vs i f v hl h1 h2 => match vs, hl, i, h1, h2 with | [_], _, 0, h1, h2 => by cases h1; cases h2; rfl), by decide⟩
theorem fm_NoKind : PySem.Er.IForm ["kind"] (defArgs s_NoKind_init) (defBody s_NoKind_init) (defScope s_NoKind_init) :=
  PySem.Er.IForm.one _ _ _ _ _ _ _ _ _ _ _ _ _ (fun _ _ _ _ _ => ⟨_, rfl⟩) (fun _ _ _ _ _ => rfl) ⟨fun _ _ _ _ _ _ _ _ _ vs hl => match vs, hl with | [_], _ => rfl, ⟨_, rfl, rfl⟩, rfl, rfl, rfl, (by
      intro f hf
      simp only [List.mem_cons, List.not_mem_nil, or_false] at hf
      rcases hf with rfl <;> exact ⟨rfl, by decide⟩), fun x vs hl => match vs, hl with | [_], _ => rfl, (fun x vs i f v hl h1 h2 => match vs, hl, i, h1, h2 with | [_], _, 0, h1, h2 => by cases h1; cases h2; rfl), by decide⟩
theorem fm_NoField : PySem.Er.IForm ["kind", "field"] (defArgs s_NoField_init) (defBody s_NoField_init) (defScope s_NoField_init) :=
  PySem.Er.IForm.two _ _ _ _ _ _ _ _ _ _ _ _ _ _ _ _ _ _ (fun _ _ _ _ _ => ⟨_, rfl⟩) (fun _ _ _ _ _ => rfl) (fun _ _ _ _ _ => rfl) ⟨fun _ _ _ _ _ _ _ _ _ vs hl => match vs, hl with | [_, _], _ => rfl, ⟨_, rfl, rfl⟩, rfl, rfl, rfl, (by
      intro f hf
      simp only [List.mem_cons, List.not_mem_nil, or_false] at hf
      rcases hf with rfl | rfl <;> exact ⟨rfl, by decide⟩), fun x vs hl => match vs, hl with | [_, _], _ => rfl, (fun x vs i f v hl h1 h2 => match vs, hl, i, h1, h2 with | [_, _], _, 0, h1, h2 => by cases h1; cases h2; rfl | [_, _], _, 1, h1, h2 => by cases h1; cases h2; rfl), by decide⟩
theorem fm_BadTag : PySem.Er.IForm ["tag"] (defArgs s_BadTag_init) (defBody s_BadTag_init) (defScope s_BadTag_init) :=
  PySem.Er.IForm.one _ _ _ _ _ _ _ _ _ _ _ _ _ (fun _ _ _ _ _ => ⟨_, rfl⟩) (fun _ _ _ _ _ => rfl) ⟨fun _ _ _ _ _ _ _ _ _ vs hl => match vs, hl with | [_], _ => rfl, ⟨_, rfl, rfl⟩, rfl, rfl, rfl, (by
      intro f hf
      simp only [List.mem_cons, List.not_mem_nil, or_false] at hf
      rcases hf with rfl <;> exact ⟨rfl, by decide⟩), fun x vs hl => match vs, hl with | [_], _ => rfl, (fun x vs i f v hl h1 h2 => match vs, hl, i, h1, h2 with | [_], _, 0, h1, h2 => by cases h1; cases h2; rfl), by decide⟩
theorem fm_BadValue : PySem.Er.IForm ["field"] (defArgs s_BadValue_init) (defBody s_BadValue_init) (defScope s_BadValue_init) :=
  PySem.Er.IForm.one _ _ _ _ _ _ _ _ _ _ _ _ _ (fun _ _ _ _ _ => ⟨_, rfl⟩) (fun _ _ _ _ _ => rfl) ⟨fun _ _ _ _ _ _ _ _ _ vs hl => match vs, hl with | [_], _ => rfl, ⟨_, rfl, rfl⟩, rfl, rfl, rfl, (by
      intro f hf
      simp only [List.mem_cons, List.not_mem_nil, or_false] at hf
      rcases hf with rfl <;> exact ⟨rfl, by decide⟩), fun x vs hl => match vs, hl with | [_], _ => rfl, (fun x vs i f v hl h1 h2 => match vs, hl, i, h1, h2 with | [_], _, 0, h1, h2 => by cases h1; cases h2; rfl), by decide⟩
theorem fm_NoThing : PySem.Er.IForm ["thing"] (defArgs s_NoThing_init) (defBody s_NoThing_init) (defScope s_NoThing_init) :=
  PySem.Er.IForm.one _ _ _ _ _ _ _ _ _ _ _ _ _ (fun _ _ _ _ _ => ⟨_, rfl⟩) (fun _ _ _ _ _ => rfl) ⟨fun _ _ _ _ _ _ _ _ _ vs hl => match vs, hl with | [_], _ => rfl, ⟨_, rfl, rfl⟩, rfl, rfl, rfl, (by
      intro f hf
      simp only [List.mem_cons, List.not_mem_nil, or_false] at hf
      rcases hf with rfl <;> exact ⟨rfl, by decide⟩), fun x vs hl => match vs, hl with | [_], _ => rfl, (fun x vs i f v hl h1 h2 => match vs, hl, i, h1, h2 with | [_], _, 0, h1, h2 => by cases h1; cases h2; rfl), by decide⟩
theorem fm_BadGraph : PySem.Er.IForm ["at"] (defArgs s_BadGraph_init) (defBody s_BadGraph_init) (defScope s_BadGraph_init) :=
  PySem.Er.IForm.one _ _ _ _ _ _ _ _ _ _ _ _ _ (fun _ _ _ _ _ => ⟨_, rfl⟩) (fun _ _ _ _ _ => rfl) ⟨fun _ _ _ _ _ _ _ _ _ vs hl => match vs, hl with | [_], _ => rfl, ⟨_, rfl, rfl⟩, rfl, rfl, rfl, (by
      intro f hf
      simp only [List.mem_cons, List.not_mem_nil, or_false] at hf
      rcases hf with rfl <;> exact ⟨rfl, by decide⟩), fun x vs hl => match vs, hl with | [_], _ => rfl, (fun x vs i f v hl h1 h2 => match vs, hl, i, h1, h2 with | [_], _, 0, h1, h2 => by cases h1; cases h2; rfl), by decide⟩
theorem fm_TooMany : PySem.Er.IForm ["what"] (defArgs s_TooMany_init) (defBody s_TooMany_init) (defScope s_TooMany_init) :=
  PySem.Er.IForm.one _ _ _ _ _ _ _ _ _ _ _ _ _ (fun _ _ _ _ _ => ⟨_, rfl⟩) (fun _ _ _ _ _ => rfl) ⟨fun _ _ _ _ _ _ _ _ _ vs hl => match vs, hl with | [_], _ => rfl, ⟨_, rfl, rfl⟩, rfl, rfl, rfl, (by
      intro f hf
      simp only [List.mem_cons, List.not_mem_nil, or_false] at hf
      rcases hf with rfl <;> exact ⟨rfl, by decide⟩), fun x vs hl => match vs, hl with | [_], _ => rfl, (fun x vs i f v hl h1 h2 => match vs, hl, i, h1, h2 with | [_], _, 0, h1, h2 => by cases h1; cases h2; rfl), by decide⟩
theorem fm_BadGuard : PySem.Er.IForm ["part"] (defArgs s_BadGuard_init) (defBody s_BadGuard_init) (defScope s_BadGuard_init) :=
  PySem.Er.IForm.one _ _ _ _ _ _ _ _ _ _ _ _ _ (fun _ _ _ _ _ => ⟨_, rfl⟩) (fun _ _ _ _ _ => rfl) ⟨fun _ _ _ _ _ _ _ _ _ vs hl => match vs, hl with | [_], _ => rfl, ⟨_, rfl, rfl⟩, rfl, rfl, rfl, (by
      intro f hf
      simp only [List.mem_cons, List.not_mem_nil, or_false] at hf
      rcases hf with rfl <;> exact ⟨rfl, by decide⟩), fun x vs hl => match vs, hl with | [_], _ => rfl, (fun x vs i f v hl h1 h2 => match vs, hl, i, h1, h2 with | [_], _, 0, h1, h2 => by cases h1; cases h2; rfl), by decide⟩
theorem fm_NoFlag : PySem.Er.IForm ["flag"] (defArgs s_NoFlag_init) (defBody s_NoFlag_init) (defScope s_NoFlag_init) :=
  PySem.Er.IForm.one _ _ _ _ _ _ _ _ _ _ _ _ _ (fun _ _ _ _ _ => ⟨_, rfl⟩) (fun _ _ _ _ _ => rfl) ⟨fun _ _ _ _ _ _ _ _ _ vs hl => match vs, hl with | [_], _ => rfl, ⟨_, rfl, rfl⟩, rfl, rfl, rfl, (by
      intro f hf
      simp only [List.mem_cons, List.not_mem_nil, or_false] at hf
      rcases hf with rfl <;> exact ⟨rfl, by decide⟩), fun x vs hl => match vs, hl with | [_], _ => rfl, (fun x vs i f v hl h1 h2 => match vs, hl, i, h1, h2 with | [_], _, 0, h1, h2 => by cases h1; cases h2; rfl), by decide⟩
theorem fm_BadWalker : PySem.Er.IForm ["part"] (defArgs s_BadWalker_init) (defBody s_BadWalker_init) (defScope s_BadWalker_init) :=
  PySem.Er.IForm.one _ _ _ _ _ _ _ _ _ _ _ _ _ (fun _ _ _ _ _ => ⟨_, rfl⟩) (fun _ _ _ _ _ => rfl) ⟨fun _ _ _ _ _ _ _ _ _ vs hl => match vs, hl with | [_], _ => rfl, ⟨_, rfl, rfl⟩, rfl, rfl, rfl, (by
      intro f hf
      simp only [List.mem_cons, List.not_mem_nil, or_false] at hf
      rcases hf with rfl <;> exact ⟨rfl, by decide⟩), fun x vs hl => match vs, hl with | [_], _ => rfl, (fun x vs i f v hl h1 h2 => match vs, hl, i, h1, h2 with | [_], _, 0, h1, h2 => by cases h1; cases h2; rfl), by decide⟩
theorem fm_BadChange : PySem.Er.IForm ["at"] (defArgs s_BadChange_init) (defBody s_BadChange_init) (defScope s_BadChange_init) :=
  PySem.Er.IForm.one _ _ _ _ _ _ _ _ _ _ _ _ _ (fun _ _ _ _ _ => ⟨_, rfl⟩) (fun _ _ _ _ _ => rfl) ⟨fun _ _ _ _ _ _ _ _ _ vs hl => match vs, hl with | [_], _ => rfl, ⟨_, rfl, rfl⟩, rfl, rfl, rfl, (by
      intro f hf
      simp only [List.mem_cons, List.not_mem_nil, or_false] at hf
      rcases hf with rfl <;> exact ⟨rfl, by decide⟩), fun x vs hl => match vs, hl with | [_], _ => rfl, (fun x vs i f v hl h1 h2 => match vs, hl, i, h1, h2 with | [_], _, 0, h1, h2 => by cases h1; cases h2; rfl), by decide⟩
theorem fm_WrongSchema : PySem.Er.IForm [] (defArgs s_WrongSchema_init) (defBody s_WrongSchema_init) (defScope s_WrongSchema_init) :=
  PySem.Er.IForm.no _ _ _ _ _ _ _ _ (fun _ _ _ _ _ => ⟨_, rfl⟩) ⟨fun _ _ _ _ _ _ _ _ _ vs hl => match vs, hl with | [], _ => rfl, ⟨_, rfl, rfl⟩, rfl, rfl, rfl, (fun f hf => by cases hf), fun x vs hl => match vs, hl with | [], _ => rfl, (fun x vs i f v hl h1 h2 => by cases h1), by decide⟩
theorem fm_WrongStart : PySem.Er.IForm [] (defArgs s_WrongStart_init) (defBody s_WrongStart_init) (defScope s_WrongStart_init) :=
  PySem.Er.IForm.no _ _ _ _ _ _ _ _ (fun _ _ _ _ _ => ⟨_, rfl⟩) ⟨fun _ _ _ _ _ _ _ _ _ vs hl => match vs, hl with | [], _ => rfl, ⟨_, rfl, rfl⟩, rfl, rfl, rfl, (fun f hf => by cases hf), fun x vs hl => match vs, hl with | [], _ => rfl, (fun x vs i f v hl h1 h2 => by cases h1), by decide⟩
theorem fm_BadStart : PySem.Er.IForm ["thing"] (defArgs s_BadStart_init) (defBody s_BadStart_init) (defScope s_BadStart_init) :=
  PySem.Er.IForm.one _ _ _ _ _ _ _ _ _ _ _ _ _ (fun _ _ _ _ _ => ⟨_, rfl⟩) (fun _ _ _ _ _ => rfl) ⟨fun _ _ _ _ _ _ _ _ _ vs hl => match vs, hl with | [_], _ => rfl, ⟨_, rfl, rfl⟩, rfl, rfl, rfl, (by
      intro f hf
      simp only [List.mem_cons, List.not_mem_nil, or_false] at hf
      rcases hf with rfl <;> exact ⟨rfl, by decide⟩), fun x vs hl => match vs, hl with | [_], _ => rfl, (fun x vs i f v hl h1 h2 => match vs, hl, i, h1, h2 with | [_], _, 0, h1, h2 => by cases h1; cases h2; rfl), by decide⟩
theorem fm_TooLong : PySem.Er.IForm ["most"] (defArgs s_TooLong_init) (defBody s_TooLong_init) (defScope s_TooLong_init) :=
  PySem.Er.IForm.one _ _ _ _ _ _ _ _ _ _ _ _ _ (fun _ _ _ _ _ => ⟨_, rfl⟩) (fun _ _ _ _ _ => rfl) ⟨fun _ _ _ _ _ _ _ _ _ vs hl => match vs, hl with | [_], _ => rfl, ⟨_, rfl, rfl⟩, rfl, rfl, rfl, (by
      intro f hf
      simp only [List.mem_cons, List.not_mem_nil, or_false] at hf
      rcases hf with rfl <;> exact ⟨rfl, by decide⟩), fun x vs hl => match vs, hl with | [_], _ => rfl, (fun x vs i f v hl h1 h2 => match vs, hl, i, h1, h2 with | [_], _, 0, h1, h2 => by cases h1; cases h2; rfl), by decide⟩
theorem fm_NotPossible : PySem.Er.IForm ["kind", "word"] (defArgs s_NotPossible_init) (defBody s_NotPossible_init) (defScope s_NotPossible_init) :=
  PySem.Er.IForm.two _ _ _ _ _ _ _ _ _ _ _ _ _ _ _ _ _ _ (fun _ _ _ _ _ => ⟨_, rfl⟩) (fun _ _ _ _ _ => rfl) (fun _ _ _ _ _ => rfl) ⟨fun _ _ _ _ _ _ _ _ _ vs hl => match vs, hl with | [_, _], _ => rfl, ⟨_, rfl, rfl⟩, rfl, rfl, rfl, (by
      intro f hf
      simp only [List.mem_cons, List.not_mem_nil, or_false] at hf
      rcases hf with rfl | rfl <;> exact ⟨rfl, by decide⟩), fun x vs hl => match vs, hl with | [_, _], _ => rfl, (fun x vs i f v hl h1 h2 => match vs, hl, i, h1, h2 with | [_, _], _, 0, h1, h2 => by cases h1; cases h2; rfl | [_, _], _, 1, h1, h2 => by cases h1; cases h2; rfl), by decide⟩
theorem fm_NoQuestion : PySem.Er.IForm ["question"] (defArgs s_NoQuestion_init) (defBody s_NoQuestion_init) (defScope s_NoQuestion_init) :=
  PySem.Er.IForm.one _ _ _ _ _ _ _ _ _ _ _ _ _ (fun _ _ _ _ _ => ⟨_, rfl⟩) (fun _ _ _ _ _ => rfl) ⟨fun _ _ _ _ _ _ _ _ _ vs hl => match vs, hl with | [_], _ => rfl, ⟨_, rfl, rfl⟩, rfl, rfl, rfl, (by
      intro f hf
      simp only [List.mem_cons, List.not_mem_nil, or_false] at hf
      rcases hf with rfl <;> exact ⟨rfl, by decide⟩), fun x vs hl => match vs, hl with | [_], _ => rfl, (fun x vs i f v hl h1 h2 => match vs, hl, i, h1, h2 with | [_], _, 0, h1, h2 => by cases h1; cases h2; rfl), by decide⟩
theorem fm_BadWish : PySem.Er.IForm ["at"] (defArgs s_BadWish_init) (defBody s_BadWish_init) (defScope s_BadWish_init) :=
  PySem.Er.IForm.one _ _ _ _ _ _ _ _ _ _ _ _ _ (fun _ _ _ _ _ => ⟨_, rfl⟩) (fun _ _ _ _ _ => rfl) ⟨fun _ _ _ _ _ _ _ _ _ vs hl => match vs, hl with | [_], _ => rfl, ⟨_, rfl, rfl⟩, rfl, rfl, rfl, (by
      intro f hf
      simp only [List.mem_cons, List.not_mem_nil, or_false] at hf
      rcases hf with rfl <;> exact ⟨rfl, by decide⟩), fun x vs hl => match vs, hl with | [_], _ => rfl, (fun x vs i f v hl h1 h2 => match vs, hl, i, h1, h2 with | [_], _, 0, h1, h2 => by cases h1; cases h2; rfl), by decide⟩
theorem fm_NoFamily : PySem.Er.IForm ["word"] (defArgs s_NoFamily_init) (defBody s_NoFamily_init) (defScope s_NoFamily_init) :=
  PySem.Er.IForm.one _ _ _ _ _ _ _ _ _ _ _ _ _ (fun _ _ _ _ _ => ⟨_, rfl⟩) (fun _ _ _ _ _ => rfl) ⟨fun _ _ _ _ _ _ _ _ _ vs hl => match vs, hl with | [_], _ => rfl, ⟨_, rfl, rfl⟩, rfl, rfl, rfl, (by
      intro f hf
      simp only [List.mem_cons, List.not_mem_nil, or_false] at hf
      rcases hf with rfl <;> exact ⟨rfl, by decide⟩), fun x vs hl => match vs, hl with | [_], _ => rfl, (fun x vs i f v hl h1 h2 => match vs, hl, i, h1, h2 with | [_], _, 0, h1, h2 => by cases h1; cases h2; rfl), by decide⟩
theorem fm_Refused : PySem.Er.IForm ["ring"] (defArgs s_Refused_init) (defBody s_Refused_init) (defScope s_Refused_init) :=
  PySem.Er.IForm.one _ _ _ _ _ _ _ _ _ _ _ _ _ (fun _ _ _ _ _ => ⟨_, rfl⟩) (fun _ _ _ _ _ => rfl) ⟨fun _ _ _ _ _ _ _ _ _ vs hl => match vs, hl with | [_], _ => rfl, ⟨_, rfl, rfl⟩, rfl, rfl, rfl, (by
      intro f hf
      simp only [List.mem_cons, List.not_mem_nil, or_false] at hf
      rcases hf with rfl <;> exact ⟨rfl, by decide⟩), fun x vs hl => match vs, hl with | [_], _ => rfl, (fun x vs i f v hl h1 h2 => match vs, hl, i, h1, h2 with | [_], _, 0, h1, h2 => by cases h1; cases h2; rfl), by decide⟩
theorem fm_Endless : PySem.Er.IForm ["ring"] (defArgs s_Endless_init) (defBody s_Endless_init) (defScope s_Endless_init) :=
  PySem.Er.IForm.one _ _ _ _ _ _ _ _ _ _ _ _ _ (fun _ _ _ _ _ => ⟨_, rfl⟩) (fun _ _ _ _ _ => rfl) ⟨fun _ _ _ _ _ _ _ _ _ vs hl => match vs, hl with | [_], _ => rfl, ⟨_, rfl, rfl⟩, rfl, rfl, rfl, (by
      intro f hf
      simp only [List.mem_cons, List.not_mem_nil, or_false] at hf
      rcases hf with rfl <;> exact ⟨rfl, by decide⟩), fun x vs hl => match vs, hl with | [_], _ => rfl, (fun x vs i f v hl h1 h2 => match vs, hl, i, h1, h2 with | [_], _, 0, h1, h2 => by cases h1; cases h2; rfl), by decide⟩
theorem all_mk {l : PySem.W.OpenLaw} {w : World} {K : PySem.W.Frag} {h : Heap} {mg : Str → Option Value} {fa : Addr} (X : K.In h) (G : h.Ns mainGlobals mg) (hfa : mg "law" = some (.ref fa))
    {C_BadSchema f_BadSchema_init cda_BadSchema_init cc_BadSchema_init : Addr} {oc_BadSchema_init ct_BadSchema_init ccl_BadSchema_init ccc_BadSchema_init dc_BadSchema_init pm_BadSchema_init : Value} {od_BadSchema_init an_BadSchema_init cdd_BadSchema_init cld_BadSchema_init : Option Addr} {osl_BadSchema_init ccs_BadSchema_init csl_BadSchema_init : Array (Option Value)} {vs_BadSchema_init : Array Value} {file_BadSchema_init : Str} {tf_BadSchema_init : Tok} {C_BadText f_BadText_init cda_BadText_init cc_BadText_init : Addr} {oc_BadText_init ct_BadText_init ccl_BadText_init ccc_BadText_init dc_BadText_init pm_BadText_init : Value} {od_BadText_init an_BadText_init cdd_BadText_init cld_BadText_init : Option Addr} {osl_BadText_init ccs_BadText_init csl_BadText_init : Array (Option Value)} {vs_BadText_init : Array Value} {file_BadText_init : Str} {tf_BadText_init : Tok} {C_NoKind f_NoKind_init cda_NoKind_init cc_NoKind_init : Addr} {oc_NoKind_init ct_NoKind_init ccl_NoKind_init ccc_NoKind_init dc_NoKind_init pm_NoKind_init : Value} {od_NoKind_init an_NoKind_init cdd_NoKind_init cld_NoKind_init : Option Addr} {osl_NoKind_init ccs_NoKind_init csl_NoKind_init : Array (Option Value)} {vs_NoKind_init : Array Value} {file_NoKind_init : Str} {tf_NoKind_init : Tok} {C_NoField f_NoField_init cda_NoField_init cc_NoField_init : Addr} {oc_NoField_init ct_NoField_init ccl_NoField_init ccc_NoField_init dc_NoField_init pm_NoField_init : Value} {od_NoField_init an_NoField_init cdd_NoField_init cld_NoField_init : Option Addr} {osl_NoField_init ccs_NoField_init csl_NoField_init : Array (Option Value)} {vs_NoField_init : Array Value} {file_NoField_init : Str} {tf_NoField_init : Tok} {C_BadTag f_BadTag_init cda_BadTag_init cc_BadTag_init : Addr} {oc_BadTag_init ct_BadTag_init ccl_BadTag_init ccc_BadTag_init dc_BadTag_init pm_BadTag_init : Value} {od_BadTag_init an_BadTag_init cdd_BadTag_init cld_BadTag_init : Option Addr} {osl_BadTag_init ccs_BadTag_init csl_BadTag_init : Array (Option Value)} {vs_BadTag_init : Array Value} {file_BadTag_init : Str} {tf_BadTag_init : Tok} {C_BadValue f_BadValue_init cda_BadValue_init cc_BadValue_init : Addr} {oc_BadValue_init ct_BadValue_init ccl_BadValue_init ccc_BadValue_init dc_BadValue_init pm_BadValue_init : Value} {od_BadValue_init an_BadValue_init cdd_BadValue_init cld_BadValue_init : Option Addr} {osl_BadValue_init ccs_BadValue_init csl_BadValue_init : Array (Option Value)} {vs_BadValue_init : Array Value} {file_BadValue_init : Str} {tf_BadValue_init : Tok} {C_NoThing f_NoThing_init cda_NoThing_init cc_NoThing_init : Addr} {oc_NoThing_init ct_NoThing_init ccl_NoThing_init ccc_NoThing_init dc_NoThing_init pm_NoThing_init : Value} {od_NoThing_init an_NoThing_init cdd_NoThing_init cld_NoThing_init : Option Addr} {osl_NoThing_init ccs_NoThing_init csl_NoThing_init : Array (Option Value)} {vs_NoThing_init : Array Value} {file_NoThing_init : Str} {tf_NoThing_init : Tok} {C_BadGraph f_BadGraph_init cda_BadGraph_init cc_BadGraph_init : Addr} {oc_BadGraph_init ct_BadGraph_init ccl_BadGraph_init ccc_BadGraph_init dc_BadGraph_init pm_BadGraph_init : Value} {od_BadGraph_init an_BadGraph_init cdd_BadGraph_init cld_BadGraph_init : Option Addr} {osl_BadGraph_init ccs_BadGraph_init csl_BadGraph_init : Array (Option Value)} {vs_BadGraph_init : Array Value} {file_BadGraph_init : Str} {tf_BadGraph_init : Tok} {C_TooMany f_TooMany_init cda_TooMany_init cc_TooMany_init : Addr} {oc_TooMany_init ct_TooMany_init ccl_TooMany_init ccc_TooMany_init dc_TooMany_init pm_TooMany_init : Value} {od_TooMany_init an_TooMany_init cdd_TooMany_init cld_TooMany_init : Option Addr} {osl_TooMany_init ccs_TooMany_init csl_TooMany_init : Array (Option Value)} {vs_TooMany_init : Array Value} {file_TooMany_init : Str} {tf_TooMany_init : Tok} {C_BadGuard f_BadGuard_init cda_BadGuard_init cc_BadGuard_init : Addr} {oc_BadGuard_init ct_BadGuard_init ccl_BadGuard_init ccc_BadGuard_init dc_BadGuard_init pm_BadGuard_init : Value} {od_BadGuard_init an_BadGuard_init cdd_BadGuard_init cld_BadGuard_init : Option Addr} {osl_BadGuard_init ccs_BadGuard_init csl_BadGuard_init : Array (Option Value)} {vs_BadGuard_init : Array Value} {file_BadGuard_init : Str} {tf_BadGuard_init : Tok} {C_NoFlag f_NoFlag_init cda_NoFlag_init cc_NoFlag_init : Addr} {oc_NoFlag_init ct_NoFlag_init ccl_NoFlag_init ccc_NoFlag_init dc_NoFlag_init pm_NoFlag_init : Value} {od_NoFlag_init an_NoFlag_init cdd_NoFlag_init cld_NoFlag_init : Option Addr} {osl_NoFlag_init ccs_NoFlag_init csl_NoFlag_init : Array (Option Value)} {vs_NoFlag_init : Array Value} {file_NoFlag_init : Str} {tf_NoFlag_init : Tok} {C_BadWalker f_BadWalker_init cda_BadWalker_init cc_BadWalker_init : Addr} {oc_BadWalker_init ct_BadWalker_init ccl_BadWalker_init ccc_BadWalker_init dc_BadWalker_init pm_BadWalker_init : Value} {od_BadWalker_init an_BadWalker_init cdd_BadWalker_init cld_BadWalker_init : Option Addr} {osl_BadWalker_init ccs_BadWalker_init csl_BadWalker_init : Array (Option Value)} {vs_BadWalker_init : Array Value} {file_BadWalker_init : Str} {tf_BadWalker_init : Tok} {C_BadChange f_BadChange_init cda_BadChange_init cc_BadChange_init : Addr} {oc_BadChange_init ct_BadChange_init ccl_BadChange_init ccc_BadChange_init dc_BadChange_init pm_BadChange_init : Value} {od_BadChange_init an_BadChange_init cdd_BadChange_init cld_BadChange_init : Option Addr} {osl_BadChange_init ccs_BadChange_init csl_BadChange_init : Array (Option Value)} {vs_BadChange_init : Array Value} {file_BadChange_init : Str} {tf_BadChange_init : Tok} {C_WrongSchema f_WrongSchema_init cda_WrongSchema_init cc_WrongSchema_init : Addr} {oc_WrongSchema_init ct_WrongSchema_init ccl_WrongSchema_init ccc_WrongSchema_init dc_WrongSchema_init pm_WrongSchema_init : Value} {od_WrongSchema_init an_WrongSchema_init cdd_WrongSchema_init cld_WrongSchema_init : Option Addr} {osl_WrongSchema_init ccs_WrongSchema_init csl_WrongSchema_init : Array (Option Value)} {vs_WrongSchema_init : Array Value} {file_WrongSchema_init : Str} {tf_WrongSchema_init : Tok} {C_WrongStart f_WrongStart_init cda_WrongStart_init cc_WrongStart_init : Addr} {oc_WrongStart_init ct_WrongStart_init ccl_WrongStart_init ccc_WrongStart_init dc_WrongStart_init pm_WrongStart_init : Value} {od_WrongStart_init an_WrongStart_init cdd_WrongStart_init cld_WrongStart_init : Option Addr} {osl_WrongStart_init ccs_WrongStart_init csl_WrongStart_init : Array (Option Value)} {vs_WrongStart_init : Array Value} {file_WrongStart_init : Str} {tf_WrongStart_init : Tok} {C_BadStart f_BadStart_init cda_BadStart_init cc_BadStart_init : Addr} {oc_BadStart_init ct_BadStart_init ccl_BadStart_init ccc_BadStart_init dc_BadStart_init pm_BadStart_init : Value} {od_BadStart_init an_BadStart_init cdd_BadStart_init cld_BadStart_init : Option Addr} {osl_BadStart_init ccs_BadStart_init csl_BadStart_init : Array (Option Value)} {vs_BadStart_init : Array Value} {file_BadStart_init : Str} {tf_BadStart_init : Tok} {C_TooLong f_TooLong_init cda_TooLong_init cc_TooLong_init : Addr} {oc_TooLong_init ct_TooLong_init ccl_TooLong_init ccc_TooLong_init dc_TooLong_init pm_TooLong_init : Value} {od_TooLong_init an_TooLong_init cdd_TooLong_init cld_TooLong_init : Option Addr} {osl_TooLong_init ccs_TooLong_init csl_TooLong_init : Array (Option Value)} {vs_TooLong_init : Array Value} {file_TooLong_init : Str} {tf_TooLong_init : Tok} {C_NotPossible f_NotPossible_init cda_NotPossible_init cc_NotPossible_init : Addr} {oc_NotPossible_init ct_NotPossible_init ccl_NotPossible_init ccc_NotPossible_init dc_NotPossible_init pm_NotPossible_init : Value} {od_NotPossible_init an_NotPossible_init cdd_NotPossible_init cld_NotPossible_init : Option Addr} {osl_NotPossible_init ccs_NotPossible_init csl_NotPossible_init : Array (Option Value)} {vs_NotPossible_init : Array Value} {file_NotPossible_init : Str} {tf_NotPossible_init : Tok} {C_NoQuestion f_NoQuestion_init cda_NoQuestion_init cc_NoQuestion_init : Addr} {oc_NoQuestion_init ct_NoQuestion_init ccl_NoQuestion_init ccc_NoQuestion_init dc_NoQuestion_init pm_NoQuestion_init : Value} {od_NoQuestion_init an_NoQuestion_init cdd_NoQuestion_init cld_NoQuestion_init : Option Addr} {osl_NoQuestion_init ccs_NoQuestion_init csl_NoQuestion_init : Array (Option Value)} {vs_NoQuestion_init : Array Value} {file_NoQuestion_init : Str} {tf_NoQuestion_init : Tok} {C_BadWish f_BadWish_init cda_BadWish_init cc_BadWish_init : Addr} {oc_BadWish_init ct_BadWish_init ccl_BadWish_init ccc_BadWish_init dc_BadWish_init pm_BadWish_init : Value} {od_BadWish_init an_BadWish_init cdd_BadWish_init cld_BadWish_init : Option Addr} {osl_BadWish_init ccs_BadWish_init csl_BadWish_init : Array (Option Value)} {vs_BadWish_init : Array Value} {file_BadWish_init : Str} {tf_BadWish_init : Tok} {C_NoFamily f_NoFamily_init cda_NoFamily_init cc_NoFamily_init : Addr} {oc_NoFamily_init ct_NoFamily_init ccl_NoFamily_init ccc_NoFamily_init dc_NoFamily_init pm_NoFamily_init : Value} {od_NoFamily_init an_NoFamily_init cdd_NoFamily_init cld_NoFamily_init : Option Addr} {osl_NoFamily_init ccs_NoFamily_init csl_NoFamily_init : Array (Option Value)} {vs_NoFamily_init : Array Value} {file_NoFamily_init : Str} {tf_NoFamily_init : Tok} {C_Refused f_Refused_init cda_Refused_init cc_Refused_init : Addr} {oc_Refused_init ct_Refused_init ccl_Refused_init ccc_Refused_init dc_Refused_init pm_Refused_init : Value} {od_Refused_init an_Refused_init cdd_Refused_init cld_Refused_init : Option Addr} {osl_Refused_init ccs_Refused_init csl_Refused_init : Array (Option Value)} {vs_Refused_init : Array Value} {file_Refused_init : Str} {tf_Refused_init : Tok} {C_Endless f_Endless_init cda_Endless_init cc_Endless_init : Addr} {oc_Endless_init ct_Endless_init ccl_Endless_init ccc_Endless_init dc_Endless_init pm_Endless_init : Value} {od_Endless_init an_Endless_init cdd_Endless_init cld_Endless_init : Option Addr} {osl_Endless_init ccs_Endless_init csl_Endless_init : Array (Option Value)} {vs_Endless_init : Array Value} {file_Endless_init : Str} {tf_Endless_init : Tok} {od_l_pen an_l_pen : Option Addr} {sl_l_pen : Array (Option Value)} {oc_l_pen kV_l_pen dc_l_pen pm_l_pen cd_l_pen ct_l_pen : Value} {f_l_pen : Addr} {od_l_take an_l_take : Option Addr} {sl_l_take : Array (Option Value)} {oc_l_take kV_l_take dc_l_take pm_l_take cd_l_take ct_l_take : Value} {f_l_take : Addr} {od_l_plain an_l_plain : Option Addr} {sl_l_plain : Array (Option Value)} {oc_l_plain kV_l_plain dc_l_plain pm_l_plain cd_l_plain ct_l_plain : Value} {f_l_plain : Addr} {od_l_same an_l_same : Option Addr} {sl_l_same : Array (Option Value)} {oc_l_same kV_l_same dc_l_same pm_l_same cd_l_same ct_l_same : Value} {f_l_same : Addr} {od_l_matches an_l_matches : Option Addr} {sl_l_matches : Array (Option Value)} {oc_l_matches kV_l_matches dc_l_matches pm_l_matches cd_l_matches ct_l_matches : Value} {f_l_matches : Addr} {od_l_first_errors an_l_first_errors : Option Addr} {sl_l_first_errors : Array (Option Value)} {oc_l_first_errors kV_l_first_errors dc_l_first_errors pm_l_first_errors cd_l_first_errors ct_l_first_errors : Value} {f_l_first_errors : Addr} {od_l_second_errors an_l_second_errors : Option Addr} {sl_l_second_errors : Array (Option Value)} {oc_l_second_errors kV_l_second_errors dc_l_second_errors pm_l_second_errors cd_l_second_errors ct_l_second_errors : Value} {f_l_second_errors : Addr} {od_l_stops an_l_stops : Option Addr} {sl_l_stops : Array (Option Value)} {oc_l_stops kV_l_stops dc_l_stops pm_l_stops cd_l_stops ct_l_stops : Value} {f_l_stops : Addr} {od_l_caught an_l_caught : Option Addr} {sl_l_caught : Array (Option Value)} {oc_l_caught kV_l_caught dc_l_caught pm_l_caught cd_l_caught ct_l_caught : Value} {f_l_caught : Addr} {od_law an_law : Option Addr} {sl_law : Array (Option Value)} {oc_law kV_law dc_law pm_law cd_law ct_law : Value} {f_law : Addr} {C_WalkmarksError : Addr} {C_Stopped : Addr}
    (z_len : PySem.W.nsIn K mainGlobals "len" = some none)
    (z_int : PySem.W.nsIn K mainGlobals "int" = some none)
    (z_list : PySem.W.nsIn K mainGlobals "list" = some none)
    (z_range : PySem.W.nsIn K mainGlobals "range" = some none)
    (z_isinstance : PySem.W.nsIn K mainGlobals "isinstance" = some none)
    (z_str : PySem.W.nsIn K mainGlobals "str" = some none)
    (z_tuple : PySem.W.nsIn K mainGlobals "tuple" = some none)
    (z_bool : PySem.W.nsIn K mainGlobals "bool" = some none)
    (z_ValueError : PySem.W.nsIn K mainGlobals "ValueError" = some none)
    (z_RuntimeError : PySem.W.nsIn K mainGlobals "RuntimeError" = some none)
    (aC_BadSchema : PySem.W.nsIn K mainGlobals "BadSchema" = some (some (.ref C_BadSchema)))
    (init_BadSchema : PySem.W.findIn K (.ref C_BadSchema) "__init__" = some (some (.ref f_BadSchema_init)))
    (ty_BadSchema : PySem.W.typeIn K (.ref f_BadSchema_init) = some (.type "function"))
    (lk_BadSchema : K.lookup f_BadSchema_init = some ⟨oc_BadSchema_init, od_BadSchema_init, .func (PySem.W.ksFn "__init__" "BadSchema.__init__" (defArgs s_BadSchema_init) (defBody s_BadSchema_init) (defScope s_BadSchema_init) .none .none dc_BadSchema_init pm_BadSchema_init an_BadSchema_init (.ref cda_BadSchema_init) ct_BadSchema_init cc_BadSchema_init), osl_BadSchema_init⟩)
    (hc_BadSchema : PySem.W.codeIn K (.ref cda_BadSchema_init) "BadSchema.__init__" = true)
    (code_BadSchema : K.lookup cda_BadSchema_init = some ⟨ccl_BadSchema_init, cdd_BadSchema_init, .fields vs_BadSchema_init, ccs_BadSchema_init⟩)
    (hv_BadSchema : vs_BadSchema_init[2]? = some (.str file_BadSchema_init tf_BadSchema_init))
    (hf_BadSchema : ((l.prog.main.file : Str) == file_BadSchema_init) = true)
    (cell_BadSchema : K.lookup cc_BadSchema_init = some ⟨ccc_BadSchema_init, cld_BadSchema_init, .cell (some (.ref C_BadSchema)), csl_BadSchema_init⟩)
    (ic_BadSchema : PySem.W.isClsIn K C_BadSchema = true)
    (sub_BadSchema : PySem.W.mroIn K C_BadSchema (.ref C_BadSchema) = some true)
    (z_super : PySem.W.nsIn K mainGlobals "super" = some none)
    (z_tp : PySem.W.nsIn K cStatics "thirdparty.any" = some none)
    (z_top : (l.prog.main.scope.names.lookup ("super" : Str)).isSome = false)
    (sup_BadSchema : PySem.W.ks_superIn K C_BadSchema C_BadSchema "__init__" = some (some (.builtin "ValueError.__init__")))
    (base_BadSchema : PySem.W.subIn K (.ref C_BadSchema) (.type "ValueError") = some true)
    (exc_BadSchema : PySem.W.excInitIn K C_BadSchema [.type "ValueError", .type "Exception", .type "BaseException", .type "object"] "ValueError.__new__" = true)
    (sa_BadSchema : PySem.W.findIn K (.ref C_BadSchema) "__setattr__" = some (some (.builtin "object.__setattr__")))
    (ov_BadSchema : PySem.W.excOver K C_BadSchema [.type "ValueError", .type "Exception", .type "BaseException", .type "object"] = true)
    (hd_BadSchema : PySem.W.hasDictIn K C_BadSchema = true)
    (no_BadSchema_at : PySem.W.findIn K (.ref C_BadSchema) "at" = some none)
    (exC_BadSchema : PySem.W.subIn K (.ref C_BadSchema) (.type "BaseException") = some true)
    (tyC_BadSchema : PySem.W.typeIn K (.ref C_BadSchema) = some (.type "type"))
    (kC_BadSchema : PySem.W.keepIn K (.ref C_BadSchema) = true)
    (su_BadSchema : PySem.W.subIn K (.ref C_BadSchema) (.ref C_BadSchema) = some true)
    (ga_BadSchema : PySem.W.findIn K (.ref C_BadSchema) "__getattribute__" = some (some (.builtin "BaseException.__getattribute__")))
    (gg_BadSchema : PySem.W.findIn K (.ref C_BadSchema) "__getattr__" = some none)
    (aC_BadText : PySem.W.nsIn K mainGlobals "BadText" = some (some (.ref C_BadText)))
    (init_BadText : PySem.W.findIn K (.ref C_BadText) "__init__" = some (some (.ref f_BadText_init)))
    (ty_BadText : PySem.W.typeIn K (.ref f_BadText_init) = some (.type "function"))
    (lk_BadText : K.lookup f_BadText_init = some ⟨oc_BadText_init, od_BadText_init, .func (PySem.W.ksFn "__init__" "BadText.__init__" (defArgs s_BadText_init) (defBody s_BadText_init) (defScope s_BadText_init) .none .none dc_BadText_init pm_BadText_init an_BadText_init (.ref cda_BadText_init) ct_BadText_init cc_BadText_init), osl_BadText_init⟩)
    (hc_BadText : PySem.W.codeIn K (.ref cda_BadText_init) "BadText.__init__" = true)
    (code_BadText : K.lookup cda_BadText_init = some ⟨ccl_BadText_init, cdd_BadText_init, .fields vs_BadText_init, ccs_BadText_init⟩)
    (hv_BadText : vs_BadText_init[2]? = some (.str file_BadText_init tf_BadText_init))
    (hf_BadText : ((l.prog.main.file : Str) == file_BadText_init) = true)
    (cell_BadText : K.lookup cc_BadText_init = some ⟨ccc_BadText_init, cld_BadText_init, .cell (some (.ref C_BadText)), csl_BadText_init⟩)
    (ic_BadText : PySem.W.isClsIn K C_BadText = true)
    (sub_BadText : PySem.W.mroIn K C_BadText (.ref C_BadText) = some true)
    (sup_BadText : PySem.W.ks_superIn K C_BadText C_BadText "__init__" = some (some (.builtin "ValueError.__init__")))
    (base_BadText : PySem.W.subIn K (.ref C_BadText) (.type "ValueError") = some true)
    (exc_BadText : PySem.W.excInitIn K C_BadText [.type "ValueError", .type "Exception", .type "BaseException", .type "object"] "ValueError.__new__" = true)
    (sa_BadText : PySem.W.findIn K (.ref C_BadText) "__setattr__" = some (some (.builtin "object.__setattr__")))
    (ov_BadText : PySem.W.excOver K C_BadText [.type "ValueError", .type "Exception", .type "BaseException", .type "object"] = true)
    (hd_BadText : PySem.W.hasDictIn K C_BadText = true)
    (no_BadText_line : PySem.W.findIn K (.ref C_BadText) "line" = some none)
    (exC_BadText : PySem.W.subIn K (.ref C_BadText) (.type "BaseException") = some true)
    (tyC_BadText : PySem.W.typeIn K (.ref C_BadText) = some (.type "type"))
    (kC_BadText : PySem.W.keepIn K (.ref C_BadText) = true)
    (su_BadText : PySem.W.subIn K (.ref C_BadText) (.ref C_BadText) = some true)
    (ga_BadText : PySem.W.findIn K (.ref C_BadText) "__getattribute__" = some (some (.builtin "BaseException.__getattribute__")))
    (gg_BadText : PySem.W.findIn K (.ref C_BadText) "__getattr__" = some none)
    (aC_NoKind : PySem.W.nsIn K mainGlobals "NoKind" = some (some (.ref C_NoKind)))
    (init_NoKind : PySem.W.findIn K (.ref C_NoKind) "__init__" = some (some (.ref f_NoKind_init)))
    (ty_NoKind : PySem.W.typeIn K (.ref f_NoKind_init) = some (.type "function"))
    (lk_NoKind : K.lookup f_NoKind_init = some ⟨oc_NoKind_init, od_NoKind_init, .func (PySem.W.ksFn "__init__" "NoKind.__init__" (defArgs s_NoKind_init) (defBody s_NoKind_init) (defScope s_NoKind_init) .none .none dc_NoKind_init pm_NoKind_init an_NoKind_init (.ref cda_NoKind_init) ct_NoKind_init cc_NoKind_init), osl_NoKind_init⟩)
    (hc_NoKind : PySem.W.codeIn K (.ref cda_NoKind_init) "NoKind.__init__" = true)
    (code_NoKind : K.lookup cda_NoKind_init = some ⟨ccl_NoKind_init, cdd_NoKind_init, .fields vs_NoKind_init, ccs_NoKind_init⟩)
    (hv_NoKind : vs_NoKind_init[2]? = some (.str file_NoKind_init tf_NoKind_init))
    (hf_NoKind : ((l.prog.main.file : Str) == file_NoKind_init) = true)
    (cell_NoKind : K.lookup cc_NoKind_init = some ⟨ccc_NoKind_init, cld_NoKind_init, .cell (some (.ref C_NoKind)), csl_NoKind_init⟩)
    (ic_NoKind : PySem.W.isClsIn K C_NoKind = true)
    (sub_NoKind : PySem.W.mroIn K C_NoKind (.ref C_NoKind) = some true)
    (sup_NoKind : PySem.W.ks_superIn K C_NoKind C_NoKind "__init__" = some (some (.builtin "ValueError.__init__")))
    (base_NoKind : PySem.W.subIn K (.ref C_NoKind) (.type "ValueError") = some true)
    (exc_NoKind : PySem.W.excInitIn K C_NoKind [.type "ValueError", .type "Exception", .type "BaseException", .type "object"] "ValueError.__new__" = true)
    (sa_NoKind : PySem.W.findIn K (.ref C_NoKind) "__setattr__" = some (some (.builtin "object.__setattr__")))
    (ov_NoKind : PySem.W.excOver K C_NoKind [.type "ValueError", .type "Exception", .type "BaseException", .type "object"] = true)
    (hd_NoKind : PySem.W.hasDictIn K C_NoKind = true)
    (no_NoKind_kind : PySem.W.findIn K (.ref C_NoKind) "kind" = some none)
    (exC_NoKind : PySem.W.subIn K (.ref C_NoKind) (.type "BaseException") = some true)
    (tyC_NoKind : PySem.W.typeIn K (.ref C_NoKind) = some (.type "type"))
    (kC_NoKind : PySem.W.keepIn K (.ref C_NoKind) = true)
    (su_NoKind : PySem.W.subIn K (.ref C_NoKind) (.ref C_NoKind) = some true)
    (ga_NoKind : PySem.W.findIn K (.ref C_NoKind) "__getattribute__" = some (some (.builtin "BaseException.__getattribute__")))
    (gg_NoKind : PySem.W.findIn K (.ref C_NoKind) "__getattr__" = some none)
    (aC_NoField : PySem.W.nsIn K mainGlobals "NoField" = some (some (.ref C_NoField)))
    (init_NoField : PySem.W.findIn K (.ref C_NoField) "__init__" = some (some (.ref f_NoField_init)))
    (ty_NoField : PySem.W.typeIn K (.ref f_NoField_init) = some (.type "function"))
    (lk_NoField : K.lookup f_NoField_init = some ⟨oc_NoField_init, od_NoField_init, .func (PySem.W.ksFn "__init__" "NoField.__init__" (defArgs s_NoField_init) (defBody s_NoField_init) (defScope s_NoField_init) .none .none dc_NoField_init pm_NoField_init an_NoField_init (.ref cda_NoField_init) ct_NoField_init cc_NoField_init), osl_NoField_init⟩)
    (hc_NoField : PySem.W.codeIn K (.ref cda_NoField_init) "NoField.__init__" = true)
    (code_NoField : K.lookup cda_NoField_init = some ⟨ccl_NoField_init, cdd_NoField_init, .fields vs_NoField_init, ccs_NoField_init⟩)
    (hv_NoField : vs_NoField_init[2]? = some (.str file_NoField_init tf_NoField_init))
    (hf_NoField : ((l.prog.main.file : Str) == file_NoField_init) = true)
    (cell_NoField : K.lookup cc_NoField_init = some ⟨ccc_NoField_init, cld_NoField_init, .cell (some (.ref C_NoField)), csl_NoField_init⟩)
    (ic_NoField : PySem.W.isClsIn K C_NoField = true)
    (sub_NoField : PySem.W.mroIn K C_NoField (.ref C_NoField) = some true)
    (sup_NoField : PySem.W.ks_superIn K C_NoField C_NoField "__init__" = some (some (.builtin "ValueError.__init__")))
    (base_NoField : PySem.W.subIn K (.ref C_NoField) (.type "ValueError") = some true)
    (exc_NoField : PySem.W.excInitIn K C_NoField [.type "ValueError", .type "Exception", .type "BaseException", .type "object"] "ValueError.__new__" = true)
    (sa_NoField : PySem.W.findIn K (.ref C_NoField) "__setattr__" = some (some (.builtin "object.__setattr__")))
    (ov_NoField : PySem.W.excOver K C_NoField [.type "ValueError", .type "Exception", .type "BaseException", .type "object"] = true)
    (hd_NoField : PySem.W.hasDictIn K C_NoField = true)
    (no_NoField_kind : PySem.W.findIn K (.ref C_NoField) "kind" = some none)
    (no_NoField_field : PySem.W.findIn K (.ref C_NoField) "field" = some none)
    (exC_NoField : PySem.W.subIn K (.ref C_NoField) (.type "BaseException") = some true)
    (tyC_NoField : PySem.W.typeIn K (.ref C_NoField) = some (.type "type"))
    (kC_NoField : PySem.W.keepIn K (.ref C_NoField) = true)
    (su_NoField : PySem.W.subIn K (.ref C_NoField) (.ref C_NoField) = some true)
    (ga_NoField : PySem.W.findIn K (.ref C_NoField) "__getattribute__" = some (some (.builtin "BaseException.__getattribute__")))
    (gg_NoField : PySem.W.findIn K (.ref C_NoField) "__getattr__" = some none)
    (aC_BadTag : PySem.W.nsIn K mainGlobals "BadTag" = some (some (.ref C_BadTag)))
    (init_BadTag : PySem.W.findIn K (.ref C_BadTag) "__init__" = some (some (.ref f_BadTag_init)))
    (ty_BadTag : PySem.W.typeIn K (.ref f_BadTag_init) = some (.type "function"))
    (lk_BadTag : K.lookup f_BadTag_init = some ⟨oc_BadTag_init, od_BadTag_init, .func (PySem.W.ksFn "__init__" "BadTag.__init__" (defArgs s_BadTag_init) (defBody s_BadTag_init) (defScope s_BadTag_init) .none .none dc_BadTag_init pm_BadTag_init an_BadTag_init (.ref cda_BadTag_init) ct_BadTag_init cc_BadTag_init), osl_BadTag_init⟩)
    (hc_BadTag : PySem.W.codeIn K (.ref cda_BadTag_init) "BadTag.__init__" = true)
    (code_BadTag : K.lookup cda_BadTag_init = some ⟨ccl_BadTag_init, cdd_BadTag_init, .fields vs_BadTag_init, ccs_BadTag_init⟩)
    (hv_BadTag : vs_BadTag_init[2]? = some (.str file_BadTag_init tf_BadTag_init))
    (hf_BadTag : ((l.prog.main.file : Str) == file_BadTag_init) = true)
    (cell_BadTag : K.lookup cc_BadTag_init = some ⟨ccc_BadTag_init, cld_BadTag_init, .cell (some (.ref C_BadTag)), csl_BadTag_init⟩)
    (ic_BadTag : PySem.W.isClsIn K C_BadTag = true)
    (sub_BadTag : PySem.W.mroIn K C_BadTag (.ref C_BadTag) = some true)
    (sup_BadTag : PySem.W.ks_superIn K C_BadTag C_BadTag "__init__" = some (some (.builtin "ValueError.__init__")))
    (base_BadTag : PySem.W.subIn K (.ref C_BadTag) (.type "ValueError") = some true)
    (exc_BadTag : PySem.W.excInitIn K C_BadTag [.type "ValueError", .type "Exception", .type "BaseException", .type "object"] "ValueError.__new__" = true)
    (sa_BadTag : PySem.W.findIn K (.ref C_BadTag) "__setattr__" = some (some (.builtin "object.__setattr__")))
    (ov_BadTag : PySem.W.excOver K C_BadTag [.type "ValueError", .type "Exception", .type "BaseException", .type "object"] = true)
    (hd_BadTag : PySem.W.hasDictIn K C_BadTag = true)
    (no_BadTag_tag : PySem.W.findIn K (.ref C_BadTag) "tag" = some none)
    (exC_BadTag : PySem.W.subIn K (.ref C_BadTag) (.type "BaseException") = some true)
    (tyC_BadTag : PySem.W.typeIn K (.ref C_BadTag) = some (.type "type"))
    (kC_BadTag : PySem.W.keepIn K (.ref C_BadTag) = true)
    (su_BadTag : PySem.W.subIn K (.ref C_BadTag) (.ref C_BadTag) = some true)
    (ga_BadTag : PySem.W.findIn K (.ref C_BadTag) "__getattribute__" = some (some (.builtin "BaseException.__getattribute__")))
    (gg_BadTag : PySem.W.findIn K (.ref C_BadTag) "__getattr__" = some none)
    (aC_BadValue : PySem.W.nsIn K mainGlobals "BadValue" = some (some (.ref C_BadValue)))
    (init_BadValue : PySem.W.findIn K (.ref C_BadValue) "__init__" = some (some (.ref f_BadValue_init)))
    (ty_BadValue : PySem.W.typeIn K (.ref f_BadValue_init) = some (.type "function"))
    (lk_BadValue : K.lookup f_BadValue_init = some ⟨oc_BadValue_init, od_BadValue_init, .func (PySem.W.ksFn "__init__" "BadValue.__init__" (defArgs s_BadValue_init) (defBody s_BadValue_init) (defScope s_BadValue_init) .none .none dc_BadValue_init pm_BadValue_init an_BadValue_init (.ref cda_BadValue_init) ct_BadValue_init cc_BadValue_init), osl_BadValue_init⟩)
    (hc_BadValue : PySem.W.codeIn K (.ref cda_BadValue_init) "BadValue.__init__" = true)
    (code_BadValue : K.lookup cda_BadValue_init = some ⟨ccl_BadValue_init, cdd_BadValue_init, .fields vs_BadValue_init, ccs_BadValue_init⟩)
    (hv_BadValue : vs_BadValue_init[2]? = some (.str file_BadValue_init tf_BadValue_init))
    (hf_BadValue : ((l.prog.main.file : Str) == file_BadValue_init) = true)
    (cell_BadValue : K.lookup cc_BadValue_init = some ⟨ccc_BadValue_init, cld_BadValue_init, .cell (some (.ref C_BadValue)), csl_BadValue_init⟩)
    (ic_BadValue : PySem.W.isClsIn K C_BadValue = true)
    (sub_BadValue : PySem.W.mroIn K C_BadValue (.ref C_BadValue) = some true)
    (sup_BadValue : PySem.W.ks_superIn K C_BadValue C_BadValue "__init__" = some (some (.builtin "ValueError.__init__")))
    (base_BadValue : PySem.W.subIn K (.ref C_BadValue) (.type "ValueError") = some true)
    (exc_BadValue : PySem.W.excInitIn K C_BadValue [.type "ValueError", .type "Exception", .type "BaseException", .type "object"] "ValueError.__new__" = true)
    (sa_BadValue : PySem.W.findIn K (.ref C_BadValue) "__setattr__" = some (some (.builtin "object.__setattr__")))
    (ov_BadValue : PySem.W.excOver K C_BadValue [.type "ValueError", .type "Exception", .type "BaseException", .type "object"] = true)
    (hd_BadValue : PySem.W.hasDictIn K C_BadValue = true)
    (no_BadValue_field : PySem.W.findIn K (.ref C_BadValue) "field" = some none)
    (exC_BadValue : PySem.W.subIn K (.ref C_BadValue) (.type "BaseException") = some true)
    (tyC_BadValue : PySem.W.typeIn K (.ref C_BadValue) = some (.type "type"))
    (kC_BadValue : PySem.W.keepIn K (.ref C_BadValue) = true)
    (su_BadValue : PySem.W.subIn K (.ref C_BadValue) (.ref C_BadValue) = some true)
    (ga_BadValue : PySem.W.findIn K (.ref C_BadValue) "__getattribute__" = some (some (.builtin "BaseException.__getattribute__")))
    (gg_BadValue : PySem.W.findIn K (.ref C_BadValue) "__getattr__" = some none)
    (aC_NoThing : PySem.W.nsIn K mainGlobals "NoThing" = some (some (.ref C_NoThing)))
    (init_NoThing : PySem.W.findIn K (.ref C_NoThing) "__init__" = some (some (.ref f_NoThing_init)))
    (ty_NoThing : PySem.W.typeIn K (.ref f_NoThing_init) = some (.type "function"))
    (lk_NoThing : K.lookup f_NoThing_init = some ⟨oc_NoThing_init, od_NoThing_init, .func (PySem.W.ksFn "__init__" "NoThing.__init__" (defArgs s_NoThing_init) (defBody s_NoThing_init) (defScope s_NoThing_init) .none .none dc_NoThing_init pm_NoThing_init an_NoThing_init (.ref cda_NoThing_init) ct_NoThing_init cc_NoThing_init), osl_NoThing_init⟩)
    (hc_NoThing : PySem.W.codeIn K (.ref cda_NoThing_init) "NoThing.__init__" = true)
    (code_NoThing : K.lookup cda_NoThing_init = some ⟨ccl_NoThing_init, cdd_NoThing_init, .fields vs_NoThing_init, ccs_NoThing_init⟩)
    (hv_NoThing : vs_NoThing_init[2]? = some (.str file_NoThing_init tf_NoThing_init))
    (hf_NoThing : ((l.prog.main.file : Str) == file_NoThing_init) = true)
    (cell_NoThing : K.lookup cc_NoThing_init = some ⟨ccc_NoThing_init, cld_NoThing_init, .cell (some (.ref C_NoThing)), csl_NoThing_init⟩)
    (ic_NoThing : PySem.W.isClsIn K C_NoThing = true)
    (sub_NoThing : PySem.W.mroIn K C_NoThing (.ref C_NoThing) = some true)
    (sup_NoThing : PySem.W.ks_superIn K C_NoThing C_NoThing "__init__" = some (some (.builtin "ValueError.__init__")))
    (base_NoThing : PySem.W.subIn K (.ref C_NoThing) (.type "ValueError") = some true)
    (exc_NoThing : PySem.W.excInitIn K C_NoThing [.type "ValueError", .type "Exception", .type "BaseException", .type "object"] "ValueError.__new__" = true)
    (sa_NoThing : PySem.W.findIn K (.ref C_NoThing) "__setattr__" = some (some (.builtin "object.__setattr__")))
    (ov_NoThing : PySem.W.excOver K C_NoThing [.type "ValueError", .type "Exception", .type "BaseException", .type "object"] = true)
    (hd_NoThing : PySem.W.hasDictIn K C_NoThing = true)
    (no_NoThing_thing : PySem.W.findIn K (.ref C_NoThing) "thing" = some none)
    (exC_NoThing : PySem.W.subIn K (.ref C_NoThing) (.type "BaseException") = some true)
    (tyC_NoThing : PySem.W.typeIn K (.ref C_NoThing) = some (.type "type"))
    (kC_NoThing : PySem.W.keepIn K (.ref C_NoThing) = true)
    (su_NoThing : PySem.W.subIn K (.ref C_NoThing) (.ref C_NoThing) = some true)
    (ga_NoThing : PySem.W.findIn K (.ref C_NoThing) "__getattribute__" = some (some (.builtin "BaseException.__getattribute__")))
    (gg_NoThing : PySem.W.findIn K (.ref C_NoThing) "__getattr__" = some none)
    (aC_BadGraph : PySem.W.nsIn K mainGlobals "BadGraph" = some (some (.ref C_BadGraph)))
    (init_BadGraph : PySem.W.findIn K (.ref C_BadGraph) "__init__" = some (some (.ref f_BadGraph_init)))
    (ty_BadGraph : PySem.W.typeIn K (.ref f_BadGraph_init) = some (.type "function"))
    (lk_BadGraph : K.lookup f_BadGraph_init = some ⟨oc_BadGraph_init, od_BadGraph_init, .func (PySem.W.ksFn "__init__" "BadGraph.__init__" (defArgs s_BadGraph_init) (defBody s_BadGraph_init) (defScope s_BadGraph_init) .none .none dc_BadGraph_init pm_BadGraph_init an_BadGraph_init (.ref cda_BadGraph_init) ct_BadGraph_init cc_BadGraph_init), osl_BadGraph_init⟩)
    (hc_BadGraph : PySem.W.codeIn K (.ref cda_BadGraph_init) "BadGraph.__init__" = true)
    (code_BadGraph : K.lookup cda_BadGraph_init = some ⟨ccl_BadGraph_init, cdd_BadGraph_init, .fields vs_BadGraph_init, ccs_BadGraph_init⟩)
    (hv_BadGraph : vs_BadGraph_init[2]? = some (.str file_BadGraph_init tf_BadGraph_init))
    (hf_BadGraph : ((l.prog.main.file : Str) == file_BadGraph_init) = true)
    (cell_BadGraph : K.lookup cc_BadGraph_init = some ⟨ccc_BadGraph_init, cld_BadGraph_init, .cell (some (.ref C_BadGraph)), csl_BadGraph_init⟩)
    (ic_BadGraph : PySem.W.isClsIn K C_BadGraph = true)
    (sub_BadGraph : PySem.W.mroIn K C_BadGraph (.ref C_BadGraph) = some true)
    (sup_BadGraph : PySem.W.ks_superIn K C_BadGraph C_BadGraph "__init__" = some (some (.builtin "ValueError.__init__")))
    (base_BadGraph : PySem.W.subIn K (.ref C_BadGraph) (.type "ValueError") = some true)
    (exc_BadGraph : PySem.W.excInitIn K C_BadGraph [.type "ValueError", .type "Exception", .type "BaseException", .type "object"] "ValueError.__new__" = true)
    (sa_BadGraph : PySem.W.findIn K (.ref C_BadGraph) "__setattr__" = some (some (.builtin "object.__setattr__")))
    (ov_BadGraph : PySem.W.excOver K C_BadGraph [.type "ValueError", .type "Exception", .type "BaseException", .type "object"] = true)
    (hd_BadGraph : PySem.W.hasDictIn K C_BadGraph = true)
    (no_BadGraph_at : PySem.W.findIn K (.ref C_BadGraph) "at" = some none)
    (exC_BadGraph : PySem.W.subIn K (.ref C_BadGraph) (.type "BaseException") = some true)
    (tyC_BadGraph : PySem.W.typeIn K (.ref C_BadGraph) = some (.type "type"))
    (kC_BadGraph : PySem.W.keepIn K (.ref C_BadGraph) = true)
    (su_BadGraph : PySem.W.subIn K (.ref C_BadGraph) (.ref C_BadGraph) = some true)
    (ga_BadGraph : PySem.W.findIn K (.ref C_BadGraph) "__getattribute__" = some (some (.builtin "BaseException.__getattribute__")))
    (gg_BadGraph : PySem.W.findIn K (.ref C_BadGraph) "__getattr__" = some none)
    (aC_TooMany : PySem.W.nsIn K mainGlobals "TooMany" = some (some (.ref C_TooMany)))
    (init_TooMany : PySem.W.findIn K (.ref C_TooMany) "__init__" = some (some (.ref f_TooMany_init)))
    (ty_TooMany : PySem.W.typeIn K (.ref f_TooMany_init) = some (.type "function"))
    (lk_TooMany : K.lookup f_TooMany_init = some ⟨oc_TooMany_init, od_TooMany_init, .func (PySem.W.ksFn "__init__" "TooMany.__init__" (defArgs s_TooMany_init) (defBody s_TooMany_init) (defScope s_TooMany_init) .none .none dc_TooMany_init pm_TooMany_init an_TooMany_init (.ref cda_TooMany_init) ct_TooMany_init cc_TooMany_init), osl_TooMany_init⟩)
    (hc_TooMany : PySem.W.codeIn K (.ref cda_TooMany_init) "TooMany.__init__" = true)
    (code_TooMany : K.lookup cda_TooMany_init = some ⟨ccl_TooMany_init, cdd_TooMany_init, .fields vs_TooMany_init, ccs_TooMany_init⟩)
    (hv_TooMany : vs_TooMany_init[2]? = some (.str file_TooMany_init tf_TooMany_init))
    (hf_TooMany : ((l.prog.main.file : Str) == file_TooMany_init) = true)
    (cell_TooMany : K.lookup cc_TooMany_init = some ⟨ccc_TooMany_init, cld_TooMany_init, .cell (some (.ref C_TooMany)), csl_TooMany_init⟩)
    (ic_TooMany : PySem.W.isClsIn K C_TooMany = true)
    (sub_TooMany : PySem.W.mroIn K C_TooMany (.ref C_TooMany) = some true)
    (sup_TooMany : PySem.W.ks_superIn K C_TooMany C_TooMany "__init__" = some (some (.builtin "ValueError.__init__")))
    (base_TooMany : PySem.W.subIn K (.ref C_TooMany) (.type "ValueError") = some true)
    (exc_TooMany : PySem.W.excInitIn K C_TooMany [.type "ValueError", .type "Exception", .type "BaseException", .type "object"] "ValueError.__new__" = true)
    (sa_TooMany : PySem.W.findIn K (.ref C_TooMany) "__setattr__" = some (some (.builtin "object.__setattr__")))
    (ov_TooMany : PySem.W.excOver K C_TooMany [.type "ValueError", .type "Exception", .type "BaseException", .type "object"] = true)
    (hd_TooMany : PySem.W.hasDictIn K C_TooMany = true)
    (no_TooMany_what : PySem.W.findIn K (.ref C_TooMany) "what" = some none)
    (exC_TooMany : PySem.W.subIn K (.ref C_TooMany) (.type "BaseException") = some true)
    (tyC_TooMany : PySem.W.typeIn K (.ref C_TooMany) = some (.type "type"))
    (kC_TooMany : PySem.W.keepIn K (.ref C_TooMany) = true)
    (su_TooMany : PySem.W.subIn K (.ref C_TooMany) (.ref C_TooMany) = some true)
    (ga_TooMany : PySem.W.findIn K (.ref C_TooMany) "__getattribute__" = some (some (.builtin "BaseException.__getattribute__")))
    (gg_TooMany : PySem.W.findIn K (.ref C_TooMany) "__getattr__" = some none)
    (aC_BadGuard : PySem.W.nsIn K mainGlobals "BadGuard" = some (some (.ref C_BadGuard)))
    (init_BadGuard : PySem.W.findIn K (.ref C_BadGuard) "__init__" = some (some (.ref f_BadGuard_init)))
    (ty_BadGuard : PySem.W.typeIn K (.ref f_BadGuard_init) = some (.type "function"))
    (lk_BadGuard : K.lookup f_BadGuard_init = some ⟨oc_BadGuard_init, od_BadGuard_init, .func (PySem.W.ksFn "__init__" "BadGuard.__init__" (defArgs s_BadGuard_init) (defBody s_BadGuard_init) (defScope s_BadGuard_init) .none .none dc_BadGuard_init pm_BadGuard_init an_BadGuard_init (.ref cda_BadGuard_init) ct_BadGuard_init cc_BadGuard_init), osl_BadGuard_init⟩)
    (hc_BadGuard : PySem.W.codeIn K (.ref cda_BadGuard_init) "BadGuard.__init__" = true)
    (code_BadGuard : K.lookup cda_BadGuard_init = some ⟨ccl_BadGuard_init, cdd_BadGuard_init, .fields vs_BadGuard_init, ccs_BadGuard_init⟩)
    (hv_BadGuard : vs_BadGuard_init[2]? = some (.str file_BadGuard_init tf_BadGuard_init))
    (hf_BadGuard : ((l.prog.main.file : Str) == file_BadGuard_init) = true)
    (cell_BadGuard : K.lookup cc_BadGuard_init = some ⟨ccc_BadGuard_init, cld_BadGuard_init, .cell (some (.ref C_BadGuard)), csl_BadGuard_init⟩)
    (ic_BadGuard : PySem.W.isClsIn K C_BadGuard = true)
    (sub_BadGuard : PySem.W.mroIn K C_BadGuard (.ref C_BadGuard) = some true)
    (sup_BadGuard : PySem.W.ks_superIn K C_BadGuard C_BadGuard "__init__" = some (some (.builtin "ValueError.__init__")))
    (base_BadGuard : PySem.W.subIn K (.ref C_BadGuard) (.type "ValueError") = some true)
    (exc_BadGuard : PySem.W.excInitIn K C_BadGuard [.type "ValueError", .type "Exception", .type "BaseException", .type "object"] "ValueError.__new__" = true)
    (sa_BadGuard : PySem.W.findIn K (.ref C_BadGuard) "__setattr__" = some (some (.builtin "object.__setattr__")))
    (ov_BadGuard : PySem.W.excOver K C_BadGuard [.type "ValueError", .type "Exception", .type "BaseException", .type "object"] = true)
    (hd_BadGuard : PySem.W.hasDictIn K C_BadGuard = true)
    (no_BadGuard_part : PySem.W.findIn K (.ref C_BadGuard) "part" = some none)
    (exC_BadGuard : PySem.W.subIn K (.ref C_BadGuard) (.type "BaseException") = some true)
    (tyC_BadGuard : PySem.W.typeIn K (.ref C_BadGuard) = some (.type "type"))
    (kC_BadGuard : PySem.W.keepIn K (.ref C_BadGuard) = true)
    (su_BadGuard : PySem.W.subIn K (.ref C_BadGuard) (.ref C_BadGuard) = some true)
    (ga_BadGuard : PySem.W.findIn K (.ref C_BadGuard) "__getattribute__" = some (some (.builtin "BaseException.__getattribute__")))
    (gg_BadGuard : PySem.W.findIn K (.ref C_BadGuard) "__getattr__" = some none)
    (aC_NoFlag : PySem.W.nsIn K mainGlobals "NoFlag" = some (some (.ref C_NoFlag)))
    (init_NoFlag : PySem.W.findIn K (.ref C_NoFlag) "__init__" = some (some (.ref f_NoFlag_init)))
    (ty_NoFlag : PySem.W.typeIn K (.ref f_NoFlag_init) = some (.type "function"))
    (lk_NoFlag : K.lookup f_NoFlag_init = some ⟨oc_NoFlag_init, od_NoFlag_init, .func (PySem.W.ksFn "__init__" "NoFlag.__init__" (defArgs s_NoFlag_init) (defBody s_NoFlag_init) (defScope s_NoFlag_init) .none .none dc_NoFlag_init pm_NoFlag_init an_NoFlag_init (.ref cda_NoFlag_init) ct_NoFlag_init cc_NoFlag_init), osl_NoFlag_init⟩)
    (hc_NoFlag : PySem.W.codeIn K (.ref cda_NoFlag_init) "NoFlag.__init__" = true)
    (code_NoFlag : K.lookup cda_NoFlag_init = some ⟨ccl_NoFlag_init, cdd_NoFlag_init, .fields vs_NoFlag_init, ccs_NoFlag_init⟩)
    (hv_NoFlag : vs_NoFlag_init[2]? = some (.str file_NoFlag_init tf_NoFlag_init))
    (hf_NoFlag : ((l.prog.main.file : Str) == file_NoFlag_init) = true)
    (cell_NoFlag : K.lookup cc_NoFlag_init = some ⟨ccc_NoFlag_init, cld_NoFlag_init, .cell (some (.ref C_NoFlag)), csl_NoFlag_init⟩)
    (ic_NoFlag : PySem.W.isClsIn K C_NoFlag = true)
    (sub_NoFlag : PySem.W.mroIn K C_NoFlag (.ref C_NoFlag) = some true)
    (sup_NoFlag : PySem.W.ks_superIn K C_NoFlag C_NoFlag "__init__" = some (some (.builtin "ValueError.__init__")))
    (base_NoFlag : PySem.W.subIn K (.ref C_NoFlag) (.type "ValueError") = some true)
    (exc_NoFlag : PySem.W.excInitIn K C_NoFlag [.type "ValueError", .type "Exception", .type "BaseException", .type "object"] "ValueError.__new__" = true)
    (sa_NoFlag : PySem.W.findIn K (.ref C_NoFlag) "__setattr__" = some (some (.builtin "object.__setattr__")))
    (ov_NoFlag : PySem.W.excOver K C_NoFlag [.type "ValueError", .type "Exception", .type "BaseException", .type "object"] = true)
    (hd_NoFlag : PySem.W.hasDictIn K C_NoFlag = true)
    (no_NoFlag_flag : PySem.W.findIn K (.ref C_NoFlag) "flag" = some none)
    (exC_NoFlag : PySem.W.subIn K (.ref C_NoFlag) (.type "BaseException") = some true)
    (tyC_NoFlag : PySem.W.typeIn K (.ref C_NoFlag) = some (.type "type"))
    (kC_NoFlag : PySem.W.keepIn K (.ref C_NoFlag) = true)
    (su_NoFlag : PySem.W.subIn K (.ref C_NoFlag) (.ref C_NoFlag) = some true)
    (ga_NoFlag : PySem.W.findIn K (.ref C_NoFlag) "__getattribute__" = some (some (.builtin "BaseException.__getattribute__")))
    (gg_NoFlag : PySem.W.findIn K (.ref C_NoFlag) "__getattr__" = some none)
    (aC_BadWalker : PySem.W.nsIn K mainGlobals "BadWalker" = some (some (.ref C_BadWalker)))
    (init_BadWalker : PySem.W.findIn K (.ref C_BadWalker) "__init__" = some (some (.ref f_BadWalker_init)))
    (ty_BadWalker : PySem.W.typeIn K (.ref f_BadWalker_init) = some (.type "function"))
    (lk_BadWalker : K.lookup f_BadWalker_init = some ⟨oc_BadWalker_init, od_BadWalker_init, .func (PySem.W.ksFn "__init__" "BadWalker.__init__" (defArgs s_BadWalker_init) (defBody s_BadWalker_init) (defScope s_BadWalker_init) .none .none dc_BadWalker_init pm_BadWalker_init an_BadWalker_init (.ref cda_BadWalker_init) ct_BadWalker_init cc_BadWalker_init), osl_BadWalker_init⟩)
    (hc_BadWalker : PySem.W.codeIn K (.ref cda_BadWalker_init) "BadWalker.__init__" = true)
    (code_BadWalker : K.lookup cda_BadWalker_init = some ⟨ccl_BadWalker_init, cdd_BadWalker_init, .fields vs_BadWalker_init, ccs_BadWalker_init⟩)
    (hv_BadWalker : vs_BadWalker_init[2]? = some (.str file_BadWalker_init tf_BadWalker_init))
    (hf_BadWalker : ((l.prog.main.file : Str) == file_BadWalker_init) = true)
    (cell_BadWalker : K.lookup cc_BadWalker_init = some ⟨ccc_BadWalker_init, cld_BadWalker_init, .cell (some (.ref C_BadWalker)), csl_BadWalker_init⟩)
    (ic_BadWalker : PySem.W.isClsIn K C_BadWalker = true)
    (sub_BadWalker : PySem.W.mroIn K C_BadWalker (.ref C_BadWalker) = some true)
    (sup_BadWalker : PySem.W.ks_superIn K C_BadWalker C_BadWalker "__init__" = some (some (.builtin "ValueError.__init__")))
    (base_BadWalker : PySem.W.subIn K (.ref C_BadWalker) (.type "ValueError") = some true)
    (exc_BadWalker : PySem.W.excInitIn K C_BadWalker [.type "ValueError", .type "Exception", .type "BaseException", .type "object"] "ValueError.__new__" = true)
    (sa_BadWalker : PySem.W.findIn K (.ref C_BadWalker) "__setattr__" = some (some (.builtin "object.__setattr__")))
    (ov_BadWalker : PySem.W.excOver K C_BadWalker [.type "ValueError", .type "Exception", .type "BaseException", .type "object"] = true)
    (hd_BadWalker : PySem.W.hasDictIn K C_BadWalker = true)
    (no_BadWalker_part : PySem.W.findIn K (.ref C_BadWalker) "part" = some none)
    (exC_BadWalker : PySem.W.subIn K (.ref C_BadWalker) (.type "BaseException") = some true)
    (tyC_BadWalker : PySem.W.typeIn K (.ref C_BadWalker) = some (.type "type"))
    (kC_BadWalker : PySem.W.keepIn K (.ref C_BadWalker) = true)
    (su_BadWalker : PySem.W.subIn K (.ref C_BadWalker) (.ref C_BadWalker) = some true)
    (ga_BadWalker : PySem.W.findIn K (.ref C_BadWalker) "__getattribute__" = some (some (.builtin "BaseException.__getattribute__")))
    (gg_BadWalker : PySem.W.findIn K (.ref C_BadWalker) "__getattr__" = some none)
    (aC_BadChange : PySem.W.nsIn K mainGlobals "BadChange" = some (some (.ref C_BadChange)))
    (init_BadChange : PySem.W.findIn K (.ref C_BadChange) "__init__" = some (some (.ref f_BadChange_init)))
    (ty_BadChange : PySem.W.typeIn K (.ref f_BadChange_init) = some (.type "function"))
    (lk_BadChange : K.lookup f_BadChange_init = some ⟨oc_BadChange_init, od_BadChange_init, .func (PySem.W.ksFn "__init__" "BadChange.__init__" (defArgs s_BadChange_init) (defBody s_BadChange_init) (defScope s_BadChange_init) .none .none dc_BadChange_init pm_BadChange_init an_BadChange_init (.ref cda_BadChange_init) ct_BadChange_init cc_BadChange_init), osl_BadChange_init⟩)
    (hc_BadChange : PySem.W.codeIn K (.ref cda_BadChange_init) "BadChange.__init__" = true)
    (code_BadChange : K.lookup cda_BadChange_init = some ⟨ccl_BadChange_init, cdd_BadChange_init, .fields vs_BadChange_init, ccs_BadChange_init⟩)
    (hv_BadChange : vs_BadChange_init[2]? = some (.str file_BadChange_init tf_BadChange_init))
    (hf_BadChange : ((l.prog.main.file : Str) == file_BadChange_init) = true)
    (cell_BadChange : K.lookup cc_BadChange_init = some ⟨ccc_BadChange_init, cld_BadChange_init, .cell (some (.ref C_BadChange)), csl_BadChange_init⟩)
    (ic_BadChange : PySem.W.isClsIn K C_BadChange = true)
    (sub_BadChange : PySem.W.mroIn K C_BadChange (.ref C_BadChange) = some true)
    (sup_BadChange : PySem.W.ks_superIn K C_BadChange C_BadChange "__init__" = some (some (.builtin "ValueError.__init__")))
    (base_BadChange : PySem.W.subIn K (.ref C_BadChange) (.type "ValueError") = some true)
    (exc_BadChange : PySem.W.excInitIn K C_BadChange [.type "ValueError", .type "Exception", .type "BaseException", .type "object"] "ValueError.__new__" = true)
    (sa_BadChange : PySem.W.findIn K (.ref C_BadChange) "__setattr__" = some (some (.builtin "object.__setattr__")))
    (ov_BadChange : PySem.W.excOver K C_BadChange [.type "ValueError", .type "Exception", .type "BaseException", .type "object"] = true)
    (hd_BadChange : PySem.W.hasDictIn K C_BadChange = true)
    (no_BadChange_at : PySem.W.findIn K (.ref C_BadChange) "at" = some none)
    (exC_BadChange : PySem.W.subIn K (.ref C_BadChange) (.type "BaseException") = some true)
    (tyC_BadChange : PySem.W.typeIn K (.ref C_BadChange) = some (.type "type"))
    (kC_BadChange : PySem.W.keepIn K (.ref C_BadChange) = true)
    (su_BadChange : PySem.W.subIn K (.ref C_BadChange) (.ref C_BadChange) = some true)
    (ga_BadChange : PySem.W.findIn K (.ref C_BadChange) "__getattribute__" = some (some (.builtin "BaseException.__getattribute__")))
    (gg_BadChange : PySem.W.findIn K (.ref C_BadChange) "__getattr__" = some none)
    (aC_WrongSchema : PySem.W.nsIn K mainGlobals "WrongSchema" = some (some (.ref C_WrongSchema)))
    (init_WrongSchema : PySem.W.findIn K (.ref C_WrongSchema) "__init__" = some (some (.ref f_WrongSchema_init)))
    (ty_WrongSchema : PySem.W.typeIn K (.ref f_WrongSchema_init) = some (.type "function"))
    (lk_WrongSchema : K.lookup f_WrongSchema_init = some ⟨oc_WrongSchema_init, od_WrongSchema_init, .func (PySem.W.ksFn "__init__" "WrongSchema.__init__" (defArgs s_WrongSchema_init) (defBody s_WrongSchema_init) (defScope s_WrongSchema_init) .none .none dc_WrongSchema_init pm_WrongSchema_init an_WrongSchema_init (.ref cda_WrongSchema_init) ct_WrongSchema_init cc_WrongSchema_init), osl_WrongSchema_init⟩)
    (hc_WrongSchema : PySem.W.codeIn K (.ref cda_WrongSchema_init) "WrongSchema.__init__" = true)
    (code_WrongSchema : K.lookup cda_WrongSchema_init = some ⟨ccl_WrongSchema_init, cdd_WrongSchema_init, .fields vs_WrongSchema_init, ccs_WrongSchema_init⟩)
    (hv_WrongSchema : vs_WrongSchema_init[2]? = some (.str file_WrongSchema_init tf_WrongSchema_init))
    (hf_WrongSchema : ((l.prog.main.file : Str) == file_WrongSchema_init) = true)
    (cell_WrongSchema : K.lookup cc_WrongSchema_init = some ⟨ccc_WrongSchema_init, cld_WrongSchema_init, .cell (some (.ref C_WrongSchema)), csl_WrongSchema_init⟩)
    (ic_WrongSchema : PySem.W.isClsIn K C_WrongSchema = true)
    (sub_WrongSchema : PySem.W.mroIn K C_WrongSchema (.ref C_WrongSchema) = some true)
    (sup_WrongSchema : PySem.W.ks_superIn K C_WrongSchema C_WrongSchema "__init__" = some (some (.builtin "ValueError.__init__")))
    (base_WrongSchema : PySem.W.subIn K (.ref C_WrongSchema) (.type "ValueError") = some true)
    (exc_WrongSchema : PySem.W.excInitIn K C_WrongSchema [.type "ValueError", .type "Exception", .type "BaseException", .type "object"] "ValueError.__new__" = true)
    (sa_WrongSchema : PySem.W.findIn K (.ref C_WrongSchema) "__setattr__" = some (some (.builtin "object.__setattr__")))
    (ov_WrongSchema : PySem.W.excOver K C_WrongSchema [.type "ValueError", .type "Exception", .type "BaseException", .type "object"] = true)
    (hd_WrongSchema : PySem.W.hasDictIn K C_WrongSchema = true)
    (exC_WrongSchema : PySem.W.subIn K (.ref C_WrongSchema) (.type "BaseException") = some true)
    (tyC_WrongSchema : PySem.W.typeIn K (.ref C_WrongSchema) = some (.type "type"))
    (kC_WrongSchema : PySem.W.keepIn K (.ref C_WrongSchema) = true)
    (su_WrongSchema : PySem.W.subIn K (.ref C_WrongSchema) (.ref C_WrongSchema) = some true)
    (ga_WrongSchema : PySem.W.findIn K (.ref C_WrongSchema) "__getattribute__" = some (some (.builtin "BaseException.__getattribute__")))
    (gg_WrongSchema : PySem.W.findIn K (.ref C_WrongSchema) "__getattr__" = some none)
    (aC_WrongStart : PySem.W.nsIn K mainGlobals "WrongStart" = some (some (.ref C_WrongStart)))
    (init_WrongStart : PySem.W.findIn K (.ref C_WrongStart) "__init__" = some (some (.ref f_WrongStart_init)))
    (ty_WrongStart : PySem.W.typeIn K (.ref f_WrongStart_init) = some (.type "function"))
    (lk_WrongStart : K.lookup f_WrongStart_init = some ⟨oc_WrongStart_init, od_WrongStart_init, .func (PySem.W.ksFn "__init__" "WrongStart.__init__" (defArgs s_WrongStart_init) (defBody s_WrongStart_init) (defScope s_WrongStart_init) .none .none dc_WrongStart_init pm_WrongStart_init an_WrongStart_init (.ref cda_WrongStart_init) ct_WrongStart_init cc_WrongStart_init), osl_WrongStart_init⟩)
    (hc_WrongStart : PySem.W.codeIn K (.ref cda_WrongStart_init) "WrongStart.__init__" = true)
    (code_WrongStart : K.lookup cda_WrongStart_init = some ⟨ccl_WrongStart_init, cdd_WrongStart_init, .fields vs_WrongStart_init, ccs_WrongStart_init⟩)
    (hv_WrongStart : vs_WrongStart_init[2]? = some (.str file_WrongStart_init tf_WrongStart_init))
    (hf_WrongStart : ((l.prog.main.file : Str) == file_WrongStart_init) = true)
    (cell_WrongStart : K.lookup cc_WrongStart_init = some ⟨ccc_WrongStart_init, cld_WrongStart_init, .cell (some (.ref C_WrongStart)), csl_WrongStart_init⟩)
    (ic_WrongStart : PySem.W.isClsIn K C_WrongStart = true)
    (sub_WrongStart : PySem.W.mroIn K C_WrongStart (.ref C_WrongStart) = some true)
    (sup_WrongStart : PySem.W.ks_superIn K C_WrongStart C_WrongStart "__init__" = some (some (.builtin "ValueError.__init__")))
    (base_WrongStart : PySem.W.subIn K (.ref C_WrongStart) (.type "ValueError") = some true)
    (exc_WrongStart : PySem.W.excInitIn K C_WrongStart [.type "ValueError", .type "Exception", .type "BaseException", .type "object"] "ValueError.__new__" = true)
    (sa_WrongStart : PySem.W.findIn K (.ref C_WrongStart) "__setattr__" = some (some (.builtin "object.__setattr__")))
    (ov_WrongStart : PySem.W.excOver K C_WrongStart [.type "ValueError", .type "Exception", .type "BaseException", .type "object"] = true)
    (hd_WrongStart : PySem.W.hasDictIn K C_WrongStart = true)
    (exC_WrongStart : PySem.W.subIn K (.ref C_WrongStart) (.type "BaseException") = some true)
    (tyC_WrongStart : PySem.W.typeIn K (.ref C_WrongStart) = some (.type "type"))
    (kC_WrongStart : PySem.W.keepIn K (.ref C_WrongStart) = true)
    (su_WrongStart : PySem.W.subIn K (.ref C_WrongStart) (.ref C_WrongStart) = some true)
    (ga_WrongStart : PySem.W.findIn K (.ref C_WrongStart) "__getattribute__" = some (some (.builtin "BaseException.__getattribute__")))
    (gg_WrongStart : PySem.W.findIn K (.ref C_WrongStart) "__getattr__" = some none)
    (aC_BadStart : PySem.W.nsIn K mainGlobals "BadStart" = some (some (.ref C_BadStart)))
    (init_BadStart : PySem.W.findIn K (.ref C_BadStart) "__init__" = some (some (.ref f_BadStart_init)))
    (ty_BadStart : PySem.W.typeIn K (.ref f_BadStart_init) = some (.type "function"))
    (lk_BadStart : K.lookup f_BadStart_init = some ⟨oc_BadStart_init, od_BadStart_init, .func (PySem.W.ksFn "__init__" "BadStart.__init__" (defArgs s_BadStart_init) (defBody s_BadStart_init) (defScope s_BadStart_init) .none .none dc_BadStart_init pm_BadStart_init an_BadStart_init (.ref cda_BadStart_init) ct_BadStart_init cc_BadStart_init), osl_BadStart_init⟩)
    (hc_BadStart : PySem.W.codeIn K (.ref cda_BadStart_init) "BadStart.__init__" = true)
    (code_BadStart : K.lookup cda_BadStart_init = some ⟨ccl_BadStart_init, cdd_BadStart_init, .fields vs_BadStart_init, ccs_BadStart_init⟩)
    (hv_BadStart : vs_BadStart_init[2]? = some (.str file_BadStart_init tf_BadStart_init))
    (hf_BadStart : ((l.prog.main.file : Str) == file_BadStart_init) = true)
    (cell_BadStart : K.lookup cc_BadStart_init = some ⟨ccc_BadStart_init, cld_BadStart_init, .cell (some (.ref C_BadStart)), csl_BadStart_init⟩)
    (ic_BadStart : PySem.W.isClsIn K C_BadStart = true)
    (sub_BadStart : PySem.W.mroIn K C_BadStart (.ref C_BadStart) = some true)
    (sup_BadStart : PySem.W.ks_superIn K C_BadStart C_BadStart "__init__" = some (some (.builtin "ValueError.__init__")))
    (base_BadStart : PySem.W.subIn K (.ref C_BadStart) (.type "ValueError") = some true)
    (exc_BadStart : PySem.W.excInitIn K C_BadStart [.type "ValueError", .type "Exception", .type "BaseException", .type "object"] "ValueError.__new__" = true)
    (sa_BadStart : PySem.W.findIn K (.ref C_BadStart) "__setattr__" = some (some (.builtin "object.__setattr__")))
    (ov_BadStart : PySem.W.excOver K C_BadStart [.type "ValueError", .type "Exception", .type "BaseException", .type "object"] = true)
    (hd_BadStart : PySem.W.hasDictIn K C_BadStart = true)
    (no_BadStart_thing : PySem.W.findIn K (.ref C_BadStart) "thing" = some none)
    (exC_BadStart : PySem.W.subIn K (.ref C_BadStart) (.type "BaseException") = some true)
    (tyC_BadStart : PySem.W.typeIn K (.ref C_BadStart) = some (.type "type"))
    (kC_BadStart : PySem.W.keepIn K (.ref C_BadStart) = true)
    (su_BadStart : PySem.W.subIn K (.ref C_BadStart) (.ref C_BadStart) = some true)
    (ga_BadStart : PySem.W.findIn K (.ref C_BadStart) "__getattribute__" = some (some (.builtin "BaseException.__getattribute__")))
    (gg_BadStart : PySem.W.findIn K (.ref C_BadStart) "__getattr__" = some none)
    (aC_TooLong : PySem.W.nsIn K mainGlobals "TooLong" = some (some (.ref C_TooLong)))
    (init_TooLong : PySem.W.findIn K (.ref C_TooLong) "__init__" = some (some (.ref f_TooLong_init)))
    (ty_TooLong : PySem.W.typeIn K (.ref f_TooLong_init) = some (.type "function"))
    (lk_TooLong : K.lookup f_TooLong_init = some ⟨oc_TooLong_init, od_TooLong_init, .func (PySem.W.ksFn "__init__" "TooLong.__init__" (defArgs s_TooLong_init) (defBody s_TooLong_init) (defScope s_TooLong_init) .none .none dc_TooLong_init pm_TooLong_init an_TooLong_init (.ref cda_TooLong_init) ct_TooLong_init cc_TooLong_init), osl_TooLong_init⟩)
    (hc_TooLong : PySem.W.codeIn K (.ref cda_TooLong_init) "TooLong.__init__" = true)
    (code_TooLong : K.lookup cda_TooLong_init = some ⟨ccl_TooLong_init, cdd_TooLong_init, .fields vs_TooLong_init, ccs_TooLong_init⟩)
    (hv_TooLong : vs_TooLong_init[2]? = some (.str file_TooLong_init tf_TooLong_init))
    (hf_TooLong : ((l.prog.main.file : Str) == file_TooLong_init) = true)
    (cell_TooLong : K.lookup cc_TooLong_init = some ⟨ccc_TooLong_init, cld_TooLong_init, .cell (some (.ref C_TooLong)), csl_TooLong_init⟩)
    (ic_TooLong : PySem.W.isClsIn K C_TooLong = true)
    (sub_TooLong : PySem.W.mroIn K C_TooLong (.ref C_TooLong) = some true)
    (sup_TooLong : PySem.W.ks_superIn K C_TooLong C_TooLong "__init__" = some (some (.builtin "ValueError.__init__")))
    (base_TooLong : PySem.W.subIn K (.ref C_TooLong) (.type "ValueError") = some true)
    (exc_TooLong : PySem.W.excInitIn K C_TooLong [.type "ValueError", .type "Exception", .type "BaseException", .type "object"] "ValueError.__new__" = true)
    (sa_TooLong : PySem.W.findIn K (.ref C_TooLong) "__setattr__" = some (some (.builtin "object.__setattr__")))
    (ov_TooLong : PySem.W.excOver K C_TooLong [.type "ValueError", .type "Exception", .type "BaseException", .type "object"] = true)
    (hd_TooLong : PySem.W.hasDictIn K C_TooLong = true)
    (no_TooLong_most : PySem.W.findIn K (.ref C_TooLong) "most" = some none)
    (exC_TooLong : PySem.W.subIn K (.ref C_TooLong) (.type "BaseException") = some true)
    (tyC_TooLong : PySem.W.typeIn K (.ref C_TooLong) = some (.type "type"))
    (kC_TooLong : PySem.W.keepIn K (.ref C_TooLong) = true)
    (su_TooLong : PySem.W.subIn K (.ref C_TooLong) (.ref C_TooLong) = some true)
    (ga_TooLong : PySem.W.findIn K (.ref C_TooLong) "__getattribute__" = some (some (.builtin "BaseException.__getattribute__")))
    (gg_TooLong : PySem.W.findIn K (.ref C_TooLong) "__getattr__" = some none)
    (aC_NotPossible : PySem.W.nsIn K mainGlobals "NotPossible" = some (some (.ref C_NotPossible)))
    (init_NotPossible : PySem.W.findIn K (.ref C_NotPossible) "__init__" = some (some (.ref f_NotPossible_init)))
    (ty_NotPossible : PySem.W.typeIn K (.ref f_NotPossible_init) = some (.type "function"))
    (lk_NotPossible : K.lookup f_NotPossible_init = some ⟨oc_NotPossible_init, od_NotPossible_init, .func (PySem.W.ksFn "__init__" "NotPossible.__init__" (defArgs s_NotPossible_init) (defBody s_NotPossible_init) (defScope s_NotPossible_init) .none .none dc_NotPossible_init pm_NotPossible_init an_NotPossible_init (.ref cda_NotPossible_init) ct_NotPossible_init cc_NotPossible_init), osl_NotPossible_init⟩)
    (hc_NotPossible : PySem.W.codeIn K (.ref cda_NotPossible_init) "NotPossible.__init__" = true)
    (code_NotPossible : K.lookup cda_NotPossible_init = some ⟨ccl_NotPossible_init, cdd_NotPossible_init, .fields vs_NotPossible_init, ccs_NotPossible_init⟩)
    (hv_NotPossible : vs_NotPossible_init[2]? = some (.str file_NotPossible_init tf_NotPossible_init))
    (hf_NotPossible : ((l.prog.main.file : Str) == file_NotPossible_init) = true)
    (cell_NotPossible : K.lookup cc_NotPossible_init = some ⟨ccc_NotPossible_init, cld_NotPossible_init, .cell (some (.ref C_NotPossible)), csl_NotPossible_init⟩)
    (ic_NotPossible : PySem.W.isClsIn K C_NotPossible = true)
    (sub_NotPossible : PySem.W.mroIn K C_NotPossible (.ref C_NotPossible) = some true)
    (sup_NotPossible : PySem.W.ks_superIn K C_NotPossible C_NotPossible "__init__" = some (some (.builtin "ValueError.__init__")))
    (base_NotPossible : PySem.W.subIn K (.ref C_NotPossible) (.type "ValueError") = some true)
    (exc_NotPossible : PySem.W.excInitIn K C_NotPossible [.type "ValueError", .type "Exception", .type "BaseException", .type "object"] "ValueError.__new__" = true)
    (sa_NotPossible : PySem.W.findIn K (.ref C_NotPossible) "__setattr__" = some (some (.builtin "object.__setattr__")))
    (ov_NotPossible : PySem.W.excOver K C_NotPossible [.type "ValueError", .type "Exception", .type "BaseException", .type "object"] = true)
    (hd_NotPossible : PySem.W.hasDictIn K C_NotPossible = true)
    (no_NotPossible_kind : PySem.W.findIn K (.ref C_NotPossible) "kind" = some none)
    (no_NotPossible_word : PySem.W.findIn K (.ref C_NotPossible) "word" = some none)
    (exC_NotPossible : PySem.W.subIn K (.ref C_NotPossible) (.type "BaseException") = some true)
    (tyC_NotPossible : PySem.W.typeIn K (.ref C_NotPossible) = some (.type "type"))
    (kC_NotPossible : PySem.W.keepIn K (.ref C_NotPossible) = true)
    (su_NotPossible : PySem.W.subIn K (.ref C_NotPossible) (.ref C_NotPossible) = some true)
    (ga_NotPossible : PySem.W.findIn K (.ref C_NotPossible) "__getattribute__" = some (some (.builtin "BaseException.__getattribute__")))
    (gg_NotPossible : PySem.W.findIn K (.ref C_NotPossible) "__getattr__" = some none)
    (aC_NoQuestion : PySem.W.nsIn K mainGlobals "NoQuestion" = some (some (.ref C_NoQuestion)))
    (init_NoQuestion : PySem.W.findIn K (.ref C_NoQuestion) "__init__" = some (some (.ref f_NoQuestion_init)))
    (ty_NoQuestion : PySem.W.typeIn K (.ref f_NoQuestion_init) = some (.type "function"))
    (lk_NoQuestion : K.lookup f_NoQuestion_init = some ⟨oc_NoQuestion_init, od_NoQuestion_init, .func (PySem.W.ksFn "__init__" "NoQuestion.__init__" (defArgs s_NoQuestion_init) (defBody s_NoQuestion_init) (defScope s_NoQuestion_init) .none .none dc_NoQuestion_init pm_NoQuestion_init an_NoQuestion_init (.ref cda_NoQuestion_init) ct_NoQuestion_init cc_NoQuestion_init), osl_NoQuestion_init⟩)
    (hc_NoQuestion : PySem.W.codeIn K (.ref cda_NoQuestion_init) "NoQuestion.__init__" = true)
    (code_NoQuestion : K.lookup cda_NoQuestion_init = some ⟨ccl_NoQuestion_init, cdd_NoQuestion_init, .fields vs_NoQuestion_init, ccs_NoQuestion_init⟩)
    (hv_NoQuestion : vs_NoQuestion_init[2]? = some (.str file_NoQuestion_init tf_NoQuestion_init))
    (hf_NoQuestion : ((l.prog.main.file : Str) == file_NoQuestion_init) = true)
    (cell_NoQuestion : K.lookup cc_NoQuestion_init = some ⟨ccc_NoQuestion_init, cld_NoQuestion_init, .cell (some (.ref C_NoQuestion)), csl_NoQuestion_init⟩)
    (ic_NoQuestion : PySem.W.isClsIn K C_NoQuestion = true)
    (sub_NoQuestion : PySem.W.mroIn K C_NoQuestion (.ref C_NoQuestion) = some true)
    (sup_NoQuestion : PySem.W.ks_superIn K C_NoQuestion C_NoQuestion "__init__" = some (some (.builtin "ValueError.__init__")))
    (base_NoQuestion : PySem.W.subIn K (.ref C_NoQuestion) (.type "ValueError") = some true)
    (exc_NoQuestion : PySem.W.excInitIn K C_NoQuestion [.type "ValueError", .type "Exception", .type "BaseException", .type "object"] "ValueError.__new__" = true)
    (sa_NoQuestion : PySem.W.findIn K (.ref C_NoQuestion) "__setattr__" = some (some (.builtin "object.__setattr__")))
    (ov_NoQuestion : PySem.W.excOver K C_NoQuestion [.type "ValueError", .type "Exception", .type "BaseException", .type "object"] = true)
    (hd_NoQuestion : PySem.W.hasDictIn K C_NoQuestion = true)
    (no_NoQuestion_question : PySem.W.findIn K (.ref C_NoQuestion) "question" = some none)
    (exC_NoQuestion : PySem.W.subIn K (.ref C_NoQuestion) (.type "BaseException") = some true)
    (tyC_NoQuestion : PySem.W.typeIn K (.ref C_NoQuestion) = some (.type "type"))
    (kC_NoQuestion : PySem.W.keepIn K (.ref C_NoQuestion) = true)
    (su_NoQuestion : PySem.W.subIn K (.ref C_NoQuestion) (.ref C_NoQuestion) = some true)
    (ga_NoQuestion : PySem.W.findIn K (.ref C_NoQuestion) "__getattribute__" = some (some (.builtin "BaseException.__getattribute__")))
    (gg_NoQuestion : PySem.W.findIn K (.ref C_NoQuestion) "__getattr__" = some none)
    (aC_BadWish : PySem.W.nsIn K mainGlobals "BadWish" = some (some (.ref C_BadWish)))
    (init_BadWish : PySem.W.findIn K (.ref C_BadWish) "__init__" = some (some (.ref f_BadWish_init)))
    (ty_BadWish : PySem.W.typeIn K (.ref f_BadWish_init) = some (.type "function"))
    (lk_BadWish : K.lookup f_BadWish_init = some ⟨oc_BadWish_init, od_BadWish_init, .func (PySem.W.ksFn "__init__" "BadWish.__init__" (defArgs s_BadWish_init) (defBody s_BadWish_init) (defScope s_BadWish_init) .none .none dc_BadWish_init pm_BadWish_init an_BadWish_init (.ref cda_BadWish_init) ct_BadWish_init cc_BadWish_init), osl_BadWish_init⟩)
    (hc_BadWish : PySem.W.codeIn K (.ref cda_BadWish_init) "BadWish.__init__" = true)
    (code_BadWish : K.lookup cda_BadWish_init = some ⟨ccl_BadWish_init, cdd_BadWish_init, .fields vs_BadWish_init, ccs_BadWish_init⟩)
    (hv_BadWish : vs_BadWish_init[2]? = some (.str file_BadWish_init tf_BadWish_init))
    (hf_BadWish : ((l.prog.main.file : Str) == file_BadWish_init) = true)
    (cell_BadWish : K.lookup cc_BadWish_init = some ⟨ccc_BadWish_init, cld_BadWish_init, .cell (some (.ref C_BadWish)), csl_BadWish_init⟩)
    (ic_BadWish : PySem.W.isClsIn K C_BadWish = true)
    (sub_BadWish : PySem.W.mroIn K C_BadWish (.ref C_BadWish) = some true)
    (sup_BadWish : PySem.W.ks_superIn K C_BadWish C_BadWish "__init__" = some (some (.builtin "ValueError.__init__")))
    (base_BadWish : PySem.W.subIn K (.ref C_BadWish) (.type "ValueError") = some true)
    (exc_BadWish : PySem.W.excInitIn K C_BadWish [.type "ValueError", .type "Exception", .type "BaseException", .type "object"] "ValueError.__new__" = true)
    (sa_BadWish : PySem.W.findIn K (.ref C_BadWish) "__setattr__" = some (some (.builtin "object.__setattr__")))
    (ov_BadWish : PySem.W.excOver K C_BadWish [.type "ValueError", .type "Exception", .type "BaseException", .type "object"] = true)
    (hd_BadWish : PySem.W.hasDictIn K C_BadWish = true)
    (no_BadWish_at : PySem.W.findIn K (.ref C_BadWish) "at" = some none)
    (exC_BadWish : PySem.W.subIn K (.ref C_BadWish) (.type "BaseException") = some true)
    (tyC_BadWish : PySem.W.typeIn K (.ref C_BadWish) = some (.type "type"))
    (kC_BadWish : PySem.W.keepIn K (.ref C_BadWish) = true)
    (su_BadWish : PySem.W.subIn K (.ref C_BadWish) (.ref C_BadWish) = some true)
    (ga_BadWish : PySem.W.findIn K (.ref C_BadWish) "__getattribute__" = some (some (.builtin "BaseException.__getattribute__")))
    (gg_BadWish : PySem.W.findIn K (.ref C_BadWish) "__getattr__" = some none)
    (aC_NoFamily : PySem.W.nsIn K mainGlobals "NoFamily" = some (some (.ref C_NoFamily)))
    (init_NoFamily : PySem.W.findIn K (.ref C_NoFamily) "__init__" = some (some (.ref f_NoFamily_init)))
    (ty_NoFamily : PySem.W.typeIn K (.ref f_NoFamily_init) = some (.type "function"))
    (lk_NoFamily : K.lookup f_NoFamily_init = some ⟨oc_NoFamily_init, od_NoFamily_init, .func (PySem.W.ksFn "__init__" "NoFamily.__init__" (defArgs s_NoFamily_init) (defBody s_NoFamily_init) (defScope s_NoFamily_init) .none .none dc_NoFamily_init pm_NoFamily_init an_NoFamily_init (.ref cda_NoFamily_init) ct_NoFamily_init cc_NoFamily_init), osl_NoFamily_init⟩)
    (hc_NoFamily : PySem.W.codeIn K (.ref cda_NoFamily_init) "NoFamily.__init__" = true)
    (code_NoFamily : K.lookup cda_NoFamily_init = some ⟨ccl_NoFamily_init, cdd_NoFamily_init, .fields vs_NoFamily_init, ccs_NoFamily_init⟩)
    (hv_NoFamily : vs_NoFamily_init[2]? = some (.str file_NoFamily_init tf_NoFamily_init))
    (hf_NoFamily : ((l.prog.main.file : Str) == file_NoFamily_init) = true)
    (cell_NoFamily : K.lookup cc_NoFamily_init = some ⟨ccc_NoFamily_init, cld_NoFamily_init, .cell (some (.ref C_NoFamily)), csl_NoFamily_init⟩)
    (ic_NoFamily : PySem.W.isClsIn K C_NoFamily = true)
    (sub_NoFamily : PySem.W.mroIn K C_NoFamily (.ref C_NoFamily) = some true)
    (sup_NoFamily : PySem.W.ks_superIn K C_NoFamily C_NoFamily "__init__" = some (some (.builtin "ValueError.__init__")))
    (base_NoFamily : PySem.W.subIn K (.ref C_NoFamily) (.type "ValueError") = some true)
    (exc_NoFamily : PySem.W.excInitIn K C_NoFamily [.type "ValueError", .type "Exception", .type "BaseException", .type "object"] "ValueError.__new__" = true)
    (sa_NoFamily : PySem.W.findIn K (.ref C_NoFamily) "__setattr__" = some (some (.builtin "object.__setattr__")))
    (ov_NoFamily : PySem.W.excOver K C_NoFamily [.type "ValueError", .type "Exception", .type "BaseException", .type "object"] = true)
    (hd_NoFamily : PySem.W.hasDictIn K C_NoFamily = true)
    (no_NoFamily_word : PySem.W.findIn K (.ref C_NoFamily) "word" = some none)
    (exC_NoFamily : PySem.W.subIn K (.ref C_NoFamily) (.type "BaseException") = some true)
    (tyC_NoFamily : PySem.W.typeIn K (.ref C_NoFamily) = some (.type "type"))
    (kC_NoFamily : PySem.W.keepIn K (.ref C_NoFamily) = true)
    (su_NoFamily : PySem.W.subIn K (.ref C_NoFamily) (.ref C_NoFamily) = some true)
    (ga_NoFamily : PySem.W.findIn K (.ref C_NoFamily) "__getattribute__" = some (some (.builtin "BaseException.__getattribute__")))
    (gg_NoFamily : PySem.W.findIn K (.ref C_NoFamily) "__getattr__" = some none)
    (aC_Refused : PySem.W.nsIn K mainGlobals "Refused" = some (some (.ref C_Refused)))
    (init_Refused : PySem.W.findIn K (.ref C_Refused) "__init__" = some (some (.ref f_Refused_init)))
    (ty_Refused : PySem.W.typeIn K (.ref f_Refused_init) = some (.type "function"))
    (lk_Refused : K.lookup f_Refused_init = some ⟨oc_Refused_init, od_Refused_init, .func (PySem.W.ksFn "__init__" "Refused.__init__" (defArgs s_Refused_init) (defBody s_Refused_init) (defScope s_Refused_init) .none .none dc_Refused_init pm_Refused_init an_Refused_init (.ref cda_Refused_init) ct_Refused_init cc_Refused_init), osl_Refused_init⟩)
    (hc_Refused : PySem.W.codeIn K (.ref cda_Refused_init) "Refused.__init__" = true)
    (code_Refused : K.lookup cda_Refused_init = some ⟨ccl_Refused_init, cdd_Refused_init, .fields vs_Refused_init, ccs_Refused_init⟩)
    (hv_Refused : vs_Refused_init[2]? = some (.str file_Refused_init tf_Refused_init))
    (hf_Refused : ((l.prog.main.file : Str) == file_Refused_init) = true)
    (cell_Refused : K.lookup cc_Refused_init = some ⟨ccc_Refused_init, cld_Refused_init, .cell (some (.ref C_Refused)), csl_Refused_init⟩)
    (ic_Refused : PySem.W.isClsIn K C_Refused = true)
    (sub_Refused : PySem.W.mroIn K C_Refused (.ref C_Refused) = some true)
    (sup_Refused : PySem.W.ks_superIn K C_Refused C_Refused "__init__" = some (some (.builtin "RuntimeError.__init__")))
    (base_Refused : PySem.W.subIn K (.ref C_Refused) (.type "RuntimeError") = some true)
    (exc_Refused : PySem.W.excInitIn K C_Refused [.type "RuntimeError", .type "Exception", .type "BaseException", .type "object"] "RuntimeError.__new__" = true)
    (sa_Refused : PySem.W.findIn K (.ref C_Refused) "__setattr__" = some (some (.builtin "object.__setattr__")))
    (ov_Refused : PySem.W.excOver K C_Refused [.type "RuntimeError", .type "Exception", .type "BaseException", .type "object"] = true)
    (hd_Refused : PySem.W.hasDictIn K C_Refused = true)
    (no_Refused_ring : PySem.W.findIn K (.ref C_Refused) "ring" = some none)
    (exC_Refused : PySem.W.subIn K (.ref C_Refused) (.type "BaseException") = some true)
    (tyC_Refused : PySem.W.typeIn K (.ref C_Refused) = some (.type "type"))
    (kC_Refused : PySem.W.keepIn K (.ref C_Refused) = true)
    (su_Refused : PySem.W.subIn K (.ref C_Refused) (.ref C_Refused) = some true)
    (ga_Refused : PySem.W.findIn K (.ref C_Refused) "__getattribute__" = some (some (.builtin "BaseException.__getattribute__")))
    (gg_Refused : PySem.W.findIn K (.ref C_Refused) "__getattr__" = some none)
    (aC_Endless : PySem.W.nsIn K mainGlobals "Endless" = some (some (.ref C_Endless)))
    (init_Endless : PySem.W.findIn K (.ref C_Endless) "__init__" = some (some (.ref f_Endless_init)))
    (ty_Endless : PySem.W.typeIn K (.ref f_Endless_init) = some (.type "function"))
    (lk_Endless : K.lookup f_Endless_init = some ⟨oc_Endless_init, od_Endless_init, .func (PySem.W.ksFn "__init__" "Endless.__init__" (defArgs s_Endless_init) (defBody s_Endless_init) (defScope s_Endless_init) .none .none dc_Endless_init pm_Endless_init an_Endless_init (.ref cda_Endless_init) ct_Endless_init cc_Endless_init), osl_Endless_init⟩)
    (hc_Endless : PySem.W.codeIn K (.ref cda_Endless_init) "Endless.__init__" = true)
    (code_Endless : K.lookup cda_Endless_init = some ⟨ccl_Endless_init, cdd_Endless_init, .fields vs_Endless_init, ccs_Endless_init⟩)
    (hv_Endless : vs_Endless_init[2]? = some (.str file_Endless_init tf_Endless_init))
    (hf_Endless : ((l.prog.main.file : Str) == file_Endless_init) = true)
    (cell_Endless : K.lookup cc_Endless_init = some ⟨ccc_Endless_init, cld_Endless_init, .cell (some (.ref C_Endless)), csl_Endless_init⟩)
    (ic_Endless : PySem.W.isClsIn K C_Endless = true)
    (sub_Endless : PySem.W.mroIn K C_Endless (.ref C_Endless) = some true)
    (sup_Endless : PySem.W.ks_superIn K C_Endless C_Endless "__init__" = some (some (.builtin "RuntimeError.__init__")))
    (base_Endless : PySem.W.subIn K (.ref C_Endless) (.type "RuntimeError") = some true)
    (exc_Endless : PySem.W.excInitIn K C_Endless [.type "RuntimeError", .type "Exception", .type "BaseException", .type "object"] "RuntimeError.__new__" = true)
    (sa_Endless : PySem.W.findIn K (.ref C_Endless) "__setattr__" = some (some (.builtin "object.__setattr__")))
    (ov_Endless : PySem.W.excOver K C_Endless [.type "RuntimeError", .type "Exception", .type "BaseException", .type "object"] = true)
    (hd_Endless : PySem.W.hasDictIn K C_Endless = true)
    (no_Endless_ring : PySem.W.findIn K (.ref C_Endless) "ring" = some none)
    (exC_Endless : PySem.W.subIn K (.ref C_Endless) (.type "BaseException") = some true)
    (tyC_Endless : PySem.W.typeIn K (.ref C_Endless) = some (.type "type"))
    (kC_Endless : PySem.W.keepIn K (.ref C_Endless) = true)
    (su_Endless : PySem.W.subIn K (.ref C_Endless) (.ref C_Endless) = some true)
    (ga_Endless : PySem.W.findIn K (.ref C_Endless) "__getattribute__" = some (some (.builtin "BaseException.__getattribute__")))
    (gg_Endless : PySem.W.findIn K (.ref C_Endless) "__getattr__" = some none)
    (a_l_pen : PySem.W.nsIn K mainGlobals "_law_pen" = some (some (.ref f_l_pen)))
    (l_l_pen : K.lookup f_l_pen = some ⟨oc_l_pen, od_l_pen, .func (PySem.W.fnOf "_law_pen" "_law_pen" (defArgs s_l_pen) (defBody s_l_pen) (defScope s_l_pen) .none kV_l_pen dc_l_pen pm_l_pen an_l_pen cd_l_pen ct_l_pen), sl_l_pen⟩)
    (c_l_pen : PySem.W.codeIn K cd_l_pen "_law_pen" = true)
    (k_l_pen : PySem.W.keepIn K (.ref f_l_pen) = true)
    (a_l_take : PySem.W.nsIn K mainGlobals "_law_take" = some (some (.ref f_l_take)))
    (l_l_take : K.lookup f_l_take = some ⟨oc_l_take, od_l_take, .func (PySem.W.fnOf "_law_take" "_law_take" (defArgs s_l_take) (defBody s_l_take) (defScope s_l_take) .none kV_l_take dc_l_take pm_l_take an_l_take cd_l_take ct_l_take), sl_l_take⟩)
    (c_l_take : PySem.W.codeIn K cd_l_take "_law_take" = true)
    (k_l_take : PySem.W.keepIn K (.ref f_l_take) = true)
    (a_l_plain : PySem.W.nsIn K mainGlobals "_law_plain" = some (some (.ref f_l_plain)))
    (l_l_plain : K.lookup f_l_plain = some ⟨oc_l_plain, od_l_plain, .func (PySem.W.fnOf "_law_plain" "_law_plain" (defArgs s_l_plain) (defBody s_l_plain) (defScope s_l_plain) .none kV_l_plain dc_l_plain pm_l_plain an_l_plain cd_l_plain ct_l_plain), sl_l_plain⟩)
    (c_l_plain : PySem.W.codeIn K cd_l_plain "_law_plain" = true)
    (k_l_plain : PySem.W.keepIn K (.ref f_l_plain) = true)
    (a_l_same : PySem.W.nsIn K mainGlobals "_law_same" = some (some (.ref f_l_same)))
    (l_l_same : K.lookup f_l_same = some ⟨oc_l_same, od_l_same, .func (PySem.W.fnOf "_law_same" "_law_same" (defArgs s_l_same) (defBody s_l_same) (defScope s_l_same) .none kV_l_same dc_l_same pm_l_same an_l_same cd_l_same ct_l_same), sl_l_same⟩)
    (c_l_same : PySem.W.codeIn K cd_l_same "_law_same" = true)
    (k_l_same : PySem.W.keepIn K (.ref f_l_same) = true)
    (a_l_matches : PySem.W.nsIn K mainGlobals "_law_matches" = some (some (.ref f_l_matches)))
    (l_l_matches : K.lookup f_l_matches = some ⟨oc_l_matches, od_l_matches, .func (PySem.W.fnOf "_law_matches" "_law_matches" (defArgs s_l_matches) (defBody s_l_matches) (defScope s_l_matches) .none kV_l_matches dc_l_matches pm_l_matches an_l_matches cd_l_matches ct_l_matches), sl_l_matches⟩)
    (c_l_matches : PySem.W.codeIn K cd_l_matches "_law_matches" = true)
    (k_l_matches : PySem.W.keepIn K (.ref f_l_matches) = true)
    (a_l_first_errors : PySem.W.nsIn K mainGlobals "_law_first_errors" = some (some (.ref f_l_first_errors)))
    (l_l_first_errors : K.lookup f_l_first_errors = some ⟨oc_l_first_errors, od_l_first_errors, .func (PySem.W.fnOf "_law_first_errors" "_law_first_errors" (defArgs s_l_first_errors) (defBody s_l_first_errors) (defScope s_l_first_errors) .none kV_l_first_errors dc_l_first_errors pm_l_first_errors an_l_first_errors cd_l_first_errors ct_l_first_errors), sl_l_first_errors⟩)
    (c_l_first_errors : PySem.W.codeIn K cd_l_first_errors "_law_first_errors" = true)
    (k_l_first_errors : PySem.W.keepIn K (.ref f_l_first_errors) = true)
    (a_l_second_errors : PySem.W.nsIn K mainGlobals "_law_second_errors" = some (some (.ref f_l_second_errors)))
    (l_l_second_errors : K.lookup f_l_second_errors = some ⟨oc_l_second_errors, od_l_second_errors, .func (PySem.W.fnOf "_law_second_errors" "_law_second_errors" (defArgs s_l_second_errors) (defBody s_l_second_errors) (defScope s_l_second_errors) .none kV_l_second_errors dc_l_second_errors pm_l_second_errors an_l_second_errors cd_l_second_errors ct_l_second_errors), sl_l_second_errors⟩)
    (c_l_second_errors : PySem.W.codeIn K cd_l_second_errors "_law_second_errors" = true)
    (k_l_second_errors : PySem.W.keepIn K (.ref f_l_second_errors) = true)
    (a_l_stops : PySem.W.nsIn K mainGlobals "_law_stops" = some (some (.ref f_l_stops)))
    (l_l_stops : K.lookup f_l_stops = some ⟨oc_l_stops, od_l_stops, .func (PySem.W.fnOf "_law_stops" "_law_stops" (defArgs s_l_stops) (defBody s_l_stops) (defScope s_l_stops) .none kV_l_stops dc_l_stops pm_l_stops an_l_stops cd_l_stops ct_l_stops), sl_l_stops⟩)
    (c_l_stops : PySem.W.codeIn K cd_l_stops "_law_stops" = true)
    (k_l_stops : PySem.W.keepIn K (.ref f_l_stops) = true)
    (a_l_caught : PySem.W.nsIn K mainGlobals "_law_caught" = some (some (.ref f_l_caught)))
    (l_l_caught : K.lookup f_l_caught = some ⟨oc_l_caught, od_l_caught, .func (PySem.W.fnOf "_law_caught" "_law_caught" (defArgs s_l_caught) (defBody s_l_caught) (defScope s_l_caught) .none kV_l_caught dc_l_caught pm_l_caught an_l_caught cd_l_caught ct_l_caught), sl_l_caught⟩)
    (c_l_caught : PySem.W.codeIn K cd_l_caught "_law_caught" = true)
    (k_l_caught : PySem.W.keepIn K (.ref f_l_caught) = true)
    (a_law : PySem.W.nsIn K mainGlobals "law" = some (some (.ref f_law)))
    (l_law : K.lookup f_law = some ⟨oc_law, od_law, .func (PySem.W.fnOf "law" "law" (defArgs s_law) (defBody s_law) (defScope s_law) .none kV_law dc_law pm_law an_law cd_law ct_law), sl_law⟩)
    (c_law : PySem.W.codeIn K cd_law "law" = true)
    (k_law : PySem.W.keepIn K (.ref f_law) = true)
    (ha_BadSchema : PySem.W.findIn K (.ref C_BadSchema) "__class__" = some (some (.builtin "object.__class__")))
    (hm_BadSchema : PySem.W.mroIn K C_BadSchema (.type "object") = some true)
    (ha_BadText : PySem.W.findIn K (.ref C_BadText) "__class__" = some (some (.builtin "object.__class__")))
    (hm_BadText : PySem.W.mroIn K C_BadText (.type "object") = some true)
    (ha_NoKind : PySem.W.findIn K (.ref C_NoKind) "__class__" = some (some (.builtin "object.__class__")))
    (hm_NoKind : PySem.W.mroIn K C_NoKind (.type "object") = some true)
    (ha_NoField : PySem.W.findIn K (.ref C_NoField) "__class__" = some (some (.builtin "object.__class__")))
    (hm_NoField : PySem.W.mroIn K C_NoField (.type "object") = some true)
    (ha_BadTag : PySem.W.findIn K (.ref C_BadTag) "__class__" = some (some (.builtin "object.__class__")))
    (hm_BadTag : PySem.W.mroIn K C_BadTag (.type "object") = some true)
    (ha_BadValue : PySem.W.findIn K (.ref C_BadValue) "__class__" = some (some (.builtin "object.__class__")))
    (hm_BadValue : PySem.W.mroIn K C_BadValue (.type "object") = some true)
    (ha_NoThing : PySem.W.findIn K (.ref C_NoThing) "__class__" = some (some (.builtin "object.__class__")))
    (hm_NoThing : PySem.W.mroIn K C_NoThing (.type "object") = some true)
    (ha_BadGraph : PySem.W.findIn K (.ref C_BadGraph) "__class__" = some (some (.builtin "object.__class__")))
    (hm_BadGraph : PySem.W.mroIn K C_BadGraph (.type "object") = some true)
    (ha_TooMany : PySem.W.findIn K (.ref C_TooMany) "__class__" = some (some (.builtin "object.__class__")))
    (hm_TooMany : PySem.W.mroIn K C_TooMany (.type "object") = some true)
    (ha_BadGuard : PySem.W.findIn K (.ref C_BadGuard) "__class__" = some (some (.builtin "object.__class__")))
    (hm_BadGuard : PySem.W.mroIn K C_BadGuard (.type "object") = some true)
    (ha_NoFlag : PySem.W.findIn K (.ref C_NoFlag) "__class__" = some (some (.builtin "object.__class__")))
    (hm_NoFlag : PySem.W.mroIn K C_NoFlag (.type "object") = some true)
    (ha_BadWalker : PySem.W.findIn K (.ref C_BadWalker) "__class__" = some (some (.builtin "object.__class__")))
    (hm_BadWalker : PySem.W.mroIn K C_BadWalker (.type "object") = some true)
    (ha_BadChange : PySem.W.findIn K (.ref C_BadChange) "__class__" = some (some (.builtin "object.__class__")))
    (hm_BadChange : PySem.W.mroIn K C_BadChange (.type "object") = some true)
    (ha_WrongSchema : PySem.W.findIn K (.ref C_WrongSchema) "__class__" = some (some (.builtin "object.__class__")))
    (hm_WrongSchema : PySem.W.mroIn K C_WrongSchema (.type "object") = some true)
    (ha_WrongStart : PySem.W.findIn K (.ref C_WrongStart) "__class__" = some (some (.builtin "object.__class__")))
    (hm_WrongStart : PySem.W.mroIn K C_WrongStart (.type "object") = some true)
    (ha_BadStart : PySem.W.findIn K (.ref C_BadStart) "__class__" = some (some (.builtin "object.__class__")))
    (hm_BadStart : PySem.W.mroIn K C_BadStart (.type "object") = some true)
    (ha_TooLong : PySem.W.findIn K (.ref C_TooLong) "__class__" = some (some (.builtin "object.__class__")))
    (hm_TooLong : PySem.W.mroIn K C_TooLong (.type "object") = some true)
    (ha_NotPossible : PySem.W.findIn K (.ref C_NotPossible) "__class__" = some (some (.builtin "object.__class__")))
    (hm_NotPossible : PySem.W.mroIn K C_NotPossible (.type "object") = some true)
    (ha_NoQuestion : PySem.W.findIn K (.ref C_NoQuestion) "__class__" = some (some (.builtin "object.__class__")))
    (hm_NoQuestion : PySem.W.mroIn K C_NoQuestion (.type "object") = some true)
    (ha_BadWish : PySem.W.findIn K (.ref C_BadWish) "__class__" = some (some (.builtin "object.__class__")))
    (hm_BadWish : PySem.W.mroIn K C_BadWish (.type "object") = some true)
    (ha_NoFamily : PySem.W.findIn K (.ref C_NoFamily) "__class__" = some (some (.builtin "object.__class__")))
    (hm_NoFamily : PySem.W.mroIn K C_NoFamily (.type "object") = some true)
    (ha_Refused : PySem.W.findIn K (.ref C_Refused) "__class__" = some (some (.builtin "object.__class__")))
    (hm_Refused : PySem.W.mroIn K C_Refused (.type "object") = some true)
    (ha_Endless : PySem.W.findIn K (.ref C_Endless) "__class__" = some (some (.builtin "object.__class__")))
    (hm_Endless : PySem.W.mroIn K C_Endless (.type "object") = some true)
    (hn_obj : PySem.W.specialIn K (.builtin "object.__class__") "__get__" = some (some (.builtin "getset_descriptor.__get__")))
    (ht_obj : PySem.W.takesIn K (.builtin "object.__class__") = some true)
    (aC_WalkmarksError : PySem.W.nsIn K mainGlobals "WalkmarksError" = some (some (.ref C_WalkmarksError)))
    (sb_WalkmarksError : PySem.W.subIn K (.ref C_WalkmarksError) (.type "BaseException") = some true)
    (sd_WalkmarksError : PySem.W.hasDictIn K C_WalkmarksError = true)
    (st_WalkmarksError : PySem.W.typeIn K (.ref C_WalkmarksError) = some (.type "type"))
    (aC_Stopped : PySem.W.nsIn K mainGlobals "Stopped" = some (some (.ref C_Stopped)))
    (sb_Stopped : PySem.W.subIn K (.ref C_Stopped) (.type "BaseException") = some true)
    (sd_Stopped : PySem.W.hasDictIn K C_Stopped = true)
    (st_Stopped : PySem.W.typeIn K (.ref C_Stopped) = some (.type "type"))
    (su_wish : PySem.W.subIn K (.ref C_BadWish) (.ref C_WalkmarksError) = some true)
    (su_stop : PySem.W.subIn K (.ref C_Endless) (.ref C_Stopped) = some true)
    (kM0 : (([C_BadSchema, C_BadText, C_NoKind, C_NoField, C_BadTag, C_BadValue, C_NoThing, C_BadGraph, C_TooMany, C_BadGuard, C_NoFlag, C_BadWalker, C_BadChange, C_WrongSchema, C_WrongStart, C_BadStart, C_TooLong, C_NotPossible, C_NoQuestion, C_BadWish, C_NoFamily, C_Refused, C_Endless] : List Addr).map fun C => ([C_BadSchema, C_BadText, C_NoKind, C_NoField, C_BadTag, C_BadValue, C_NoThing, C_BadGraph, C_TooMany, C_BadGuard, C_NoFlag, C_BadWalker, C_BadChange, C_WrongSchema, C_WrongStart, C_BadStart, C_TooLong, C_NotPossible, C_NoQuestion, C_BadWish, C_NoFamily, C_Refused, C_Endless] : List Addr).map fun D => PySem.W.kitOne K (.ref C) (.ref D)) = (List.range 23).map fun k => (List.range 23).map fun j => some (decide (j = k)))
    (kB0 : (([C_BadSchema, C_BadText, C_NoKind, C_NoField, C_BadTag, C_BadValue, C_NoThing, C_BadGraph, C_TooMany, C_BadGuard, C_NoFlag, C_BadWalker, C_BadChange, C_WrongSchema, C_WrongStart, C_BadStart, C_TooLong, C_NotPossible, C_NoQuestion, C_BadWish, C_NoFamily, C_Refused, C_Endless] : List Addr).map fun C => [PySem.W.kitOne K (.ref C) (.ref C_WalkmarksError), PySem.W.kitOne K (.ref C) (.type "ValueError"), PySem.W.kitOne K (.ref C) (.ref C_Stopped), PySem.W.kitOne K (.ref C) (.type "RuntimeError")]) = (List.range 23).map fun k => [some (decide (k < 21)), some (decide (k < 21)), some (decide (21 ≤ k)), some (decide (21 ≤ k))])
    : ∃ fd : FuncData, (∀ (s : Shared) (v : Value), BindsTo s fd ⟨[v], []⟩ [("_law_script", v)]) ∧ ∀ base : Heap, K.In base → base.Ns mainGlobals mg → FnOk l.prog w K mg base (L2.CX l.prog w) 5 fa fd ["_law_script"] (spLaw K) := by
  have e := hfa.symm.trans (PySem.W.mg_of X G a_law)
  cases e
  have er_BadSchema : ErC l.prog K "BadSchema.__init__" ["at"] C_BadSchema := er_mk PySem.W.kxs_ValueError PySem.F.excBase_ValueError PySem.F.store_ValueError fm_BadSchema init_BadSchema ty_BadSchema lk_BadSchema hc_BadSchema code_BadSchema hv_BadSchema hf_BadSchema cell_BadSchema ic_BadSchema sub_BadSchema z_super z_tp z_top sup_BadSchema base_BadSchema exc_BadSchema sa_BadSchema ov_BadSchema hd_BadSchema (by
    intro f hf
    simp only [List.mem_cons, List.not_mem_nil, or_false] at hf
    rcases hf with rfl <;> assumption) exC_BadSchema tyC_BadSchema kC_BadSchema
  have er_BadText : ErC l.prog K "BadText.__init__" ["line"] C_BadText := er_mk PySem.W.kxs_ValueError PySem.F.excBase_ValueError PySem.F.store_ValueError fm_BadText init_BadText ty_BadText lk_BadText hc_BadText code_BadText hv_BadText hf_BadText cell_BadText ic_BadText sub_BadText z_super z_tp z_top sup_BadText base_BadText exc_BadText sa_BadText ov_BadText hd_BadText (by
    intro f hf
    simp only [List.mem_cons, List.not_mem_nil, or_false] at hf
    rcases hf with rfl <;> assumption) exC_BadText tyC_BadText kC_BadText
  have er_NoKind : ErC l.prog K "NoKind.__init__" ["kind"] C_NoKind := er_mk PySem.W.kxs_ValueError PySem.F.excBase_ValueError PySem.F.store_ValueError fm_NoKind init_NoKind ty_NoKind lk_NoKind hc_NoKind code_NoKind hv_NoKind hf_NoKind cell_NoKind ic_NoKind sub_NoKind z_super z_tp z_top sup_NoKind base_NoKind exc_NoKind sa_NoKind ov_NoKind hd_NoKind (by
    intro f hf
    simp only [List.mem_cons, List.not_mem_nil, or_false] at hf
    rcases hf with rfl <;> assumption) exC_NoKind tyC_NoKind kC_NoKind
  have er_NoField : ErC l.prog K "NoField.__init__" ["kind", "field"] C_NoField := er_mk PySem.W.kxs_ValueError PySem.F.excBase_ValueError PySem.F.store_ValueError fm_NoField init_NoField ty_NoField lk_NoField hc_NoField code_NoField hv_NoField hf_NoField cell_NoField ic_NoField sub_NoField z_super z_tp z_top sup_NoField base_NoField exc_NoField sa_NoField ov_NoField hd_NoField (by
    intro f hf
    simp only [List.mem_cons, List.not_mem_nil, or_false] at hf
    rcases hf with rfl | rfl <;> assumption) exC_NoField tyC_NoField kC_NoField
  have er_BadTag : ErC l.prog K "BadTag.__init__" ["tag"] C_BadTag := er_mk PySem.W.kxs_ValueError PySem.F.excBase_ValueError PySem.F.store_ValueError fm_BadTag init_BadTag ty_BadTag lk_BadTag hc_BadTag code_BadTag hv_BadTag hf_BadTag cell_BadTag ic_BadTag sub_BadTag z_super z_tp z_top sup_BadTag base_BadTag exc_BadTag sa_BadTag ov_BadTag hd_BadTag (by
    intro f hf
    simp only [List.mem_cons, List.not_mem_nil, or_false] at hf
    rcases hf with rfl <;> assumption) exC_BadTag tyC_BadTag kC_BadTag
  have er_BadValue : ErC l.prog K "BadValue.__init__" ["field"] C_BadValue := er_mk PySem.W.kxs_ValueError PySem.F.excBase_ValueError PySem.F.store_ValueError fm_BadValue init_BadValue ty_BadValue lk_BadValue hc_BadValue code_BadValue hv_BadValue hf_BadValue cell_BadValue ic_BadValue sub_BadValue z_super z_tp z_top sup_BadValue base_BadValue exc_BadValue sa_BadValue ov_BadValue hd_BadValue (by
    intro f hf
    simp only [List.mem_cons, List.not_mem_nil, or_false] at hf
    rcases hf with rfl <;> assumption) exC_BadValue tyC_BadValue kC_BadValue
  have er_NoThing : ErC l.prog K "NoThing.__init__" ["thing"] C_NoThing := er_mk PySem.W.kxs_ValueError PySem.F.excBase_ValueError PySem.F.store_ValueError fm_NoThing init_NoThing ty_NoThing lk_NoThing hc_NoThing code_NoThing hv_NoThing hf_NoThing cell_NoThing ic_NoThing sub_NoThing z_super z_tp z_top sup_NoThing base_NoThing exc_NoThing sa_NoThing ov_NoThing hd_NoThing (by
    intro f hf
    simp only [List.mem_cons, List.not_mem_nil, or_false] at hf
    rcases hf with rfl <;> assumption) exC_NoThing tyC_NoThing kC_NoThing
  have er_BadGraph : ErC l.prog K "BadGraph.__init__" ["at"] C_BadGraph := er_mk PySem.W.kxs_ValueError PySem.F.excBase_ValueError PySem.F.store_ValueError fm_BadGraph init_BadGraph ty_BadGraph lk_BadGraph hc_BadGraph code_BadGraph hv_BadGraph hf_BadGraph cell_BadGraph ic_BadGraph sub_BadGraph z_super z_tp z_top sup_BadGraph base_BadGraph exc_BadGraph sa_BadGraph ov_BadGraph hd_BadGraph (by
    intro f hf
    simp only [List.mem_cons, List.not_mem_nil, or_false] at hf
    rcases hf with rfl <;> assumption) exC_BadGraph tyC_BadGraph kC_BadGraph
  have er_TooMany : ErC l.prog K "TooMany.__init__" ["what"] C_TooMany := er_mk PySem.W.kxs_ValueError PySem.F.excBase_ValueError PySem.F.store_ValueError fm_TooMany init_TooMany ty_TooMany lk_TooMany hc_TooMany code_TooMany hv_TooMany hf_TooMany cell_TooMany ic_TooMany sub_TooMany z_super z_tp z_top sup_TooMany base_TooMany exc_TooMany sa_TooMany ov_TooMany hd_TooMany (by
    intro f hf
    simp only [List.mem_cons, List.not_mem_nil, or_false] at hf
    rcases hf with rfl <;> assumption) exC_TooMany tyC_TooMany kC_TooMany
  have er_BadGuard : ErC l.prog K "BadGuard.__init__" ["part"] C_BadGuard := er_mk PySem.W.kxs_ValueError PySem.F.excBase_ValueError PySem.F.store_ValueError fm_BadGuard init_BadGuard ty_BadGuard lk_BadGuard hc_BadGuard code_BadGuard hv_BadGuard hf_BadGuard cell_BadGuard ic_BadGuard sub_BadGuard z_super z_tp z_top sup_BadGuard base_BadGuard exc_BadGuard sa_BadGuard ov_BadGuard hd_BadGuard (by
    intro f hf
    simp only [List.mem_cons, List.not_mem_nil, or_false] at hf
    rcases hf with rfl <;> assumption) exC_BadGuard tyC_BadGuard kC_BadGuard
  have er_NoFlag : ErC l.prog K "NoFlag.__init__" ["flag"] C_NoFlag := er_mk PySem.W.kxs_ValueError PySem.F.excBase_ValueError PySem.F.store_ValueError fm_NoFlag init_NoFlag ty_NoFlag lk_NoFlag hc_NoFlag code_NoFlag hv_NoFlag hf_NoFlag cell_NoFlag ic_NoFlag sub_NoFlag z_super z_tp z_top sup_NoFlag base_NoFlag exc_NoFlag sa_NoFlag ov_NoFlag hd_NoFlag (by
    intro f hf
    simp only [List.mem_cons, List.not_mem_nil, or_false] at hf
    rcases hf with rfl <;> assumption) exC_NoFlag tyC_NoFlag kC_NoFlag
  have er_BadWalker : ErC l.prog K "BadWalker.__init__" ["part"] C_BadWalker := er_mk PySem.W.kxs_ValueError PySem.F.excBase_ValueError PySem.F.store_ValueError fm_BadWalker init_BadWalker ty_BadWalker lk_BadWalker hc_BadWalker code_BadWalker hv_BadWalker hf_BadWalker cell_BadWalker ic_BadWalker sub_BadWalker z_super z_tp z_top sup_BadWalker base_BadWalker exc_BadWalker sa_BadWalker ov_BadWalker hd_BadWalker (by
    intro f hf
    simp only [List.mem_cons, List.not_mem_nil, or_false] at hf
    rcases hf with rfl <;> assumption) exC_BadWalker tyC_BadWalker kC_BadWalker
  have er_BadChange : ErC l.prog K "BadChange.__init__" ["at"] C_BadChange := er_mk PySem.W.kxs_ValueError PySem.F.excBase_ValueError PySem.F.store_ValueError fm_BadChange init_BadChange ty_BadChange lk_BadChange hc_BadChange code_BadChange hv_BadChange hf_BadChange cell_BadChange ic_BadChange sub_BadChange z_super z_tp z_top sup_BadChange base_BadChange exc_BadChange sa_BadChange ov_BadChange hd_BadChange (by
    intro f hf
    simp only [List.mem_cons, List.not_mem_nil, or_false] at hf
    rcases hf with rfl <;> assumption) exC_BadChange tyC_BadChange kC_BadChange
  have er_WrongSchema : ErC l.prog K "WrongSchema.__init__" [] C_WrongSchema := er_mk PySem.W.kxs_ValueError PySem.F.excBase_ValueError PySem.F.store_ValueError fm_WrongSchema init_WrongSchema ty_WrongSchema lk_WrongSchema hc_WrongSchema code_WrongSchema hv_WrongSchema hf_WrongSchema cell_WrongSchema ic_WrongSchema sub_WrongSchema z_super z_tp z_top sup_WrongSchema base_WrongSchema exc_WrongSchema sa_WrongSchema ov_WrongSchema hd_WrongSchema (fun f hf => by cases hf) exC_WrongSchema tyC_WrongSchema kC_WrongSchema
  have er_WrongStart : ErC l.prog K "WrongStart.__init__" [] C_WrongStart := er_mk PySem.W.kxs_ValueError PySem.F.excBase_ValueError PySem.F.store_ValueError fm_WrongStart init_WrongStart ty_WrongStart lk_WrongStart hc_WrongStart code_WrongStart hv_WrongStart hf_WrongStart cell_WrongStart ic_WrongStart sub_WrongStart z_super z_tp z_top sup_WrongStart base_WrongStart exc_WrongStart sa_WrongStart ov_WrongStart hd_WrongStart (fun f hf => by cases hf) exC_WrongStart tyC_WrongStart kC_WrongStart
  have er_BadStart : ErC l.prog K "BadStart.__init__" ["thing"] C_BadStart := er_mk PySem.W.kxs_ValueError PySem.F.excBase_ValueError PySem.F.store_ValueError fm_BadStart init_BadStart ty_BadStart lk_BadStart hc_BadStart code_BadStart hv_BadStart hf_BadStart cell_BadStart ic_BadStart sub_BadStart z_super z_tp z_top sup_BadStart base_BadStart exc_BadStart sa_BadStart ov_BadStart hd_BadStart (by
    intro f hf
    simp only [List.mem_cons, List.not_mem_nil, or_false] at hf
    rcases hf with rfl <;> assumption) exC_BadStart tyC_BadStart kC_BadStart
  have er_TooLong : ErC l.prog K "TooLong.__init__" ["most"] C_TooLong := er_mk PySem.W.kxs_ValueError PySem.F.excBase_ValueError PySem.F.store_ValueError fm_TooLong init_TooLong ty_TooLong lk_TooLong hc_TooLong code_TooLong hv_TooLong hf_TooLong cell_TooLong ic_TooLong sub_TooLong z_super z_tp z_top sup_TooLong base_TooLong exc_TooLong sa_TooLong ov_TooLong hd_TooLong (by
    intro f hf
    simp only [List.mem_cons, List.not_mem_nil, or_false] at hf
    rcases hf with rfl <;> assumption) exC_TooLong tyC_TooLong kC_TooLong
  have er_NotPossible : ErC l.prog K "NotPossible.__init__" ["kind", "word"] C_NotPossible := er_mk PySem.W.kxs_ValueError PySem.F.excBase_ValueError PySem.F.store_ValueError fm_NotPossible init_NotPossible ty_NotPossible lk_NotPossible hc_NotPossible code_NotPossible hv_NotPossible hf_NotPossible cell_NotPossible ic_NotPossible sub_NotPossible z_super z_tp z_top sup_NotPossible base_NotPossible exc_NotPossible sa_NotPossible ov_NotPossible hd_NotPossible (by
    intro f hf
    simp only [List.mem_cons, List.not_mem_nil, or_false] at hf
    rcases hf with rfl | rfl <;> assumption) exC_NotPossible tyC_NotPossible kC_NotPossible
  have er_NoQuestion : ErC l.prog K "NoQuestion.__init__" ["question"] C_NoQuestion := er_mk PySem.W.kxs_ValueError PySem.F.excBase_ValueError PySem.F.store_ValueError fm_NoQuestion init_NoQuestion ty_NoQuestion lk_NoQuestion hc_NoQuestion code_NoQuestion hv_NoQuestion hf_NoQuestion cell_NoQuestion ic_NoQuestion sub_NoQuestion z_super z_tp z_top sup_NoQuestion base_NoQuestion exc_NoQuestion sa_NoQuestion ov_NoQuestion hd_NoQuestion (by
    intro f hf
    simp only [List.mem_cons, List.not_mem_nil, or_false] at hf
    rcases hf with rfl <;> assumption) exC_NoQuestion tyC_NoQuestion kC_NoQuestion
  have er_BadWish : ErC l.prog K "BadWish.__init__" ["at"] C_BadWish := er_mk PySem.W.kxs_ValueError PySem.F.excBase_ValueError PySem.F.store_ValueError fm_BadWish init_BadWish ty_BadWish lk_BadWish hc_BadWish code_BadWish hv_BadWish hf_BadWish cell_BadWish ic_BadWish sub_BadWish z_super z_tp z_top sup_BadWish base_BadWish exc_BadWish sa_BadWish ov_BadWish hd_BadWish (by
    intro f hf
    simp only [List.mem_cons, List.not_mem_nil, or_false] at hf
    rcases hf with rfl <;> assumption) exC_BadWish tyC_BadWish kC_BadWish
  have er_NoFamily : ErC l.prog K "NoFamily.__init__" ["word"] C_NoFamily := er_mk PySem.W.kxs_ValueError PySem.F.excBase_ValueError PySem.F.store_ValueError fm_NoFamily init_NoFamily ty_NoFamily lk_NoFamily hc_NoFamily code_NoFamily hv_NoFamily hf_NoFamily cell_NoFamily ic_NoFamily sub_NoFamily z_super z_tp z_top sup_NoFamily base_NoFamily exc_NoFamily sa_NoFamily ov_NoFamily hd_NoFamily (by
    intro f hf
    simp only [List.mem_cons, List.not_mem_nil, or_false] at hf
    rcases hf with rfl <;> assumption) exC_NoFamily tyC_NoFamily kC_NoFamily
  have er_Refused : ErC l.prog K "Refused.__init__" ["ring"] C_Refused := er_mk PySem.W.kxs_RuntimeError PySem.F.excBase_RuntimeError PySem.F.store_RuntimeError fm_Refused init_Refused ty_Refused lk_Refused hc_Refused code_Refused hv_Refused hf_Refused cell_Refused ic_Refused sub_Refused z_super z_tp z_top sup_Refused base_Refused exc_Refused sa_Refused ov_Refused hd_Refused (by
    intro f hf
    simp only [List.mem_cons, List.not_mem_nil, or_false] at hf
    rcases hf with rfl <;> assumption) exC_Refused tyC_Refused kC_Refused
  have er_Endless : ErC l.prog K "Endless.__init__" ["ring"] C_Endless := er_mk PySem.W.kxs_RuntimeError PySem.F.excBase_RuntimeError PySem.F.store_RuntimeError fm_Endless init_Endless ty_Endless lk_Endless hc_Endless code_Endless hv_Endless hf_Endless cell_Endless ic_Endless sub_Endless z_super z_tp z_top sup_Endless base_Endless exc_Endless sa_Endless ov_Endless hd_Endless (by
    intro f hf
    simp only [List.mem_cons, List.not_mem_nil, or_false] at hf
    rcases hf with rfl <;> assumption) exC_Endless tyC_Endless kC_Endless
  have F_l_pen := fun_mk (st := s_l_pen) l_l_pen c_l_pen k_l_pen
  have F_l_take := fun_mk (st := s_l_take) l_l_take c_l_take k_l_take
  have F_l_plain := fun_mk (st := s_l_plain) l_l_plain c_l_plain k_l_plain
  have F_l_same := fun_mk (st := s_l_same) l_l_same c_l_same k_l_same
  have F_l_matches := fun_mk (st := s_l_matches) l_l_matches c_l_matches k_l_matches
  have F_l_first_errors := fun_mk (st := s_l_first_errors) l_l_first_errors c_l_first_errors k_l_first_errors
  have F_l_second_errors := fun_mk (st := s_l_second_errors) l_l_second_errors c_l_second_errors k_l_second_errors
  have F_l_stops := fun_mk (st := s_l_stops) l_l_stops c_l_stops k_l_stops
  have F_l_caught := fun_mk (st := s_l_caught) l_l_caught c_l_caught k_l_caught
  have F_law := fun_mk (st := s_law) l_law c_law k_law
  have T : Txt l.prog K mg { BadSchema := C_BadSchema, BadText := C_BadText, NoKind := C_NoKind, NoField := C_NoField, BadTag := C_BadTag, BadValue := C_BadValue, NoThing := C_NoThing, BadGraph := C_BadGraph, TooMany := C_TooMany, BadGuard := C_BadGuard, NoFlag := C_NoFlag, BadWalker := C_BadWalker, BadChange := C_BadChange, WrongSchema := C_WrongSchema, WrongStart := C_WrongStart, BadStart := C_BadStart, TooLong := C_TooLong, NotPossible := C_NotPossible, NoQuestion := C_NoQuestion, BadWish := C_BadWish, NoFamily := C_NoFamily, Refused := C_Refused, Endless := C_Endless, l_pen := f_l_pen, fd_l_pen := PySem.W.fnOf "_law_pen" "_law_pen" (defArgs s_l_pen) (defBody s_l_pen) (defScope s_l_pen) .none kV_l_pen dc_l_pen pm_l_pen an_l_pen cd_l_pen ct_l_pen, l_take := f_l_take, fd_l_take := PySem.W.fnOf "_law_take" "_law_take" (defArgs s_l_take) (defBody s_l_take) (defScope s_l_take) .none kV_l_take dc_l_take pm_l_take an_l_take cd_l_take ct_l_take, l_plain := f_l_plain, fd_l_plain := PySem.W.fnOf "_law_plain" "_law_plain" (defArgs s_l_plain) (defBody s_l_plain) (defScope s_l_plain) .none kV_l_plain dc_l_plain pm_l_plain an_l_plain cd_l_plain ct_l_plain, l_same := f_l_same, fd_l_same := PySem.W.fnOf "_law_same" "_law_same" (defArgs s_l_same) (defBody s_l_same) (defScope s_l_same) .none kV_l_same dc_l_same pm_l_same an_l_same cd_l_same ct_l_same, l_matches := f_l_matches, fd_l_matches := PySem.W.fnOf "_law_matches" "_law_matches" (defArgs s_l_matches) (defBody s_l_matches) (defScope s_l_matches) .none kV_l_matches dc_l_matches pm_l_matches an_l_matches cd_l_matches ct_l_matches, l_first_errors := f_l_first_errors, fd_l_first_errors := PySem.W.fnOf "_law_first_errors" "_law_first_errors" (defArgs s_l_first_errors) (defBody s_l_first_errors) (defScope s_l_first_errors) .none kV_l_first_errors dc_l_first_errors pm_l_first_errors an_l_first_errors cd_l_first_errors ct_l_first_errors, l_second_errors := f_l_second_errors, fd_l_second_errors := PySem.W.fnOf "_law_second_errors" "_law_second_errors" (defArgs s_l_second_errors) (defBody s_l_second_errors) (defScope s_l_second_errors) .none kV_l_second_errors dc_l_second_errors pm_l_second_errors an_l_second_errors cd_l_second_errors ct_l_second_errors, l_stops := f_l_stops, fd_l_stops := PySem.W.fnOf "_law_stops" "_law_stops" (defArgs s_l_stops) (defBody s_l_stops) (defScope s_l_stops) .none kV_l_stops dc_l_stops pm_l_stops an_l_stops cd_l_stops ct_l_stops, l_caught := f_l_caught, fd_l_caught := PySem.W.fnOf "_law_caught" "_law_caught" (defArgs s_l_caught) (defBody s_l_caught) (defScope s_l_caught) .none kV_l_caught dc_l_caught pm_l_caught an_l_caught cd_l_caught ct_l_caught, law := fa, fd_law := PySem.W.fnOf "law" "law" (defArgs s_law) (defBody s_law) (defScope s_law) .none kV_law dc_law pm_law an_law cd_law ct_law, WalkmarksError := C_WalkmarksError, Stopped := C_Stopped } := {
    n_len := PySem.W.mg_none_of X G z_len,
    n_int := PySem.W.mg_none_of X G z_int,
    n_list := PySem.W.mg_none_of X G z_list,
    n_range := PySem.W.mg_none_of X G z_range,
    n_isinstance := PySem.W.mg_none_of X G z_isinstance,
    n_str := PySem.W.mg_none_of X G z_str,
    n_tuple := PySem.W.mg_none_of X G z_tuple,
    n_bool := PySem.W.mg_none_of X G z_bool,
    n_ValueError := PySem.W.mg_none_of X G z_ValueError,
    n_RuntimeError := PySem.W.mg_none_of X G z_RuntimeError,
    g_BadSchema := PySem.W.mg_of X G aC_BadSchema,
    er_BadSchema := er_BadSchema,
    te_BadSchema := exm_self exC_BadSchema ic_BadSchema tyC_BadSchema su_BadSchema,
    xf_BadSchema := ⟨ga_BadSchema, gg_BadSchema, exC_BadSchema, hd_BadSchema⟩,
    no_BadSchema_at := no_BadSchema_at,
    g_BadText := PySem.W.mg_of X G aC_BadText,
    er_BadText := er_BadText,
    te_BadText := exm_self exC_BadText ic_BadText tyC_BadText su_BadText,
    xf_BadText := ⟨ga_BadText, gg_BadText, exC_BadText, hd_BadText⟩,
    no_BadText_line := no_BadText_line,
    g_NoKind := PySem.W.mg_of X G aC_NoKind,
    er_NoKind := er_NoKind,
    te_NoKind := exm_self exC_NoKind ic_NoKind tyC_NoKind su_NoKind,
    xf_NoKind := ⟨ga_NoKind, gg_NoKind, exC_NoKind, hd_NoKind⟩,
    no_NoKind_kind := no_NoKind_kind,
    g_NoField := PySem.W.mg_of X G aC_NoField,
    er_NoField := er_NoField,
    te_NoField := exm_self exC_NoField ic_NoField tyC_NoField su_NoField,
    xf_NoField := ⟨ga_NoField, gg_NoField, exC_NoField, hd_NoField⟩,
    no_NoField_kind := no_NoField_kind,
    no_NoField_field := no_NoField_field,
    g_BadTag := PySem.W.mg_of X G aC_BadTag,
    er_BadTag := er_BadTag,
    te_BadTag := exm_self exC_BadTag ic_BadTag tyC_BadTag su_BadTag,
    xf_BadTag := ⟨ga_BadTag, gg_BadTag, exC_BadTag, hd_BadTag⟩,
    no_BadTag_tag := no_BadTag_tag,
    g_BadValue := PySem.W.mg_of X G aC_BadValue,
    er_BadValue := er_BadValue,
    te_BadValue := exm_self exC_BadValue ic_BadValue tyC_BadValue su_BadValue,
    xf_BadValue := ⟨ga_BadValue, gg_BadValue, exC_BadValue, hd_BadValue⟩,
    no_BadValue_field := no_BadValue_field,
    g_NoThing := PySem.W.mg_of X G aC_NoThing,
    er_NoThing := er_NoThing,
    te_NoThing := exm_self exC_NoThing ic_NoThing tyC_NoThing su_NoThing,
    xf_NoThing := ⟨ga_NoThing, gg_NoThing, exC_NoThing, hd_NoThing⟩,
    no_NoThing_thing := no_NoThing_thing,
    g_BadGraph := PySem.W.mg_of X G aC_BadGraph,
    er_BadGraph := er_BadGraph,
    te_BadGraph := exm_self exC_BadGraph ic_BadGraph tyC_BadGraph su_BadGraph,
    xf_BadGraph := ⟨ga_BadGraph, gg_BadGraph, exC_BadGraph, hd_BadGraph⟩,
    no_BadGraph_at := no_BadGraph_at,
    g_TooMany := PySem.W.mg_of X G aC_TooMany,
    er_TooMany := er_TooMany,
    te_TooMany := exm_self exC_TooMany ic_TooMany tyC_TooMany su_TooMany,
    xf_TooMany := ⟨ga_TooMany, gg_TooMany, exC_TooMany, hd_TooMany⟩,
    no_TooMany_what := no_TooMany_what,
    g_BadGuard := PySem.W.mg_of X G aC_BadGuard,
    er_BadGuard := er_BadGuard,
    te_BadGuard := exm_self exC_BadGuard ic_BadGuard tyC_BadGuard su_BadGuard,
    xf_BadGuard := ⟨ga_BadGuard, gg_BadGuard, exC_BadGuard, hd_BadGuard⟩,
    no_BadGuard_part := no_BadGuard_part,
    g_NoFlag := PySem.W.mg_of X G aC_NoFlag,
    er_NoFlag := er_NoFlag,
    te_NoFlag := exm_self exC_NoFlag ic_NoFlag tyC_NoFlag su_NoFlag,
    xf_NoFlag := ⟨ga_NoFlag, gg_NoFlag, exC_NoFlag, hd_NoFlag⟩,
    no_NoFlag_flag := no_NoFlag_flag,
    g_BadWalker := PySem.W.mg_of X G aC_BadWalker,
    er_BadWalker := er_BadWalker,
    te_BadWalker := exm_self exC_BadWalker ic_BadWalker tyC_BadWalker su_BadWalker,
    xf_BadWalker := ⟨ga_BadWalker, gg_BadWalker, exC_BadWalker, hd_BadWalker⟩,
    no_BadWalker_part := no_BadWalker_part,
    g_BadChange := PySem.W.mg_of X G aC_BadChange,
    er_BadChange := er_BadChange,
    te_BadChange := exm_self exC_BadChange ic_BadChange tyC_BadChange su_BadChange,
    xf_BadChange := ⟨ga_BadChange, gg_BadChange, exC_BadChange, hd_BadChange⟩,
    no_BadChange_at := no_BadChange_at,
    g_WrongSchema := PySem.W.mg_of X G aC_WrongSchema,
    er_WrongSchema := er_WrongSchema,
    te_WrongSchema := exm_self exC_WrongSchema ic_WrongSchema tyC_WrongSchema su_WrongSchema,
    xf_WrongSchema := ⟨ga_WrongSchema, gg_WrongSchema, exC_WrongSchema, hd_WrongSchema⟩,
    g_WrongStart := PySem.W.mg_of X G aC_WrongStart,
    er_WrongStart := er_WrongStart,
    te_WrongStart := exm_self exC_WrongStart ic_WrongStart tyC_WrongStart su_WrongStart,
    xf_WrongStart := ⟨ga_WrongStart, gg_WrongStart, exC_WrongStart, hd_WrongStart⟩,
    g_BadStart := PySem.W.mg_of X G aC_BadStart,
    er_BadStart := er_BadStart,
    te_BadStart := exm_self exC_BadStart ic_BadStart tyC_BadStart su_BadStart,
    xf_BadStart := ⟨ga_BadStart, gg_BadStart, exC_BadStart, hd_BadStart⟩,
    no_BadStart_thing := no_BadStart_thing,
    g_TooLong := PySem.W.mg_of X G aC_TooLong,
    er_TooLong := er_TooLong,
    te_TooLong := exm_self exC_TooLong ic_TooLong tyC_TooLong su_TooLong,
    xf_TooLong := ⟨ga_TooLong, gg_TooLong, exC_TooLong, hd_TooLong⟩,
    no_TooLong_most := no_TooLong_most,
    g_NotPossible := PySem.W.mg_of X G aC_NotPossible,
    er_NotPossible := er_NotPossible,
    te_NotPossible := exm_self exC_NotPossible ic_NotPossible tyC_NotPossible su_NotPossible,
    xf_NotPossible := ⟨ga_NotPossible, gg_NotPossible, exC_NotPossible, hd_NotPossible⟩,
    no_NotPossible_kind := no_NotPossible_kind,
    no_NotPossible_word := no_NotPossible_word,
    g_NoQuestion := PySem.W.mg_of X G aC_NoQuestion,
    er_NoQuestion := er_NoQuestion,
    te_NoQuestion := exm_self exC_NoQuestion ic_NoQuestion tyC_NoQuestion su_NoQuestion,
    xf_NoQuestion := ⟨ga_NoQuestion, gg_NoQuestion, exC_NoQuestion, hd_NoQuestion⟩,
    no_NoQuestion_question := no_NoQuestion_question,
    g_BadWish := PySem.W.mg_of X G aC_BadWish,
    er_BadWish := er_BadWish,
    te_BadWish := exm_self exC_BadWish ic_BadWish tyC_BadWish su_BadWish,
    xf_BadWish := ⟨ga_BadWish, gg_BadWish, exC_BadWish, hd_BadWish⟩,
    no_BadWish_at := no_BadWish_at,
    g_NoFamily := PySem.W.mg_of X G aC_NoFamily,
    er_NoFamily := er_NoFamily,
    te_NoFamily := exm_self exC_NoFamily ic_NoFamily tyC_NoFamily su_NoFamily,
    xf_NoFamily := ⟨ga_NoFamily, gg_NoFamily, exC_NoFamily, hd_NoFamily⟩,
    no_NoFamily_word := no_NoFamily_word,
    g_Refused := PySem.W.mg_of X G aC_Refused,
    er_Refused := er_Refused,
    te_Refused := exm_self exC_Refused ic_Refused tyC_Refused su_Refused,
    xf_Refused := ⟨ga_Refused, gg_Refused, exC_Refused, hd_Refused⟩,
    no_Refused_ring := no_Refused_ring,
    g_Endless := PySem.W.mg_of X G aC_Endless,
    er_Endless := er_Endless,
    te_Endless := exm_self exC_Endless ic_Endless tyC_Endless su_Endless,
    xf_Endless := ⟨ga_Endless, gg_Endless, exC_Endless, hd_Endless⟩,
    no_Endless_ring := no_Endless_ring,
    g_l_pen := PySem.W.mg_of X G a_l_pen,
    F_l_pen := F_l_pen,
    b_l_pen := F_l_pen.binds (ps := ["_law_script"]) fun _ _ _ _ _ _ us hl => match us, hl with | [_], _ => rfl,
    g_l_take := PySem.W.mg_of X G a_l_take,
    F_l_take := F_l_take,
    b_l_take := F_l_take.binds (ps := ["_law_pen_here", "_law_bound"]) fun _ _ _ _ _ _ us hl => match us, hl with | [_, _], _ => rfl,
    g_l_plain := PySem.W.mg_of X G a_l_plain,
    F_l_plain := F_l_plain,
    b_l_plain := F_l_plain.binds (ps := ["_law_pen_here"]) fun _ _ _ _ _ _ us hl => match us, hl with | [_], _ => rfl,
    g_l_same := PySem.W.mg_of X G a_l_same,
    F_l_same := F_l_same,
    b_l_same := F_l_same.binds (ps := ["_law_one", "_law_other"]) fun _ _ _ _ _ _ us hl => match us, hl with | [_, _], _ => rfl,
    g_l_matches := PySem.W.mg_of X G a_l_matches,
    F_l_matches := F_l_matches,
    b_l_matches := F_l_matches.binds (ps := ["_law_error"]) fun _ _ _ _ _ _ us hl => match us, hl with | [_], _ => rfl,
    g_l_first_errors := PySem.W.mg_of X G a_l_first_errors,
    F_l_first_errors := F_l_first_errors,
    b_l_first_errors := F_l_first_errors.binds (ps := ["_law_value", "_law_other"]) fun _ _ _ _ _ _ us hl => match us, hl with | [_, _], _ => rfl,
    g_l_second_errors := PySem.W.mg_of X G a_l_second_errors,
    F_l_second_errors := F_l_second_errors,
    b_l_second_errors := F_l_second_errors.binds (ps := ["_law_value", "_law_other"]) fun _ _ _ _ _ _ us hl => match us, hl with | [_, _], _ => rfl,
    g_l_stops := PySem.W.mg_of X G a_l_stops,
    F_l_stops := F_l_stops,
    b_l_stops := F_l_stops.binds (ps := ["_law_value"]) fun _ _ _ _ _ _ us hl => match us, hl with | [_], _ => rfl,
    g_l_caught := PySem.W.mg_of X G a_l_caught,
    F_l_caught := F_l_caught,
    b_l_caught := F_l_caught.binds (ps := ["_law_value", "_law_other"]) fun _ _ _ _ _ _ us hl => match us, hl with | [_, _], _ => rfl,
    F_law := F_law,
    ec_BadSchema := ⟨ga_BadSchema, gg_BadSchema, exC_BadSchema, hd_BadSchema, ha_BadSchema, hn_obj, ht_obj, hm_BadSchema⟩,
    ec_BadText := ⟨ga_BadText, gg_BadText, exC_BadText, hd_BadText, ha_BadText, hn_obj, ht_obj, hm_BadText⟩,
    ec_NoKind := ⟨ga_NoKind, gg_NoKind, exC_NoKind, hd_NoKind, ha_NoKind, hn_obj, ht_obj, hm_NoKind⟩,
    ec_NoField := ⟨ga_NoField, gg_NoField, exC_NoField, hd_NoField, ha_NoField, hn_obj, ht_obj, hm_NoField⟩,
    ec_BadTag := ⟨ga_BadTag, gg_BadTag, exC_BadTag, hd_BadTag, ha_BadTag, hn_obj, ht_obj, hm_BadTag⟩,
    ec_BadValue := ⟨ga_BadValue, gg_BadValue, exC_BadValue, hd_BadValue, ha_BadValue, hn_obj, ht_obj, hm_BadValue⟩,
    ec_NoThing := ⟨ga_NoThing, gg_NoThing, exC_NoThing, hd_NoThing, ha_NoThing, hn_obj, ht_obj, hm_NoThing⟩,
    ec_BadGraph := ⟨ga_BadGraph, gg_BadGraph, exC_BadGraph, hd_BadGraph, ha_BadGraph, hn_obj, ht_obj, hm_BadGraph⟩,
    ec_TooMany := ⟨ga_TooMany, gg_TooMany, exC_TooMany, hd_TooMany, ha_TooMany, hn_obj, ht_obj, hm_TooMany⟩,
    ec_BadGuard := ⟨ga_BadGuard, gg_BadGuard, exC_BadGuard, hd_BadGuard, ha_BadGuard, hn_obj, ht_obj, hm_BadGuard⟩,
    ec_NoFlag := ⟨ga_NoFlag, gg_NoFlag, exC_NoFlag, hd_NoFlag, ha_NoFlag, hn_obj, ht_obj, hm_NoFlag⟩,
    ec_BadWalker := ⟨ga_BadWalker, gg_BadWalker, exC_BadWalker, hd_BadWalker, ha_BadWalker, hn_obj, ht_obj, hm_BadWalker⟩,
    ec_BadChange := ⟨ga_BadChange, gg_BadChange, exC_BadChange, hd_BadChange, ha_BadChange, hn_obj, ht_obj, hm_BadChange⟩,
    ec_WrongSchema := ⟨ga_WrongSchema, gg_WrongSchema, exC_WrongSchema, hd_WrongSchema, ha_WrongSchema, hn_obj, ht_obj, hm_WrongSchema⟩,
    ec_WrongStart := ⟨ga_WrongStart, gg_WrongStart, exC_WrongStart, hd_WrongStart, ha_WrongStart, hn_obj, ht_obj, hm_WrongStart⟩,
    ec_BadStart := ⟨ga_BadStart, gg_BadStart, exC_BadStart, hd_BadStart, ha_BadStart, hn_obj, ht_obj, hm_BadStart⟩,
    ec_TooLong := ⟨ga_TooLong, gg_TooLong, exC_TooLong, hd_TooLong, ha_TooLong, hn_obj, ht_obj, hm_TooLong⟩,
    ec_NotPossible := ⟨ga_NotPossible, gg_NotPossible, exC_NotPossible, hd_NotPossible, ha_NotPossible, hn_obj, ht_obj, hm_NotPossible⟩,
    ec_NoQuestion := ⟨ga_NoQuestion, gg_NoQuestion, exC_NoQuestion, hd_NoQuestion, ha_NoQuestion, hn_obj, ht_obj, hm_NoQuestion⟩,
    ec_BadWish := ⟨ga_BadWish, gg_BadWish, exC_BadWish, hd_BadWish, ha_BadWish, hn_obj, ht_obj, hm_BadWish⟩,
    ec_NoFamily := ⟨ga_NoFamily, gg_NoFamily, exC_NoFamily, hd_NoFamily, ha_NoFamily, hn_obj, ht_obj, hm_NoFamily⟩,
    ec_Refused := ⟨ga_Refused, gg_Refused, exC_Refused, hd_Refused, ha_Refused, hn_obj, ht_obj, hm_Refused⟩,
    ec_Endless := ⟨ga_Endless, gg_Endless, exC_Endless, hd_Endless, ha_Endless, hn_obj, ht_obj, hm_Endless⟩,
    g_WalkmarksError := PySem.W.mg_of X G aC_WalkmarksError,
    g_Stopped := PySem.W.mg_of X G aC_Stopped,
    te_wish := PySem.W.exm_ref sb_WalkmarksError sd_WalkmarksError st_WalkmarksError su_wish,
    te_stop := PySem.W.exm_ref sb_Stopped sd_Stopped st_Stopped su_stop,
    kM := kM0,
    kB := kB0 }
  exact ⟨PySem.W.fnOf "law" "law" (defArgs s_law) (defBody s_law) (defScope s_law) .none kV_law dc_law pm_law an_law cd_law ct_law, fun s v => .of_eq rfl, fun base _ _ => ok_law T⟩
theorem walk {l : PySem.W.OpenLaw} {q : Program} {loose : List Str} {XP : (Str → Option Value) → Heap → Prop} {YP : World → Heap → Prop} {d : DefRec} {K : Params → PySem.W.Frag} (hn : l.most = some 63) (hdf : d.params.defaults = [])
    (hY : ∀ (w : World) (h : Heap), YP w h → (K w.params).In h)
    (F : ∀ (w : World) (mg : Str → Option Value) (fa : Addr) (h : Heap), (K w.params).In h → h.Ns mainGlobals mg → mg d.name = some (.ref fa) →
      ∃ fd : FuncData, (∀ (s : Shared) (u : Value), BindsTo s fd ⟨[u], []⟩ [("_law_script", u)]) ∧ ∀ base : Heap, (K w.params).In base → base.Ns mainGlobals mg → FnOk l.prog w (K w.params) mg base (L2.CX l.prog w) 5 fa fd ["_law_script"] (spLaw (K w.params))) :
    PySem.W.WalkO q loose XP YP l.row.toRowW d [] (fun f vs => PySem.call f vs) :=
  L2.walk_of (n := 63) (k := 5) (x := "_law_script") (CX := fun w => L2.CX l.prog w) (sp := fun w => spLaw (K w.params)) hn (by decide) hdf ⟨rfl, by decide, by decide⟩ hY F (fun _ _ a ns hl _ hS => ⟨a, ns, rfl, hS, fun _ => rfl⟩) fun _ _ _ _ _ z => cx_none z
end Wm

open PySem PySem.W PyProof.Rows in
set_option maxRecDepth 100000 in
set_option maxHeartbeats 0 in
theorem PySem.Challenge.cw_walkmarks_k01_errors_holds : PySem.Challenge.rw_walkmarks_k01_errors.Holds := by
  w_on; o_law; k_head; (case hw => w_witness2)
  k_fill
  refine Wm.walk (l := PySem.Challenge.rw_walkmarks_k01_errors) rfl rfl (fun w h Y => PySem.W.kIn_of Y) ?F
  case F =>
    intro w mg fa h KX G hmg
    refine' Wm.all_mk KX G hmg ?z_len ?z_int ?z_list ?z_range ?z_isinstance ?z_str ?z_tuple ?z_bool ?z_ValueError ?z_RuntimeError ?aC_BadSchema ?init_BadSchema ?ty_BadSchema ?lk_BadSchema ?hc_BadSchema ?code_BadSchema ?hv_BadSchema ?hf_BadSchema ?cell_BadSchema ?ic_BadSchema ?sub_BadSchema ?z_super ?z_tp ?z_top ?sup_BadSchema ?base_BadSchema ?exc_BadSchema ?sa_BadSchema ?ov_BadSchema ?hd_BadSchema ?no_BadSchema_at ?exC_BadSchema ?tyC_BadSchema ?kC_BadSchema ?su_BadSchema ?ga_BadSchema ?gg_BadSchema ?aC_BadText ?init_BadText ?ty_BadText ?lk_BadText ?hc_BadText ?code_BadText ?hv_BadText ?hf_BadText ?cell_BadText ?ic_BadText ?sub_BadText ?sup_BadText ?base_BadText ?exc_BadText ?sa_BadText ?ov_BadText ?hd_BadText ?no_BadText_line ?exC_BadText ?tyC_BadText ?kC_BadText ?su_BadText ?ga_BadText ?gg_BadText ?aC_NoKind ?init_NoKind ?ty_NoKind ?lk_NoKind ?hc_NoKind ?code_NoKind ?hv_NoKind ?hf_NoKind ?cell_NoKind ?ic_NoKind ?sub_NoKind ?sup_NoKind ?base_NoKind ?exc_NoKind ?sa_NoKind ?ov_NoKind ?hd_NoKind ?no_NoKind_kind ?exC_NoKind ?tyC_NoKind ?kC_NoKind ?su_NoKind ?ga_NoKind ?gg_NoKind ?aC_NoField ?init_NoField ?ty_NoField ?lk_NoField ?hc_NoField ?code_NoField ?hv_NoField ?hf_NoField ?cell_NoField ?ic_NoField ?sub_NoField ?sup_NoField ?base_NoField ?exc_NoField ?sa_NoField ?ov_NoField ?hd_NoField ?no_NoField_kind ?no_NoField_field ?exC_NoField ?tyC_NoField ?kC_NoField ?su_NoField ?ga_NoField ?gg_NoField ?aC_BadTag ?init_BadTag ?ty_BadTag ?lk_BadTag ?hc_BadTag ?code_BadTag ?hv_BadTag ?hf_BadTag ?cell_BadTag ?ic_BadTag ?sub_BadTag ?sup_BadTag ?base_BadTag ?exc_BadTag ?sa_BadTag ?ov_BadTag ?hd_BadTag ?no_BadTag_tag ?exC_BadTag ?tyC_BadTag ?kC_BadTag ?su_BadTag ?ga_BadTag ?gg_BadTag ?aC_BadValue ?init_BadValue ?ty_BadValue ?lk_BadValue ?hc_BadValue ?code_BadValue ?hv_BadValue ?hf_BadValue ?cell_BadValue ?ic_BadValue ?sub_BadValue ?sup_BadValue ?base_BadValue ?exc_BadValue ?sa_BadValue ?ov_BadValue ?hd_BadValue ?no_BadValue_field ?exC_BadValue ?tyC_BadValue ?kC_BadValue ?su_BadValue ?ga_BadValue ?gg_BadValue ?aC_NoThing ?init_NoThing ?ty_NoThing ?lk_NoThing ?hc_NoThing ?code_NoThing ?hv_NoThing ?hf_NoThing ?cell_NoThing ?ic_NoThing ?sub_NoThing ?sup_NoThing ?base_NoThing ?exc_NoThing ?sa_NoThing ?ov_NoThing ?hd_NoThing ?no_NoThing_thing ?exC_NoThing ?tyC_NoThing ?kC_NoThing ?su_NoThing ?ga_NoThing ?gg_NoThing ?aC_BadGraph ?init_BadGraph ?ty_BadGraph ?lk_BadGraph ?hc_BadGraph ?code_BadGraph ?hv_BadGraph ?hf_BadGraph ?cell_BadGraph ?ic_BadGraph ?sub_BadGraph ?sup_BadGraph ?base_BadGraph ?exc_BadGraph ?sa_BadGraph ?ov_BadGraph ?hd_BadGraph ?no_BadGraph_at ?exC_BadGraph ?tyC_BadGraph ?kC_BadGraph ?su_BadGraph ?ga_BadGraph ?gg_BadGraph ?aC_TooMany ?init_TooMany ?ty_TooMany ?lk_TooMany ?hc_TooMany ?code_TooMany ?hv_TooMany ?hf_TooMany ?cell_TooMany ?ic_TooMany ?sub_TooMany ?sup_TooMany ?base_TooMany ?exc_TooMany ?sa_TooMany ?ov_TooMany ?hd_TooMany ?no_TooMany_what ?exC_TooMany ?tyC_TooMany ?kC_TooMany ?su_TooMany ?ga_TooMany ?gg_TooMany ?aC_BadGuard ?init_BadGuard ?ty_BadGuard ?lk_BadGuard ?hc_BadGuard ?code_BadGuard ?hv_BadGuard ?hf_BadGuard ?cell_BadGuard ?ic_BadGuard ?sub_BadGuard ?sup_BadGuard ?base_BadGuard ?exc_BadGuard ?sa_BadGuard ?ov_BadGuard ?hd_BadGuard ?no_BadGuard_part ?exC_BadGuard ?tyC_BadGuard ?kC_BadGuard ?su_BadGuard ?ga_BadGuard ?gg_BadGuard ?aC_NoFlag ?init_NoFlag ?ty_NoFlag ?lk_NoFlag ?hc_NoFlag ?code_NoFlag ?hv_NoFlag ?hf_NoFlag ?cell_NoFlag ?ic_NoFlag ?sub_NoFlag ?sup_NoFlag ?base_NoFlag ?exc_NoFlag ?sa_NoFlag ?ov_NoFlag ?hd_NoFlag ?no_NoFlag_flag ?exC_NoFlag ?tyC_NoFlag ?kC_NoFlag ?su_NoFlag ?ga_NoFlag ?gg_NoFlag ?aC_BadWalker ?init_BadWalker ?ty_BadWalker ?lk_BadWalker ?hc_BadWalker ?code_BadWalker ?hv_BadWalker ?hf_BadWalker ?cell_BadWalker ?ic_BadWalker ?sub_BadWalker ?sup_BadWalker ?base_BadWalker ?exc_BadWalker ?sa_BadWalker ?ov_BadWalker ?hd_BadWalker ?no_BadWalker_part ?exC_BadWalker ?tyC_BadWalker ?kC_BadWalker ?su_BadWalker ?ga_BadWalker ?gg_BadWalker ?aC_BadChange ?init_BadChange ?ty_BadChange ?lk_BadChange ?hc_BadChange ?code_BadChange ?hv_BadChange ?hf_BadChange ?cell_BadChange ?ic_BadChange ?sub_BadChange ?sup_BadChange ?base_BadChange ?exc_BadChange ?sa_BadChange ?ov_BadChange ?hd_BadChange ?no_BadChange_at ?exC_BadChange ?tyC_BadChange ?kC_BadChange ?su_BadChange ?ga_BadChange ?gg_BadChange ?aC_WrongSchema ?init_WrongSchema ?ty_WrongSchema ?lk_WrongSchema ?hc_WrongSchema ?code_WrongSchema ?hv_WrongSchema ?hf_WrongSchema ?cell_WrongSchema ?ic_WrongSchema ?sub_WrongSchema ?sup_WrongSchema ?base_WrongSchema ?exc_WrongSchema ?sa_WrongSchema ?ov_WrongSchema ?hd_WrongSchema ?exC_WrongSchema ?tyC_WrongSchema ?kC_WrongSchema ?su_WrongSchema ?ga_WrongSchema ?gg_WrongSchema ?aC_WrongStart ?init_WrongStart ?ty_WrongStart ?lk_WrongStart ?hc_WrongStart ?code_WrongStart ?hv_WrongStart ?hf_WrongStart ?cell_WrongStart ?ic_WrongStart ?sub_WrongStart ?sup_WrongStart ?base_WrongStart ?exc_WrongStart ?sa_WrongStart ?ov_WrongStart ?hd_WrongStart ?exC_WrongStart ?tyC_WrongStart ?kC_WrongStart ?su_WrongStart ?ga_WrongStart ?gg_WrongStart ?aC_BadStart ?init_BadStart ?ty_BadStart ?lk_BadStart ?hc_BadStart ?code_BadStart ?hv_BadStart ?hf_BadStart ?cell_BadStart ?ic_BadStart ?sub_BadStart ?sup_BadStart ?base_BadStart ?exc_BadStart ?sa_BadStart ?ov_BadStart ?hd_BadStart ?no_BadStart_thing ?exC_BadStart ?tyC_BadStart ?kC_BadStart ?su_BadStart ?ga_BadStart ?gg_BadStart ?aC_TooLong ?init_TooLong ?ty_TooLong ?lk_TooLong ?hc_TooLong ?code_TooLong ?hv_TooLong ?hf_TooLong ?cell_TooLong ?ic_TooLong ?sub_TooLong ?sup_TooLong ?base_TooLong ?exc_TooLong ?sa_TooLong ?ov_TooLong ?hd_TooLong ?no_TooLong_most ?exC_TooLong ?tyC_TooLong ?kC_TooLong ?su_TooLong ?ga_TooLong ?gg_TooLong ?aC_NotPossible ?init_NotPossible ?ty_NotPossible ?lk_NotPossible ?hc_NotPossible ?code_NotPossible ?hv_NotPossible ?hf_NotPossible ?cell_NotPossible ?ic_NotPossible ?sub_NotPossible ?sup_NotPossible ?base_NotPossible ?exc_NotPossible ?sa_NotPossible ?ov_NotPossible ?hd_NotPossible ?no_NotPossible_kind ?no_NotPossible_word ?exC_NotPossible ?tyC_NotPossible ?kC_NotPossible ?su_NotPossible ?ga_NotPossible ?gg_NotPossible ?aC_NoQuestion ?init_NoQuestion ?ty_NoQuestion ?lk_NoQuestion ?hc_NoQuestion ?code_NoQuestion ?hv_NoQuestion ?hf_NoQuestion ?cell_NoQuestion ?ic_NoQuestion ?sub_NoQuestion ?sup_NoQuestion ?base_NoQuestion ?exc_NoQuestion ?sa_NoQuestion ?ov_NoQuestion ?hd_NoQuestion ?no_NoQuestion_question ?exC_NoQuestion ?tyC_NoQuestion ?kC_NoQuestion ?su_NoQuestion ?ga_NoQuestion ?gg_NoQuestion ?aC_BadWish ?init_BadWish ?ty_BadWish ?lk_BadWish ?hc_BadWish ?code_BadWish ?hv_BadWish ?hf_BadWish ?cell_BadWish ?ic_BadWish ?sub_BadWish ?sup_BadWish ?base_BadWish ?exc_BadWish ?sa_BadWish ?ov_BadWish ?hd_BadWish ?no_BadWish_at ?exC_BadWish ?tyC_BadWish ?kC_BadWish ?su_BadWish ?ga_BadWish ?gg_BadWish ?aC_NoFamily ?init_NoFamily ?ty_NoFamily ?lk_NoFamily ?hc_NoFamily ?code_NoFamily ?hv_NoFamily ?hf_NoFamily ?cell_NoFamily ?ic_NoFamily ?sub_NoFamily ?sup_NoFamily ?base_NoFamily ?exc_NoFamily ?sa_NoFamily ?ov_NoFamily ?hd_NoFamily ?no_NoFamily_word ?exC_NoFamily ?tyC_NoFamily ?kC_NoFamily ?su_NoFamily ?ga_NoFamily ?gg_NoFamily ?aC_Refused ?init_Refused ?ty_Refused ?lk_Refused ?hc_Refused ?code_Refused ?hv_Refused ?hf_Refused ?cell_Refused ?ic_Refused ?sub_Refused ?sup_Refused ?base_Refused ?exc_Refused ?sa_Refused ?ov_Refused ?hd_Refused ?no_Refused_ring ?exC_Refused ?tyC_Refused ?kC_Refused ?su_Refused ?ga_Refused ?gg_Refused ?aC_Endless ?init_Endless ?ty_Endless ?lk_Endless ?hc_Endless ?code_Endless ?hv_Endless ?hf_Endless ?cell_Endless ?ic_Endless ?sub_Endless ?sup_Endless ?base_Endless ?exc_Endless ?sa_Endless ?ov_Endless ?hd_Endless ?no_Endless_ring ?exC_Endless ?tyC_Endless ?kC_Endless ?su_Endless ?ga_Endless ?gg_Endless ?a_l_pen ?l_l_pen ?c_l_pen ?k_l_pen ?a_l_take ?l_l_take ?c_l_take ?k_l_take ?a_l_plain ?l_l_plain ?c_l_plain ?k_l_plain ?a_l_same ?l_l_same ?c_l_same ?k_l_same ?a_l_matches ?l_l_matches ?c_l_matches ?k_l_matches ?a_l_first_errors ?l_l_first_errors ?c_l_first_errors ?k_l_first_errors ?a_l_second_errors ?l_l_second_errors ?c_l_second_errors ?k_l_second_errors ?a_l_stops ?l_l_stops ?c_l_stops ?k_l_stops ?a_l_caught ?l_l_caught ?c_l_caught ?k_l_caught ?a_law ?l_law ?c_law ?k_law ?ha_BadSchema ?hm_BadSchema ?ha_BadText ?hm_BadText ?ha_NoKind ?hm_NoKind ?ha_NoField ?hm_NoField ?ha_BadTag ?hm_BadTag ?ha_BadValue ?hm_BadValue ?ha_NoThing ?hm_NoThing ?ha_BadGraph ?hm_BadGraph ?ha_TooMany ?hm_TooMany ?ha_BadGuard ?hm_BadGuard ?ha_NoFlag ?hm_NoFlag ?ha_BadWalker ?hm_BadWalker ?ha_BadChange ?hm_BadChange ?ha_WrongSchema ?hm_WrongSchema ?ha_WrongStart ?hm_WrongStart ?ha_BadStart ?hm_BadStart ?ha_TooLong ?hm_TooLong ?ha_NotPossible ?hm_NotPossible ?ha_NoQuestion ?hm_NoQuestion ?ha_BadWish ?hm_BadWish ?ha_NoFamily ?hm_NoFamily ?ha_Refused ?hm_Refused ?ha_Endless ?hm_Endless ?hn_obj ?ht_obj ?aC_WalkmarksError ?sb_WalkmarksError ?sd_WalkmarksError ?st_WalkmarksError ?aC_Stopped ?sb_Stopped ?sd_Stopped ?st_Stopped ?su_wish ?su_stop ?kM0 ?kB0
    (case z_len => walk_at "w_leaf")
    (case z_int => walk_at "w_leaf")
    (case z_list => walk_at "w_leaf")
    (case z_range => walk_at "w_leaf")
    (case z_isinstance => walk_at "w_leaf")
    (case z_str => walk_at "w_leaf")
    (case z_tuple => walk_at "w_leaf")
    (case z_bool => walk_at "w_leaf")
    (case z_ValueError => walk_at "w_leaf")
    (case z_RuntimeError => walk_at "w_leaf")
    (case aC_BadSchema => walk_at "w_leaf")
    (case init_BadSchema => walk_at "w_leaf")
    (case ty_BadSchema => walk_at "w_leaf")
    (case lk_BadSchema => walk_at "w_leaf")
    (case hc_BadSchema => walk_at "w_leaf")
    (case code_BadSchema => walk_at "w_leaf")
    (case hv_BadSchema => walk_at "w_leaf")
    (case hf_BadSchema => walk_at "w_leaf")
    (case cell_BadSchema => walk_at "w_leaf")
    (case ic_BadSchema => walk_at "w_leaf")
    (case sub_BadSchema => walk_at "w_leaf")
    (case z_super => walk_at "w_leaf")
    (case z_tp => walk_at "w_leaf")
    (case z_top => walk_at "w_leaf")
    (case sup_BadSchema => walk_at "w_leaf")
    (case base_BadSchema => walk_at "w_leaf")
    (case exc_BadSchema => walk_at "w_leaf")
    (case sa_BadSchema => walk_at "w_leaf")
    (case ov_BadSchema => walk_at "w_leaf")
    (case hd_BadSchema => walk_at "w_leaf")
    (case no_BadSchema_at => walk_at "w_leaf")
    (case exC_BadSchema => walk_at "w_leaf")
    (case tyC_BadSchema => walk_at "w_leaf")
    (case kC_BadSchema => walk_at "w_leaf")
    (case su_BadSchema => walk_at "w_leaf")
    (case ga_BadSchema => walk_at "w_leaf")
    (case gg_BadSchema => walk_at "w_leaf")
    (case aC_BadText => walk_at "w_leaf")
    (case init_BadText => walk_at "w_leaf")
    (case ty_BadText => walk_at "w_leaf")
    (case lk_BadText => walk_at "w_leaf")
    (case hc_BadText => walk_at "w_leaf")
    (case code_BadText => walk_at "w_leaf")
    (case hv_BadText => walk_at "w_leaf")
    (case hf_BadText => walk_at "w_leaf")
    (case cell_BadText => walk_at "w_leaf")
    (case ic_BadText => walk_at "w_leaf")
    (case sub_BadText => walk_at "w_leaf")
    (case sup_BadText => walk_at "w_leaf")
    (case base_BadText => walk_at "w_leaf")
    (case exc_BadText => walk_at "w_leaf")
    (case sa_BadText => walk_at "w_leaf")
    (case ov_BadText => walk_at "w_leaf")
    (case hd_BadText => walk_at "w_leaf")
    (case no_BadText_line => walk_at "w_leaf")
    (case exC_BadText => walk_at "w_leaf")
    (case tyC_BadText => walk_at "w_leaf")
    (case kC_BadText => walk_at "w_leaf")
    (case su_BadText => walk_at "w_leaf")
    (case ga_BadText => walk_at "w_leaf")
    (case gg_BadText => walk_at "w_leaf")
    (case aC_NoKind => walk_at "w_leaf")
    (case init_NoKind => walk_at "w_leaf")
    (case ty_NoKind => walk_at "w_leaf")
    (case lk_NoKind => walk_at "w_leaf")
    (case hc_NoKind => walk_at "w_leaf")
    (case code_NoKind => walk_at "w_leaf")
    (case hv_NoKind => walk_at "w_leaf")
    (case hf_NoKind => walk_at "w_leaf")
    (case cell_NoKind => walk_at "w_leaf")
    (case ic_NoKind => walk_at "w_leaf")
    (case sub_NoKind => walk_at "w_leaf")
    (case sup_NoKind => walk_at "w_leaf")
    (case base_NoKind => walk_at "w_leaf")
    (case exc_NoKind => walk_at "w_leaf")
    (case sa_NoKind => walk_at "w_leaf")
    (case ov_NoKind => walk_at "w_leaf")
    (case hd_NoKind => walk_at "w_leaf")
    (case no_NoKind_kind => walk_at "w_leaf")
    (case exC_NoKind => walk_at "w_leaf")
    (case tyC_NoKind => walk_at "w_leaf")
    (case kC_NoKind => walk_at "w_leaf")
    (case su_NoKind => walk_at "w_leaf")
    (case ga_NoKind => walk_at "w_leaf")
    (case gg_NoKind => walk_at "w_leaf")
    (case aC_NoField => walk_at "w_leaf")
    (case init_NoField => walk_at "w_leaf")
    (case ty_NoField => walk_at "w_leaf")
    (case lk_NoField => walk_at "w_leaf")
    (case hc_NoField => walk_at "w_leaf")
    (case code_NoField => walk_at "w_leaf")
    (case hv_NoField => walk_at "w_leaf")
    (case hf_NoField => walk_at "w_leaf")
    (case cell_NoField => walk_at "w_leaf")
    (case ic_NoField => walk_at "w_leaf")
    (case sub_NoField => walk_at "w_leaf")
    (case sup_NoField => walk_at "w_leaf")
    (case base_NoField => walk_at "w_leaf")
    (case exc_NoField => walk_at "w_leaf")
    (case sa_NoField => walk_at "w_leaf")
    (case ov_NoField => walk_at "w_leaf")
    (case hd_NoField => walk_at "w_leaf")
    (case no_NoField_kind => walk_at "w_leaf")
    (case no_NoField_field => walk_at "w_leaf")
    (case exC_NoField => walk_at "w_leaf")
    (case tyC_NoField => walk_at "w_leaf")
    (case kC_NoField => walk_at "w_leaf")
    (case su_NoField => walk_at "w_leaf")
    (case ga_NoField => walk_at "w_leaf")
    (case gg_NoField => walk_at "w_leaf")
    (case aC_BadTag => walk_at "w_leaf")
    (case init_BadTag => walk_at "w_leaf")
    (case ty_BadTag => walk_at "w_leaf")
    (case lk_BadTag => walk_at "w_leaf")
    (case hc_BadTag => walk_at "w_leaf")
    (case code_BadTag => walk_at "w_leaf")
    (case hv_BadTag => walk_at "w_leaf")
    (case hf_BadTag => walk_at "w_leaf")
    (case cell_BadTag => walk_at "w_leaf")
    (case ic_BadTag => walk_at "w_leaf")
    (case sub_BadTag => walk_at "w_leaf")
    (case sup_BadTag => walk_at "w_leaf")
    (case base_BadTag => walk_at "w_leaf")
    (case exc_BadTag => walk_at "w_leaf")
    (case sa_BadTag => walk_at "w_leaf")
    (case ov_BadTag => walk_at "w_leaf")
    (case hd_BadTag => walk_at "w_leaf")
    (case no_BadTag_tag => walk_at "w_leaf")
    (case exC_BadTag => walk_at "w_leaf")
    (case tyC_BadTag => walk_at "w_leaf")
    (case kC_BadTag => walk_at "w_leaf")
    (case su_BadTag => walk_at "w_leaf")
    (case ga_BadTag => walk_at "w_leaf")
    (case gg_BadTag => walk_at "w_leaf")
    (case aC_BadValue => walk_at "w_leaf")
    (case init_BadValue => walk_at "w_leaf")
    (case ty_BadValue => walk_at "w_leaf")
    (case lk_BadValue => walk_at "w_leaf")
    (case hc_BadValue => walk_at "w_leaf")
    (case code_BadValue => walk_at "w_leaf")
    (case hv_BadValue => walk_at "w_leaf")
    (case hf_BadValue => walk_at "w_leaf")
    (case cell_BadValue => walk_at "w_leaf")
    (case ic_BadValue => walk_at "w_leaf")
    (case sub_BadValue => walk_at "w_leaf")
    (case sup_BadValue => walk_at "w_leaf")
    (case base_BadValue => walk_at "w_leaf")
    (case exc_BadValue => walk_at "w_leaf")
    (case sa_BadValue => walk_at "w_leaf")
    (case ov_BadValue => walk_at "w_leaf")
    (case hd_BadValue => walk_at "w_leaf")
    (case no_BadValue_field => walk_at "w_leaf")
    (case exC_BadValue => walk_at "w_leaf")
    (case tyC_BadValue => walk_at "w_leaf")
    (case kC_BadValue => walk_at "w_leaf")
    (case su_BadValue => walk_at "w_leaf")
    (case ga_BadValue => walk_at "w_leaf")
    (case gg_BadValue => walk_at "w_leaf")
    (case aC_NoThing => walk_at "w_leaf")
    (case init_NoThing => walk_at "w_leaf")
    (case ty_NoThing => walk_at "w_leaf")
    (case lk_NoThing => walk_at "w_leaf")
    (case hc_NoThing => walk_at "w_leaf")
    (case code_NoThing => walk_at "w_leaf")
    (case hv_NoThing => walk_at "w_leaf")
    (case hf_NoThing => walk_at "w_leaf")
    (case cell_NoThing => walk_at "w_leaf")
    (case ic_NoThing => walk_at "w_leaf")
    (case sub_NoThing => walk_at "w_leaf")
    (case sup_NoThing => walk_at "w_leaf")
    (case base_NoThing => walk_at "w_leaf")
    (case exc_NoThing => walk_at "w_leaf")
    (case sa_NoThing => walk_at "w_leaf")
    (case ov_NoThing => walk_at "w_leaf")
    (case hd_NoThing => walk_at "w_leaf")
    (case no_NoThing_thing => walk_at "w_leaf")
    (case exC_NoThing => walk_at "w_leaf")
    (case tyC_NoThing => walk_at "w_leaf")
    (case kC_NoThing => walk_at "w_leaf")
    (case su_NoThing => walk_at "w_leaf")
    (case ga_NoThing => walk_at "w_leaf")
    (case gg_NoThing => walk_at "w_leaf")
    (case aC_BadGraph => walk_at "w_leaf")
    (case init_BadGraph => walk_at "w_leaf")
    (case ty_BadGraph => walk_at "w_leaf")
    (case lk_BadGraph => walk_at "w_leaf")
    (case hc_BadGraph => walk_at "w_leaf")
    (case code_BadGraph => walk_at "w_leaf")
    (case hv_BadGraph => walk_at "w_leaf")
    (case hf_BadGraph => walk_at "w_leaf")
    (case cell_BadGraph => walk_at "w_leaf")
    (case ic_BadGraph => walk_at "w_leaf")
    (case sub_BadGraph => walk_at "w_leaf")
    (case sup_BadGraph => walk_at "w_leaf")
    (case base_BadGraph => walk_at "w_leaf")
    (case exc_BadGraph => walk_at "w_leaf")
    (case sa_BadGraph => walk_at "w_leaf")
    (case ov_BadGraph => walk_at "w_leaf")
    (case hd_BadGraph => walk_at "w_leaf")
    (case no_BadGraph_at => walk_at "w_leaf")
    (case exC_BadGraph => walk_at "w_leaf")
    (case tyC_BadGraph => walk_at "w_leaf")
    (case kC_BadGraph => walk_at "w_leaf")
    (case su_BadGraph => walk_at "w_leaf")
    (case ga_BadGraph => walk_at "w_leaf")
    (case gg_BadGraph => walk_at "w_leaf")
    (case aC_TooMany => walk_at "w_leaf")
    (case init_TooMany => walk_at "w_leaf")
    (case ty_TooMany => walk_at "w_leaf")
    (case lk_TooMany => walk_at "w_leaf")
    (case hc_TooMany => walk_at "w_leaf")
    (case code_TooMany => walk_at "w_leaf")
    (case hv_TooMany => walk_at "w_leaf")
    (case hf_TooMany => walk_at "w_leaf")
    (case cell_TooMany => walk_at "w_leaf")
    (case ic_TooMany => walk_at "w_leaf")
    (case sub_TooMany => walk_at "w_leaf")
    (case sup_TooMany => walk_at "w_leaf")
    (case base_TooMany => walk_at "w_leaf")
    (case exc_TooMany => walk_at "w_leaf")
    (case sa_TooMany => walk_at "w_leaf")
    (case ov_TooMany => walk_at "w_leaf")
    (case hd_TooMany => walk_at "w_leaf")
    (case no_TooMany_what => walk_at "w_leaf")
    (case exC_TooMany => walk_at "w_leaf")
    (case tyC_TooMany => walk_at "w_leaf")
    (case kC_TooMany => walk_at "w_leaf")
    (case su_TooMany => walk_at "w_leaf")
    (case ga_TooMany => walk_at "w_leaf")
    (case gg_TooMany => walk_at "w_leaf")
    (case aC_BadGuard => walk_at "w_leaf")
    (case init_BadGuard => walk_at "w_leaf")
    (case ty_BadGuard => walk_at "w_leaf")
    (case lk_BadGuard => walk_at "w_leaf")
    (case hc_BadGuard => walk_at "w_leaf")
    (case code_BadGuard => walk_at "w_leaf")
    (case hv_BadGuard => walk_at "w_leaf")
    (case hf_BadGuard => walk_at "w_leaf")
    (case cell_BadGuard => walk_at "w_leaf")
    (case ic_BadGuard => walk_at "w_leaf")
    (case sub_BadGuard => walk_at "w_leaf")
    (case sup_BadGuard => walk_at "w_leaf")
    (case base_BadGuard => walk_at "w_leaf")
    (case exc_BadGuard => walk_at "w_leaf")
    (case sa_BadGuard => walk_at "w_leaf")
    (case ov_BadGuard => walk_at "w_leaf")
    (case hd_BadGuard => walk_at "w_leaf")
    (case no_BadGuard_part => walk_at "w_leaf")
    (case exC_BadGuard => walk_at "w_leaf")
    (case tyC_BadGuard => walk_at "w_leaf")
    (case kC_BadGuard => walk_at "w_leaf")
    (case su_BadGuard => walk_at "w_leaf")
    (case ga_BadGuard => walk_at "w_leaf")
    (case gg_BadGuard => walk_at "w_leaf")
    (case aC_NoFlag => walk_at "w_leaf")
    (case init_NoFlag => walk_at "w_leaf")
    (case ty_NoFlag => walk_at "w_leaf")
    (case lk_NoFlag => walk_at "w_leaf")
    (case hc_NoFlag => walk_at "w_leaf")
    (case code_NoFlag => walk_at "w_leaf")
    (case hv_NoFlag => walk_at "w_leaf")
    (case hf_NoFlag => walk_at "w_leaf")
    (case cell_NoFlag => walk_at "w_leaf")
    (case ic_NoFlag => walk_at "w_leaf")
    (case sub_NoFlag => walk_at "w_leaf")
    (case sup_NoFlag => walk_at "w_leaf")
    (case base_NoFlag => walk_at "w_leaf")
    (case exc_NoFlag => walk_at "w_leaf")
    (case sa_NoFlag => walk_at "w_leaf")
    (case ov_NoFlag => walk_at "w_leaf")
    (case hd_NoFlag => walk_at "w_leaf")
    (case no_NoFlag_flag => walk_at "w_leaf")
    (case exC_NoFlag => walk_at "w_leaf")
    (case tyC_NoFlag => walk_at "w_leaf")
    (case kC_NoFlag => walk_at "w_leaf")
    (case su_NoFlag => walk_at "w_leaf")
    (case ga_NoFlag => walk_at "w_leaf")
    (case gg_NoFlag => walk_at "w_leaf")
    (case aC_BadWalker => walk_at "w_leaf")
    (case init_BadWalker => walk_at "w_leaf")
    (case ty_BadWalker => walk_at "w_leaf")
    (case lk_BadWalker => walk_at "w_leaf")
    (case hc_BadWalker => walk_at "w_leaf")
    (case code_BadWalker => walk_at "w_leaf")
    (case hv_BadWalker => walk_at "w_leaf")
    (case hf_BadWalker => walk_at "w_leaf")
    (case cell_BadWalker => walk_at "w_leaf")
    (case ic_BadWalker => walk_at "w_leaf")
    (case sub_BadWalker => walk_at "w_leaf")
    (case sup_BadWalker => walk_at "w_leaf")
    (case base_BadWalker => walk_at "w_leaf")
    (case exc_BadWalker => walk_at "w_leaf")
    (case sa_BadWalker => walk_at "w_leaf")
    (case ov_BadWalker => walk_at "w_leaf")
    (case hd_BadWalker => walk_at "w_leaf")
    (case no_BadWalker_part => walk_at "w_leaf")
    (case exC_BadWalker => walk_at "w_leaf")
    (case tyC_BadWalker => walk_at "w_leaf")
    (case kC_BadWalker => walk_at "w_leaf")
    (case su_BadWalker => walk_at "w_leaf")
    (case ga_BadWalker => walk_at "w_leaf")
    (case gg_BadWalker => walk_at "w_leaf")
    (case aC_BadChange => walk_at "w_leaf")
    (case init_BadChange => walk_at "w_leaf")
    (case ty_BadChange => walk_at "w_leaf")
    (case lk_BadChange => walk_at "w_leaf")
    (case hc_BadChange => walk_at "w_leaf")
    (case code_BadChange => walk_at "w_leaf")
    (case hv_BadChange => walk_at "w_leaf")
    (case hf_BadChange => walk_at "w_leaf")
    (case cell_BadChange => walk_at "w_leaf")
    (case ic_BadChange => walk_at "w_leaf")
    (case sub_BadChange => walk_at "w_leaf")
    (case sup_BadChange => walk_at "w_leaf")
    (case base_BadChange => walk_at "w_leaf")
    (case exc_BadChange => walk_at "w_leaf")
    (case sa_BadChange => walk_at "w_leaf")
    (case ov_BadChange => walk_at "w_leaf")
    (case hd_BadChange => walk_at "w_leaf")
    (case no_BadChange_at => walk_at "w_leaf")
    (case exC_BadChange => walk_at "w_leaf")
    (case tyC_BadChange => walk_at "w_leaf")
    (case kC_BadChange => walk_at "w_leaf")
    (case su_BadChange => walk_at "w_leaf")
    (case ga_BadChange => walk_at "w_leaf")
    (case gg_BadChange => walk_at "w_leaf")
    (case aC_WrongSchema => walk_at "w_leaf")
    (case init_WrongSchema => walk_at "w_leaf")
    (case ty_WrongSchema => walk_at "w_leaf")
    (case lk_WrongSchema => walk_at "w_leaf")
    (case hc_WrongSchema => walk_at "w_leaf")
    (case code_WrongSchema => walk_at "w_leaf")
    (case hv_WrongSchema => walk_at "w_leaf")
    (case hf_WrongSchema => walk_at "w_leaf")
    (case cell_WrongSchema => walk_at "w_leaf")
    (case ic_WrongSchema => walk_at "w_leaf")
    (case sub_WrongSchema => walk_at "w_leaf")
    (case sup_WrongSchema => walk_at "w_leaf")
    (case base_WrongSchema => walk_at "w_leaf")
    (case exc_WrongSchema => walk_at "w_leaf")
    (case sa_WrongSchema => walk_at "w_leaf")
    (case ov_WrongSchema => walk_at "w_leaf")
    (case hd_WrongSchema => walk_at "w_leaf")
    (case exC_WrongSchema => walk_at "w_leaf")
    (case tyC_WrongSchema => walk_at "w_leaf")
    (case kC_WrongSchema => walk_at "w_leaf")
    (case su_WrongSchema => walk_at "w_leaf")
    (case ga_WrongSchema => walk_at "w_leaf")
    (case gg_WrongSchema => walk_at "w_leaf")
    (case aC_WrongStart => walk_at "w_leaf")
    (case init_WrongStart => walk_at "w_leaf")
    (case ty_WrongStart => walk_at "w_leaf")
    (case lk_WrongStart => walk_at "w_leaf")
    (case hc_WrongStart => walk_at "w_leaf")
    (case code_WrongStart => walk_at "w_leaf")
    (case hv_WrongStart => walk_at "w_leaf")
    (case hf_WrongStart => walk_at "w_leaf")
    (case cell_WrongStart => walk_at "w_leaf")
    (case ic_WrongStart => walk_at "w_leaf")
    (case sub_WrongStart => walk_at "w_leaf")
    (case sup_WrongStart => walk_at "w_leaf")
    (case base_WrongStart => walk_at "w_leaf")
    (case exc_WrongStart => walk_at "w_leaf")
    (case sa_WrongStart => walk_at "w_leaf")
    (case ov_WrongStart => walk_at "w_leaf")
    (case hd_WrongStart => walk_at "w_leaf")
    (case exC_WrongStart => walk_at "w_leaf")
    (case tyC_WrongStart => walk_at "w_leaf")
    (case kC_WrongStart => walk_at "w_leaf")
    (case su_WrongStart => walk_at "w_leaf")
    (case ga_WrongStart => walk_at "w_leaf")
    (case gg_WrongStart => walk_at "w_leaf")
    (case aC_BadStart => walk_at "w_leaf")
    (case init_BadStart => walk_at "w_leaf")
    (case ty_BadStart => walk_at "w_leaf")
    (case lk_BadStart => walk_at "w_leaf")
    (case hc_BadStart => walk_at "w_leaf")
    (case code_BadStart => walk_at "w_leaf")
    (case hv_BadStart => walk_at "w_leaf")
    (case hf_BadStart => walk_at "w_leaf")
    (case cell_BadStart => walk_at "w_leaf")
    (case ic_BadStart => walk_at "w_leaf")
    (case sub_BadStart => walk_at "w_leaf")
    (case sup_BadStart => walk_at "w_leaf")
    (case base_BadStart => walk_at "w_leaf")
    (case exc_BadStart => walk_at "w_leaf")
    (case sa_BadStart => walk_at "w_leaf")
    (case ov_BadStart => walk_at "w_leaf")
    (case hd_BadStart => walk_at "w_leaf")
    (case no_BadStart_thing => walk_at "w_leaf")
    (case exC_BadStart => walk_at "w_leaf")
    (case tyC_BadStart => walk_at "w_leaf")
    (case kC_BadStart => walk_at "w_leaf")
    (case su_BadStart => walk_at "w_leaf")
    (case ga_BadStart => walk_at "w_leaf")
    (case gg_BadStart => walk_at "w_leaf")
    (case aC_TooLong => walk_at "w_leaf")
    (case init_TooLong => walk_at "w_leaf")
    (case ty_TooLong => walk_at "w_leaf")
    (case lk_TooLong => walk_at "w_leaf")
    (case hc_TooLong => walk_at "w_leaf")
    (case code_TooLong => walk_at "w_leaf")
    (case hv_TooLong => walk_at "w_leaf")
    (case hf_TooLong => walk_at "w_leaf")
    (case cell_TooLong => walk_at "w_leaf")
    (case ic_TooLong => walk_at "w_leaf")
    (case sub_TooLong => walk_at "w_leaf")
    (case sup_TooLong => walk_at "w_leaf")
    (case base_TooLong => walk_at "w_leaf")
    (case exc_TooLong => walk_at "w_leaf")
    (case sa_TooLong => walk_at "w_leaf")
    (case ov_TooLong => walk_at "w_leaf")
    (case hd_TooLong => walk_at "w_leaf")
    (case no_TooLong_most => walk_at "w_leaf")
    (case exC_TooLong => walk_at "w_leaf")
    (case tyC_TooLong => walk_at "w_leaf")
    (case kC_TooLong => walk_at "w_leaf")
    (case su_TooLong => walk_at "w_leaf")
    (case ga_TooLong => walk_at "w_leaf")
    (case gg_TooLong => walk_at "w_leaf")
    (case aC_NotPossible => walk_at "w_leaf")
    (case init_NotPossible => walk_at "w_leaf")
    (case ty_NotPossible => walk_at "w_leaf")
    (case lk_NotPossible => walk_at "w_leaf")
    (case hc_NotPossible => walk_at "w_leaf")
    (case code_NotPossible => walk_at "w_leaf")
    (case hv_NotPossible => walk_at "w_leaf")
    (case hf_NotPossible => walk_at "w_leaf")
    (case cell_NotPossible => walk_at "w_leaf")
    (case ic_NotPossible => walk_at "w_leaf")
    (case sub_NotPossible => walk_at "w_leaf")
    (case sup_NotPossible => walk_at "w_leaf")
    (case base_NotPossible => walk_at "w_leaf")
    (case exc_NotPossible => walk_at "w_leaf")
    (case sa_NotPossible => walk_at "w_leaf")
    (case ov_NotPossible => walk_at "w_leaf")
    (case hd_NotPossible => walk_at "w_leaf")
    (case no_NotPossible_kind => walk_at "w_leaf")
    (case no_NotPossible_word => walk_at "w_leaf")
    (case exC_NotPossible => walk_at "w_leaf")
    (case tyC_NotPossible => walk_at "w_leaf")
    (case kC_NotPossible => walk_at "w_leaf")
    (case su_NotPossible => walk_at "w_leaf")
    (case ga_NotPossible => walk_at "w_leaf")
    (case gg_NotPossible => walk_at "w_leaf")
    (case aC_NoQuestion => walk_at "w_leaf")
    (case init_NoQuestion => walk_at "w_leaf")
    (case ty_NoQuestion => walk_at "w_leaf")
    (case lk_NoQuestion => walk_at "w_leaf")
    (case hc_NoQuestion => walk_at "w_leaf")
    (case code_NoQuestion => walk_at "w_leaf")
    (case hv_NoQuestion => walk_at "w_leaf")
    (case hf_NoQuestion => walk_at "w_leaf")
    (case cell_NoQuestion => walk_at "w_leaf")
    (case ic_NoQuestion => walk_at "w_leaf")
    (case sub_NoQuestion => walk_at "w_leaf")
    (case sup_NoQuestion => walk_at "w_leaf")
    (case base_NoQuestion => walk_at "w_leaf")
    (case exc_NoQuestion => walk_at "w_leaf")
    (case sa_NoQuestion => walk_at "w_leaf")
    (case ov_NoQuestion => walk_at "w_leaf")
    (case hd_NoQuestion => walk_at "w_leaf")
    (case no_NoQuestion_question => walk_at "w_leaf")
    (case exC_NoQuestion => walk_at "w_leaf")
    (case tyC_NoQuestion => walk_at "w_leaf")
    (case kC_NoQuestion => walk_at "w_leaf")
    (case su_NoQuestion => walk_at "w_leaf")
    (case ga_NoQuestion => walk_at "w_leaf")
    (case gg_NoQuestion => walk_at "w_leaf")
    (case aC_BadWish => walk_at "w_leaf")
    (case init_BadWish => walk_at "w_leaf")
    (case ty_BadWish => walk_at "w_leaf")
    (case lk_BadWish => walk_at "w_leaf")
    (case hc_BadWish => walk_at "w_leaf")
    (case code_BadWish => walk_at "w_leaf")
    (case hv_BadWish => walk_at "w_leaf")
    (case hf_BadWish => walk_at "w_leaf")
    (case cell_BadWish => walk_at "w_leaf")
    (case ic_BadWish => walk_at "w_leaf")
    (case sub_BadWish => walk_at "w_leaf")
    (case sup_BadWish => walk_at "w_leaf")
    (case base_BadWish => walk_at "w_leaf")
    (case exc_BadWish => walk_at "w_leaf")
    (case sa_BadWish => walk_at "w_leaf")
    (case ov_BadWish => walk_at "w_leaf")
    (case hd_BadWish => walk_at "w_leaf")
    (case no_BadWish_at => walk_at "w_leaf")
    (case exC_BadWish => walk_at "w_leaf")
    (case tyC_BadWish => walk_at "w_leaf")
    (case kC_BadWish => walk_at "w_leaf")
    (case su_BadWish => walk_at "w_leaf")
    (case ga_BadWish => walk_at "w_leaf")
    (case gg_BadWish => walk_at "w_leaf")
    (case aC_NoFamily => walk_at "w_leaf")
    (case init_NoFamily => walk_at "w_leaf")
    (case ty_NoFamily => walk_at "w_leaf")
    (case lk_NoFamily => walk_at "w_leaf")
    (case hc_NoFamily => walk_at "w_leaf")
    (case code_NoFamily => walk_at "w_leaf")
    (case hv_NoFamily => walk_at "w_leaf")
    (case hf_NoFamily => walk_at "w_leaf")
    (case cell_NoFamily => walk_at "w_leaf")
    (case ic_NoFamily => walk_at "w_leaf")
    (case sub_NoFamily => walk_at "w_leaf")
    (case sup_NoFamily => walk_at "w_leaf")
    (case base_NoFamily => walk_at "w_leaf")
    (case exc_NoFamily => walk_at "w_leaf")
    (case sa_NoFamily => walk_at "w_leaf")
    (case ov_NoFamily => walk_at "w_leaf")
    (case hd_NoFamily => walk_at "w_leaf")
    (case no_NoFamily_word => walk_at "w_leaf")
    (case exC_NoFamily => walk_at "w_leaf")
    (case tyC_NoFamily => walk_at "w_leaf")
    (case kC_NoFamily => walk_at "w_leaf")
    (case su_NoFamily => walk_at "w_leaf")
    (case ga_NoFamily => walk_at "w_leaf")
    (case gg_NoFamily => walk_at "w_leaf")
    (case aC_Refused => walk_at "w_leaf")
    (case init_Refused => walk_at "w_leaf")
    (case ty_Refused => walk_at "w_leaf")
    (case lk_Refused => walk_at "w_leaf")
    (case hc_Refused => walk_at "w_leaf")
    (case code_Refused => walk_at "w_leaf")
    (case hv_Refused => walk_at "w_leaf")
    (case hf_Refused => walk_at "w_leaf")
    (case cell_Refused => walk_at "w_leaf")
    (case ic_Refused => walk_at "w_leaf")
    (case sub_Refused => walk_at "w_leaf")
    (case sup_Refused => walk_at "w_leaf")
    (case base_Refused => walk_at "w_leaf")
    (case exc_Refused => walk_at "w_leaf")
    (case sa_Refused => walk_at "w_leaf")
    (case ov_Refused => walk_at "w_leaf")
    (case hd_Refused => walk_at "w_leaf")
    (case no_Refused_ring => walk_at "w_leaf")
    (case exC_Refused => walk_at "w_leaf")
    (case tyC_Refused => walk_at "w_leaf")
    (case kC_Refused => walk_at "w_leaf")
    (case su_Refused => walk_at "w_leaf")
    (case ga_Refused => walk_at "w_leaf")
    (case gg_Refused => walk_at "w_leaf")
    (case aC_Endless => walk_at "w_leaf")
    (case init_Endless => walk_at "w_leaf")
    (case ty_Endless => walk_at "w_leaf")
    (case lk_Endless => walk_at "w_leaf")
    (case hc_Endless => walk_at "w_leaf")
    (case code_Endless => walk_at "w_leaf")
    (case hv_Endless => walk_at "w_leaf")
    (case hf_Endless => walk_at "w_leaf")
    (case cell_Endless => walk_at "w_leaf")
    (case ic_Endless => walk_at "w_leaf")
    (case sub_Endless => walk_at "w_leaf")
    (case sup_Endless => walk_at "w_leaf")
    (case base_Endless => walk_at "w_leaf")
    (case exc_Endless => walk_at "w_leaf")
    (case sa_Endless => walk_at "w_leaf")
    (case ov_Endless => walk_at "w_leaf")
    (case hd_Endless => walk_at "w_leaf")
    (case no_Endless_ring => walk_at "w_leaf")
    (case exC_Endless => walk_at "w_leaf")
    (case tyC_Endless => walk_at "w_leaf")
    (case kC_Endless => walk_at "w_leaf")
    (case su_Endless => walk_at "w_leaf")
    (case ga_Endless => walk_at "w_leaf")
    (case gg_Endless => walk_at "w_leaf")
    (case a_l_pen => walk_at "w_leaf")
    (case l_l_pen => walk_at "w_leaf")
    (case c_l_pen => walk_at "w_leaf")
    (case k_l_pen => walk_at "w_leaf")
    (case a_l_take => walk_at "w_leaf")
    (case l_l_take => walk_at "w_leaf")
    (case c_l_take => walk_at "w_leaf")
    (case k_l_take => walk_at "w_leaf")
    (case a_l_plain => walk_at "w_leaf")
    (case l_l_plain => walk_at "w_leaf")
    (case c_l_plain => walk_at "w_leaf")
    (case k_l_plain => walk_at "w_leaf")
    (case a_l_same => walk_at "w_leaf")
    (case l_l_same => walk_at "w_leaf")
    (case c_l_same => walk_at "w_leaf")
    (case k_l_same => walk_at "w_leaf")
    (case a_l_matches => walk_at "w_leaf")
    (case l_l_matches => walk_at "w_leaf")
    (case c_l_matches => walk_at "w_leaf")
    (case k_l_matches => walk_at "w_leaf")
    (case a_l_first_errors => walk_at "w_leaf")
    (case l_l_first_errors => walk_at "w_leaf")
    (case c_l_first_errors => walk_at "w_leaf")
    (case k_l_first_errors => walk_at "w_leaf")
    (case a_l_second_errors => walk_at "w_leaf")
    (case l_l_second_errors => walk_at "w_leaf")
    (case c_l_second_errors => walk_at "w_leaf")
    (case k_l_second_errors => walk_at "w_leaf")
    (case a_l_stops => walk_at "w_leaf")
    (case l_l_stops => walk_at "w_leaf")
    (case c_l_stops => walk_at "w_leaf")
    (case k_l_stops => walk_at "w_leaf")
    (case a_l_caught => walk_at "w_leaf")
    (case l_l_caught => walk_at "w_leaf")
    (case c_l_caught => walk_at "w_leaf")
    (case k_l_caught => walk_at "w_leaf")
    (case a_law => walk_at "w_leaf")
    (case l_law => walk_at "w_leaf")
    (case c_law => walk_at "w_leaf")
    (case k_law => walk_at "w_leaf")
    (case ha_BadSchema => walk_at "w_leaf")
    (case hm_BadSchema => walk_at "w_leaf")
    (case ha_BadText => walk_at "w_leaf")
    (case hm_BadText => walk_at "w_leaf")
    (case ha_NoKind => walk_at "w_leaf")
    (case hm_NoKind => walk_at "w_leaf")
    (case ha_NoField => walk_at "w_leaf")
    (case hm_NoField => walk_at "w_leaf")
    (case ha_BadTag => walk_at "w_leaf")
    (case hm_BadTag => walk_at "w_leaf")
    (case ha_BadValue => walk_at "w_leaf")
    (case hm_BadValue => walk_at "w_leaf")
    (case ha_NoThing => walk_at "w_leaf")
    (case hm_NoThing => walk_at "w_leaf")
    (case ha_BadGraph => walk_at "w_leaf")
    (case hm_BadGraph => walk_at "w_leaf")
    (case ha_TooMany => walk_at "w_leaf")
    (case hm_TooMany => walk_at "w_leaf")
    (case ha_BadGuard => walk_at "w_leaf")
    (case hm_BadGuard => walk_at "w_leaf")
    (case ha_NoFlag => walk_at "w_leaf")
    (case hm_NoFlag => walk_at "w_leaf")
    (case ha_BadWalker => walk_at "w_leaf")
    (case hm_BadWalker => walk_at "w_leaf")
    (case ha_BadChange => walk_at "w_leaf")
    (case hm_BadChange => walk_at "w_leaf")
    (case ha_WrongSchema => walk_at "w_leaf")
    (case hm_WrongSchema => walk_at "w_leaf")
    (case ha_WrongStart => walk_at "w_leaf")
    (case hm_WrongStart => walk_at "w_leaf")
    (case ha_BadStart => walk_at "w_leaf")
    (case hm_BadStart => walk_at "w_leaf")
    (case ha_TooLong => walk_at "w_leaf")
    (case hm_TooLong => walk_at "w_leaf")
    (case ha_NotPossible => walk_at "w_leaf")
    (case hm_NotPossible => walk_at "w_leaf")
    (case ha_NoQuestion => walk_at "w_leaf")
    (case hm_NoQuestion => walk_at "w_leaf")
    (case ha_BadWish => walk_at "w_leaf")
    (case hm_BadWish => walk_at "w_leaf")
    (case ha_NoFamily => walk_at "w_leaf")
    (case hm_NoFamily => walk_at "w_leaf")
    (case ha_Refused => walk_at "w_leaf")
    (case hm_Refused => walk_at "w_leaf")
    (case ha_Endless => walk_at "w_leaf")
    (case hm_Endless => walk_at "w_leaf")
    (case hn_obj => walk_at "w_leaf")
    (case ht_obj => walk_at "w_leaf")
    (case aC_WalkmarksError => walk_at "w_leaf")
    (case sb_WalkmarksError => walk_at "w_leaf")
    (case sd_WalkmarksError => walk_at "w_leaf")
    (case st_WalkmarksError => walk_at "w_leaf")
    (case aC_Stopped => walk_at "w_leaf")
    (case sb_Stopped => walk_at "w_leaf")
    (case sd_Stopped => walk_at "w_leaf")
    (case st_Stopped => walk_at "w_leaf")
    (case su_wish => walk_at "w_leaf")
    (case su_stop => walk_at "w_leaf")
    (case kM0 => walk_at "w_big")
    (case kB0 => walk_at "w_big")
